import PyProof.Rows.All
import Wide.All
import OpenK.AllK
import Wide.FinOn
import PyProof.ReprRoads
import HandS.ForMost
import HandS.Exc
import HandS.Wide
import HandS.WideBits
import HandS.Star
import HandS.Defaults
import HandS.Property
import HandS.IsInst
import HandS.Deep
import KE.GoesMore
import KE.GoesZip
import KE.GoesEnum
import PyProof.NoPylong
import PyProof.EnumMake
import HandS.TupAny
import HandS.Style
import PyProof.ReprLen
import HandS.Conv
import HandS.Dict
import HandS.DictComp
import HandS.More
import HandS.Walk
import PyProof.DictUpdate
import KE.KTupSum
import HandS.SetFor
import PyProof.Rows.SetFrom
import KE.DataMinMax
import PyProof.P3Eq
import KE.SortData
import HandS.Small
import KE.KIntText
import HandS.ExcInit
import HandS.ExcField
import HandS.ExcIs
import KE.KExcSuper
import KE.KExcIs
import HandS.DictTup
import HandS.SetKeys
import PyProof.DictMoreH
import KE.KDictSum
import HandS.Text
import HandS.Steps
import HandS.LawCells
import HandS.Remove
import KE.LtSeq
import PyProof.FactsAll.tuple
import HandS.ExcOwn
import HandS.Lambda
import HandS.TryOnly
import HandS.StrMore
import HandS.WordsDict
import PyProof.StrOps2
import KE.KDictPairs
import PySem.Challenge.RW_oncebooked_k00_whole_shelves_deed_by_dee
set_option Elab.async false
set_option linter.all false
set_option maxRecDepth 100000
set_option maxHeartbeats 4000000
/-! OB, part a: calls where no repr is under way (so that repr of any data may be asked), by position and by name. -/
namespace OB
open PySem PySem.Spec PyProof.Rows L2 PySem.W

/-- room, and no guard around -/
structure RG (k : Nat) (A : Around) : Prop where
  rm : Room k A
  gd : A.guards = some []
theorem RG.mono {j k : Nat} {A : Around} (g : RG k A) (h : j ≤ k) : RG j A := ⟨g.rm.mono h, g.gd⟩
theorem RG.deeper {k : Nat} {A : Around} (g : RG (k + 1) A) (en : Env) : RG k (A.deeper en) := ⟨g.rm.deeper en, g.gd⟩
theorem RG.in1 {k : Nat} {A : Around} (g : RG (k + 1) A) : RG k A.in1 := ⟨g.rm.in1, g.gd⟩
theorem RG.make {k : Nat} {A : Around} (g : RG (k + 1) A) (C : Addr) (us : List Value) (kw : List (Str × Value)) :
    RG k (A.under (.builtin "type.__call__" ⟨.ref C :: us, kw⟩)) := by
  refine ⟨g.rm.make C us kw, ?_⟩
  have e : Code.guards (.builtin "type.__call__" ⟨.ref C :: us, kw⟩) = [] := by
    unfold Code.guards
    rw [if_neg]
    intro z
    have z2 : guardIds.contains "type.__call__" = true := by simpa [Code.isGuard] using z
    exact absurd z2 (by decide +kernel)
  show pushGuards (Code.guards (.builtin "type.__call__" ⟨.ref C :: us, kw⟩)) A.guards = some []
  rw [e]
  exact g.gd

/-- a def's promise where no guard is around -/
structure FG (P : Program) (w : World) (K : PySem.W.Frag) (mg : Str → Option Value) (base : Heap) (CX : CXT) (k : Nat) (f : Addr) (fd : FuncData) (ps : List Str) (sp : Sp) : Prop where
  len : ∀ vs H Q E, sp vs H Q E → vs.length = ps.length
  go : ∀ (A : Around) (out : List Env) (s : Shared) (H : Hp) (ar : Args) (us : List Value) (vs : List V) (Q : VK) (E : XK), RG k A → Env0 P w K mg base A out s H →
    BindsTo s fd ar (ps.zip us) → Vals vs us → sp vs H Q E → codeAny (model P w) A (.call (.ref f) ar) (CR CX out P w H s Q E) s
section
variable {P : Program} {w : World} {K : PySem.W.Frag} {mg : Str → Option Value} {base : Heap} {CX : CXT} {f : Addr} {fd : FuncData} {ps : List Str} {sp : Sp}
theorem FG.mono {j k : Nat} (F : FG P w K mg base CX j f fd ps sp) (h : j ≤ k) : FG P w K mg base CX k f fd ps sp :=
  ⟨F.len, fun A out s H ar us vs Q E g => F.go A out s H ar us vs Q E (g.mono h)⟩
theorem FG.imp {k : Nat} {sp' : Sp} (F : FG P w K mg base CX k f fd ps sp) (h : ∀ vs H Q E, sp' vs H Q E → sp vs H Q E) : FG P w K mg base CX k f fd ps sp' :=
  ⟨fun vs H Q E q => F.len vs H Q E (h _ _ _ _ q), fun A out s H ar us vs Q E g e0 hb hv q => F.go A out s H ar us vs Q E g e0 hb hv (h _ _ _ _ q)⟩
/-- the rule for a def: as L2.fn_of, the room without guards handed on -/
theorem fg_of {k : Nat} {name qual : Str} {params : Arguments} {body : List Stmt} {sc : Scope} {dV kV doc pm cdv ct oc : Value} {an od : Option Addr}
    {osl : Array (Option Value)} {N : List Str} (lk : K.lookup f = some ⟨oc, od, .func (PySem.W.fnOf name qual params body sc dV kV doc pm an cdv ct), osl⟩)
    (hcd : PySem.W.codeIn K cdv qual = true) (S : FnScope N ps sc) (len : ∀ vs H Q E, sp vs H Q E → vs.length = ps.length)
    (hbody : ∀ (A : Around) (out : List Env) (s : Shared) (H : Hp) (vs : List V) (Q : VK) (E : XK), RG k (A.deeper (envOfC qual sc s.heap.objs.size f cdv)) → sp vs H Q E →
      ∃ t, PSs (cxOf CX P w K mg base N qual sc f cdv A out s H E) body t ∧ t { nx := fun _ H' => Q .non H', rt := Q } (start N vs) H) :
    FG P w K mg base CX (k + 1) f (PySem.W.fnOf name qual params body sc dV kV doc pm an cdv ct) ps sp := by
  refine ⟨len, fun A out s H ar us vs Q E g e0 hb r hsp => ?_⟩
  have hlen := len _ _ _ _ hsp
  have KI : K.In s.heap := e0.mod.kin.keeps fun b o e => (e0.bs b o e).1
  have nl : s.heap.NoLimit := e0.mod.nolimit.keeps fun b o e => (e0.bs b o e).1
  have kinds : ∀ y ∈ ps.zip us, sc.names.lookup y.1 = some .local ∨ (sc.names.lookup y.1 = some .cell ∧ ((cellsFrom (s.heap.objs.size + 1) sc.names []).lookup y.1).isSome = true) := fun ⟨n, v⟩ hy => by
    rcases S.par n (List.of_mem_zip hy).1 with q | q
    · exact .inl q
    · exact .inr ⟨q, PySem.W.cellsFrom_some _ _ _ (.inl q)⟩
  refine codeAny_call_function g.rm.depth (KI _ _ lk) rfl S.co S.gen rfl (PySem.W.codeRec_of KI hcd) (hb _ _ _ _ ?_)
  refine wpAny_newFunctionEnv_cells S.kind kinds fun env he s1 x => ?_
  subst he
  refine ⟨nl.keeps x.toInCall.keep, codeAny_func ?_⟩
  obtain ⟨t, ht, hq⟩ := hbody A out s H vs Q E (g.deeper _) hsp
  have I : Inv (cxOf CX P w K mg base N qual sc f cdv A out s H E) [] (start N vs) H s1 := inv_start S g.rm.hd e0 hlen r x
  refine wpAny_mono (ht.run [] s1 (start N vs) H _ I hq) (fun fl s' hs => ?_) fun e s' hs => hs
  have fin : ∀ {σ' : L2.St} {H' : Hp} {v : V} {u : Value}, Inv (cxOf CX P w K mg base N qual sc f cdv A out s H E) [] σ' H' s' → RelV v u → Q v H' → CE out P w H s Q u s' :=
    fun {σ' H' v u} J rv q => ⟨v, H', J.os, J.bare, J.base, J.hok, rv, q⟩
  match fl, hs with
  | .ret u, ⟨v, σ', H', J, rv, q⟩ => exact fin J rv q
  | .next, ⟨σ', H', J, q⟩ => exact fin (v := V.non) (u := Value.none) J rfl q
  | .brk, ⟨_, _, _, q⟩ => exact False.elim q
  | .cont, ⟨_, _, _, q⟩ => exact False.elim q
/-- .. of a def of the text, no exception leaving -/
theorem Fun.fg {x qual : Str} {st : Stmt} {N : List Str} {k : Nat} (F : Fun K x qual st f fd) (S : FnScope N ps (defScope st)) (len : ∀ vs H Q E, sp vs H Q E → vs.length = ps.length)
    (hbody : ∀ (cdv : Value) (A : Around) (out : List Env) (s : Shared) (H : Hp) (vs : List V) (Q : VK) (E : XK), RG k (A.deeper (envOfC qual (defScope st) s.heap.objs.size f cdv)) → sp vs H Q E →
      ∃ t, PSs (cxOf CX0 P w K mg base N qual (defScope st) f cdv A out s H E).nox (defBody st) t ∧ t { nx := fun _ H' => Q .non H', rt := Q } (start N vs) H) : FG P w K mg base CX0 (k + 1) f fd ps sp := by
  obtain ⟨oc, od, kV, doc, pm, an, cdv, ct, osl, rfl, lk, hcd⟩ := F.ex
  refine fg_of lk hcd S len fun A out s H vs Q E g hsp => ?_
  obtain ⟨t, h, q⟩ := hbody cdv A out s H vs Q E g hsp
  exact ⟨t, h.nox, q⟩
end

/-! ### how arguments bind -/
def pick {α : Type} (ix : List Nat) (l : List α) : List α := ix.filterMap (l[·]?)
theorem vals_pick {vs : List V} {us : List Value} (r : Vals vs us) : ∀ ix : List Nat, Vals (pick ix vs) (pick ix us)
  | [] => .nil
  | i :: ix => by
    unfold pick
    rw [List.filterMap_cons, List.filterMap_cons]
    cases e : vs[i]? with
    | none =>
      rw [r.none_of e]
      exact vals_pick r ix
    | some v =>
      obtain ⟨u, e2, r2⟩ := r.get e
      rw [e2]
      exact .cons r2 (vals_pick r ix)
/-- n values by position, those named ks by name; ix: the parameters' places among all of them -/
structure Bd (K : PySem.W.Frag) (fd : FuncData) (ps : List Str) (n : Nat) (ks : List Str) (ix : List Nat) : Prop where
  to : ∀ (us ws : List Value), us.length = n → ws.length = ks.length → bindArgs fd ⟨us, ks.zip ws⟩ = pure (ps.zip (pick ix (us ++ ws)))
theorem Fun.bd {K : PySem.W.Frag} {x qual : Str} {st : Stmt} {f : Addr} {fd : FuncData} {ps : List Str} {n : Nat} {ks : List Str} {ix : List Nat} (F : Fun K x qual st f fd)
    (h : ∀ (kV doc pm : Value) (an : Option Addr) (cdv ct : Value) (us ws : List Value), us.length = n → ws.length = ks.length →
      bindArgs (PySem.W.fnOf x qual (defArgs st) (defBody st) (defScope st) .none kV doc pm an cdv ct) ⟨us, ks.zip ws⟩ = pure (ps.zip (pick ix (us ++ ws)))) : Bd K fd ps n ks ix := by
  obtain ⟨oc, od, kV, doc, pm, an, cdv, ct, osl, rfl, lk, hcd⟩ := F.ex
  exact ⟨h kV doc pm an cdv ct⟩

/-! ### calls -/
def tCg (n m : Nat) (ix : List Nat) (sp : Sp) (E : XK) (t tk : TA) : TE := fun σ H Q => t σ H fun vs H1 => tk σ H1 fun zs H2 => vs.length = n ∧ zs.length = m ∧ sp (pick ix (vs ++ zs)) H2 Q E
def tMg (C : Addr) (mn : Str) (n m : Nat) (ix : List Nat) (sp : Sp) (E : XK) (ta : TE) (t tk : TA) : TE := fun σ H Q => ta σ H fun x H1 => ∃ a dx fs, x = .ref a ∧ H1 a = some (.ins C dx fs) ∧ fs.lookup mn = none ∧
  t σ H1 fun vs H2 => tk σ H2 fun zs H3 => (x :: vs).length = n ∧ zs.length = m ∧ sp (pick ix ((x :: vs) ++ zs)) H3 Q E
def tKg (C : Addr) (n m : Nat) (ix : List Nat) (sp : Sp) (E : XK) (t tk : TA) : TE := fun σ H Q => t σ H fun vs H1 => tk σ H1 fun zs H2 => vs.length + 1 = n ∧ zs.length = m ∧
  ∀ x dx, H2 x = none → H2 dx = none → dx ≠ x → sp (pick ix ((.ref x :: vs) ++ zs)) (upd (upd H2 dx (.own x)) x (.ins C dx [])) (fun v H3 => v = .non ∧ Q (.ref x) H3) E
section
variable {X : Cx} {CX : CXT} {k n : Nat} {f C : Addr} {fd : FuncData} {ps ks : List Str} {ix : List Nat} {sp : Sp} {E : XK} {x mn : Str} {p pos apos : Pos} {e o : Expr} {es : List Expr} {kws : List Keyword} {ta : TE} {t tk : TA}
theorem run_g {pins : List (Addr × Obj)} {σ : L2.St} {H : Hp} {s : Shared} {Q : VK} {us ws : List Value} {vs zs : List V} (F : FG X.prog X.w X.K X.mg X.base CX k f fd ps sp) (g : RG k X.A) (hb : Bd X.K fd ps n ks ix) (hx : Passes CX X E)
    (I : Inv X pins σ H s) (r : Vals vs us) (rz : Vals zs ws) (l1 : vs.length = n) (l2 : zs.length = ks.length) (h : sp (pick ix (vs ++ zs)) H Q E) :
    wpAny (model X.prog X.w) X.A (call (.ref f) us (ks.zip ws)) (EP X pins σ Q) X.xe s := by
  refine wpAny_call (codeAny_mono (F.go X.A X.stack s H ⟨us, ks.zip ws⟩ (pick ix (us ++ ws)) (pick ix (vs ++ zs)) Q E g I.env0 (.of_eq (hb.to us ws (r.length.symm.trans l1) (rz.length.symm.trans l2))) (vals_pick (r.append rz) ix) h) fun r s' hq => ?_)
  match r, hq with
  | .error e, hq => exact hx pins σ H s e s' I hq
  | .ok (.ret u), hq => exact I.after hq
  | .ok .next, hq => exact False.elim hq
  | .ok .brk, hq => exact False.elim hq
  | .ok .cont, hq => exact False.elim hq
/-- f(e, .., k = v, ..) -/
theorem pe_cg (F : FG X.prog X.w X.K X.mg X.base CX k f fd ps sp) (g : RG k X.A) (hg : Gl X x) (hm : X.mg x = some (.ref f)) (hk : PySem.W.keepIn X.K (.ref f) = true) (hb : Bd X.K fd ps n ks ix) (hx : Passes CX X E)
    (ha : PA X (e :: es) t) (hkw : PK X kws tk) (hall : (backToKw pos (keywordEach kws X.env)).all (·.1.isSome) = true := by rfl) (hks : (backToKw pos (keywordEach kws X.env)).filterMap (·.1) = ks := by rfl)
    (hdb : (x == ("__debug__" : Str)) = false := by decide) (he : starEach (e :: es) X.env = (false, eval e X.env) :: starEach es X.env := by rfl)
    (hpl : ((backTo pos (starEach (e :: es) X.env)).any (·.1) || (backToKw pos (keywordEach kws X.env)).any (·.1.isNone)) = false := by rfl) : PE X (.Call (.Name x p) (e :: es) kws pos) (tCg n ks.length ix sp E t tk) := by
  refine ⟨fun pins s σ H Q I h => wpAny_Call_Name_kw (ld_glob I hg hm ?_ hdb)⟩
  refine PySem.W.callWith_KW (h₀ := X.base) I.ok.mod.kin hk hall (thn (ha.run pos pins s σ H _ I h) fun us s1 ⟨vs, H1, I1, r, q⟩ => ?_) hpl he
  refine thn (hkw.run pos pins s1 σ H1 _ I1 q) fun ws s2 ⟨zs, H2, I2, rz, l1, l2, q2⟩ => ⟨I2.kIn, ?_⟩
  rw [hks]
  exact run_g F g hb hx I2 r rz l1 l2 q2
/-- f(k = v, ..), f() -/
theorem pe_cg0 (F : FG X.prog X.w X.K X.mg X.base CX k f fd ps sp) (g : RG k X.A) (hg : Gl X x) (hm : X.mg x = some (.ref f)) (hk : PySem.W.keepIn X.K (.ref f) = true) (hb : Bd X.K fd ps 0 ks ix) (hx : Passes CX X E)
    (hkw : PK X kws tk) (hall : (backToKw pos (keywordEach kws X.env)).all (·.1.isSome) = true := by rfl) (hks : (backToKw pos (keywordEach kws X.env)).filterMap (·.1) = ks := by rfl)
    (hdb : (x == ("__debug__" : Str)) = false := by decide)
    (hpl : ((backTo pos (starEach [] X.env)).any (·.1) || (backToKw pos (keywordEach kws X.env)).any (·.1.isNone)) = false := by rfl) : PE X (.Call (.Name x p) [] kws pos) (tCg 0 ks.length ix sp E tNil tk) := by
  refine ⟨fun pins s σ H Q I h => wpAny_Call_Name_kw (ld_glob I hg hm ?_ hdb)⟩
  refine PySem.W.callWith_KW0 (h₀ := X.base) I.ok.mod.kin hk hall ?_ hpl
  refine thn (hkw.run pos pins s σ H _ I h) fun ws s2 ⟨zs, H2, I2, rz, l1, l2, q2⟩ => ⟨I2.kIn, ?_⟩
  rw [hks]
  exact run_g (us := []) (vs := []) F g hb hx I2 .nil rz l1 l2 q2
/-- o.m(e, .., k = v, ..) -/
theorem pe_mg {pl : Sem Bool} (ho : PE X o ta) (c : Cls X.K C) (hm : Meth X.K C mn f) (F : FG X.prog X.w X.K X.mg X.base CX k f fd ps sp) (g : RG k X.A) (hb : Bd X.K fd ps n ks ix) (hx : Passes CX X E) (ha : PA X (e :: es) t) (hkw : PK X kws tk)
    (hall : (backToKw pos (keywordEach kws X.env)).all (·.1.isSome) = true := by rfl) (hks : (backToKw pos (keywordEach kws X.env)).filterMap (·.1) = ks := by rfl)
    (he : starEach (e :: es) X.env = (false, eval e X.env) :: starEach es X.env := by rfl) (hpl : ((backTo pos (starEach (e :: es) X.env)).any (·.1) || (backToKw pos (keywordEach kws X.env)).any (·.1.isNone)) = false := by rfl)
    (ht : eval (.Call (.Attribute o mn apos) (e :: es) kws pos) X.env = (do
      let ov ← eval o X.env
      standAt apos.atName
      let (fv, first) ← holding [ov] (getMethod ov mn pl)
      callWith pos fv first (backTo pos (starEach (e :: es) X.env)) (backToKw pos (keywordEach kws X.env))) := by rfl) : PE X (.Call (.Attribute o mn apos) (e :: es) kws pos) (tMg C mn n ks.length ix sp E ta t tk) := by
  refine ⟨fun pins s σ H Q I h => ?_⟩
  refine PySem.W.methodCall_KW (pl := pl) (thn (ho.run pins s σ H _ I h) fun u s1 ⟨y, H1, I1, ry, a, dx, fs, ey, ea, l, q⟩ => ?_) ht
  subst ey
  obtain rfl : u = Value.ref a := ry
  refine getmeth_ok I1 ea c hm l ?_
  refine PySem.W.callWith_KW (first := [.ref a]) (h₀ := X.base) I.ok.mod.kin hm.kp hall (thn (ha.run pos pins s1 σ H1 _ I1 q) fun us s2 ⟨vs, H2, I2, r, q2⟩ => ?_) hpl he
  refine thn (hkw.run pos pins s2 σ H2 _ I2 q2) fun ws s3 ⟨zs, H3, I3, rz, l1, l2, q3⟩ => ⟨I3.kIn, ?_⟩
  rw [hks]
  exact run_g (us := .ref a :: us) (vs := .ref a :: vs) F g hb hx I3 (.cons rfl r) rz l1 l2 q3
/-- o.m(k = v, ..), o.m() -/
theorem pe_mg0 {pl : Sem Bool} (ho : PE X o ta) (c : Cls X.K C) (hm : Meth X.K C mn f) (F : FG X.prog X.w X.K X.mg X.base CX k f fd ps sp) (g : RG k X.A) (hb : Bd X.K fd ps 1 ks ix) (hx : Passes CX X E) (hkw : PK X kws tk)
    (hall : (backToKw pos (keywordEach kws X.env)).all (·.1.isSome) = true := by rfl) (hks : (backToKw pos (keywordEach kws X.env)).filterMap (·.1) = ks := by rfl)
    (hpl : ((backTo pos (starEach [] X.env)).any (·.1) || (backToKw pos (keywordEach kws X.env)).any (·.1.isNone)) = false := by rfl)
    (ht : eval (.Call (.Attribute o mn apos) [] kws pos) X.env = (do
      let ov ← eval o X.env
      standAt apos.atName
      let (fv, first) ← holding [ov] (getMethod ov mn pl)
      callWith pos fv first (backTo pos (starEach [] X.env)) (backToKw pos (keywordEach kws X.env))) := by rfl) : PE X (.Call (.Attribute o mn apos) [] kws pos) (tMg C mn 1 ks.length ix sp E ta tNil tk) := by
  refine ⟨fun pins s σ H Q I h => ?_⟩
  refine PySem.W.methodCall_KW (pl := pl) (thn (ho.run pins s σ H _ I h) fun u s1 ⟨y, H1, I1, ry, a, dx, fs, ey, ea, l, q⟩ => ?_) ht
  subst ey
  obtain rfl : u = Value.ref a := ry
  refine getmeth_ok I1 ea c hm l ?_
  refine PySem.W.callWith_KW0 (first := [.ref a]) (h₀ := X.base) I.ok.mod.kin hm.kp hall ?_ hpl
  refine thn (hkw.run pos pins s1 σ H1 _ I1 q) fun ws s3 ⟨zs, H3, I3, rz, l1, l2, q3⟩ => ⟨I3.kIn, ?_⟩
  rw [hks]
  exact run_g (us := [.ref a]) (vs := [.ref a]) F g hb hx I3 (.cons rfl .nil) rz l1 l2 q3

theorem run_kg {pins : List (Addr × Obj)} {σ : L2.St} {H : Hp} {s : Shared} {Q : VK} {us ws : List Value} {vs zs : List V} (M : Mk X.K C f) (F : FG X.prog X.w X.K X.mg X.base CX k f fd ps sp) (g : RG (k + 1) X.A) (hb : Bd X.K fd ps n ks ix) (hx : Passes CX X E)
    (I : Inv X pins σ H s) (r : Vals vs us) (rz : Vals zs ws) (l1 : vs.length + 1 = n) (l2 : zs.length = ks.length)
    (h : ∀ x dx, H x = none → H dx = none → dx ≠ x → sp (pick ix ((.ref x :: vs) ++ zs)) (upd (upd H dx (.own x)) x (.ins C dx [])) (fun v H2 => v = .non ∧ Q (.ref x) H2) E) :
    wpAny (model X.prog X.w) X.A (call (.ref C) us (ks.zip ws)) (EP X pins σ Q) X.xe s := by
  have hq := h (s.heap.objs.size + 1) s.heap.objs.size (I.hok.fresh (Nat.le_succ _)) (I.hok.fresh (Nat.le_refl _)) (Nat.ne_of_lt (Nat.lt_succ_self _))
  have I2 := Inv.made (C := C) I
  have r1 : Vals (V.ref (s.heap.objs.size + 1) :: vs) (Value.ref (s.heap.objs.size + 1) :: us) := .cons rfl r
  have e1 : (Value.ref (s.heap.objs.size + 1) :: us).length = n := by
    rw [← r1.length]
    exact l1
  refine wpAny_call (make_map (f := f) I.kIn M.makes M.init (beq_iff_eq.mp M.fn) (codeAny_mono (F.go _ X.stack _ _ ⟨Value.ref (s.heap.objs.size + 1) :: us, ks.zip ws⟩ (pick ix ((Value.ref (s.heap.objs.size + 1) :: us) ++ ws)) _ _ E (g.make C us (ks.zip ws))
    (I2.env0.make C us (ks.zip ws)) (.of_eq (hb.to _ _ e1 (rz.length.symm.trans l2))) (vals_pick (r1.append rz) ix) hq) fun r s' hq' => ?_))
  match r, hq' with
  | .error e, hq' => exact hx pins σ _ _ e s' I2 hq'
  | .ok (.ret u), hq' =>
    obtain ⟨v, H', I3, rv, ev, q3⟩ := I2.after hq'
    subst ev
    exact ⟨rv, ⟨V.ref (s.heap.objs.size + 1), H', I3, rfl, q3⟩⟩
  | .ok .next, hq' => exact False.elim hq'
  | .ok .brk, hq' => exact False.elim hq'
  | .ok .cont, hq' => exact False.elim hq'
/-- C(e, .., k = v, ..) -/
theorem pe_kg (M : Mk X.K C f) (F : FG X.prog X.w X.K X.mg X.base CX k f fd ps sp) (g : RG (k + 1) X.A) (hg : Gl X x) (hm : X.mg x = some (.ref C)) (hb : Bd X.K fd ps n ks ix) (hx : Passes CX X E) (ha : PA X (e :: es) t) (hkw : PK X kws tk)
    (hall : (backToKw pos (keywordEach kws X.env)).all (·.1.isSome) = true := by rfl) (hks : (backToKw pos (keywordEach kws X.env)).filterMap (·.1) = ks := by rfl)
    (hdb : (x == ("__debug__" : Str)) = false := by decide) (he : starEach (e :: es) X.env = (false, eval e X.env) :: starEach es X.env := by rfl)
    (hpl : ((backTo pos (starEach (e :: es) X.env)).any (·.1) || (backToKw pos (keywordEach kws X.env)).any (·.1.isNone)) = false := by rfl) : PE X (.Call (.Name x p) (e :: es) kws pos) (tKg C n ks.length ix sp E t tk) := by
  refine ⟨fun pins s σ H Q I h => wpAny_Call_Name_kw (ld_glob I hg hm ?_ hdb)⟩
  refine PySem.W.callWith_KW (h₀ := X.base) I.ok.mod.kin M.kp hall (thn (ha.run pos pins s σ H _ I h) fun us s1 ⟨vs, H1, I1, r, q⟩ => ?_) hpl he
  refine thn (hkw.run pos pins s1 σ H1 _ I1 q) fun ws s2 ⟨zs, H2, I2, rz, l1, l2, q2⟩ => ⟨I2.kIn, ?_⟩
  rw [hks]
  exact run_kg M F g hb hx I2 r rz l1 l2 q2
/-- C(k = v, ..), C() -/
theorem pe_kg0 (M : Mk X.K C f) (F : FG X.prog X.w X.K X.mg X.base CX k f fd ps sp) (g : RG (k + 1) X.A) (hg : Gl X x) (hm : X.mg x = some (.ref C)) (hb : Bd X.K fd ps 1 ks ix) (hx : Passes CX X E) (hkw : PK X kws tk)
    (hall : (backToKw pos (keywordEach kws X.env)).all (·.1.isSome) = true := by rfl) (hks : (backToKw pos (keywordEach kws X.env)).filterMap (·.1) = ks := by rfl)
    (hdb : (x == ("__debug__" : Str)) = false := by decide)
    (hpl : ((backTo pos (starEach [] X.env)).any (·.1) || (backToKw pos (keywordEach kws X.env)).any (·.1.isNone)) = false := by rfl) : PE X (.Call (.Name x p) [] kws pos) (tKg C 1 ks.length ix sp E tNil tk) := by
  refine ⟨fun pins s σ H Q I h => wpAny_Call_Name_kw (ld_glob I hg hm ?_ hdb)⟩
  refine PySem.W.callWith_KW0 (h₀ := X.base) I.ok.mod.kin M.kp hall ?_ hpl
  refine thn (hkw.run pos pins s σ H _ I h) fun ws s2 ⟨zs, H2, I2, rz, l1, l2, q2⟩ => ⟨I2.kIn, ?_⟩
  rw [hks]
  exact run_kg (us := []) (vs := []) M F g hb hx I2 .nil rz l1 l2 q2

/-- e.f, a property -/
def tPg (C : Addr) (sp : Sp) (E : XK) (ta : TE) : TE := fun σ H Q => ta σ H fun y H1 => ∃ a dx fs, y = .ref a ∧ H1 a = some (.ins C dx fs) ∧ sp [.ref a] H1 Q E
theorem pe_pg {pa : Addr} {nm : Str} (ho : PE X o ta) (c : Cls X.K C) (hp : PropOf X.K C nm pa f) (F : FG X.prog X.w X.K X.mg X.base CX k f fd ["self"] sp) (g : RG (k + 1) X.A) (hb : Bd X.K fd ["self"] 1 [] [0]) (hx : Passes CX X.nox E)
    (hab : attributeBase o nm X.env (eval o X.env) = eval o X.env := by rfl) : PE X (.Attribute o nm pos) (tPg C sp E ta) := by
  refine ⟨fun pins s σ H Q I h => ?_⟩
  refine attr_of hab (thn (ho.run pins s σ H _ I h) fun u s1 ⟨y, H1, I1, ry, a, dx, fs, ey, ea, q⟩ => ?_)
  subst ey
  obtain rfl : u = Value.ref a := ry
  obtain ⟨mA, O, _, _, _, _⟩ := ins_get I1.hok ea
  obtain ⟨od, J, _⟩ := O.look
  obtain ⟨more, hrec⟩ := hp.rec_
  have I2 := I1.tok (s1.toks + 1)
  have hc : (PySem.W.clsIn X.K C).isSome = true := by
    obtain ⟨cd, hc, _⟩ := PySem.W.any_some c.hd
    rw [hc]
    rfl
  refine PySem.W.get_bind I1.kIn J (PySem.W.plainGet_of (c.get nm)).1 (PySem.W.findObj_data hc hp.at_ hp.get hp.tak) (PySem.W.plainGet_of (c.get nm)).2 (wpAny_call (PySem.W.prop_get (s := { s1 with toks := s1.toks + 1 }) I1.kIn hrec ?_))
  refine codeAny_mono (F.go X.A.in1 X.stack { s1 with toks := s1.toks + 1 } H1 ⟨[.ref a], []⟩ [.ref a] [.ref a] Q E g.in1 I2.env0.in1 (.of_eq (hb.to [.ref a] [] rfl rfl)) (.cons rfl .nil) q) fun r s' hq => ?_
  match r, hq with
  | .error er, hq => exact False.elim (hx pins σ H1 { s1 with toks := s1.toks + 1 } er s' (I2.wish _) hq)
  | .ok (.ret u), hq =>
    obtain ⟨v, H', I3, rv, q3⟩ := I2.after hq
    show wpAny _ _ (handedOut u) _ _ _
    rw [PySem.W.handedOut_of (handed_of rv)]
    exact wpAny_pure ⟨v, H', I3, rv, q3⟩
  | .ok .next, hq => exact False.elim hq
  | .ok .brk, hq => exact False.elim hq
  | .ok .cont, hq => exact False.elim hq
end

/-! ### repr of data -/
def rRepr (K : PySem.W.Frag) : List V → Hp → VK → Prop := fun xs H Q => ∃ v d, xs = [v] ∧ Dp K H v d ∧ d.showable = true ∧ d.hasDict = false ∧ d.depth ≤ 60 ∧ d.shown.length ≤ sizeLine ∧ Q (.str d.shown) H
section
variable {X : Cx}
theorem call_repr {k : Nat} (g : RG k X.A) : CallR X (.builtin "repr") (rRepr X.K) := by
  intro pins s σ H xs us Q I r h
  obtain ⟨v, d, rfl, hd, hs, hn, hdep, hsz, q⟩ := h
  obtain ⟨u, rfl, ru⟩ := vals1 r
  have hun := g.rm.un
  obtain ⟨as, rd⟩ := Dp.reads I d v u hd ru
  cases hd with
  | non =>
    cases ru
    exact PySem.P.repr_of_none ⟨.str _, H, I.tok _, ⟨_, rfl⟩, q⟩
  | bl b =>
    cases ru
    exact PySem.P.repr_of_bool ⟨.str _, H, I.tok _, ⟨_, rfl⟩, q⟩
  | int i =>
    obtain ⟨t, rfl⟩ := ru
    exact PySem.P.repr_of_int (of_decide_eq_true hs) ⟨.str _, H, I.tok _, ⟨_, rfl⟩, q⟩
  | str x =>
    obtain ⟨t, rfl⟩ := ru
    exact PySem.P.repr_of_str ⟨.str _, H, I.tok _, ⟨_, rfl⟩, q⟩ hsz
  | lst h1 h2 =>
    cases ru
    exact repr_of_reads' rd hs (PyData.noDict_hsm hn) g.gd (by omega) (fun _ _ e => e) (fun h' u tk hk => ⟨.str _, H, I.kept hk, ⟨_, rfl⟩, q⟩) hsz
  | tup h1 h2 =>
    cases ru
    exact repr_of_reads' rd hs (PyData.noDict_hsm hn) g.gd (by omega) (fun _ _ e => e) (fun h' u tk hk => ⟨.str _, H, I.kept hk, ⟨_, rfl⟩, q⟩) hsz
end

/-! ### the end of a law -/
theorem law_cg {P : Program} {w : World} {s₁ : Shared} {K : PySem.W.Frag} {mg mb : Str → Option Value} {a : Addr} {vs : List Value} {ns : List Int} {fa : Addr} {fd : FuncData} {x : Str} {k : Nat} {sp : Sp}
    (KX : K.In s₁.heap) (hns : s₁.heap.Ns mainGlobals mg) (hbl : s₁.heap.Ns builtinsNs mb) (hbb : ∀ x : Str, x ≠ "__name__" → mb x = bootBuiltins x) (lim : s₁.heap.NoLimit) (gn : s₁.gens = #[])
    (ha : s₁.heap.get? a = some { cls := .type "list", data := .seq vs.toArray }) (hi : IntsAre vs ns) (hl : ns.length ≤ sizeLine)
    (hr : RG k callerA) (F : ∀ base : Heap, K.In base → base.Ns mainGlobals mg → FG P w K mg base CX0 k fa fd [x] sp) (hbind : ∀ (s : Shared) (u : Value), BindsTo s fd ⟨[u], []⟩ [(x, u)])
    (hsp : ∀ H : Hp, Only H → SqL K H a (ns.map V.int) → sp [.ref a] H (fun v _ => v = .bl true) fun _ _ _ => False) :
    codeAny (model P w) callerA (.call (.ref fa) ⟨[.ref a], []⟩) (fun r s' => r = .ok (.ret (.bool true)) ∧ OldK s₁.heap s'.heap ∧ s'.os = s₁.os ∧ AllBare s'.gens) s₁ := by
  have rv := vals_ints hi
  have lv := hi.length
  -- whatever abstract heap tells of the script alone
  have main : ∀ H : Hp, (∀ b, H b ≠ none → b = a) → (H a ≠ none → K.lookup a = none) → Only H → HOk P w H s₁.heap → SqL K H a (ns.map V.int) →
      codeAny (model P w) callerA (.call (.ref fa) ⟨[.ref a], []⟩) (fun r s' => r = .ok (.ret (.bool true)) ∧ OldK s₁.heap s'.heap ∧ s'.os = s₁.os ∧ AllBare s'.gens) s₁ := by
    intro H alone apart only hok hS
    have free : ∀ {b : Addr} {o : Obj}, s₁.heap.get? b = some o → (b = a → False) → H b = none := fun {b o} e ne => by
      cases q : H b with
      | none => rfl
      | some u => exact (ne (alone b (by rw [q]; exact fun z => nomatch z))).elim
    have keepNs : ∀ {b : Addr} {m : Str → Option Value}, s₁.heap.Ns b m → (hidT s₁.heap H).Ns b m := by
      rintro b m ⟨o, es, ep, e, d, r⟩
      refine ⟨o, es, ep, hidT_get e (free e ?_), d, r⟩
      rintro rfl
      rw [ha] at e
      cases e
      exact nomatch d
    have keepK : K.In (hidT s₁.heap H) := fun b o e => by
      refine hidT_get (KX b o e) ?_
      cases q : H b with
      | none => rfl
      | some u =>
        have hb : H b ≠ none := by rw [q]; exact fun z => nomatch z
        have eb := alone b hb
        rw [eb] at hb e
        rw [apart hb] at e
        cases e
    have hM : Mod K mg (hidT s₁.heap H) := by
      obtain ⟨mc, c1, c2⟩ := lim
      exact ⟨keepK, keepNs hns, ⟨mb, keepNs hbl, hbb⟩, ⟨mc, keepNs c1, c2⟩⟩
    have e0 : Env0 P w K mg (hidT s₁.heap H) callerA [] s₁ H := ⟨rfl, hM, fun b o e => of_hidT e, Nat.le_of_eq (hidT_size _ _), trivial, (fun b hb => (nomatch hb)), hok, .of_eq gn⟩
    have fin := (F _ keepK (keepNs hns)).go callerA [] s₁ H ⟨[.ref a], []⟩ [.ref a] [.ref a] _ _ hr e0 (hbind s₁ (.ref a)) (.cons rfl .nil) (hsp H only hS)
    refine codeAny_mono fin fun r s' h => ?_
    match r, h with
    | .error e, h => exact False.elim h
    | .ok .next, h => exact False.elim h
    | .ok .brk, h => exact False.elim h
    | .ok .cont, h => exact False.elim h
    | .ok (.ret u), ⟨v, H', os, bare, un, hok', ru, q⟩ =>
      have qv : v = .bl true := q
      subst qv
      obtain rfl : u = Value.bool true := ru
      refine ⟨rfl, OldK.of_keep fun b o e => ?_, os, bare⟩
      rcases only b with z | ⟨ob, xs, z⟩
      · exact un.keep b o e z (fun y => nomatch y) (fun y => nomatch y)
      · obtain ⟨e1, _⟩ := hok b _ z
        obtain ⟨e2, _⟩ := hok' b _ (un.frzs b ob _ z)
        rw [e] at e1
        cases e1
        exact e2
  cases hk : K.lookup a with
  | some o =>
    have e := KX a o hk
    rw [ha] at e
    cases e
    refine main (fun _ => none) (fun b z => absurd rfl z) (fun z => absurd rfl z) (fun _ => .inl rfl) (fun b u z => nomatch z) (.inr ⟨_, vs.toArray, _, hk, rfl, rfl, rfl, ?_, by simpa using rv⟩)
    rw [List.size_toArray, lv]
    exact hl
  | none =>
    have one : ∀ b u, (if b = a then some (HO.frz { cls := .type "list", data := .seq vs.toArray } (.lst (ns.map V.int))) else none) = some u → b = a ∧ u = .frz { cls := .type "list", data := .seq vs.toArray } (.lst (ns.map V.int)) := fun b u z => by
      by_cases hb : b = a
      · rw [if_pos hb] at z
        exact ⟨hb, (Option.some.inj z).symm⟩
      · rw [if_neg hb] at z
        cases z
    refine main (fun b => if b = a then some (.frz { cls := .type "list", data := .seq vs.toArray } (.lst (ns.map V.int))) else none) (fun b z => ?_) (fun _ => hk) (fun b => ?_) (fun b u z => ?_) (.inl (.inr ⟨_, if_pos rfl⟩))
    · by_cases hb : b = a
      · exact hb
      · exact (z (if_neg hb)).elim
    · by_cases hb : b = a
      · exact .inr ⟨_, _, if_pos hb⟩
      · exact .inl (if_neg hb)
    · obtain ⟨hb, hu⟩ := one b u z
      subst hb hu
      exact ⟨ha, by rw [List.length_map]; exact hl, vs, _, rv, ha⟩
theorem walk_g {l : PySem.W.OpenLaw} {n k : Nat} {q : Program} {loose : List Str} {XP : (Str → Option Value) → Heap → Prop} {YP : World → Heap → Prop} {d : DefRec} {K : Params → PySem.W.Frag} {sp : PySem.W.Frag → Sp} {x : Str}
    (hn : l.most = some n) (hn2 : n ≤ sizeLine) (hdf : d.params.defaults = []) (hr : RG k callerA) (hY : ∀ (w : World) (h : Heap), YP w h → (K w.params).In h)
    (F : ∀ (w : World) (mg : Str → Option Value) (fa : Addr) (h : Heap), (K w.params).In h → h.Ns mainGlobals mg → mg d.name = some (.ref fa) → ∃ fd : FuncData,
      (∀ (s : Shared) (u : Value), BindsTo s fd ⟨[u], []⟩ [(x, u)]) ∧ ∀ base : Heap, (K w.params).In base → base.Ns mainGlobals mg → FG l.prog w (K w.params) mg base CX0 k fa fd [x] (sp (K w.params)))
    (hsp : ∀ (K : PySem.W.Frag) (H : Hp) (a : Addr) (ns : List Int), ns.length ≤ n → Only H → SqL K H a (ns.map V.int) → sp K [.ref a] H (fun v _ => v = .bl true) fun _ _ _ => False) :
    PySem.W.WalkO q loose XP YP l.row.toRowW d [] (fun f vs => PySem.call f vs) := by
  refine Att.attach_call hn hdf fun w s₀ s₁ mg mb fa o pm cd doc a vs ns G Y ho hd hcd hmg hobj hints hlen hg => ?_
  have KX := hY w _ Y
  obtain ⟨fd, hb, hF⟩ := F w mg fa _ KX G.T.g hmg
  exact law_cg KX G.T.g G.T.b G.T.builtins G.T.nolimit hg hobj hints (Nat.le_trans hlen hn2) hr hF hb fun H hO hS => hsp (K w.params) H a ns hlen hO hS
end OB

set_option Elab.async false
set_option linter.all false
set_option maxRecDepth 100000
set_option maxHeartbeats 4000000
/-! OB, part b: what is known of the heap (Sy): objects that stand exactly so (F), data that lasts (G); the steps of a reading. -/
namespace OB
open PySem PySem.Spec PyProof.Rows L2 PySem.W

/-! ### data that lasts: no list, no dict in it -/
mutual
def imm : PyData → Bool
  | .none | .bool _ | .int _ | .str _ => true
  | .tuple xs => immAll xs
  | .list _ | .dict _ => false
def immAll : List PyData → Bool
  | [] => true
  | x :: xs => imm x && immAll xs
end
/-- what stays for good where it is locked: lists and tuples -/
def isFix : HO → Bool
  | .lst _ | .tup _ => true
  | _ => false
/-- tuples and what is locked for good stay -/
def Tx (H H' : Hp) : Prop := (∀ a xs, H a = some (.tup xs) → H' a = some (.tup xs)) ∧ ∀ a o u, isFix u = true → H a = some (.frz o u) → H' a = some (.frz o u)
theorem Tx.refl (H : Hp) : Tx H H := ⟨fun _ _ h => h, fun _ _ _ _ h => h⟩
theorem Tx.trans {H H1 H2 : Hp} (a : Tx H H1) (b : Tx H1 H2) : Tx H H2 := ⟨fun c xs h => b.1 c xs (a.1 c xs h), fun c o u f h => b.2 c o u f (a.2 c o u f h)⟩
theorem Tx.new {H : Hp} {p : Addr} {o : HO} (h : H p = none) : Tx H (upd H p o) := by
  refine ⟨fun a xs e => ?_, fun a o u _ e => ?_⟩
  · rw [upd_ne (ne_of_none e h)]
    exact e
  · rw [upd_ne (ne_of_none e h)]
    exact e
def isMut : HO → Bool
  | .tup _ => false
  | .frz _ u => !isFix u
  | _ => true
theorem Tx.put {H : Hp} {p : Addr} {o o' : HO} (h : H p = some o) (m : isMut o = true) : Tx H (upd H p o') := by
  refine ⟨fun a xs e => ?_, fun a ob u f e => ?_⟩
  · rw [upd_ne]
    · exact e
    · rintro rfl
      rw [h] at e
      cases e
      cases m
  · rw [upd_ne]
    · exact e
    · rintro rfl
      rw [h] at e
      cases e
      have m2 : (!isFix u) = true := m
      rw [f] at m2
      cases m2
theorem sqt_keep {K : Frag} {H H' : Hp} (t : Tx H H') {a : Addr} {xs : List V} (h : SqT K H a xs) : SqT K H' a xs := by
  rcases h with (h | ⟨o, h⟩) | h
  · exact .inl (.inl (t.1 _ _ h))
  · exact .inl (.inr ⟨o, t.2 _ _ _ rfl h⟩)
  · exact .inr h
mutual
theorem dp_keep {K : Frag} {H H' : Hp} (t : Tx H H') : ∀ (d : PyData) (v : V), imm d = true → Dp K H v d → Dp K H' v d
  | .none, _, _, h => by cases h; exact .non
  | .bool b, _, _, h => by cases h; exact .bl b
  | .int i, _, _, h => by cases h; exact .int i
  | .str x, _, _, h => by cases h; exact .str x
  | .tuple ds, _, m, h => by
    cases h with
    | tup h1 h2 => exact .tup (sqt_keep t h1) (dps_keep t ds _ (by simpa [imm] using m) h2)
  | .list _, _, m, _ => by simp [imm] at m
  | .dict _, _, m, _ => by simp [imm] at m
theorem dps_keep {K : Frag} {H H' : Hp} (t : Tx H H') : ∀ (ds : List PyData) (vs : List V), immAll ds = true → DpAll K H vs ds → DpAll K H' vs ds
  | [], _, _, h => by cases h; exact .nil
  | d :: ds, _, m, h => by
    have m2 : imm d = true ∧ immAll ds = true := by simpa [immAll] using m
    cases h with
    | cons h1 h2 => exact .cons (dp_keep t d _ m2.1 h1) (dps_keep t ds _ m2.2 h2)
end
theorem immAll_append {xs ys : List PyData} : immAll (xs ++ ys) = (immAll xs && immAll ys) := by
  induction xs with
  | nil => rfl
  | cons x xs ih =>
    show (imm x && immAll (xs ++ ys)) = (imm x && immAll xs && immAll ys)
    rw [ih, Bool.and_assoc]
theorem immAll_of {xs : List PyData} (h : ∀ x ∈ xs, imm x = true) : immAll xs = true := by
  induction xs with
  | nil => rfl
  | cons x xs ih =>
    show (imm x && immAll xs) = true
    rw [h x (List.mem_cons_self ..), ih fun y hy => h y (List.mem_cons_of_mem _ hy)]
    rfl
theorem immAll_mem {xs : List PyData} (h : immAll xs = true) : ∀ x ∈ xs, imm x = true := by
  induction xs with
  | nil => intro x hx; cases hx
  | cons y xs ih =>
    have m2 : imm y = true ∧ immAll xs = true := by simpa [immAll] using h
    intro x hx
    rcases List.mem_cons.mp hx with rfl | hx
    · exact m2.1
    · exact ih m2.2 x hx

/-! ### DpAll -/
section
variable {K : Frag} {H : Hp}
theorem dps_length {vs : List V} {ds : List PyData} (h : DpAll K H vs ds) : vs.length = ds.length := by
  induction ds generalizing vs with
  | nil => cases h; rfl
  | cons d ds ih =>
    cases h with
    | cons h1 h2 => simp [ih h2]
theorem dps_get : ∀ {ds : List PyData} {vs : List V} {i : Nat} {v : V}, DpAll K H vs ds → vs[i]? = some v → ∃ d, ds[i]? = some d ∧ Dp K H v d
  | [], _, _, _, .nil, e => by simp at e
  | d :: ds, _, 0, v, .cons h1 h2, e => by
    simp at e
    subst e
    exact ⟨d, rfl, h1⟩
  | d :: ds, _, i + 1, v, .cons h1 h2, e => by
    obtain ⟨d', e1, e2⟩ := dps_get (i := i) h2 (by simpa using e)
    exact ⟨d', by simpa using e1, e2⟩
theorem dps_getD : ∀ {ds : List PyData} {vs : List V} {i : Nat} {d : PyData}, DpAll K H vs ds → ds[i]? = some d → ∃ v, vs[i]? = some v ∧ Dp K H v d
  | [], _, _, _, .nil, e => by simp at e
  | d :: ds, _, 0, v, .cons h1 h2, e => by
    simp at e
    subst e
    exact ⟨_, rfl, h1⟩
  | d :: ds, _, i + 1, v, .cons h1 h2, e => by
    obtain ⟨d', e1, e2⟩ := dps_getD (i := i) h2 (by simpa using e)
    exact ⟨d', by simpa using e1, e2⟩
theorem dps_append : ∀ {ds : List PyData} {vs : List V} {es : List PyData} {ws : List V}, DpAll K H vs ds → DpAll K H ws es → DpAll K H (vs ++ ws) (ds ++ es)
  | [], _, _, _, .nil, h => h
  | _ :: _, _, _, _, .cons h1 h2, h => .cons h1 (dps_append h2 h)
theorem dps_drop : ∀ (n : Nat) {ds : List PyData} {vs : List V}, DpAll K H vs ds → DpAll K H (vs.drop n) (ds.drop n)
  | 0, _, _, h => h
  | _ + 1, [], _, .nil => .nil
  | n + 1, _ :: _, _, .cons _ h2 => dps_drop n h2
theorem dps_take : ∀ (n : Nat) {ds : List PyData} {vs : List V}, DpAll K H vs ds → DpAll K H (vs.take n) (ds.take n)
  | 0, _, _, _ => .nil
  | _ + 1, [], _, .nil => .nil
  | n + 1, _ :: _, _, .cons h1 h2 => .cons h1 (dps_take n h2)
theorem dps_one {v : V} {d : PyData} (h : Dp K H v d) : DpAll K H [v] [d] := .cons h .nil
theorem dps_un {v : V} {d : PyData} (h : DpAll K H [v] [d]) : Dp K H v d := by
  cases h with
  | cons h1 _ => exact h1
theorem dps_ints : ∀ (ns : List Int), DpAll K H (ns.map V.int) (ns.map PyData.int)
  | [] => .nil
  | n :: ns => .cons (.int n) (dps_ints ns)
theorem dps_map {α : Type} {f : α → PyData} {ss : List α} {xs : List V} {i : Nat} {x : V} (h : DpAll K H xs (ss.map f)) (e : xs[i]? = some x) : ∃ s, ss[i]? = some s ∧ Dp K H x (f s) := by
  obtain ⟨d, e2, h2⟩ := dps_get h e
  rw [List.getElem?_map] at e2
  cases q : ss[i]? with
  | none => rw [q] at e2; cases e2
  | some s =>
    rw [q] at e2
    cases e2
    exact ⟨s, rfl, h2⟩
theorem dp_tuple {v : V} {ds : List PyData} (h : Dp K H v (.tuple ds)) : ∃ a xs, v = .ref a ∧ SqT K H a xs ∧ DpAll K H xs ds := by
  cases h with
  | tup h1 h2 => exact ⟨_, _, rfl, h1, h2⟩
theorem dp_int {v : V} {i : Int} (h : Dp K H v (.int i)) : v = .int i := by cases h; rfl
theorem dp_str {v : V} {i : Str} (h : Dp K H v (.str i)) : v = .str i := by cases h; rfl
end

/-! ### what is known -/
/-- the script: locked, or the module's own -/
def Scr (K : Frag) (H : Hp) (a : Addr) (xs : List V) : Prop := SqL K H a xs ∧ ∀ o, H a = some o → ∃ ob, o = .frz ob (.lst xs)
theorem scr_keep {K : Frag} {H H' : Hp} (t : Tx H H') {a : Addr} {xs : List V} (h : Scr K H a xs) (hn : H a = none → H' a = none) : Scr K H' a xs := by
  obtain ⟨h1, h2⟩ := h
  cases e : H a with
  | none =>
    refine ⟨?_, fun o q => by rw [hn e] at q; cases q⟩
    rcases h1 with (h1 | ⟨o, h1⟩) | h1
    · rw [e] at h1; cases h1
    · rw [e] at h1; cases h1
    · exact .inr h1
  | some o =>
    obtain ⟨ob, rfl⟩ := h2 o e
    have e2 := t.2 _ _ _ rfl e
    exact ⟨.inl (.inr ⟨ob, e2⟩), fun o q => by rw [e2] at q; cases q; exact ⟨ob, rfl⟩⟩
inductive Ft where
  | dat (vs : List V) (ds : List PyData)
  | sq (a : Addr) (xs : List V)
  | tq (a : Addr) (xs : List V)
  | tt (l : List (Addr × List V))
def Ft.ok (K : Frag) (H : Hp) : Ft → Prop
  | .dat vs ds => DpAll K H vs ds ∧ immAll ds = true
  | .sq a xs => (∃ o, H a = some (.frz o (.lst xs))) ∨ ∃ (o : Obj) (its : Array Value) (n : Nat), K.lookup a = some o ∧ o.cls = .type "list" ∧ o.dict = none ∧ o.data = .seq its n ∧ its.size ≤ sizeLine ∧ Vals xs its.toList
  | .tq a xs => SqT K H a xs
  | .tt l => ∀ p ∈ l, H p.1 = some (.tup p.2)
theorem Ft.keep {K : Frag} {H H' : Hp} (t : Tx H H') : ∀ g : Ft, g.ok K H → g.ok K H'
  | .dat vs ds, ⟨h, m⟩ => ⟨dps_keep t ds vs m h, m⟩
  | .sq a xs, .inl ⟨o, h⟩ => .inl ⟨o, t.2 _ _ _ rfl h⟩
  | .sq a xs, .inr h => .inr h
  | .tq a xs, h => sqt_keep t h
  | .tt l, h => fun p hp => t.1 _ _ (h p hp)
structure Sy (K : Frag) (F : List (Addr × HO)) (G : List Ft) (H : Hp) : Prop where
  st : ∀ p ∈ F, H p.1 = some p.2
  nd : (F.map (·.1)).Nodup
  ft : ∀ g ∈ G, g.ok K H
section
variable {K : Frag} {F : List (Addr × HO)} {G : List Ft} {H H' : Hp} {p : Addr} {o o' : HO} {i : Nat} {v : V} {vs : List V} {d : PyData} {ds : List PyData}
theorem Sy.nil : Sy K [] [] H := ⟨fun _ h => (nomatch h), .nil, fun _ h => (nomatch h)⟩
theorem Sy.at (S : Sy K F G H) (i : Nat) (h : F[i]? = some (p, o)) : H p = some o := S.st _ (List.mem_of_getElem? h)
theorem Sy.dps (S : Sy K F G H) (i : Nat) (h : G[i]? = some (.dat vs ds)) : DpAll K H vs ds := (S.ft _ (List.mem_of_getElem? h)).1
theorem Sy.dpi (S : Sy K F G H) (i : Nat) (h : G[i]? = some (.dat vs ds)) : immAll ds = true := (S.ft _ (List.mem_of_getElem? h)).2
theorem Sy.dp (S : Sy K F G H) (i : Nat) (h : G[i]? = some (.dat [v] [d])) : Dp K H v d := dps_un (S.dps i h)
theorem Sy.sq {xs : List V} (S : Sy K F G H) (i : Nat) (h : G[i]? = some (.sq p xs)) : SqL K H p xs := by
  rcases S.ft _ (List.mem_of_getElem? h) with ⟨o, q⟩ | q
  · exact .inl (.inr ⟨o, q⟩)
  · exact .inr q
theorem Sy.tqs {xs : List V} (S : Sy K F G H) (i : Nat) (h : G[i]? = some (.tq p xs)) : SqT K H p xs := S.ft _ (List.mem_of_getElem? h)
theorem Sy.tts {l : List (Addr × List V)} (S : Sy K F G H) (i : Nat) (h : G[i]? = some (.tt l)) : ∀ p ∈ l, H p.1 = some (.tup p.2) := S.ft _ (List.mem_of_getElem? h)
/-- a new object -/
theorem Sy.push (S : Sy K F G H) (h : H p = none) : Sy K ((p, o) :: F) G (upd H p o) := by
  refine ⟨fun q hq => ?_, ?_, fun g hg => Ft.keep (Tx.new h) g (S.ft g hg)⟩
  · rcases List.mem_cons.mp hq with rfl | hq
    · exact upd_same
    · have e := S.st q hq
      rw [upd_ne (ne_of_none e h)]
      exact e
  · show (p :: F.map (·.1)).Nodup
    refine List.nodup_cons.mpr ⟨fun hm => ?_, S.nd⟩
    obtain ⟨q, hq, e⟩ := List.mem_map.mp hm
    have e2 := S.st q hq
    rw [e, h] at e2
    cases e2
/-- a new object that is not kept in mind -/
theorem Sy.over (S : Sy K F G H) (h : H p = none) : Sy K F G (upd H p o) := by
  obtain ⟨a, b, c⟩ := S.push (o := o) h
  exact ⟨fun q hq => a q (List.mem_cons_of_mem _ hq), S.nd, c⟩
theorem Sy.fact (S : Sy K F G H) (h : DpAll K H vs ds) (m : immAll ds = true) : Sy K F (.dat vs ds :: G) H :=
  ⟨S.st, S.nd, fun g hg => (List.mem_cons.mp hg).elim (fun e => by rw [e]; exact ⟨h, m⟩) (S.ft g)⟩
theorem Sy.add (S : Sy K F G H) (g : Ft) (h : g.ok K H) : Sy K F (g :: G) H :=
  ⟨S.st, S.nd, fun f hf => (List.mem_cons.mp hf).elim (fun e => by rw [e]; exact h) (S.ft f)⟩
/-- a tuple of data opened -/
theorem Sy.opn (S : Sy K F G H) (h : Dp K H v (.tuple ds)) (m : immAll ds = true) : ∃ a xs, v = .ref a ∧ Sy K F (.tq a xs :: .dat xs ds :: G) H := by
  obtain ⟨a, xs, e, h1, h2⟩ := dp_tuple h
  exact ⟨a, xs, e, (S.fact h2 m).add _ h1⟩
theorem Sy.lay (S : Sy K F G H) (h : H p = none) (hd : DpAll K H vs ds) (m : immAll ds = true) : Sy K F (.dat [.ref p] [.tuple ds] :: G) (upd H p (.tup vs)) := by
  refine (S.over h).fact (dps_one (.tup (.inl (.inl upd_same)) (dps_keep (Tx.new h) ds vs m hd))) ?_
  show (imm (.tuple ds) && true) = true
  rw [Bool.and_true]
  exact m
/-- a new tuple, told as itself and as data -/
theorem Sy.layT (S : Sy K F G H) (h : H p = none) (hd : DpAll K H vs ds) (m : immAll ds = true) : Sy K F (.tt [(p, vs)] :: .dat [.ref p] [.tuple ds] :: G) (upd H p (.tup vs)) :=
  (S.lay h hd m).add _ fun q hq => by
    rcases List.mem_singleton.mp hq with rfl
    exact upd_same
/-- an object changed -/
theorem Sy.put (S : Sy K F G H) (i : Nat) (h : F[i]? = some (p, o)) (m : isMut o = true) : Sy K (F.set i (p, o')) G (upd H p o') := by
  have hp := S.at i h
  have hi : i < F.length := (List.getElem?_eq_some_iff.mp h).1
  refine ⟨fun q hq => ?_, ?_, fun g hg => Ft.keep (Tx.put hp m) g (S.ft g hg)⟩
  · obtain ⟨j, hj⟩ := List.mem_iff_getElem?.mp hq
    by_cases e : i = j
    · subst e
      rw [List.getElem?_set_self hi] at hj
      cases hj
      exact upd_same
    · rw [List.getElem?_set_ne e] at hj
      have e2 := S.st q (List.mem_of_getElem? hj)
      rw [upd_ne]
      · exact e2
      · intro z
        have n := S.nd
        have h1 : (F.map (·.1))[i]? = some p := by rw [List.getElem?_map, h]; rfl
        have h2 : (F.map (·.1))[j]? = some p := by rw [List.getElem?_map, hj, ← z]; rfl
        exact e ((List.getElem_inj n).mp ((List.getElem?_eq_some_iff.mp h1).2.trans (List.getElem?_eq_some_iff.mp h2).2.symm))
  · have e : (F.set i (p, o')).map (·.1) = F.map (·.1) := by
      rw [List.map_set]
      refine List.ext_getElem? fun j => ?_
      by_cases e : i = j
      · subst e
        rw [List.getElem?_set_self (by simpa using hi), List.getElem?_map, h]
        rfl
      · rw [List.getElem?_set_ne e]
    rw [e]
    exact S.nd
theorem Sy.less {x : Addr × HO} (S : Sy K (x :: F) G H) : Sy K F G H := ⟨fun q hq => S.st q (List.mem_cons_of_mem _ hq), (List.nodup_cons.mp (show (x.1 :: F.map (·.1)).Nodup from S.nd)).2, S.ft⟩
theorem Sy.drop {x : Ft} (S : Sy K F (x :: G) H) : Sy K F G H := ⟨S.st, S.nd, fun g hg => S.ft g (List.mem_cons_of_mem _ hg)⟩
/-- other facts, all of them among those known -/
theorem Sy.facts {G' : List Ft} (S : Sy K F G H) (h : ∀ g ∈ G', g ∈ G) : Sy K F G' H := ⟨S.st, S.nd, fun g hg => S.ft g (h g hg)⟩
theorem Sy.drop2 {x y : Ft} (S : Sy K F (x :: y :: G) H) : Sy K F (x :: G) H := S.facts fun g hg => by
  rcases List.mem_cons.mp hg with rfl | h
  · exact List.mem_cons_self ..
  · exact List.mem_cons_of_mem _ (List.mem_cons_of_mem _ h)
theorem Sy.drop3 {x y z : Ft} (S : Sy K F (x :: y :: z :: G) H) : Sy K F (x :: y :: G) H := S.facts fun g hg => by
  rcases List.mem_cons.mp hg with rfl | h
  · exact List.mem_cons_self ..
  · rcases List.mem_cons.mp h with rfl | h
    · exact List.mem_cons_of_mem _ (List.mem_cons_self ..)
    · exact List.mem_cons_of_mem _ (List.mem_cons_of_mem _ (List.mem_cons_of_mem _ h))
theorem Sy.swap {x y : Addr × HO} (S : Sy K (x :: y :: F) G H) : Sy K (y :: x :: F) G H := by
  refine ⟨fun q hq => S.st q ?_, ?_, S.ft⟩
  · rcases List.mem_cons.mp hq with rfl | hq
    · exact List.mem_cons_of_mem _ (List.mem_cons_self ..)
    · rcases List.mem_cons.mp hq with rfl | hq
      · exact List.mem_cons_self ..
      · exact List.mem_cons_of_mem _ (List.mem_cons_of_mem _ hq)
  · have n : (x.1 :: y.1 :: F.map (·.1)).Nodup := S.nd
    show (y.1 :: x.1 :: F.map (·.1)).Nodup
    obtain ⟨n1, n2⟩ := List.nodup_cons.mp n
    obtain ⟨n3, n4⟩ := List.nodup_cons.mp n2
    refine List.nodup_cons.mpr ⟨fun z => ?_, List.nodup_cons.mpr ⟨fun z => n1 (List.mem_cons_of_mem _ z), n4⟩⟩
    rcases List.mem_cons.mp z with e | z
    · exact n1 (by rw [e]; exact List.mem_cons_self ..)
    · exact n3 z
end
end OB

set_option Elab.async false
set_option linter.all false
set_option maxRecDepth 100000
set_option maxHeartbeats 4000000
/-! OB, part c: more rules: walks over lists and tuples alike, zip and enumerate of both, a written dict of ints, powers, attributes as targets. -/
namespace OB
open PySem PySem.Spec PyProof.Rows L2 PySem.W

/-! ### a list or a tuple -/
def SqA (K : Frag) (H : Hp) (a : Addr) (xs : List V) : Prop := SqL K H a xs ∨ SqT K H a xs
/-- k: it is a list -/
def SqK (K : Frag) (H : Hp) (k : Bool) (a : Addr) (xs : List V) : Prop := match k with
  | true => SqL K H a xs
  | false => SqT K H a xs
def IsK (h : Heap) (k : Bool) (a : Addr) (its : Array Value) : Prop := match k with
  | true => h.IsList a its
  | false => h.IsTuple a its
def ItK (h : Heap) (k : Bool) (it a : Addr) (i : Nat) : Prop := match k with
  | true => h.IsListIter it a i
  | false => h.IsTupleIter it a i
theorem ItK.at {h h' : Heap} {k : Bool} {it a : Addr} {i : Nat} (x : ItK h k it a i) (e : ∀ o, h.get? it = some o → h'.get? it = some o) : ItK h' k it a i := by
  cases k with
  | true => exact Heap.IsListIter.at x e
  | false => exact Heap.IsTupleIter.at x e
theorem ItK.obj {h : Heap} {k : Bool} {it a : Addr} {i : Nat} (x : ItK h k it a i) : ∃ o, h.get? it = some o ∧ ∀ v, o.data ≠ .cell v := by
  cases k with
  | true =>
    obtain ⟨o, e, c, d⟩ := x
    exact ⟨o, e, fun v z => by rw [d] at z; cases z⟩
  | false =>
    obtain ⟨o, e, c, d⟩ := x
    exact ⟨o, e, fun v z => by rw [d] at z; cases z⟩
def itObj (k : Bool) (a : Addr) : Obj := match k with
  | true => { cls := .type "list_iterator", data := .fields #[.ref a, .int 0 0] }
  | false => { cls := .type "tuple_iterator", data := .fields #[.ref a, .int 0 0] }
theorem beginsK (k : Bool) (a : Addr) (its : Array Value) : Begins (.ref a) (itObj k a) fun h => IsK h k a its := match k with
  | true => begins_list a its
  | false => begins_tuple a its
theorem itK_new {h : Heap} {k : Bool} {it a : Addr} (e : h.get? it = some (itObj k a)) : ItK h k it a 0 := match k, e with
  | true, e => ⟨_, e, rfl, rfl⟩
  | false, e => ⟨_, e, rfl, rfl⟩
theorem drawsK {prog : Program} {w : World} {A : Around} (hh : A.handled = none) (k : Bool) (it a : Addr) (hne : a ≠ it) (its : Array Value) :
    Draws prog w A it [it, a] its.size (fun i v => its[i]? = some v) (fun i h => ItK h k it a i ∧ IsK h k a its) := match k with
  | true => Draws.list hh it a hne its
  | false => Draws.tuple hh it a hne its
section
variable {X : Cx} {pins : List (Addr × Obj)} {σ : L2.St} {H : Hp} {s : Shared} {a : Addr} {xs ys : List V} {k : Bool}
theorem inv_sqk (I : Inv X pins σ H s) (h : SqK X.K H k a xs) : ∃ its : List Value, Vals xs its ∧ IsK s.heap k a its.toArray ∧ a < s.heap.objs.size := by
  cases k with
  | true =>
    obtain ⟨its, r, p, _⟩ := I.list h
    exact ⟨its, r, p.isList, p.lt⟩
  | false =>
    obtain ⟨its, r, p, _⟩ := I.tuple h
    exact ⟨its, r, p, p.lt⟩
theorem sqk_inj (I : Inv X pins σ H s) (h : SqK X.K H k a xs) (h' : SqK X.K H k a ys) : xs = ys := by
  cases k with
  | true => exact I.list_inj h h'
  | false => exact I.tuple_inj h h'
end
theorem isK_le {h : Heap} {k : Bool} {a : Addr} {its : Array Value} (x : IsK h k a its) : ∃ o, h.get? a = some o ∧ ∃ n, o.data = .seq its n := by
  cases k with
  | true =>
    obtain ⟨o, e, _, n, d⟩ := x
    exact ⟨o, e, n, d⟩
  | false =>
    obtain ⟨o, e, _, n, d⟩ := x
    exact ⟨o, e, n, d⟩

/-! ### zip of two, each a list or a tuple -/
def ItzK (K : Frag) (k l : Bool) (a b : Addr) : It :=
  ⟨fun i H => ∃ (xs ys : List V) (x y : V), SqK K H k a xs ∧ SqK K H l b ys ∧ xs[i]? = some x ∧ ys[i]? = some y,
    fun i H v H' => ∃ T x y, v = .ref T ∧ H T = none ∧ H' = upd H T (.tup [x, y]) ∧ (∀ xs, SqK K H k a xs → xs[i]? = some x) ∧ ∀ ys, SqK K H l b ys → ys[i]? = some y,
    fun i H => ∃ xs ys : List V, SqK K H k a xs ∧ SqK K H l b ys ∧ i ≤ xs.length ∧ i ≤ ys.length ∧ (i = xs.length ∨ i = ys.length)⟩
theorem turn_zipK {P : Program} {w : World} {K : Frag} {elts : List Expr} {kk : Nat} {tpos : Pos} {k l : Bool} {a b z TI TO i1 i2 : Addr} (D : ZipSep2 z TI TO i1 i2 [i1, a] [i2, b]) :
    Turn P w K (.Tuple elts kk tpos) (ItzK K k l a b) [z, TI, TO, i1, i2] z
      (fun i h => IsZip h z TI TO .none ∧ IsTupOf2 h TI (.ref i1) (.ref i2) ∧ (∃ x y, IsTupOf2 h TO x y) ∧ ItK h k i1 a i ∧ ItK h l i2 b i) where
  mem := List.mem_cons_self ..
  obj := fun i h st c hc => by
    obtain ⟨hz, hTI, ⟨x, y, hTO⟩, h1, h2⟩ := st
    have cs : c = z ∨ c = TI ∨ c = TO ∨ c = i1 ∨ c = i2 := by simpa using hc
    rcases cs with rfl | rfl | rfl | rfl | rfl
    · exact ⟨_, hz, fun v q => nomatch q⟩
    · exact ⟨_, hTI, fun v q => nomatch q⟩
    · exact ⟨_, hTO, fun v q => nomatch q⟩
    · exact h1.obj
    · exact h2.obj
  keep := fun i h h' st kp => by
    obtain ⟨hz, hTI, ⟨x, y, hTO⟩, h1, h2⟩ := st
    exact ⟨kp z (by simp) _ hz, kp TI (by simp) _ hTI, ⟨x, y, kp TO (by simp) _ hTO⟩, h1.at fun o q => kp i1 (by simp) o q, h2.at fun o q => kp i2 (by simp) o q⟩
  item := by
    intro X hP hw hK hc i pins s σ H E I hf st hg
    subst hP hw hK
    obtain ⟨hz, hTI, ⟨x0, y0, hTO⟩, h1, h2⟩ := st
    obtain ⟨xs, ys, x, y, qa, qb, hx, hy⟩ := hg
    obtain ⟨its, ra, pa, _⟩ := inv_sqk I qa
    obtain ⟨jts, rb, pb, _⟩ := inv_sqk I qb
    obtain ⟨u, hu, ru⟩ := ra.get hx
    obtain ⟨u2, hu2, ru2⟩ := rb.get hy
    have zlt : z < s.heap.objs.size := Heap.lt_size hz
    have hh : X.A.in1.handled = none := I.ok.hd hc
    have la : i < its.toArray.size := by
      rw [List.size_toArray]
      exact (List.getElem?_eq_some_iff.mp hu).1
    have lb : i < jts.toArray.size := by
      rw [List.size_toArray]
      exact (List.getElem?_eq_some_iff.mp hu2).1
    have nea : a ≠ i1 := fun e => by
      obtain ⟨o, e1, n, d1⟩ := isK_le pa
      rw [e] at e1
      cases k with
      | true => obtain ⟨o2, e2, _, d2⟩ := h1; rw [e1] at e2; cases e2; rw [d1] at d2; cases d2
      | false => obtain ⟨o2, e2, _, d2⟩ := h1; rw [e1] at e2; cases e2; rw [d1] at d2; cases d2
    have neb : b ≠ i2 := fun e => by
      obtain ⟨o, e1, n, d1⟩ := isK_le pb
      rw [e] at e1
      cases l with
      | true => obtain ⟨o2, e2, _, d2⟩ := h2; rw [e1] at e2; cases e2; rw [d1] at d2; cases d2
      | false => obtain ⟨o2, e2, _, d2⟩ := h2; rw [e1] at e2; cases e2; rw [d1] at d2; cases d2
    refine wpAny_pyNext_zipD2_item D (drawsK hh k i1 a nea its.toArray) (drawsK hh l i2 b neb jts.toArray) hz hTI hTO ⟨h1, pa⟩ ⟨h2, pb⟩ la lb fun v1 v2 h' tk e1 e2 z' TO' g1 g2 hT hsz kp => ?_
    have q1 : v1 = u := Option.some.inj (e1.symm.trans (by simpa using hu))
    have q2 : v2 = u2 := Option.some.inj (e2.symm.trans (by simpa using hu2))
    subst q1 q2
    refine ⟨_, rfl, wpAny_letOwnedTupleGo_zip (s := { s with heap := h', toks := tk }) z' fun h'' z'' sb => ?_⟩
    have hT2 : h''.get? s.heap.objs.size = some { cls := .type "tuple", data := .seq #[v1, v2] } := (sb.2 _ (Nat.ne_of_gt zlt)).trans hT
    have fresh : ObjOk X.prog X.w (upd H s.heap.objs.size (.tup [x, y])) h'' s.heap.objs.size (.tup [x, y]) :=
      ⟨by show 2 ≤ sizeLine; decide, [v1, v2], .cons ru (.cons ru2 .nil), ⟨_, hT2, rfl, _, rfl⟩⟩
    have kp2 : ∀ c o, c ∉ [z, TI, TO, i1, i2] → s.heap.get? c = some o → h''.get? c = some o := fun c o hb q =>
      (sb.2 c (fun e => hb (by simp [e]))).trans (kp c o (fun e => hb (by simp [e])) (fun e => hb (by simp [e])) (fun e => hb (by simp [e])) (fun e => hb (by simp [e])) q)
    have I1 : Inv X pins σ (upd H s.heap.objs.size (.tup [x, y])) { s with heap := h'', toks := tk } := I.turnedNew (ch := [z, TI, TO, i1, i2]) kp2 hf (Nat.le_refl _) fresh
    have neTI : TI ≠ z ∧ TI ≠ TO ∧ TI ≠ i1 ∧ TI ≠ i2 := ⟨D.TIz, D.TITO, D.TIi1, D.TIi2⟩
    refine ⟨.ref s.heap.objs.size, _, I1, rfl, ⟨_, x, y, rfl, I.hok.fresh (Nat.le_refl _), rfl, fun m hm => by rw [sqk_inj I hm qa]; exact hx, fun m hm => by rw [sqk_inj I hm qb]; exact hy⟩, ⟨z'', ?_, ⟨v1, v2, ?_⟩, ?_, ?_⟩, fun c hcm => ?_⟩
    · exact (sb.2 _ D.TIz).trans (kp _ _ D.TIz D.TITO D.TIi1 D.TIi2 hTI)
    · exact (sb.2 _ D.TOz).trans TO'
    · exact g1.1.at fun o q => (sb.2 _ (Ne.symm D.zi1)).trans q
    · exact g2.1.at fun o q => (sb.2 _ (Ne.symm D.zi2)).trans q
    · have lt : c < s.heap.objs.size := by
        have cs : c = z ∨ c = TI ∨ c = TO ∨ c = i1 ∨ c = i2 := by simpa using hcm
        rcases cs with rfl | rfl | rfl | rfl | rfl
        · exact zlt
        · exact Heap.lt_size hTI
        · exact Heap.lt_size hTO
        · obtain ⟨o, q, _⟩ := h1.obj; exact Heap.lt_size q
        · obtain ⟨o, q, _⟩ := h2.obj; exact Heap.lt_size q
      rw [upd_ne (Nat.ne_of_lt lt)]
      exact (hf c hcm).1
  done := by
    intro X hP hw hK hc i pins s σ H E I hf st hg
    subst hP hw hK
    obtain ⟨hz, hTI, ⟨x0, y0, hTO⟩, h1, h2⟩ := st
    obtain ⟨xs, ys, qa, qb, l1, l2, le⟩ := hg
    obtain ⟨its, ra, pa, _⟩ := inv_sqk I qa
    obtain ⟨jts, rb, pb, _⟩ := inv_sqk I qb
    have hh : X.A.in1.handled = none := I.ok.hd hc
    have e1 := ra.length
    have e2 := rb.length
    have nea : a ≠ i1 := fun e => by
      obtain ⟨o, e1, n, d1⟩ := isK_le pa
      rw [e] at e1
      cases k with
      | true => obtain ⟨o2, e2, _, d2⟩ := h1; rw [e1] at e2; cases e2; rw [d1] at d2; cases d2
      | false => obtain ⟨o2, e2, _, d2⟩ := h1; rw [e1] at e2; cases e2; rw [d1] at d2; cases d2
    have neb : b ≠ i2 := fun e => by
      obtain ⟨o, e1, n, d1⟩ := isK_le pb
      rw [e] at e1
      cases l with
      | true => obtain ⟨o2, e2, _, d2⟩ := h2; rw [e1] at e2; cases e2; rw [d1] at d2; cases d2
      | false => obtain ⟨o2, e2, _, d2⟩ := h2; rw [e1] at e2; cases e2; rw [d1] at d2; cases d2
    refine wpAny_pyNext_zipD2_end D (drawsK hh k i1 a nea its.toArray) (drawsK hh l i2 b neb jts.toArray) hz hTI hTO ⟨h1, pa⟩ ⟨h2, pb⟩ (by rw [List.size_toArray]; omega) (by rw [List.size_toArray]; omega) (by rw [List.size_toArray, List.size_toArray]; omega) fun h' tk kp => ?_
    exact ⟨rfl, I.turnedL (t' := tk) (ch := [z, TI, TO, i1, i2]) (fun c o hb q => kp c o (fun e => hb (by simp [e])) (fun e => hb (by simp [e])) (fun e => hb (by simp [e])) (fun e => hb (by simp [e])) q) hf⟩
  self := fun A i s Q E st h => wpAny_pyIter_zip st.1 h
def iZipK (K : Frag) (ta : TA) : TI := fun σ H R => ta σ H fun vs H1 => ∃ k l a b xs ys, vs = [.ref a, .ref b] ∧ SqK K H1 k a xs ∧ SqK K H1 l b ys ∧ R (ItzK K k l a b) H1
theorem pi_zipK {X : Cx} {e e2 : Expr} {ta : TA} {p pos tpos : Pos} {elts : List Expr} {kk : Nat} (hg : Gl X "zip") (hm : X.mg "zip" = none) (ha : PA X [e, e2] ta)
    (hs : starEach [e, e2] X.env = (false, eval e X.env) :: starEach [e2] X.env := by rfl) (hpl : (backTo pos (starEach [e2] X.env)).any (·.1) = false := by rfl) :
    PI X (.Tuple elts kk tpos) (.Call (.Name "zip" p) [e, e2] [] pos) (iZipK X.K ta) := by
  refine ⟨fun pins s σ H R I h => Call_ (ld_blt I hg hm PyProof.Rows.boot_zip (PyProof.Rows.callWith_type1 (thn (ha.run pos pins s σ H _ I h) fun us s1 ⟨vs, H1, I1, r1, q1⟩ => ?_) hs hpl))⟩
  obtain ⟨k, l, a, b, xs, ys, rfl, qa, qb, q⟩ := q1
  cases r1 with
  | cons r rr =>
    cases rr with
    | cons r' rr =>
      cases rr
      cases r
      cases r'
      obtain ⟨its, ra, pa, la⟩ := inv_sqk I1 qa
      obtain ⟨jts, rb, pb, lb⟩ := inv_sqk I1 qb
      refine zip_begins2 (beginsK k a its.toArray) (beginsK l b jts.toArray) pa pb fun h' hz hTI hTO g1 g2 hsz kp => wpAny_pyIter_zip hz ?_
      have I2 : Inv X pins σ H1 { s1 with heap := h' } := I1.kept (t' := s1.toks) kp
      refine ⟨s1.heap.objs.size + 4, [s1.heap.objs.size + 4, s1.heap.objs.size + 2, s1.heap.objs.size + 3, s1.heap.objs.size, s1.heap.objs.size + 1], _, _, H1, rfl, I2,
        turn_zipK (zip_sep2 (fp1 := [a]) (fp2 := [b]) (fun c hc => by rw [List.mem_singleton.mp hc]; exact la) (fun c hc => by rw [List.mem_singleton.mp hc]; exact lb)), ⟨hz, hTI, ⟨_, _, hTO⟩, itK_new g1, itK_new g2⟩, fun c hcm => ?_, q⟩
      have cs : c = s1.heap.objs.size + 4 ∨ c = s1.heap.objs.size + 2 ∨ c = s1.heap.objs.size + 3 ∨ c = s1.heap.objs.size ∨ c = s1.heap.objs.size + 1 := by simpa using hcm
      have le : s1.heap.objs.size ≤ c := by
        rcases cs with rfl | rfl | rfl | rfl | rfl
        · exact Nat.le_add_right _ _
        · exact Nat.le_add_right _ _
        · exact Nat.le_add_right _ _
        · exact Nat.le_refl _
        · exact Nat.le_add_right _ _
      exact I1.fpOk le (I1.hok.fresh le)
theorem for_zipK {K : Frag} {k l : Bool} {a b : Addr} {xs ys : List V} {g : TG} {tb : TS} {D : Ends} {σ : L2.St} {H : Hp} (hl : xs.length = ys.length) (Pv : Nat → L2.St → Hp → Prop) (h0 : Pv 0 σ H) (hq : ∀ i σ H, Pv i σ H → SqK K H k a xs ∧ SqK K H l b ys)
    (hs : ∀ i x y T σ H, xs[i]? = some x → ys[i]? = some y → Pv i σ H → H T = none → g (.ref T) σ (upd H T (.tup [x, y])) fun σ2 H2 => tb { D with nx := Pv (i + 1), ct := Pv (i + 1), bk := D.nx } σ2 H2) (hd : ∀ σ H, Pv xs.length σ H → D.nx σ H) :
    ∃ W : Nat → Nat → L2.St → Hp → Prop, (∃ m, W 0 m σ H) ∧ ∀ i m σ H, W i m σ H →
      ((ItzK K k l a b).stop i H ∧ D.nx σ H) ∨ ((ItzK K k l a b).go i H ∧ ∃ N : L2.St → Hp → Prop, (∀ σ' H', N σ' H' → ∃ m', m' < m ∧ W (i + 1) m' σ' H') ∧ ∀ x H', (ItzK K k l a b).yld i H x H' → g x σ H' fun σ2 H2 => tb { D with nx := N, ct := N, bk := D.nx } σ2 H2) := by
  refine ⟨fun i m σ H => m = xs.length - i ∧ i ≤ xs.length ∧ Pv i σ H, ⟨_, rfl, Nat.zero_le _, h0⟩, ?_⟩
  rintro i m σ H ⟨rfl, hi, p⟩
  obtain ⟨qa, qb⟩ := hq i σ H p
  by_cases lt : i < xs.length
  · have hx : xs[i]? = some xs[i] := List.getElem?_eq_getElem lt
    have hy : ys[i]? = some (ys[i]'(hl ▸ lt)) := List.getElem?_eq_getElem _
    refine .inr ⟨⟨xs, ys, _, _, qa, qb, hx, hy⟩, Pv (i + 1), fun σ' H' p' => ⟨xs.length - (i + 1), by omega, rfl, lt, p'⟩, fun v H' yl => ?_⟩
    obtain ⟨T, x, y, rfl, hT, rfl, e1, e2⟩ := yl
    exact hs i x y T σ H (e1 xs qa) (e2 ys qb) p hT
  · have e : i = xs.length := by omega
    subst e
    exact .inl ⟨⟨xs, ys, qa, qb, hi, by omega, .inl rfl⟩, hd σ H p⟩

/-! ### for over a list or a tuple -/
def iSeq (K : Frag) (tl : TE) : TI := fun σ H R => tl σ H fun x H1 => ∃ a, x = .ref a ∧ (((∃ xs, SqL K H1 a xs) ∧ R (Itl K a) H1) ∨ ((∃ xs, SqT K H1 a xs) ∧ R (Itt K a) H1))
theorem pi_seq {X : Cx} {tg l : Expr} {tl : TE} (hl : PE X l tl) : PI X tg l (iSeq X.K tl) := by
  refine ⟨fun pins s σ H R I h => thn (hl.run pins s σ H _ I h) fun v s1 ⟨x, H1, I1, r1, a, ex, q⟩ => ?_⟩
  subst ex
  cases r1
  have fresh : ∀ b ∈ [s1.heap.objs.size], FpOk X pins H1 b := fun b hb => by
    rw [List.mem_singleton.mp hb]
    exact I1.fpOk (Nat.le_refl _) (I1.hok.fresh (Nat.le_refl _))
  rcases q with ⟨⟨xs, hq⟩, q⟩ | ⟨⟨xs, hq⟩, q⟩
  · obtain ⟨its, rv, p, _⟩ := I1.list hq
    exact wpAny_pyIter_list p.isList ⟨s1.heap.objs.size, [s1.heap.objs.size], _, _, H1, rfl, I1.kept (t' := s1.toks) fun b o e => Heap.get?_push_of_some _ e, turn_list a _, ⟨_, Heap.get?_push_size _ rfl, rfl, rfl⟩, fresh, q⟩
  · obtain ⟨its, rv, p, _⟩ := I1.tuple hq
    exact wpAny_pyIter_tuple (show s1.heap.IsTuple a its.toArray from p) ⟨s1.heap.objs.size, [s1.heap.objs.size], _, _, H1, rfl, I1.kept (t' := s1.toks) fun b o e => Heap.get?_push_of_some _ e, turn_tuple a _, ⟨_, Heap.get?_push_size _ rfl, rfl, rfl⟩, fresh, q⟩
end OB

set_option Elab.async false
set_option linter.all false
set_option maxRecDepth 100000
set_option maxHeartbeats 4000000
/-! OB, part d: enumerate of lists and tuples alike, a written dict of ints, powers, attributes as targets. -/
namespace OB
open PySem PySem.Spec PyProof.Rows L2 PySem.W

/-! ### enumerate -/
theorem meets_enum1 {v : Value} {o : Obj} {B : Heap → Prop} (bg : Begins v o B) :
    Meets (Builtin.«enumerate.__new__» ⟨[.type "enumerate", v], []⟩) (fun _ R s => B s.heap ∧
      R (.ok (.ret (.ref (s.heap.push o).objs.size))) { s with heap := (s.heap.push o).push { cls := .type "enumerate", data := .fields #[.none, .bool false, .ref s.heap.objs.size, rawInt 0, .none, .none] } }) :=
  .of_wp fun prog w A R s h => by
    obtain ⟨hp, gn, dr, tk, os⟩ := s
    obtain ⟨hb, h⟩ := h
    have hsub := sub_enumerate
    have walk : ∀ {A' : Around} {E : Value → Shared → Prop} {Q : Value → Shared → Prop}, Q (.ref hp.objs.size) ⟨hp.push o, gn, dr, tk, os⟩ → wpAny (model prog w) A' (pyIter v) Q E ⟨hp, gn, dr, tk, os⟩ :=
      fun q => bg.iter prog w _ _ ⟨hp, gn, dr, tk, os⟩ _ hb q
    wp_walk using walk
    refine wpAny_stack_any fun st => wpAny_pure ?_
    split
    · rename_i c _ _ _ _ _
      cases (c == Value.type "enumerate")
      · wp_walk using walk
        exact ⟨_, rfl, h⟩
      · wp_walk using walk
        exact ⟨_, rfl, h⟩
    · wp_walk using walk
      exact ⟨_, rfl, h⟩
theorem call_enum1 {prog : Program} {w : World} {A : Around} {E : Value → Shared → Prop} {s : Shared} {v : Value} {o : Obj} {B : Heap → Prop} {Q : Value → Shared → Prop} (bg : Begins v o B) (hb : B s.heap)
    (h : ∀ h', IsEnum h' (s.heap.objs.size + 1) s.heap.objs.size 0 .none → h'.get? s.heap.objs.size = some o → (∀ b o, s.heap.get? b = some o → h'.get? b = some o) → Q (.ref (s.heap.objs.size + 1)) { s with heap := h' }) :
    wpAny (model prog w) A (call (.type "enumerate") [v]) Q E s := by
  refine callType_new F.called_enumerate (by decide) (F.typeCall_enumerate_1 _) (F.newCall_enumerate_1 _) (fun obj => F.args_object_init_2 obj _) F.entry_enumerate_new (meets_enum1 bg) ⟨hb, ?_⟩
  have hz : (s.heap.push o).objs.size = s.heap.objs.size + 1 := Heap.size_push ..
  show _ ∧ _
  rw [hz]
  have he : IsEnum ((s.heap.push o).push { cls := .type "enumerate", data := .fields #[.none, .bool false, .ref s.heap.objs.size, rawInt 0, .none, .none] }) (s.heap.objs.size + 1) s.heap.objs.size 0 .none := by
    have q := Heap.get?_push_size (s.heap.push o) (o := { cls := .type "enumerate", data := .fields #[.none, .bool false, .ref s.heap.objs.size, rawInt 0, .none, .none] }) rfl
    rw [hz] at q
    exact q
  exact ⟨⟨_, he, rfl⟩, h _ he (Heap.get?_push_of_some _ (Heap.get?_push_size _ bg.free)) fun b o x => Heap.get?_push_of_some _ (Heap.get?_push_of_some _ x)⟩
def IteK (K : Frag) (k : Bool) (a : Addr) : It :=
  ⟨fun i H => ∃ (xs : List V) (x : V), SqK K H k a xs ∧ xs[i]? = some x,
    fun i H v H' => ∃ T x, v = .ref T ∧ H T = none ∧ H' = upd H T (.tup [.int (i : Nat), x]) ∧ ∀ xs, SqK K H k a xs → xs[i]? = some x,
    fun i H => ∃ xs : List V, SqK K H k a xs ∧ i = xs.length⟩
theorem turn_enumK {P : Program} {w : World} {K : Frag} {elts : List Expr} {kk : Nat} {tpos : Pos} {k : Bool} {a e it : Addr} (hea : e ≠ a) :
    Turn P w K (.Tuple elts kk tpos) (IteK K k a) [e, it] e (fun i h => (∃ old, IsEnum h e it ((i : Nat) : Int) old) ∧ ItK h k it a i ∧ e ≠ it) where
  mem := List.mem_cons_self ..
  obj := fun i h st b hb => by
    obtain ⟨⟨old, he⟩, h1, _⟩ := st
    have cs : b = e ∨ b = it := by simpa using hb
    rcases cs with rfl | rfl
    · exact ⟨_, he, fun v q => nomatch q⟩
    · exact h1.obj
  keep := fun i h h' st kp => by
    obtain ⟨⟨old, he⟩, h1, ne⟩ := st
    exact ⟨⟨old, kp e (by simp) _ he⟩, h1.at fun o q => kp it (by simp) o q, ne⟩
  item := by
    intro X hP hw hK hc i pins s σ H E I hf st hg
    subst hP hw hK
    obtain ⟨⟨old, he⟩, h1, ne⟩ := st
    obtain ⟨xs, x, qa, hx⟩ := hg
    obtain ⟨its, ra, pa, _⟩ := inv_sqk I qa
    obtain ⟨u, hu, ru⟩ := ra.get hx
    have elt : e < s.heap.objs.size := Heap.lt_size he
    have hh : X.A.in1.handled = none := I.ok.hd hc
    have la : i < its.toArray.size := by
      rw [List.size_toArray]
      exact (List.getElem?_eq_some_iff.mp hu).1
    have nea : a ≠ it := fun z => by
      obtain ⟨o, e1, n, d1⟩ := isK_le pa
      rw [z] at e1
      cases k with
      | true => obtain ⟨o2, e2, _, d2⟩ := h1; rw [e1] at e2; cases e2; rw [d1] at d2; cases d2
      | false => obtain ⟨o2, e2, _, d2⟩ := h1; rw [e1] at e2; cases e2; rw [d1] at d2; cases d2
    have nin : e ∉ [it, a] := fun z => by
      have cs : e = it ∨ e = a := by simpa using z
      exact cs.elim ne hea
    refine wpAny_pyNext_enum_itemD (drawsK hh k it a nea its.toArray) he ⟨h1, pa⟩ la ne nin fun v1 h' tk e1 he' g1 hT hsz kp => ?_
    have q1 : v1 = u := Option.some.inj (e1.symm.trans (by simpa using hu))
    subst q1
    refine ⟨_, rfl, wpAny_letOwnedTupleGo_enum (s := { s with heap := h', toks := tk + 1 }) he' fun h'' he'' sb => ?_⟩
    have hT2 : h''.get? s.heap.objs.size = some { cls := .type "tuple", data := .seq #[.int i tk, v1] } := (sb.2 _ (Nat.ne_of_gt elt)).trans hT
    have fresh : ObjOk X.prog X.w (upd H s.heap.objs.size (.tup [.int (i : Nat), x])) h'' s.heap.objs.size (.tup [.int (i : Nat), x]) :=
      ⟨by show 2 ≤ sizeLine; decide, [.int i tk, v1], .cons ⟨_, rfl⟩ (.cons ru .nil), ⟨_, hT2, rfl, _, rfl⟩⟩
    have I1 : Inv X pins σ (upd H s.heap.objs.size (.tup [.int (i : Nat), x])) { s with heap := h'', toks := tk + 1 } :=
      I.turnedNew (ch := [e, it]) (fun c o hb q => (sb.2 c (fun z => hb (by simp [z]))).trans (kp c o (fun z => hb (by simp [z])) (fun z => hb (by simp [z])) q)) hf (Nat.le_refl _) fresh
    refine ⟨.ref s.heap.objs.size, _, I1, rfl, ⟨_, x, rfl, I.hok.fresh (Nat.le_refl _), rfl, fun m hm => by rw [sqk_inj I hm qa]; exact hx⟩, ⟨⟨v1, ?_⟩, g1.1.at fun o q => (sb.2 _ (Ne.symm ne)).trans q, ne⟩, fun c hcm => ?_⟩
    · have ei : ((i + 1 : Nat) : Int) = (i : Int) + 1 := by omega
      rw [ei]
      exact he''
    · have lt : c < s.heap.objs.size := by
        have cs : c = e ∨ c = it := by simpa using hcm
        rcases cs with rfl | rfl
        · exact elt
        · obtain ⟨o, q, _⟩ := h1.obj; exact Heap.lt_size q
      rw [upd_ne (Nat.ne_of_lt lt)]
      exact (hf c hcm).1
  done := by
    intro X hP hw hK hc i pins s σ H E I hf st hg
    subst hP hw hK
    obtain ⟨⟨old, he⟩, h1, ne⟩ := st
    obtain ⟨xs, qa, le⟩ := hg
    obtain ⟨its, ra, pa, _⟩ := inv_sqk I qa
    have hh : X.A.in1.handled = none := I.ok.hd hc
    have e1 := ra.length
    have nea : a ≠ it := fun z => by
      obtain ⟨o, e1, n, d1⟩ := isK_le pa
      rw [z] at e1
      cases k with
      | true => obtain ⟨o2, e2, _, d2⟩ := h1; rw [e1] at e2; cases e2; rw [d1] at d2; cases d2
      | false => obtain ⟨o2, e2, _, d2⟩ := h1; rw [e1] at e2; cases e2; rw [d1] at d2; cases d2
    have ei : i = its.toArray.size := by
      rw [List.size_toArray]
      omega
    subst ei
    obtain ⟨f0, f1, f2, f3, f4, f5⟩ := hf it (by simp)
    exact wpAny_pyNext_enum_endD (drawsK hh k it a nea its.toArray) he ⟨h1, pa⟩ fun h' eb => ⟨rfl, I.turned (t' := s.toks) (fun b o hb q => eb b o hb q) f0 f1 f3 f4 f5⟩
  self := fun A i s Q E st h => by
    obtain ⟨⟨_, he⟩, _⟩ := st
    exact wpAny_pyIter_enum he h
def iEnumK (K : Frag) (ta : TA) : TI := fun σ H R => ta σ H fun vs H1 => ∃ k a xs, vs = [.ref a] ∧ SqK K H1 k a xs ∧ R (IteK K k a) H1
theorem pi_enumK {X : Cx} {e : Expr} {ta : TA} {p pos tpos : Pos} {elts : List Expr} {kk : Nat} (hg : Gl X "enumerate") (hm : X.mg "enumerate" = none) (ha : PA X [e] ta)
    (hs : starEach [e] X.env = [(false, eval e X.env)] := by rfl) : PI X (.Tuple elts kk tpos) (.Call (.Name "enumerate" p) [e] [] pos) (iEnumK X.K ta) := by
  refine ⟨fun pins s σ H R I h => Call_ (ld_blt I hg hm boot_enumerate (PyProof.Rows.callWith_type1 (thn (ha.run pos pins s σ H _ I h) fun us s1 ⟨vs, H1, I1, r1, q1⟩ => ?_) hs rfl))⟩
  obtain ⟨k, a, xs, rfl, qa, q⟩ := q1
  cases r1 with
  | cons r rr =>
    cases rr
    cases r
    obtain ⟨its, ra, pa, la⟩ := inv_sqk I1 qa
    refine call_enum1 (beginsK k a its.toArray) pa fun h' he g1 kp => wpAny_pyIter_enum he ?_
    have I2 : Inv X pins σ H1 { s1 with heap := h' } := I1.kept (t' := s1.toks) kp
    refine ⟨s1.heap.objs.size + 1, [s1.heap.objs.size + 1, s1.heap.objs.size], _, _, H1, rfl, I2, turn_enumK (Nat.ne_of_gt (Nat.lt_succ_of_lt la)), ⟨⟨_, he⟩, itK_new g1, Nat.succ_ne_self _⟩, fun c hcm => ?_, q⟩
    have cs : c = s1.heap.objs.size + 1 ∨ c = s1.heap.objs.size := by simpa using hcm
    have le : s1.heap.objs.size ≤ c := by
      rcases cs with rfl | rfl
      · exact Nat.le_add_right _ _
      · exact Nat.le_refl _
    exact I1.fpOk le (I1.hok.fresh le)
theorem for_enumK {K : Frag} {k : Bool} {a : Addr} {xs : List V} {g : TG} {tb : TS} {D : Ends} {σ : L2.St} {H : Hp} (Pv : Nat → L2.St → Hp → Prop) (h0 : Pv 0 σ H) (hq : ∀ i σ H, Pv i σ H → SqK K H k a xs)
    (hs : ∀ i x T σ H, xs[i]? = some x → Pv i σ H → H T = none → g (.ref T) σ (upd H T (.tup [.int (i : Nat), x])) fun σ2 H2 => tb { D with nx := Pv (i + 1), ct := Pv (i + 1), bk := D.nx } σ2 H2) (hd : ∀ σ H, Pv xs.length σ H → D.nx σ H) :
    ∃ W : Nat → Nat → L2.St → Hp → Prop, (∃ m, W 0 m σ H) ∧ ∀ i m σ H, W i m σ H →
      ((IteK K k a).stop i H ∧ D.nx σ H) ∨ ((IteK K k a).go i H ∧ ∃ N : L2.St → Hp → Prop, (∀ σ' H', N σ' H' → ∃ m', m' < m ∧ W (i + 1) m' σ' H') ∧ ∀ x H', (IteK K k a).yld i H x H' → g x σ H' fun σ2 H2 => tb { D with nx := N, ct := N, bk := D.nx } σ2 H2) := by
  refine ⟨fun i m σ H => m = xs.length - i ∧ i ≤ xs.length ∧ Pv i σ H, ⟨_, rfl, Nat.zero_le _, h0⟩, ?_⟩
  rintro i m σ H ⟨rfl, hi, p⟩
  have qa := hq i σ H p
  by_cases lt : i < xs.length
  · have hx : xs[i]? = some xs[i] := List.getElem?_eq_getElem lt
    refine .inr ⟨⟨xs, _, qa, hx⟩, Pv (i + 1), fun σ' H' p' => ⟨xs.length - (i + 1), by omega, rfl, lt, p'⟩, fun v H' yl => ?_⟩
    obtain ⟨T, x, rfl, hT, rfl, e1⟩ := yl
    exact hs i x T σ H (e1 xs qa) p hT
  · have e : i = xs.length := by omega
    subst e
    exact .inl ⟨⟨xs, qa, rfl⟩, hd σ H p⟩

/-! ### powers -/
def CPowX (i j : Int) : Prop := 0 ≤ j ∧ (Builtin.Int.intBits i : Int) * j ≤ 2 ^ 27
theorem op_powX {X : Cx} : OpR X (binaryOp .Pow) (rI CPowX fun i j => .int (i ^ j.toNat)) := opI fun _ _ _ _ _ _ _ hc q => pow_int hc.1 hc.2 q

/-! ### a written dict of ints -/
def KDi (K : Frag) (a : Addr) (kvs : List (Int × V)) : Prop := ∃ (es : Array DictEntry) (n : Nat), K.lookup a = some ⟨.type "dict", none, .dict es n, #[]⟩ ∧ (a == sysModules) = false ∧
  Paired (fun (p : Int × V) (e : DictEntry) => Value.isInt p.1 e.key = true ∧ e.hash = hashInt p.1 ∧ RelV p.2 e.val) kvs es.toList
theorem kdi_find {kvs : List (Int × V)} : ∀ {es : List DictEntry}, Paired (fun (p : Int × V) (e : DictEntry) => Value.isInt p.1 e.key = true ∧ e.hash = hashInt p.1 ∧ RelV p.2 e.val) kvs es → ∀ i : Int,
    match kvs.lookup i with
    | some v => ∃ u, (es.find? fun d => Value.isInt i d.key).map (·.val) = some u ∧ RelV v u
    | none => (es.find? fun d => Value.isInt i d.key).map (·.val) = none := by
  induction kvs with
  | nil =>
    intro es h i
    cases h
    rfl
  | cons p kvs ih =>
    intro es h i
    cases h with
    | cons h1 h2 =>
      rename_i e es
      obtain ⟨k1, _, k3⟩ := h1
      obtain ⟨t, ek⟩ := Value.isInt_shape k1
      rw [List.lookup_cons, List.find?_cons, ek]
      by_cases q : i = p.1
      · subst q
        rw [beq_self_eq_true]
        have z : Value.isInt p.1 (.int p.1 t) = true := by rw [← ek]; exact k1
        rw [z]
        exact ⟨_, rfl, k3⟩
      · have z : Value.isInt i (.int p.1 t) = false := by
          cases hz : Value.isInt i (.int p.1 t) with
          | false => rfl
          | true =>
            obtain ⟨t2, e2⟩ := Value.isInt_shape hz
            injection e2 with e3 _
            exact absurd e3.symm q
        have z2 : (i == p.1) = false := beq_eq_false_iff_ne.mpr q
        rw [z, z2]
        exact ih h2 i
theorem kdi_keys {kvs : List (Int × V)} : ∀ {es : List DictEntry}, Paired (fun (p : Int × V) (e : DictEntry) => Value.isInt p.1 e.key = true ∧ e.hash = hashInt p.1 ∧ RelV p.2 e.val) kvs es → ∀ e ∈ es, ∃ i, Value.isInt i e.key = true ∧ e.hash = hashInt i := by
  induction kvs with
  | nil =>
    intro es h e he
    cases h
    cases he
  | cons p kvs ih =>
    intro es h e he
    cases h with
    | cons h1 h2 =>
      rcases List.mem_cons.mp he with rfl | he
      · exact ⟨p.1, h1.1, h1.2.1⟩
      · exact ih h2 e he
section
variable {X : Cx}
theorem kdi_map {kvs : List (Int × V)} {a : Addr} {h : Heap} (kin : X.K.In h) (d : KDi X.K a kvs) : ∃ f : Int → Option Value, h.MapOf (PySem.intKind X.prog X.w) a f ∧ (a == sysModules) = false ∧
    ∀ i, match kvs.lookup i with
      | some v => ∃ u, f i = some u ∧ RelV v u
      | none => f i = none := by
  obtain ⟨es, n, lk, low, pr⟩ := d
  refine ⟨fun i => findBy Value.isInt es i, ⟨_, es, n, kin _ _ lk, ⟨rfl, rfl, rfl⟩, rfl, fun e he => kdi_keys pr e (Array.mem_toList_iff.mpr he), fun _ => rfl⟩, low, fun i => ?_⟩
  have q := kdi_find pr i
  obtain ⟨l⟩ := es
  unfold findBy
  have key : ∀ g : DictEntry → Bool, Array.find? g (⟨l⟩ : Array DictEntry) = l.find? g := fun g => List.find?_toArray ..
  simp only [key]
  exact q
def rIxI (K : Frag) : R2 := fun x y H Q => ∃ p i v kvs, x = .ref p ∧ y = .int i ∧ KDi K p kvs ∧ kvs.lookup i = some v ∧ Q v H
theorem ix_kdi : IxR X (rIxI X.K) := by
  intro value slice pins s σ H x y v u Q I rx ry h hs
  obtain ⟨p, i, r, kvs, rfl, rfl, kd, lk, q⟩ := h
  obtain rfl : v = Value.ref p := rx
  obtain ⟨t, rfl⟩ := ry
  obtain ⟨f, hm, low, hf⟩ := kdi_map I.kIn kd
  have hi := hf i
  rw [lk] at hi
  obtain ⟨w, e, rw'⟩ := hi
  exact tail_any hm.typeIs slot_dict_getitem.lookup (wpAny_getItem_of (show (PySem.intKind X.prog X.w).is i (.int i t) = true by simp [PySem.intKind, Value.isInt]) hm e ⟨r, H, I.tok _, rw', q⟩) hs
def rInI (K : Frag) : R2 := fun x y H Q => ∃ p i kvs, x = .int i ∧ y = .ref p ∧ KDi K p kvs ∧ Q (.bl (kvs.lookup i).isSome) H
theorem op_inI : OpR X (compareOp .In) (rInI X.K) := by
  intro pins s σ H x y v u Q I rx ry h
  obtain ⟨p, i, kvs, rfl, rfl, kd, q⟩ := h
  obtain rfl : u = Value.ref p := ry
  obtain ⟨t, rfl⟩ := rx
  obtain ⟨f, hm, low, hf⟩ := kdi_map I.kIn kd
  have hi := hf i
  refine wpAny_in_of (show (PySem.intKind X.prog X.w).is i (.int i t) = true by simp [PySem.intKind, Value.isInt]) low hm ?_
  cases e : kvs.lookup i with
  | none =>
    rw [e] at hi q
    rw [hi]
    exact ⟨.bl _, H, I.tok _, rfl, q⟩
  | some r =>
    rw [e] at hi q
    obtain ⟨z, e2, _⟩ := hi
    rw [e2]
    exact ⟨.bl _, H, I.tok _, rfl, q⟩

/-! ### o.f as a target -/
def gAtt (K : Frag) (ta : TE) (f : Str) : TG := fun v σ H Q => ta σ H fun x H1 => ∃ a C dx fs, x = .ref a ∧ H1 a = some (.ins C dx fs) ∧ Cls K C ∧ NoAttr K C f ∧ fs.length < 1000 ∧ Q σ (upd H1 a (.ins C dx (putF f v fs)))
theorem pg_att {o : Expr} {ta : TE} {f : Str} {pos : Pos} (ho : PE X o ta)
    (ha : ∀ v, assign (.Attribute o f pos) X.env v = (do
      let ov ← holding [v] (eval o X.env)
      standAt pos
      holding [v, ov] (setAttr ov f v)
      release [v, ov] []) := by intro _; rfl) : PG X (.Attribute o f pos) (gAtt X.K ta f) := by
  refine ⟨fun pins s σ H v u Q I r h => ?_⟩
  rw [ha]
  refine wpAny_bind (wpAny_holding (thn (ho.run pins s σ H _ I h) fun ov s1 ⟨x, H1, I1, r1, a, C, dx, fs, ex, ea, c, n, l, q⟩ => ?_))
  subst ex
  obtain rfl : ov = Value.ref a := r1
  refine wpAny_bind (wpAny_standAt (wpAny_bind (wpAny_holding (setattr_ok I1 ea c n l r fun s2 I2 => ?_))))
  exact wpAny_release ⟨σ, _, I2, q⟩
end
end OB

set_option Elab.async false
set_option linter.all false
set_option maxRecDepth 100000
set_option maxHeartbeats 4000000
/-! OB, part e: a reading gone through step by step. -/
namespace OB
open PySem PySem.Spec PyProof.Rows L2 PySem.W
def rInt : List V → Hp → VK → Prop := fun xs H Q => (∃ i, xs = [.int i] ∧ Q (.int i) H) ∨ ∃ k, xs = [.bl k] ∧ Q (.int (if k then 1 else 0)) H
def rAbs : List V → Hp → VK → Prop := fun xs H Q => ∃ i, xs = [.int i] ∧ Q (.int (if i < 0 then -i else i)) H
def rMax2 : List V → Hp → VK → Prop := fun xs H Q => ∃ i j, xs = [.int i, .int j] ∧ Q (.int (if j > i then j else i)) H
def rMin2 : List V → Hp → VK → Prop := fun xs H Q => ∃ i j, xs = [.int i, .int j] ∧ Q (.int (if j < i then j else i)) H
def rLen (K : Frag) : List V → Hp → VK → Prop := fun xs H Q => ∃ p ys, xs = [.ref p] ∧ (SqL K H p ys ∨ SqT K H p ys) ∧ Q (.int ys.length) H
def rTuple (K : Frag) : List V → Hp → VK → Prop := fun xs H Q => ∃ p ys, xs = [.ref p] ∧ ((SqL K H p ys ∧ ∀ l, H l = none → Q (.ref l) (upd H l (.tup ys))) ∨ (SqT K H p ys ∧ Q (.ref p) H))
def rList (K : Frag) : List V → Hp → VK → Prop := fun xs H Q => ∃ p ys, xs = [.ref p] ∧ (SqL K H p ys ∨ SqT K H p ys) ∧ ∀ l, H l = none → Q (.ref l) (upd H l (.lst ys))
def rDivmod : List V → Hp → VK → Prop := fun xs H Q => ∃ i j, xs = [.int i, .int j] ∧ CDivP i j ∧ ∀ p, H p = none → Q (.ref p) (upd H p (.tup [.int (i / j), .int (i % j)]))
def rNewT (xs : List V) (H : Hp) (Q : VK) : Prop := xs.length ≤ sizeLine ∧ ∀ p, H p = none → Q (.ref p) (upd H p (.tup xs))
def rNewL (xs : List V) (H : Hp) (Q : VK) : Prop := xs.length ≤ sizeLine ∧ ∀ p, H p = none → Q (.ref p) (upd H p (.lst xs))
def rFld (K : Frag) (f : Str) (x : V) (H : Hp) (Q : VK) : Prop := ∃ a C dx fs v, x = .ref a ∧ H a = some (.ins C dx fs) ∧ Cls K C ∧ NoAttr K C f ∧ fs.lookup f = some v ∧ Q v H
def rPut (K : Frag) (f : Str) (v x : V) (H : Hp) (QH : Hp → Prop) : Prop := ∃ a C dx fs, x = .ref a ∧ H a = some (.ins C dx fs) ∧ Cls K C ∧ NoAttr K C f ∧ fs.length < 1000 ∧ QH (upd H a (.ins C dx (putF f v fs)))
section
variable {X : Cx}
theorem c_int : CallR X (.type "int") rInt := call_int1
theorem c_abs : CallR X (.builtin "abs") rAbs := call_abs
theorem c_max (hc : X.calm = true) : CallR X (.builtin "max") rMax2 := call_max2 hc
theorem c_min (hc : X.calm = true) : CallR X (.builtin "min") rMin2 := call_min2 hc
theorem c_len : CallR X (.builtin "len") (OB.rLen X.K) := call_len_seq
theorem c_tuple : CallR X (.type "tuple") (rTuple X.K) := call_tuple_of
theorem c_list : CallR X (.type "list") (rList X.K) := call_list_of
theorem c_divmod : CallR X (.builtin "divmod") rDivmod := call_divmodW
end
section
variable {K : Frag} {F : List (Addr × HO)} {G : List Ft} {σ : L2.St} {H : Hp} {Q : VK} {D : Ends} {v x y : V} {vs ws zs : List V} {i j n m : Nat} {a b c : Int} {p q : Bool} {P R : Prop}
  {ta tb tc te tv : TE} {t tk : TA} {tt u : TT} {t1 t2 : TS} {r r' : R2} {rc : List V → Hp → VK → Prop} {ru : V → Hp → VK → Prop} {rm : V → List V → Hp → VK → Prop} {sp : Sp} {E : XK} {ix : List Nat} {ad : Addr} {mn : Str} {T : String}
  {QB : Bool → Hp → Prop} {QL : List V → Hp → Prop} {QS : L2.St → Hp → Prop} {tg : TG} {tgs : TGs} {QI : It → Hp → Prop} {g : Int → Int → V} {C : Int → Int → Prop} {ds : List PyData} {d e : PyData}
/-! expressions -/
theorem g_start {ts : TS} {τ : L2.St} (e : τ = σ) (k : ts D σ H) : ts D τ H := e ▸ k
theorem g_var (h : σ[i]? = some (some v)) (k : Q v H) : tVar i σ H Q := ⟨v, h, k⟩
theorem g_c (k : Q v H) : tC v σ H Q := k
theorem g_op (k : ta σ H fun x H1 => tb σ H1 fun y H2 => r x y H2 Q) : tOp r ta tb σ H Q := k
theorem g_un (k : ta σ H fun x H1 => ru x H1 Q) : tUn ru ta σ H Q := k
theorem g_nil (k : QL [] H) : tNil σ H QL := k
theorem g_cons (k : ta σ H fun x H1 => t σ H1 fun xs H2 => QL (x :: xs) H2) : tCons ta t σ H QL := k
theorem g_cb (k : t σ H fun vs H1 => rc vs H1 Q) : tCB rc t σ H Q := k
theorem g_if (k : tt σ H fun c H1 => if c = true then ta σ H1 Q else tb σ H1 Q) : tIf tt ta tb σ H Q := k
theorem g_andV (k : ta σ H fun x H1 => ∃ c, x = .bl c ∧ if c = true then tb σ H1 Q else Q (.bl false) H1) : tAndV ta tb σ H Q := k
theorem g_orV (k : ta σ H fun x H1 => ∃ c, x = .bl c ∧ if c = true then Q (.bl true) H1 else tb σ H1 Q) : tOrV ta tb σ H Q := k
theorem g_notV (k : ta σ H fun x H1 => ∃ c, x = .bl c ∧ Q (.bl (!c)) H1) : tNotV ta σ H Q := k
theorem g_chain (k : ta σ H fun x H1 => tb σ H1 fun y H2 => r x y H2 fun z H3 => ∃ k, z = .bl k ∧ (if k = true then tc σ H3 fun w H4 => r' y w H4 Q else Q (.bl false) H3)) : tChain r r' ta tb tc σ H Q := k
theorem g_tup (k : t σ H fun xs H1 => rNewT xs H1 Q) : tTup t σ H Q := k
theorem g_lst (k : t σ H fun xs H1 => rNewL xs H1 Q) : tLst t σ H Q := k
theorem g_cg (k : t σ H fun vs H1 => tk σ H1 fun zs H2 => vs.length = n ∧ zs.length = m ∧ sp (pick ix (vs ++ zs)) H2 Q E) : tCg n m ix sp E t tk σ H Q := k
theorem g_mg (k : ta σ H fun x H1 => ∃ a dx fs, x = .ref a ∧ H1 a = some (.ins ad dx fs) ∧ fs.lookup mn = none ∧
  t σ H1 fun vs H2 => tk σ H2 fun zs H3 => (x :: vs).length = n ∧ zs.length = m ∧ sp (pick ix ((x :: vs) ++ zs)) H3 Q E) : tMg ad mn n m ix sp E ta t tk σ H Q := k
theorem g_kg (k : t σ H fun vs H1 => tk σ H1 fun zs H2 => vs.length + 1 = n ∧ zs.length = m ∧
  ∀ x dx, H2 x = none → H2 dx = none → dx ≠ x → sp (pick ix ((.ref x :: vs) ++ zs)) (upd (upd H2 dx (.own x)) x (.ins ad dx [])) (fun v H3 => v = .non ∧ Q (.ref x) H3) E) : tKg ad n m ix sp E t tk σ H Q := k
theorem g_pg (k : ta σ H fun y H1 => ∃ a dx fs, y = .ref a ∧ H1 a = some (.ins ad dx fs) ∧ sp [.ref a] H1 Q E) : tPg ad sp E ta σ H Q := k
theorem g_bm (k : ta σ H fun x H1 => tyV K T x H1 ∧ t σ H1 fun xs H2 => rm x xs H2 Q) : tBM K T rm ta t σ H Q := k
theorem g_bm0 (k : ta σ H fun x H1 => tyV K T x H1 ∧ rm x [] H1 Q) : tBM0 K T rm ta σ H Q := k
theorem g_fld {f : Str} (k : ta σ H fun x H1 => rFld K f x H1 Q) : tFld K ta f σ H Q := k
theorem g_sl {rs : V → Option Int → Option Int → Hp → VK → Prop} {tl th : TO} (k : te σ H fun x H1 => tl σ H1 fun l H2 => th σ H2 fun u H3 => rs x l u H3 Q) : tSl rs te tl th σ H Q := k
theorem g_nopart {QO : Option Int → Hp → Prop} (k : QO none H) : tNoPart σ H QO := k
theorem g_part {QO : Option Int → Hp → Prop} (k : te σ H fun x H1 => ∃ i, x = .int i ∧ QO (some i) H1) : tPart te σ H QO := k
theorem g_pint {a : Int} {f : Int → Prop} (k : f a) : ∃ i, V.int a = .int i ∧ f i := ⟨a, rfl, k⟩
theorem g_star (k : te σ H fun x H1 => ∃ p xs, x = V.ref p ∧ (SqT K H1 p xs ∨ SqL K H1 p xs) ∧ t σ H1 fun ys H2 => QL (xs ++ ys) H2) : StX.tStar K te t σ H QL := k
/-! tests -/
theorem g_test (k : te σ H fun x H' => ∃ k, x = .bl k ∧ QB k H') : tTest te σ H QB := k
theorem g_B (k : te σ H fun x H' => ∃ k, x = .bl k ∧ QB k H') : tB te σ H QB := k
theorem g_and (k : tt σ H fun c H1 => if c = true then u σ H1 QB else QB false H1) : tAnd tt u σ H QB := k
theorem g_or (k : tt σ H fun c H1 => if c = true then QB true H1 else u σ H1 QB) : tOr tt u σ H QB := k
theorem g_not (k : tt σ H fun c H1 => QB (!c) H1) : tNot tt σ H QB := k
theorem g_yes (k : QB true H) : tYes σ H QB := k
theorem g_bl (k : QB p H) : ∃ c, V.bl p = .bl c ∧ QB c H := ⟨p, rfl, k⟩
theorem g_blx {f : Bool → Prop} (k : f p) : ∃ c, V.bl p = .bl c ∧ f c := ⟨p, rfl, k⟩
/-! statements -/
theorem g_seq (k : t1 { D with nx := t2 D } σ H) : tSeq t1 t2 D σ H := k
theorem g_asg (k : te σ H fun x H1 => tg x σ H1 D.nx) : tAsg te tg D σ H := k
theorem g_name (k : QS (σ.set i (some v)) H) : gName i v σ H QS := k
theorem g_drop (k : te σ H fun _ H1 => D.nx σ H1) : tDrop te D σ H := k
theorem g_ret (k : te σ H D.rt) : tRet te D σ H := k
theorem g_retN (k : D.rt .non H) : tRetN D σ H := k
theorem g_ifS (k : tt σ H fun b H1 => if b = true then t1 D σ H1 else t2 D σ H1) : tIfS tt t1 t2 D σ H := k
theorem g_next (k : D.nx σ H) : tNext D σ H := k
theorem g_cont (k : D.ct σ H) : tCont D σ H := k
theorem g_break (k : D.bk σ H) : tBreak D σ H := k
theorem g_par (k : t σ H fun vs H1 => ∃ v w, vs = [v, w] ∧ D.nx ((σ.set i (some v)).set j (some w)) H1) : tPar i j t D σ H := k
theorem g_par2 {N : V → V → Prop} (k : N x y) : ∃ v w, [x, y] = [v, w] ∧ N v w := ⟨x, y, rfl, k⟩
theorem g_par3 {l : Nat} (k : t σ H fun vs H1 => ∃ u v w, vs = [u, v, w] ∧ D.nx (((σ.set i (some u)).set j (some v)).set l (some w)) H1) : tPar3 i j l t D σ H := k
theorem g_par33 {z : V} {N : V → V → V → Prop} (k : N x y z) : ∃ u v w, [x, y, z] = [u, v, w] ∧ N u v w := ⟨x, y, z, rfl, k⟩
theorem g_aug {ti : TIp} (h : σ[i]? = some (some v)) (k : te σ H fun y H1 => ti v y H1 fun z H2 => D.nx (σ.set i (some z)) H2) : tAug i te ti D σ H := ⟨v, h, k⟩
theorem g_gnil (k : QS σ H) : gNil [] σ H QS := ⟨rfl, k⟩
theorem g_gcons (k : tg v σ H fun σ' H' => tgs vs σ' H' QS) : gCons tg tgs (v :: vs) σ H QS := ⟨v, vs, rfl, k⟩
theorem g_nx {A B C : L2.St → Hp → Prop} {R : VK} (k : A σ H) : Ends.nx ⟨A, R, B, C⟩ σ H := k
theorem g_rt {A B C : L2.St → Hp → Prop} {R : VK} (k : R v H) : Ends.rt ⟨A, R, B, C⟩ v H := k
theorem g_bk {A B C : L2.St → Hp → Prop} {R : VK} (k : B σ H) : Ends.bk ⟨A, R, B, C⟩ σ H := k
theorem g_ct {A B C : L2.St → Hp → Prop} {R : VK} (k : C σ H) : Ends.ct ⟨A, R, B, C⟩ σ H := k
/-! operators by values -/
theorem g_I0 (k : Q (g a b) H) : rI0 g (.int a) (.int b) H Q := ⟨a, b, rfl, rfl, k⟩
theorem g_I (h : C a b) (k : Q (g a b) H) : rI C g (.int a) (.int b) H Q := ⟨a, b, rfl, rfl, h, k⟩
theorem g_U {f : Int → V} (k : Q (f a) H) : rU f (.int a) H Q := ⟨a, rfl, k⟩
theorem g_ipI {f : Int → Int → Int} (k : Q (.int (f a b)) H) : ipI f (.int a) (.int b) H Q := ⟨a, b, rfl, rfl, k⟩
theorem g_rAdd (k : Q (.int (a + b)) H) : L2.rAdd (.int a) (.int b) H Q := ⟨a, b, rfl, rfl, k⟩
theorem g_rSub (k : Q (.int (a - b)) H) : L2.rSub (.int a) (.int b) H Q := ⟨a, b, rfl, rfl, k⟩
theorem g_eqI (k : Q (.bl (decide (a = b))) H) : rEq (.int a) (.int b) H Q := ⟨rfl, by
  have e : decide (V.int a = V.int b) = decide (a = b) := by simp
  rw [e]
  exact k⟩
theorem g_neI (k : Q (.bl (decide (a ≠ b))) H) : rNe (.int a) (.int b) H Q := ⟨rfl, by
  have e : (!decide (V.int a = V.int b)) = decide (a ≠ b) := by simp
  rw [e]
  exact k⟩
theorem g_eqS {s z : Str} (k : Q (.bl (decide (s = z))) H) : rEq (.str s) (.str z) H Q := ⟨rfl, by
  have e : decide (V.str s = V.str z) = decide (s = z) := by simp
  rw [e]
  exact k⟩
theorem g_neS {s z : Str} (k : Q (.bl (decide (s ≠ z))) H) : rNe (.str s) (.str z) H Q := ⟨rfl, by
  have e : (!decide (V.str s = V.str z)) = decide (s ≠ z) := by simp
  rw [e]
  exact k⟩
theorem g_ite (h1 : p = true → P) (h2 : p = false → R) : if p = true then P else R := by
  cases p with
  | true => rw [if_pos rfl]; exact h1 rfl
  | false => rw [if_neg Bool.false_ne_true]; exact h2 rfl
theorem g_iteD {A : Prop} [Decidable A] (h1 : A → P) (h2 : ¬ A → R) : if decide A = true then P else R := by
  by_cases h : A
  · rw [if_pos (decide_eq_true h)]; exact h1 h
  · rw [if_neg (by rw [decide_eq_false h]; exact Bool.false_ne_true)]; exact h2 h
theorem g_T (h : p = true) (k : P) : if p = true then P else R := by rw [if_pos h]; exact k
theorem g_F (h : p = false) (k : R) : if p = true then P else R := by rw [if_neg (by rw [h]; exact Bool.false_ne_true)]; exact k
theorem g_TD {A : Prop} [Decidable A] (h : A) (k : P) : if decide A = true then P else R := g_T (decide_eq_true h) k
theorem g_FD {A : Prop} [Decidable A] (h : ¬ A) (k : R) : if decide A = true then P else R := g_F (decide_eq_false h) k
theorem g_tt (k : P) : if true = true then P else R := g_T rfl k
theorem g_ff (k : R) : if false = true then P else R := g_F rfl k
/-! built-in functions by values -/
theorem g_int (k : Q (.int a) H) : rInt [.int a] H Q := .inl ⟨a, rfl, k⟩
theorem g_intB (k : Q (.int (if p then 1 else 0)) H) : rInt [.bl p] H Q := .inr ⟨p, rfl, k⟩
theorem g_abs (k : Q (.int (if a < 0 then -a else a)) H) : rAbs [.int a] H Q := ⟨a, rfl, k⟩
theorem g_max (k : Q (.int (if b > a then b else a)) H) : rMax2 [.int a, .int b] H Q := ⟨a, b, rfl, k⟩
theorem g_min (k : Q (.int (if b < a then b else a)) H) : rMin2 [.int a, .int b] H Q := ⟨a, b, rfl, k⟩
theorem g_lenL {l : Addr} (h : SqL K H l vs) (k : Q (.int vs.length) H) : OB.rLen K [.ref l] H Q := ⟨l, vs, rfl, .inl h, k⟩
theorem g_lenT {l : Addr} (h : SqT K H l vs) (k : Q (.int vs.length) H) : OB.rLen K [.ref l] H Q := ⟨l, vs, rfl, .inr h, k⟩
theorem g_divmod (S : Sy K F G H) (h : CDivP a b) (k : ∀ p H', H p = none → Sy K F (.dat [.ref p] [.tuple [.int (a / b), .int (a % b)]] :: G) H' → Q (.ref p) H') : rDivmod [.int a, .int b] H Q :=
  ⟨a, b, rfl, h, fun p hp => k p _ hp (S.lay hp (.cons (.int _) (.cons (.int _) .nil)) rfl)⟩
/-! what stands -/
theorem g_ixL {l : Addr} (h : SqL K H l vs) (e : atI vs a = some v) (k : Q v H) : rIxL K (.ref l) (.int a) H Q := ⟨l, vs, a, v, rfl, rfl, h, e, k⟩
theorem g_ixT {l : Addr} (h : SqT K H l vs) (e : atI vs a = some v) (k : Q v H) : rIxT K (.ref l) (.int a) H Q := ⟨l, vs, a, v, rfl, rfl, h, e, k⟩
theorem g_setL {l : Addr} {QH : Hp → Prop} (h : H l = some (.lst vs)) (e : ixN vs.length a = some j) (k : QH (upd H l (.lst (vs.set j v)))) : rSetL (.ref l) (.int a) v H QH := ⟨l, vs, a, j, rfl, rfl, h, e, k⟩
theorem g_gsub {ts : TSet} {to ti : TE} (k : to σ H fun o H1 => ti σ H1 fun i H2 => ts o i v H2 fun H3 => QS σ H3) : gSub to ti ts v σ H QS := k
/-- a new tuple of data -/
theorem g_newT (S : Sy K F G H) (hd : DpAll K H vs ds) (hi : immAll ds = true) (hl : vs.length ≤ 100000) (k : ∀ p H', H p = none → Sy K F (.dat [.ref p] [.tuple ds] :: G) H' → Q (.ref p) H') :
    rNewT vs H Q :=
  ⟨Nat.le_trans hl (by decide), fun p hp => k p _ hp (S.lay hp hd hi)⟩
/-- a new list -/
theorem g_newL (S : Sy K F G H) (hl : vs.length ≤ 100000) (k : ∀ p H', H p = none → Sy K ((p, .lst vs) :: F) G H' → Q (.ref p) H') :
    rNewL vs H Q :=
  ⟨Nat.le_trans hl (by decide), fun p hp => k p _ hp (S.push hp)⟩
/-- a call -/
theorem g_call (h1 : vs.length = n) (h2 : zs.length = m) (k : sp (pick ix (vs ++ zs)) H Q E) : vs.length = n ∧ zs.length = m ∧ sp (pick ix (vs ++ zs)) H Q E := ⟨h1, h2, k⟩
/-- data unpacked -/
theorem g_unp {l : Addr} (S : Sy K F G H) (h : Dp K H (.ref l) (.tuple ds)) (m : immAll ds = true) (hl : ds.length = n) (k : ∀ xs, DpAll K H xs ds → Sy K F (.dat xs ds :: G) H → tgs xs σ H QS) : gTup K n tgs (.ref l) σ H QS := by
  obtain ⟨a, xs, e, h1, h2⟩ := dp_tuple h
  cases e
  exact ⟨l, xs, rfl, h1, (dps_length h2).trans hl, k xs h2 (S.fact h2 m)⟩
theorem g_unpT {l : Addr} (h : SqT K H l vs) (hl : vs.length = n) (k : tgs vs σ H QS) : gTup K n tgs (.ref l) σ H QS := ⟨l, vs, rfl, h, hl, k⟩
/-- a pair that an iterator has just made -/
theorem g_pair {l : Addr} (S : Sy K F G H) (hl : H l = none) (k : ∀ H', Sy K F (.tq l [x, y] :: G) H' → tgs [x, y] σ H' QS) : gTup K 2 tgs (.ref l) σ (upd H l (.tup [x, y])) QS :=
  g_unpT (.inl (.inl upd_same)) rfl (k _ ((S.over hl).add (.tq l [x, y]) (.inl (.inl upd_same))))
theorem g_neN {a b : Nat} (h : a = b) (k : R) : if decide ((a : Int) ≠ (b : Int)) = true then P else R := g_FD (fun z => z (by rw [h])) k
theorem g_neN' {a : Nat} {c : Int} (h : (a : Int) = c) (k : R) : if decide ((a : Int) ≠ c) = true then P else R := g_FD (fun z => z h) k
/-- append, extend -/
theorem g_app {l : Addr} (h : H l = some (.lst vs)) (hl : vs.length < 100000) (k : Q .non (upd H l (.lst (vs ++ [v])))) : rAppend (.ref l) [v] H Q := ⟨l, vs, v, rfl, rfl, h, Nat.lt_of_lt_of_le hl (by decide), k⟩
theorem g_ext {l o : Addr} (h : H l = some (.lst vs)) (h2 : H o = some (.lst ws)) (hl : vs.length + ws.length ≤ 100000) (k : Q .non (upd H l (.lst (vs ++ ws)))) : rExtend (.ref l) [.ref o] H Q := ⟨l, o, vs, ws, rfl, rfl, h, h2, Nat.le_trans hl (by decide), k⟩
/-- the same, what stands carried on -/
theorem g_setLS {l : Addr} {QH : Hp → Prop} {f : Nat} (S : Sy K F G H) (h : F[f]? = some (l, .lst vs)) (e : ixN vs.length a = some j) (k : ∀ H', Sy K (F.set f (l, .lst (vs.set j v))) G H' → (F.set f (l, .lst (vs.set j v)))[f]? = some (l, .lst (vs.set j v)) → QH H') : rSetL (.ref l) (.int a) v H QH :=
  g_setL (S.at f h) e (k _ (S.put f h rfl) (List.getElem?_set_self (List.getElem?_eq_some_iff.mp h).1))
theorem g_appS {l : Addr} {f : Nat} (S : Sy K F G H) (h : F[f]? = some (l, .lst vs)) (hl : vs.length < 100000) (k : ∀ H', Sy K (F.set f (l, .lst (vs ++ [v]))) G H' → Q .non H') : rAppend (.ref l) [v] H Q :=
  g_app (S.at f h) hl (k _ (S.put f h rfl))
theorem g_extS {l o : Addr} {f : Nat} (S : Sy K F G H) (h : F[f]? = some (l, .lst vs)) (h2 : H o = some (.lst ws)) (hl : vs.length + ws.length ≤ 100000) (k : ∀ H', Sy K (F.set f (l, .lst (vs ++ ws))) G H' → Q .non H') : rExtend (.ref l) [.ref o] H Q :=
  g_ext (S.at f h) h2 hl (k _ (S.put f h rfl))
theorem g_fldS {l : Addr} {f : Str} {C dx : Addr} {fs : List (Str × V)} (h : H l = some (.ins C dx fs)) (c : Cls K C) (n : NoAttr K C f) (e : fs.lookup f = some v) (k : Q v H) :
    rFld K f (.ref l) H Q := ⟨l, C, dx, fs, v, rfl, h, c, n, e, k⟩
theorem g_att {f : Str} (k : ta σ H fun x H1 => rPut K f v x H1 fun H2 => QS σ H2) : gAtt K ta f v σ H QS := k
theorem g_sfld {f : Str} (k : tv σ H fun y H1 => ta σ H1 fun x H2 => rPut K f y x H2 fun H3 => D.nx σ H3) : sFld K ta tv f D σ H := k
theorem g_attS {l : Addr} {f : Str} {C dx : Addr} {fs : List (Str × V)} {i : Nat} {QH : Hp → Prop} (S : Sy K F G H) (h : F[i]? = some (l, .ins C dx fs)) (c : Cls K C) (n : NoAttr K C f) (hl : fs.length < 1000) (k : ∀ H', Sy K (F.set i (l, .ins C dx (putF f v fs))) G H' → (F.set i (l, .ins C dx (putF f v fs)))[i]? = some (l, .ins C dx (putF f v fs)) → QH H') :
    rPut K f v (.ref l) H QH :=
  ⟨l, C, dx, fs, rfl, S.at i h, c, n, hl, k _ (S.put i h rfl) (List.getElem?_set_self (List.getElem?_eq_some_iff.mp h).1)⟩
def rAugE (C a : Addr) (f : Str) (z : V) (H : Hp) (QH : Hp → Prop) : Prop := ∃ dx' fs', H a = some (.ins C dx' fs') ∧ fs'.length < 1000 ∧ QH (upd H a (.ins C dx' (putF f z fs')))
def rAugF (K : Frag) (f : Str) (x : V) (H : Hp) (R : Addr → Addr → V → Prop) : Prop := ∃ a C dx fs v, x = .ref a ∧ H a = some (.ins C dx fs) ∧ Cls K C ∧ NoAttr K C f ∧ fs.lookup f = some v ∧ R C a v
theorem g_faug {f : Str} {ta tv : TE} {rd : V → V → Hp → VK → Prop} (k : ta σ H fun x H1 => rAugF K f x H1 fun C a v => tv σ H1 fun y H2 => rd v y H2 fun z H3 => rAugE C a f z H3 fun H4 => D.nx σ H4) : sFldAug K ta tv rd f D σ H := k
theorem g_augS {l : Addr} {f : Str} {C dx : Addr} {fs : List (Str × V)} {R : Addr → Addr → V → Prop} (h : H l = some (.ins C dx fs)) (c : Cls K C) (n : NoAttr K C f) (e : fs.lookup f = some v) (k : R C l v) : rAugF K f (.ref l) H R := ⟨l, C, dx, fs, v, rfl, h, c, n, e, k⟩
theorem g_augE {l : Addr} {f : Str} {C dx : Addr} {fs : List (Str × V)} {i : Nat} {QH : Hp → Prop} (S : Sy K F G H) (h : F[i]? = some (l, .ins C dx fs)) (hl : fs.length < 1000) (k : ∀ H', Sy K (F.set i (l, .ins C dx (putF f v fs))) G H' → (F.set i (l, .ins C dx (putF f v fs)))[i]? = some (l, .ins C dx (putF f v fs)) → QH H') : rAugE C l f v H QH :=
  ⟨dx, fs, S.at i h, hl, k _ (S.put i h rfl) (List.getElem?_set_self (List.getElem?_eq_some_iff.mp h).1)⟩
theorem g_tyl {l : Addr} (h : SqL K H l vs) (k : P) : tyV K "list" (.ref l) H ∧ P := ⟨.inl ⟨rfl, _, h⟩, k⟩
theorem g_tup0 {l : Addr} (S : Sy K F G H) (h : SqL K H l vs) (hd : DpAll K H vs ds) (hi : immAll ds = true) (k : ∀ p H', H p = none → Sy K F (.dat [.ref p] [.tuple ds] :: G) H' → Q (.ref p) H') :
    rTuple K [.ref l] H Q :=
  ⟨l, vs, rfl, .inl ⟨h, fun p hp => k p _ hp (S.lay hp hd hi)⟩⟩
theorem g_sum {l : Addr} {ns : List Int} (h : SqL K H l (ns.map V.int)) (k : Q (.int ns.sum) H) : rSum K [.ref l] H Q := ⟨l, ns, rfl, h, k⟩
theorem g_all {l : Addr} {bs : List Bool} (h : SqL K H l (bs.map V.bl)) (k : Q (.bl (bs.all id)) H) : rAll K [.ref l] H Q := ⟨l, bs, rfl, h, k⟩
theorem g_repr (h : Dp K H v d) (s : d.showable = true) (hn : d.hasDict = false) (hd : d.depth ≤ 60) (hl : d.shown.length ≤ sizeLine) (k : Q (.str d.shown) H) : rRepr K [v] H Q := ⟨v, d, rfl, h, s, hn, hd, hl, k⟩
end
/-! any subscript -/
def rIxU (K : Frag) : R2 := fun x y H Q => rIxL K x y H Q ∨ rIxT K x y H Q ∨ rIxI K x y H Q ∨ rIxS x y H Q
theorem ix_U {X : Cx} : IxR X (rIxU X.K) := by
  intro value slice pins s σ H x y v u Q I rx ry h hs
  rcases h with h | h | h | h
  · exact ix_list value slice pins s σ H x y v u Q I rx ry h hs
  · exact ix_tup value slice pins s σ H x y v u Q I rx ry h hs
  · exact ix_kdi value slice pins s σ H x y v u Q I rx ry h hs
  · exact ix_str value slice pins s σ H x y v u Q I rx ry h hs
/-- any slice -/
def rSlU (K : Frag) : V → Option Int → Option Int → Hp → VK → Prop := fun x lo hi H Q => rSlA K x lo hi H Q ∨ rSlL K x lo hi H Q
theorem sl_U {X : Cx} : SlR X (rSlU X.K) := by
  intro pins s σ H x v vl vu lo hi sl Q I rx hs pl pu h
  rcases h with h | h
  · exact sl_tupA pins s σ H x v vl vu lo hi sl Q I rx hs pl pu h
  · exact sl_list pins s σ H x v vl vu lo hi sl Q I rx hs pl pu h
theorem pg_tupK {X : Cx} {K : Frag} (hK : X.K = K) {es : List Expr} {k pos : _} {t : TGs} {n : Nat} (hc : X.calm = true) (h : PGs X es t)
    (hn : (assignEach es X.env).length = n := by rfl) (hst : (assignEach es X.env).findIdx? (·.1) = none := by rfl) : PG X (.Tuple es k pos) (gTup K n t) := hK ▸ pg_tup hc h hn hst
theorem ix_UK {X : Cx} {K : Frag} (h : X.K = K) : IxR X (rIxU K) := h ▸ ix_U
theorem sl_UK {X : Cx} {K : Frag} (h : X.K = K) : SlR X (rSlU K) := h ▸ sl_U
theorem toK {X : Cx} {K : Frag} {f : Value} {r : Frag → List V → Hp → VK → Prop} (h : X.K = K) (c : CallR X f (r X.K)) : CallR X f (r K) := h ▸ c
section
variable {K : Frag} {F : List (Addr × HO)} {G : List Ft} {H : Hp} {Q : VK} {vs : List V} {v : V} {a : Int} {l : Addr}
theorem g_ixUL (h : SqL K H l vs) (e : atI vs a = some v) (k : Q v H) : rIxU K (.ref l) (.int a) H Q := .inl (g_ixL h e k)
theorem g_ixUT (h : SqT K H l vs) (e : atI vs a = some v) (k : Q v H) : rIxU K (.ref l) (.int a) H Q := .inr (.inl (g_ixT h e k))
theorem g_ixUI {kvs : List (Int × V)} (h : KDi K l kvs) (e : kvs.lookup a = some v) (k : Q v H) : rIxU K (.ref l) (.int a) H Q := .inr (.inr (.inl ⟨l, a, v, kvs, rfl, rfl, h, e, k⟩))
theorem g_slT {lo hi : Option Int} {ys : List V} (S : Sy K F G H) (h : SqT K H l vs) (hw : Nat.beq (HT.sIx vs.length 0 lo) 0 = false) (e : cutV vs lo hi = ys) (k : ∀ p H', Sy K F (.tq p ys :: G) H' → Q (.ref p) H') : rSlU K (.ref l) lo hi H Q := by
  subst e
  refine .inl ⟨l, vs, rfl, h, fun z => ?_, fun _ p hp => k p _ ((S.over hp).add (.tq p _) (.inl (.inl upd_same)))⟩
  rw [z.1] at hw
  exact Bool.noConfusion hw
theorem atI_nn {α : Type} {xs : List α} {i : Int} {x : α} (h0 : 0 ≤ i) (h : xs[i.toNat]? = some x) : atI xs i = some x := by
  have hl := (List.getElem?_eq_some_iff.mp h).1
  unfold atI ixN
  rw [if_pos h0, if_pos (by omega)]
  exact h
theorem atI_ints {ns : List Int} {i : Int} (h0 : 0 ≤ i) (h1 : i < ns.length) : ∃ n, n ∈ ns ∧ atI (ns.map V.int) i = some (.int n) := by
  have hl : i.toNat < ns.length := by omega
  refine ⟨ns[i.toNat], List.getElem_mem hl, atI_nn h0 ?_⟩
  rw [List.getElem?_map, List.getElem?_eq_getElem hl]
  rfl
theorem cpow_ok {i j : Int} {a : Nat} (h : i.natAbs < 2 ^ a) (h0 : 0 ≤ j) (h1 : (a : Int) * j ≤ 2 ^ 27) : CPowX i j :=
  ⟨h0, Int.le_trans (Int.mul_le_mul_of_nonneg_right (Int.ofNat_le.mpr (PyProof.Rows.intBits_le h)) h0) h1⟩
theorem cdiv_ok {i j : Int} (h : 0 < j) (h2 : j < 2 ^ 64) : CDivW i j := wide_div (b := 64) h (by omega) (by decide) (by decide)
end
/-! isinstance -/
section
variable {K : Frag} {H : Hp} {Q : VK}
theorem cdivp_ok {i j : Int} (h : 0 < j) (h0 : 0 ≤ i) (h1 : i < 2 ^ 200) : CDivP i j :=
  divp_ok h (Nat.le_trans (PyProof.Rows.intBits_le (k := 200) (by omega)) (by omega))
theorem isi_int {a : Int} (k : Q (.bl true) H) : rIsi K [.int a, .ty "int"] H Q := ⟨_, _, _, _, true, rfl, .ty "int", .base (.int a), kit_ty (by decide +kernel), k⟩
theorem isi_intB {a : Int} (k : Q (.bl false) H) : rIsi K [.int a, .ty "bool"] H Q := ⟨_, _, _, _, false, rfl, .ty "bool", .base (.int a), kit_ty (by decide +kernel), k⟩
theorem isi_tup {l : Addr} {xs : List V} (h : SqT K H l xs) (k : Q (.bl true) H) : rIsi K [.ref l, .ty "tuple"] H Q := by
  refine ⟨_, _, .type "tuple", _, true, rfl, .ty "tuple", ?_, kit_ty (by decide +kernel), k⟩
  rcases h with (h | ⟨o, h⟩) | ⟨o, its, n, e, c, _⟩
  · exact .base (.tup h)
  · exact .fTuple h
  · exact .kTuple e c
end
end OB

set_option Elab.async false
set_option linter.all false
set_option maxRecDepth 100000
set_option maxHeartbeats 4000000
/-! OB, part f: how long the text of data is. -/
namespace OB
open PySem PySem.Spec PyProof.Rows L2 PySem.W
/-- its text has at most n signs, it is at most k deep -/
structure Small (n k : Nat) (d : PyData) : Prop where
  sh : d.showable = true
  nd : d.hasDict = false
  dp : d.depth ≤ k
  ln : d.shown.length ≤ n
structure SmallL (n k : Nat) (xs : List PyData) : Prop where
  sh : PyData.showableAll xs = true
  nd : PyData.hasDictAll xs = false
  dp : PyData.depthAll xs ≤ k
  ln : ((PyData.shownAll xs).map (·.length)).sum + 2 * xs.length ≤ n
theorem Small.mono {n k m j : Nat} {d : PyData} (h : Small n k d) (h1 : n ≤ m) (h2 : k ≤ j) : Small m j d := ⟨h.sh, h.nd, Nat.le_trans h.dp h2, Nat.le_trans h.ln h1⟩
theorem SmallL.mono {n k m j : Nat} {d : List PyData} (h : SmallL n k d) (h1 : n ≤ m) (h2 : k ≤ j) : SmallL m j d := ⟨h.sh, h.nd, Nat.le_trans h.dp h2, Nat.le_trans h.ln h1⟩
theorem Small.int {i : Int} (h : i.natAbs < 10 ^ 60) : Small 61 0 (.int i) := by
  have h2 : i.natAbs < 2 ^ 200 := Nat.lt_of_lt_of_le h (by decide)
  refine ⟨decide_eq_true ?_, rfl, Nat.le_refl _, ?_⟩
  · have q := PySem.Flt.log2_lt_of (k := 200) (by decide) h2
    omega
  · show (Str.ofString (toString i)).length ≤ 61
    rw [PySem.ofString_length]
    exact int_text_length_le10 (k := 60) (by decide) h
theorem Small.non : Small 4 0 .none := ⟨rfl, rfl, Nat.le_refl _, by decide +kernel⟩
theorem Small.bl {b : Bool} : Small 5 0 (.bool b) := ⟨rfl, rfl, Nat.le_refl _, by cases b <;> decide +kernel⟩
theorem Small.str {x : Str} {n : Nat} (h : (reprText x).length ≤ n) : Small n 0 (.str x) := ⟨rfl, rfl, Nat.le_refl _, h⟩
theorem SmallL.nil {k : Nat} : SmallL 0 k [] := ⟨rfl, rfl, Nat.zero_le _, Nat.le_refl _⟩
theorem SmallL.cons {n m k : Nat} {x : PyData} {xs : List PyData} (h : Small n k x) (t : SmallL m k xs) : SmallL (n + 2 + m) k (x :: xs) := by
  refine ⟨?_, ?_, ?_, ?_⟩
  · show (PyData.showable x && PyData.showableAll xs) = true
    rw [h.sh, t.sh]; rfl
  · show (PyData.hasDict x || PyData.hasDictAll xs) = false
    rw [h.nd, t.nd]; rfl
  · exact Nat.max_le.mpr ⟨h.dp, t.dp⟩
  · have h1 := h.ln
    have h2 := t.ln
    show (x.shown.length + ((PyData.shownAll xs).map (·.length)).sum) + 2 * (xs.length + 1) ≤ _
    omega
theorem SmallL.all {n k : Nat} : ∀ {xs : List PyData}, (∀ x ∈ xs, Small n k x) → SmallL ((n + 2) * xs.length) k xs
  | [], _ => SmallL.nil
  | x :: xs, h => by
    have q := SmallL.cons (h x (List.mem_cons_self ..)) (SmallL.all fun y hy => h y (List.mem_cons_of_mem _ hy))
    refine q.mono ?_ (Nat.le_refl _)
    rw [List.length_cons, Nat.mul_succ]
    omega
theorem shownAll_length : ∀ xs : List PyData, (PyData.shownAll xs).length = xs.length
  | [] => rfl
  | x :: xs => by
    show (PyData.shownAll xs).length + 1 = xs.length + 1
    rw [shownAll_length xs]
theorem Small.tup {n k : Nat} {xs : List PyData} (h : SmallL n k xs) : Small (n + 3) (k + 1) (.tuple xs) := by
  refine ⟨h.sh, h.nd, Nat.succ_le_succ h.dp, ?_⟩
  have q := tupleText_len_le (PyData.shownAll xs)
  have l := h.ln
  rw [shownAll_length] at q
  show (tupleText (PyData.shownAll xs)).length ≤ _
  omega
theorem Small.lst {n k : Nat} {xs : List PyData} (h : SmallL n k xs) : Small (n + 3) (k + 1) (.list xs) := by
  refine ⟨h.sh, h.nd, Nat.succ_le_succ h.dp, ?_⟩
  have q := listText_len_le (PyData.shownAll xs)
  have l := h.ln
  rw [shownAll_length] at q
  show (listText (PyData.shownAll xs)).length ≤ _
  omega
theorem Small.up {n k : Nat} {d : PyData} (h : Small n k d) : Small n (k + 1) d := h.mono (Nat.le_refl _) (Nat.le_succ _)
theorem g_reprS {K : Frag} {H : Hp} {Q : VK} {v : V} {d : PyData} {n k : Nat} (h : Dp K H v d) (s : Small n k d) (hn : n ≤ 16777216) (hk : k ≤ 60) (q : Q (.str d.shown) H) : rRepr K [v] H Q :=
  g_repr h s.sh s.nd (Nat.le_trans s.dp hk) (Nat.le_trans s.ln hn) q
/-! ### scalars -/
def toV : PyData → V
  | .none => .non
  | .bool b => .bl b
  | .int i => .int i
  | .str x => .str x
  | _ => .non
def scal1 : PyData → Bool
  | .none | .bool _ | .int _ | .str _ => true
  | _ => false
theorem dp_scal {K : Frag} {H : Hp} {v : V} {d : PyData} (h : Dp K H v d) (s : scal1 d = true) : v = toV d := by
  cases h with
  | non => rfl
  | bl b => rfl
  | int i => rfl
  | str x => rfl
  | lst _ _ => cases s
  | tup _ _ => cases s
theorem dps_scal {K : Frag} {H : Hp} : ∀ {ds : List PyData} {vs : List V}, DpAll K H vs ds → (∀ d ∈ ds, scal1 d = true) → vs = ds.map toV
  | [], _, h, _ => by cases h; rfl
  | d :: ds, _, h, s => by
    cases h with
    | cons h1 h2 =>
      rw [dp_scal h1 (s d (List.mem_cons_self ..)), dps_scal h2 fun e he => s e (List.mem_cons_of_mem _ he)]
      rfl
theorem scal_dp {K : Frag} {H : Hp} {d : PyData} (s : scal1 d = true) : Dp K H (toV d) d := by
  cases d with
  | none => exact .non
  | bool b => exact .bl b
  | int i => exact .int i
  | str x => exact .str x
  | _ => cases s
theorem sqt_scal {K : Frag} {H : Hp} {p : Addr} {ds : List PyData} (h : Dp K H (.ref p) (.tuple ds)) (s : ∀ d ∈ ds, scal1 d = true) : SqT K H p (ds.map toV) := by
  obtain ⟨a, xs, e, h1, h2⟩ := dp_tuple h
  cases e
  rw [← dps_scal h2 s]
  exact h1
inductive ScL : List PyData → List V → Prop where
  | nil : ScL [] []
  | int {i : Int} {ds : List PyData} {vs : List V} : ScL ds vs → ScL (.int i :: ds) (.int i :: vs)
  | str {i : Str} {ds : List PyData} {vs : List V} : ScL ds vs → ScL (.str i :: ds) (.str i :: vs)
  | bl {i : Bool} {ds : List PyData} {vs : List V} : ScL ds vs → ScL (.bool i :: ds) (.bl i :: vs)
  | non {ds : List PyData} {vs : List V} : ScL ds vs → ScL (.none :: ds) (.non :: vs)
theorem ScL.sc {ds : List PyData} {vs : List V} (h : ScL ds vs) : (∀ d ∈ ds, scal1 d = true) ∧ vs = ds.map toV := by
  induction h with
  | nil => exact ⟨fun d hd => (nomatch hd), rfl⟩
  | int _ ih | str _ ih | bl _ ih | non _ ih =>
    refine ⟨fun d hd => ?_, by rw [ih.2]; rfl⟩
    rcases List.mem_cons.mp hd with rfl | hd
    · rfl
    · exact ih.1 d hd
theorem g_unpD {K : Frag} {H : Hp} {n : Nat} {tgs : TGs} {σ : L2.St} {QS : L2.St → Hp → Prop} {l : Addr} {ds : List PyData} {ws : List V} (h : Dp K H (.ref l) (.tuple ds)) (s : ScL ds ws) (hl : ds.length = n) (k : tgs ws σ H QS) : gTup K n tgs (.ref l) σ H QS := by
  obtain ⟨h1, rfl⟩ := s.sc
  exact g_unpT (sqt_scal h h1) (by rw [List.length_map]; exact hl) k
theorem g_ne {α : Type} {x : α} [Decidable (x ≠ x)] {P R : Prop} (k : R) : if decide (x ≠ x) = true then P else R := g_FD (fun h => h rfl) k
theorem dp_at {K : Frag} {H : Hp} {v : V} {ds : List PyData} (h : Dp K H v (.tuple ds)) : ∃ a xs, v = .ref a ∧ SqT K H a xs ∧ DpAll K H xs ds := dp_tuple h
end OB

set_option Elab.async false
set_option linter.all false
set_option maxRecDepth 100000
set_option maxHeartbeats 4000000
/-! OB, part g: comprehensions and loops by what is known. -/
namespace OB
open PySem PySem.Spec PyProof.Rows L2 PySem.W
section
variable {K : Frag} {G : List Ft} {σ : L2.St} {H : Hp} {Q : VK} {D : Ends} {P R : Prop} {A : Prop} [Decidable A]
theorem g_nT (h : ¬ A) (k : P) : if (!decide A) = true then P else R := g_T (by rw [decide_eq_false h]; rfl) k
theorem g_nF (h : A) (k : R) : if (!decide A) = true then P else R := g_F (by rw [decide_eq_true h]; rfl) k
theorem g_ntt (k : R) : if (!true) = true then P else R := g_F rfl k
theorem g_nff (k : P) : if (!false) = true then P else R := g_T rfl k
/-! a list comprehension: I tells of (turn, what stands, the data so far) -/
/-- one turn -/
abbrev Turn1 (K : Frag) (G : List Ft) (I : Nat → List (Addr × HO) → List PyData → Prop) (σ : L2.St) (own : List Nat) (g : TG) (tt : TT) (te : TE) (i : Nat) (x : V) : Prop :=
  ∀ (Dp : Addr) (H : Hp) (F : List (Addr × HO)) (vs : List V) (ds : List PyData) (QE : VK) (QR : Hp → Prop), I i F ds → Sy K ((Dp, .lst vs) :: F) (.dat vs ds :: G) H →
    (∀ y d F' H', I (i + 1) F' (ds ++ [d]) → Sy K ((Dp, .lst vs) :: F') (.dat [y] [d] :: .dat vs ds :: G) H' → QE y H') →
    (∀ F' H', I (i + 1) F' ds → Sy K ((Dp, .lst vs) :: F') (.dat vs ds :: G) H' → QR H') →
    g x (wipe σ own) H fun σ2 H2 => wipe σ2 own = wipe σ own ∧ tt σ2 H2 fun b H3 => if b = true then te σ2 H3 QE else QR H3
variable {I : Nat → List (Addr × HO) → List PyData → Prop} {F : List (Addr × HO)} {own : List Nat} {g : TG} {tt : TT} {te : TE}
/-- what is kept between the turns -/
def LcP (K : Frag) (G : List Ft) (I : Nat → List (Addr × HO) → List PyData → Prop) (Dp : Addr) (i : Nat) (H : Hp) : Prop :=
  ∃ (F : List (Addr × HO)) (vs : List V) (ds : List PyData), I i F ds ∧ Sy K ((Dp, .lst vs) :: F) (.dat vs ds :: G) H
theorem lcp_start {Dp : Addr} (S : Sy K F G H) (h0 : I 0 F []) (hD : H Dp = none) : LcP K G I Dp 0 (upd H Dp (.lst [])) :=
  ⟨F, [], [], h0, (S.push hD).fact .nil rfl⟩
theorem lcp_turn {Dp : Addr} {i : Nat} {x : V} (hl : ∀ i F ds, I i F ds → ds.length < 100000) (t : Turn1 K G I σ own g tt te i x) (p : LcP K G I Dp i H) :
    g x (wipe σ own) H fun σ2 H2 => wipe σ2 own = wipe σ own ∧ tt σ2 H2 fun b H3 =>
      if b = true then te σ2 H3 fun y H4 => ∃ acc, H4 Dp = some (.lst acc) ∧ acc.length < sizeLine ∧ LcP K G I Dp (i + 1) (upd H4 Dp (.lst (acc ++ [y]))) else LcP K G I Dp (i + 1) H3 := by
  obtain ⟨F, vs, ds, hi, S⟩ := p
  refine t Dp H F vs ds _ (LcP K G I Dp (i + 1)) hi S (fun y d F' H' hi' S' => ?_) fun F' H' hi' S' => ⟨F', vs, ds, hi', S'⟩
  have len := dps_length (S'.dps 1 rfl)
  have lt := hl _ _ _ hi'
  rw [List.length_append] at lt
  refine ⟨vs, S'.at 0 rfl, Nat.lt_of_lt_of_le (by omega) (show 100000 ≤ sizeLine by decide), F', vs ++ [y], ds ++ [d], hi', ?_⟩
  have S2 : Sy K ((Dp, .lst (vs ++ [y])) :: F') (.dat [y] [d] :: .dat vs ds :: G) (upd H' Dp (.lst (vs ++ [y]))) := S'.put (o' := .lst (vs ++ [y])) 0 rfl rfl
  have m1 := S'.dpi 1 rfl
  have m2 := S'.dpi 0 rfl
  exact (S2.drop.drop).fact (dps_append (S2.dps 1 rfl) (S2.dps 0 rfl)) (by rw [immAll_append, m1, m2]; rfl)
/-- over a list or a tuple -/
theorem g_lcS {tl : TE} {a : Addr} {xs : List V} (k : Bool) (I : Nat → List (Addr × HO) → List PyData → Prop) (S : Sy K F G H) (ht : ∀ Q' : VK, Q' (.ref a) H → tl σ H Q') (h0 : I 0 F [])
    (hq : ∀ i F' ds H', I i F' ds → Sy K F' G H' → SqK K H' k a xs) (hl : ∀ i F ds, I i F ds → ds.length < 100000)
    (turn : ∀ i x, xs[i]? = some x → Turn1 K G I σ own g tt te i x)
    (done : ∀ Dp H' F' vs ds, H Dp = none → I xs.length F' ds → Sy K ((Dp, .lst vs) :: F') (.dat vs ds :: G) H' → Q (.ref Dp) H') : tLc (iSeq K tl) g tt te own σ H Q := by
  refine ht _ ⟨a, rfl, ?_⟩
  have q0 := hq 0 F [] H h0 S
  have sub : ∀ {Dp i H'}, LcP K G I Dp i H' → SqK K H' k a xs := fun ⟨F', vs, ds, hi, S'⟩ => hq _ F' ds _ hi S'.drop.less
  cases k with
  | true =>
    refine .inl ⟨⟨xs, q0⟩, fun Dp hD => lc_list (K := K) (a := a) (xs := xs) (LcP K G I Dp) (lcp_start S h0 hD) (fun i H' _ p => sub p) (fun i x H' hx p => lcp_turn hl (turn i x hx) p) fun H' p => ?_⟩
    obtain ⟨F', vs, ds, hi, S'⟩ := p
    exact done Dp H' F' vs ds hD hi S'
  | false =>
    refine .inr ⟨⟨xs, q0⟩, fun Dp hD => lc_tup (K := K) (a := a) (xs := xs) (LcP K G I Dp) (lcp_start S h0 hD) (fun i H' _ p => sub p) (fun i x H' hx p => lcp_turn hl (turn i x hx) p) fun H' p => ?_⟩
    obtain ⟨F', vs, ds, hi, S'⟩ := p
    exact done Dp H' F' vs ds hD hi S'
/-- over range(n), behind what its argument does -/
def RgLc (K : Frag) (g : TG) (tt : TT) (te : TE) (own : List Nat) (σ : L2.St) (Q : VK) (n : Nat) (H : Hp) : Prop := ∀ Dp, H Dp = none → ∃ W : Nat → Nat → Hp → Prop, (∃ m, W 0 m (upd H Dp (.lst []))) ∧ ∀ i m H, W i m H →
  ((Itr 0 n).stop i H ∧ Q (.ref Dp) H) ∨ ((Itr 0 n).go i H ∧ ∃ Nx : Hp → Prop, (∀ H', Nx H' → ∃ m', m' < m ∧ W (i + 1) m' H') ∧ ∀ x H', (Itr 0 n).yld i H x H' → g x (wipe σ own) H' fun σ2 H2 => wipe σ2 own = wipe σ own ∧ tt σ2 H2 fun b H3 =>
    if b = true then te σ2 H3 fun y H4 => ∃ acc, H4 Dp = some (.lst acc) ∧ acc.length < sizeLine ∧ Nx (upd H4 Dp (.lst (acc ++ [y]))) else Nx H3)
theorem g_lcR {ta : TA} (k : ta σ H fun vs H1 => ∃ j : Int, vs = [.int j] ∧ -(2 ^ 62) ≤ j ∧ j < 2 ^ 62 ∧ RgLc K g tt te own σ Q j.toNat H1) : tLc (iRng1 ta) g tt te own σ H Q := k
theorem g_rgJ {a : Int} {f : Int → Prop} (h1 : -(2 ^ 62) ≤ a) (h2 : a < 2 ^ 62) (k : f a) : ∃ j : Int, [V.int a] = [.int j] ∧ -(2 ^ 62) ≤ j ∧ j < 2 ^ 62 ∧ f j := ⟨a, rfl, h1, h2, k⟩
theorem rglc_of {n : Nat} (I : Nat → List (Addr × HO) → List PyData → Prop) (S : Sy K F G H) (h0 : I 0 F []) (hl : ∀ i F ds, I i F ds → ds.length < 100000)
    (turn : ∀ i, i < n → Turn1 K G I σ own g tt te i (.int (0 + i)))
    (done : ∀ Dp H' F' vs ds, H Dp = none → I n F' ds → Sy K ((Dp, .lst vs) :: F') (.dat vs ds :: G) H' → Q (.ref Dp) H') : RgLc K g tt te own σ Q n H := fun Dp hD => by
  refine lc_range (lo := 0) (n := n) (LcP K G I Dp) (lcp_start S h0 hD) (fun i H' hi p => lcp_turn hl (turn i hi) p) fun H' p => ?_
  obtain ⟨F', vs, ds, hi, S'⟩ := p
  exact done Dp H' F' vs ds hD hi S'
/-! loops: W tells of (turn, slots, heap) -/
theorem g_forS {tl : TE} {tb : TS} {a : Addr} {xs : List V} (k : Bool) (Pv : Nat → L2.St → Hp → Prop) (ht : ∀ Q' : VK, Q' (.ref a) H → tl σ H Q') (h0 : Pv 0 σ H)
    (hq : ∀ i σ' H', Pv i σ' H' → SqK K H' k a xs)
    (turn : ∀ i x σ' H', xs[i]? = some x → Pv i σ' H' → g x σ' H' fun σ2 H2 => tb { D with nx := Pv (i + 1), ct := Pv (i + 1), bk := D.nx } σ2 H2)
    (done : ∀ σ' H', Pv xs.length σ' H' → D.nx σ' H') : tFor (iSeq K tl) g tb D σ H := by
  refine ht _ ⟨a, rfl, ?_⟩
  have q0 := hq 0 σ H h0
  cases k with
  | true => exact .inl ⟨⟨xs, q0⟩, for_list (K := K) (a := a) (xs := xs) Pv h0 (fun i σ' H' _ p => hq i σ' H' p) turn done⟩
  | false => exact .inr ⟨⟨xs, q0⟩, for_tup (K := K) (a := a) (xs := xs) Pv h0 (fun i σ' H' _ p => hq i σ' H' p) turn done⟩
def RgFor (g : TG) (tb : TS) (D : Ends) (σ : L2.St) (n : Nat) (H : Hp) : Prop := ∃ W : Nat → Nat → L2.St → Hp → Prop, (∃ m, W 0 m σ H) ∧ ∀ i m σ H, W i m σ H →
  ((Itr 0 n).stop i H ∧ D.nx σ H) ∨ ((Itr 0 n).go i H ∧ ∃ N : L2.St → Hp → Prop, (∀ σ' H', N σ' H' → ∃ m', m' < m ∧ W (i + 1) m' σ' H') ∧ ∀ x H', (Itr 0 n).yld i H x H' → g x σ H' fun σ2 H2 => tb { D with nx := N, ct := N, bk := D.nx } σ2 H2)
theorem g_forR {ta : TA} {tb : TS} (k : ta σ H fun vs H1 => ∃ j : Int, vs = [.int j] ∧ -(2 ^ 62) ≤ j ∧ j < 2 ^ 62 ∧ RgFor g tb D σ j.toNat H1) : tFor (iRng1 ta) g tb D σ H := k
theorem rgfor_of {tb : TS} {n : Nat} (Pv : Nat → L2.St → Hp → Prop) (h0 : Pv 0 σ H) (turn : ∀ i σ' H', i < n → Pv i σ' H' → g (.int (0 + i)) σ' H' fun σ2 H2 => tb { D with nx := Pv (i + 1), ct := Pv (i + 1), bk := D.nx } σ2 H2)
    (done : ∀ σ' H', Pv n σ' H' → D.nx σ' H') : RgFor g tb D σ n H := for_range (lo := 0) Pv h0 turn done
def rEnum (K : Frag) (vs : List V) (H : Hp) (R : It → Hp → Prop) : Prop := ∃ k a xs, vs = [.ref a] ∧ SqK K H k a xs ∧ R (IteK K k a) H
def rZip (K : Frag) (vs : List V) (H : Hp) (R : It → Hp → Prop) : Prop := ∃ k l a b xs ys, vs = [.ref a, .ref b] ∧ SqK K H k a xs ∧ SqK K H l b ys ∧ R (ItzK K k l a b) H
theorem g_forE {ta : TA} {tb : TS} (k : ta σ H fun vs H1 => rEnum K vs H1 fun J H1 => ∃ W : Nat → Nat → L2.St → Hp → Prop, (∃ m, W 0 m σ H1) ∧ ∀ i m σ H, W i m σ H →
  (J.stop i H ∧ D.nx σ H) ∨ (J.go i H ∧ ∃ N : L2.St → Hp → Prop, (∀ σ' H', N σ' H' → ∃ m', m' < m ∧ W (i + 1) m' σ' H') ∧ ∀ x H', J.yld i H x H' → g x σ H' fun σ2 H2 => tb { D with nx := N, ct := N, bk := D.nx } σ2 H2)) : tFor (iEnumK K ta) g tb D σ H := k
theorem g_forZ {ta : TA} {tb : TS} (k : ta σ H fun vs H1 => rZip K vs H1 fun J H1 => ∃ W : Nat → Nat → L2.St → Hp → Prop, (∃ m, W 0 m σ H1) ∧ ∀ i m σ H, W i m σ H →
  (J.stop i H ∧ D.nx σ H) ∨ (J.go i H ∧ ∃ N : L2.St → Hp → Prop, (∀ σ' H', N σ' H' → ∃ m', m' < m ∧ W (i + 1) m' σ' H') ∧ ∀ x H', J.yld i H x H' → g x σ H' fun σ2 H2 => tb { D with nx := N, ct := N, bk := D.nx } σ2 H2)) : tFor (iZipK K ta) g tb D σ H := k
/-- a loop without end in sight: m falls -/
theorem g_while {c : TT} {tb : TS} (W : Nat → L2.St → Hp → Prop) (m0 : Nat) (h0 : W m0 σ H)
    (turn : ∀ m σ' H', W m σ' H' → c σ' H' fun b H1 => if b = true then tb { D with nx := fun σ2 H2 => ∃ m', m' < m ∧ W m' σ2 H2, ct := fun σ2 H2 => ∃ m', m' < m ∧ W m' σ2 H2, bk := D.nx } σ' H1 else D.nx σ' H1)
    (mono : ∀ σ' H' (Q Q' : Bool → Hp → Prop), (∀ b H1, Q b H1 → Q' b H1) → c σ' H' Q → c σ' H' Q') : tWhile c tb D σ H := by
  refine ⟨W, ⟨m0, h0⟩, fun m σ' H' w => mono σ' H' _ _ (fun b H1 q => ?_) (turn m σ' H' w)⟩
  cases b with
  | true => exact ⟨_, fun _ _ h => h, q⟩
  | false => exact q
end
end OB

set_option Elab.async false
set_option linter.all false
set_option maxRecDepth 100000
set_option maxHeartbeats 4000000
/-! OB, part h: more steps. -/
namespace OB
open PySem PySem.Spec PyProof.Rows L2 PySem.W
section
variable {K : Frag} {G : List Ft} {σ : L2.St} {H : Hp} {Q : VK} {D : Ends} {P R : Prop}
/-- list(range(..)) -/
def rNewRg (a b : Int) (H : Hp) (Q : VK) : Prop := RgOk a b ∧ ∀ q, H q = none → Q (.ref q) (upd H q (.lst (rgV a b)))
theorem g_lstRg {te : L2.St → Hp → (Int → Int → Hp → Prop) → Prop} (k : te σ H fun a b H1 => rNewRg a b H1 Q) : tLstRg te σ H Q := k
theorem g_rg1 {ta : TE} {R : Int → Int → Hp → Prop} (k : ta σ H fun x H1 => ∃ n, x = .int n ∧ R 0 n H1) : tRg1 ta σ H R := k
theorem g_rg2 {ta tb : TE} {R : Int → Int → Hp → Prop} (k : ta σ H fun x H1 => tb σ H1 fun y H2 => ∃ i j, x = .int i ∧ y = .int j ∧ R i j H2) : tRg2 ta tb σ H R := k
theorem g_newRg {F : List (Addr × HO)} {a b : Int} (S : Sy K F G H) (h : RgOk a b) (k : ∀ p H', Sy K ((p, .lst (rgV a b)) :: F) G H' → Q (.ref p) H') : rNewRg a b H Q := ⟨h, fun p hp => k p _ (S.push hp)⟩
theorem rgV0 (b : Int) : rgV 0 b = ((List.range b.toNat).map fun i : Nat => (i : Int)).map V.int := by
  unfold rgV
  rw [List.map_map, Int.sub_zero]
  congr 1
  funext i
  show V.int (0 + (i : Int)) = V.int (i : Int)
  rw [Int.zero_add]
end
end OB

set_option Elab.async false
set_option linter.all false
set_option maxRecDepth 100000
set_option maxHeartbeats 4000000
/-! OB, part i: zip of unlike lengths, comprehensions over zip, dicts of ints updated and sorted, deep equality. -/
namespace OB
open PySem PySem.Spec PyProof.Rows L2 PySem.W
/-! ### zip: it ends with the shorter one -/
theorem walk_zipK {K : Frag} {k l : Bool} {a b : Addr} {xs ys : List V} : Walk (ItzK K k l a b) (min xs.length ys.length) (fun H => SqK K H k a xs ∧ SqK K H l b ys) (YPair (xs[·]?) (ys[·]?)) where
  goes := fun i H hi ⟨qa, qb⟩ => ⟨xs, ys, xs[i]'(by omega), ys[i]'(by omega), qa, qb, List.getElem?_eq_getElem _, List.getElem?_eq_getElem _⟩
  stops := fun H ⟨qa, qb⟩ => ⟨xs, ys, qa, qb, Nat.min_le_left .., Nat.min_le_right .., by omega⟩
  yields := fun i H x H' hi ⟨qa, qb⟩ ⟨T, u, v, e1, hT, e2, f1, f2⟩ => ⟨T, u, v, e1, hT, e2, f1 xs qa, f2 ys qb⟩
section
variable {K : Frag} {F : List (Addr × HO)} {G : List Ft} {σ : L2.St} {H : Hp} {Q : VK} {D : Ends} {g : TG} {tt : TT} {te : TE} {tb : TS} {own : List Nat}
def ZipLc (K : Frag) (g : TG) (tt : TT) (te : TE) (own : List Nat) (σ : L2.St) (Q : VK) (vs : List V) (H1 : Hp) : Prop := ∃ k l a b xs ys, vs = [.ref a, .ref b] ∧ SqK K H1 k a xs ∧ SqK K H1 l b ys ∧ ∀ Da, H1 Da = none → ∃ W : Nat → Nat → Hp → Prop, (∃ m, W 0 m (upd H1 Da (.lst []))) ∧ ∀ i m H, W i m H →
  ((ItzK K k l a b).stop i H ∧ Q (.ref Da) H) ∨ ((ItzK K k l a b).go i H ∧ ∃ Nx : Hp → Prop, (∀ H', Nx H' → ∃ m', m' < m ∧ W (i + 1) m' H') ∧ ∀ x H', (ItzK K k l a b).yld i H x H' → g x (wipe σ own) H' fun σ2 H2 => wipe σ2 own = wipe σ own ∧ tt σ2 H2 fun b H3 =>
    if b = true then te σ2 H3 fun y H4 => ∃ acc, H4 Da = some (.lst acc) ∧ acc.length < sizeLine ∧ Nx (upd H4 Da (.lst (acc ++ [y]))) else Nx H3)
theorem g_lcZ {ta : TA} (k : ta σ H fun vs H1 => ZipLc K g tt te own σ Q vs H1) : tLc (iZipK K ta) g tt te own σ H Q := k
/-- the pair at T was just made -/
def TurnZ (K : Frag) (G : List Ft) (I : Nat → List (Addr × HO) → List PyData → Prop) (σ : L2.St) (own : List Nat) (g : TG) (tt : TT) (te : TE) (i : Nat) (x y : V) : Prop :=
  ∀ (Da T : Addr) (H2 : Hp) (F2 : List (Addr × HO)) (vs : List V) (ds : List PyData) (QE : VK) (QR : Hp → Prop), I i F2 ds → H2 T = none → Sy K ((Da, .lst vs) :: F2) (.dat vs ds :: G) H2 →
    (∀ (z : V) (d : PyData) F' H', I (i + 1) F' (ds ++ [d]) → Sy K ((Da, .lst vs) :: F') (.dat [z] [d] :: .dat vs ds :: G) H' → QE z H') →
    (∀ F' H', I (i + 1) F' ds → Sy K ((Da, .lst vs) :: F') (.dat vs ds :: G) H' → QR H') →
    g (.ref T) (wipe σ own) (upd H2 T (.tup [x, y])) fun σ2 H2 => wipe σ2 own = wipe σ own ∧ tt σ2 H2 fun b H3 => if b = true then te σ2 H3 QE else QR H3
theorem ziplc_of {k l : Bool} {a b : Addr} {xs ys : List V} (I : Nat → List (Addr × HO) → List PyData → Prop) (S : Sy K F G H) (h0 : I 0 F [])
    (hq : ∀ i F' ds H', I i F' ds → Sy K F' G H' → SqK K H' k a xs ∧ SqK K H' l b ys) (hl : ∀ i F ds, I i F ds → ds.length < 100000)
    (turn : ∀ i x y, xs[i]? = some x → ys[i]? = some y → TurnZ K G I σ own g tt te i x y)
    (done : ∀ Da H' F' vs ds, H Da = none → I (min xs.length ys.length) F' ds → Sy K ((Da, .lst vs) :: F') (.dat vs ds :: G) H' → Q (.ref Da) H') : ZipLc K g tt te own σ Q [.ref a, .ref b] H := by
  obtain ⟨q1, q2⟩ := hq 0 F [] H h0 S
  refine ⟨k, l, a, b, xs, ys, rfl, q1, q2, fun Da hD => lc_it (walk_zipK (K := K) (xs := xs) (ys := ys)) (LcP K G I Da) (lcp_start S h0 hD) (fun i H' _ p => ?_) (fun i v H1 H' hi p y => ?_) fun H' p => ?_⟩
  · obtain ⟨F', vs, ds, hi, S'⟩ := p
    exact hq i F' ds _ hi S'.drop.less
  · obtain ⟨F', vs, ds, hI, S'⟩ := p
    obtain ⟨T, x, y, rfl, hT, rfl, e1, e2⟩ := y
    refine turn i x y e1 e2 Da T H1 F' vs ds _ (LcP K G I Da (i + 1)) hI hT S' (fun z d F2 H2 hi' S2 => ?_) fun F2 H2 hi' S2 => ⟨F2, vs, ds, hi', S2⟩
    have len := dps_length (S2.dps 1 rfl)
    have lt := hl _ _ _ hi'
    rw [List.length_append] at lt
    refine ⟨vs, S2.at 0 rfl, Nat.lt_of_lt_of_le (by omega) (show 100000 ≤ sizeLine by decide), F2, vs ++ [z], ds ++ [d], hi', ?_⟩
    have S3 : Sy K ((Da, .lst (vs ++ [z])) :: F2) (.dat [z] [d] :: .dat vs ds :: G) (upd H2 Da (.lst (vs ++ [z]))) := S2.put (o' := .lst (vs ++ [z])) 0 rfl rfl
    exact (S3.drop.drop).fact (dps_append (S3.dps 1 rfl) (S3.dps 0 rfl)) (by rw [immAll_append, S2.dpi 1 rfl, S2.dpi 0 rfl]; rfl)
  · obtain ⟨F', vs, ds, hI, S'⟩ := p
    exact done Da H' F' vs ds hD hI S'
/-- a for over zip -/
theorem for_zipM {k l : Bool} {a b : Addr} {xs ys : List V} (Pv : Nat → L2.St → Hp → Prop) (h0 : Pv 0 σ H) (hq : ∀ i σ H, Pv i σ H → SqK K H k a xs ∧ SqK K H l b ys)
    (hs : ∀ i x y T σ H, xs[i]? = some x → ys[i]? = some y → Pv i σ H → H T = none → g (.ref T) σ (upd H T (.tup [x, y])) fun σ2 H2 => tb { D with nx := Pv (i + 1), ct := Pv (i + 1), bk := D.nx } σ2 H2) (hd : ∀ σ H, Pv (min xs.length ys.length) σ H → D.nx σ H) :
    ∃ W : Nat → Nat → L2.St → Hp → Prop, (∃ m, W 0 m σ H) ∧ ∀ i m σ H, W i m σ H →
      ((ItzK K k l a b).stop i H ∧ D.nx σ H) ∨ ((ItzK K k l a b).go i H ∧ ∃ N : L2.St → Hp → Prop, (∀ σ' H', N σ' H' → ∃ m', m' < m ∧ W (i + 1) m' σ' H') ∧ ∀ x H', (ItzK K k l a b).yld i H x H' → g x σ H' fun σ2 H2 => tb { D with nx := N, ct := N, bk := D.nx } σ2 H2) :=
  for_it walk_zipK Pv h0 (fun i σ H _ p => hq i σ H p) (fun i v σ H H' hi p y => by
    obtain ⟨T, x, y, rfl, hT, rfl, e1, e2⟩ := y
    exact hs i x y T σ H e1 e2 p hT) hd
end
/-! ### dicts of ints -/
def rUpdD (x : V) (xs : List V) (H : Hp) (Q : VK) : Prop := ∃ a b kvs more, x = .ref a ∧ xs = [.ref b] ∧ a ≠ b ∧ H a = some (.dK kvs) ∧ H b = some (.dK more) ∧ kvs.length + more.length ≤ sizeLine ∧ Q .non (upd H a (.dK (mergeK kvs more)))
theorem mt_dupdate {X : Cx} : MtR X "dict.update" rUpdD := by
  intro pins s σ H x xs v us Q I rx rv h
  obtain ⟨a, b, kvs, more, rfl, rfl, hne, ha, hb, hz, q⟩ := h
  cases rx
  obtain ⟨u, rfl, ru⟩ := vals1 rv
  cases ru
  obtain ⟨z1, lo1, vs1, rel1, dd1⟩ := dk_of I.hok ha
  obtain ⟨z2, lo2, vs2, rel2, dd2⟩ := dk_of I.hok hb
  have e1 : vs1.length = kvs.length := rel1.length.symm
  have e2 : vs2.length = more.length := rel2.length.symm
  refine call_meetsIn PySem.F.slot_dict_update dd1.typeIs PySem.F.entry_dict_update (PySem.F.args_dict_update_2 _ _) (meets_dict_update (mixKind X.prog X.w) a b hne lo2) ⟨vs1, vs2, dd1, dd2, by omega, fun h' d1 d2 hs => ?_⟩
  have he : ∃ q, h'.get? a = some q := let ⟨q, _, _, hq, _⟩ := d1; ⟨q, hq⟩
  have hl : (mergeK kvs more).length ≤ sizeLine := Nat.le_trans (length_mergeK more kvs) hz
  exact ⟨.non, _, d_write I (by rw [ha]; exact True.intro) hs he (dk_new hl lo1 (rel2.merge rel1) d1), rfl, q⟩
end OB

set_option Elab.async false
set_option linter.all false
set_option maxRecDepth 100000
set_option maxHeartbeats 4000000
/-! OB, part j: steps for dicts of ints, deep equality of small tuples, truth of lists, last items. -/
namespace OB
open PySem PySem.Spec PyProof.Rows L2 PySem.W
section
variable {K : Frag} {F : List (Addr × HO)} {G : List Ft} {σ : L2.St} {H : Hp} {Q : VK} {D : Ends} {g : TG} {tt : TT} {te tk tv : TE} {tb : TS} {own : List Nat}
/-- {k: v} with a whole number and a value at hand -/
theorem g_disp1 {i : Int} {v : V} (S : Sy K F G H) (hk : ∀ H' (Q' : VK), Q' (.int i) H' → tk σ H' Q') (hv : ∀ H' (Q' : VK), Q' v H' → tv σ H' Q') (k : ∀ p H', Sy K ((p, .dK [(.inl i, v)]) :: F) G H' → Q (.ref p) H') : tDisp [(tk, tv)] σ H Q := by
  intro p hp
  refine hk _ _ (hv _ _ ⟨upd_same, [(.inl i, v)], rfl, Nat.le_of_ble_eq_true rfl, ?_⟩)
  rw [L2.upd_upd]
  exact k p _ (S.push hp)
/-- a dict comprehension over a tuple that stays, the objects around staying as they are -/
theorem g_dcT {tl : TE} {a : Addr} {xs : List V} (I : Nat → List (Key × V) → Prop) (S : Sy K F (.tq a xs :: G) H) (ht : ∀ Q' : VK, Q' (.ref a) H → tl σ H Q') (h0 : I 0 []) (hl : ∀ i kvs, I i kvs → kvs.length < 100000)
    (turn : ∀ i x, xs[i]? = some x → ∀ (Da : Addr) (H2 : Hp) (kvs : List (Key × V)) (QE : V → V → Hp → Prop) (QR : Hp → Prop), I i kvs → Sy K ((Da, .dK kvs) :: F) (.tq a xs :: G) H2 →
      (∀ (n : Int) z H', I (i + 1) (putK kvs (.inl n) z) → Sy K ((Da, .dK kvs) :: F) (.tq a xs :: G) H' → QE (.int n) z H') → (∀ H', I (i + 1) kvs → Sy K ((Da, .dK kvs) :: F) (.tq a xs :: G) H' → QR H') →
      g x (wipe σ own) H2 fun σ2 H3 => wipe σ2 own = wipe σ own ∧ tt σ2 H3 fun b H4 => if b = true then tk σ2 H4 fun y H5 => tv σ2 H5 fun z H6 => QE y z H6 else QR H4)
    (done : ∀ Da H' kvs, H Da = none → I xs.length kvs → Sy K ((Da, .dK kvs) :: F) (.tq a xs :: G) H' → Q (.ref Da) H') : tDc (iSeq K tl) g tt tk tv own σ H Q := by
  refine ht _ ⟨a, rfl, .inr ⟨⟨xs, S.tqs 0 rfl⟩, fun Da hD => ?_⟩⟩
  refine dc_tup (K := K) (a := a) (xs := xs) (fun i H' => ∃ kvs, I i kvs ∧ Sy K ((Da, .dK kvs) :: F) (.tq a xs :: G) H') ⟨[], h0, S.push hD⟩ (fun i H' _ ⟨kvs, _, S'⟩ => S'.tqs 0 rfl) (fun i x H' hx ⟨kvs, hi, S'⟩ => ?_) (fun H' ⟨kvs, hi, S'⟩ => done Da H' kvs hD hi S')
  have hz := hl i kvs hi
  refine turn i x hx Da H' kvs _ (fun H2 => ∃ kvs, I (i + 1) kvs ∧ Sy K ((Da, .dK kvs) :: F) (.tq a xs :: G) H2) hi S' (fun n z H2 hi2 S2 => ?_) fun H2 hi2 S2 => ⟨kvs, hi2, S2⟩
  exact ⟨kvs, .inl n, rfl, S2.at 0 rfl, Nat.lt_of_lt_of_le hz (by decide), _, hi2, S2.put (o' := .dK (putK kvs (.inl n) z)) 0 rfl rfl⟩
theorem Sy.ne {p q : Addr} {o u : HO} {i j : Nat} (S : Sy K F G H) (h1 : F[i]? = some (p, o)) (h2 : F[j]? = some (q, u)) (h : i ≠ j) : p ≠ q := by
  intro e
  subst e
  have nd := S.nd
  have g1 : (F.map (·.1))[i]? = some p := by rw [List.getElem?_map, h1]; rfl
  have g2 : (F.map (·.1))[j]? = some p := by rw [List.getElem?_map, h2]; rfl
  obtain ⟨l1, e1⟩ := List.getElem?_eq_some_iff.mp g1
  obtain ⟨l2, e2⟩ := List.getElem?_eq_some_iff.mp g2
  have pw := List.pairwise_iff_getElem.mp nd
  rcases Nat.lt_or_gt_of_ne h with c | c
  · exact pw i j l1 l2 c (e1.trans e2.symm)
  · exact pw j i l2 l1 c (e2.trans e1.symm)
theorem g_tyd {d : Addr} {kvs : List (Key × V)} {R : Prop} (h : H d = some (.dK kvs)) (k : R) : tyV K "dict" (.ref d) H ∧ R := ⟨.inr (.inr (.inl ⟨rfl, .inl ⟨kvs, h⟩⟩)), k⟩
theorem g_dupd {d o : Addr} {kvs more : List (Key × V)} {i j : Nat} (S : Sy K F G H) (h1 : F[i]? = some (d, .dK kvs)) (h2 : F[j]? = some (o, .dK more)) (hij : i ≠ j) (hl : kvs.length + more.length ≤ 100000)
    (k : ∀ H', Sy K (F.set i (d, .dK (mergeK kvs more))) G H' → Q .non H') : rUpdD (.ref d) [.ref o] H Q :=
  ⟨d, o, kvs, more, rfl, rfl, S.ne h1 h2 hij, S.at i h1, S.at j h2, Nat.le_trans hl (by decide), k _ (S.put i h1 rfl)⟩
/-- sorted of a dict of few ints -/
def rSortDI : List V → Hp → VK → Prop := fun xs H Q => ∃ (a : Addr) (kvs : List (Key × V)) (ks : List Int), xs = [.ref a] ∧ Rd H a (.dK kvs) ∧ kvs.map (·.1) = ks.map Sum.inl ∧ ks.length < 64 ∧
    ∀ (ys : List Int) (p : Addr), ys.Perm ks → ys.Pairwise (· ≤ ·) → H p = none → Q (.ref p) (upd H p (.lst (ys.map V.int)))
theorem c_sortDI {X : Cx} (hc : X.calm = true) : CallR X (.builtin "sorted") rSortDI := call_sortedDI hc
theorem g_sortDI {d : Addr} {kvs : List (Key × V)} {ks : List Int} {i : Nat} (S : Sy K F G H) (h : F[i]? = some (d, .dK kvs)) (hk : kvs.map (·.1) = ks.map Sum.inl) (hl : ks.length < 64)
    (k : ∀ (ys : List Int) p H', ys.Perm ks → ys.Pairwise (· ≤ ·) → Sy K ((p, .lst (ys.map V.int)) :: F) G H' → Q (.ref p) H') : rSortDI [.ref d] H Q :=
  ⟨d, kvs, ks, rfl, .inl (S.at i h), hk, hl, fun ys p e1 e2 hp => k ys p _ e1 e2 (S.push hp)⟩
/-- what keys a dict of ints has behind puts and merges -/
def KeysI (kvs : List (Key × V)) (ks : List Int) : Prop := kvs.map (·.1) = ks.map Sum.inl
theorem any_key {kvs : List (Key × V)} {ks : List Int} {n : Int} (h : KeysI kvs ks) : (kvs.any fun kv => decide (kv.1 = Sum.inl n)) = ks.contains n := by
  unfold KeysI at h
  induction ks generalizing kvs with
  | nil =>
    rw [List.map_nil, List.map_eq_nil_iff] at h
    subst h
    rfl
  | cons m ks ih =>
    cases kvs with
    | nil => cases h
    | cons p kvs =>
      rw [List.map_cons, List.map_cons] at h
      injection h with h1 h2
      rw [List.any_cons, List.contains_cons, ih h2, h1]
      congr 1
      by_cases e : m = n
      · subst e
        simp
      · have e2 : ¬ n = m := fun z => e z.symm
        have e3 : ¬ (Sum.inl m : Key) = Sum.inl n := fun z => e (Sum.inl.inj z)
        simp [e2, e3]
theorem keys_put {kvs : List (Key × V)} {ks : List Int} {n : Int} {z : V} (h : KeysI kvs ks) : KeysI (putK kvs (.inl n) z) (if ks.contains n then ks else ks ++ [n]) := by
  unfold putK
  rw [any_key h]
  by_cases e : ks.contains n = true
  · rw [if_pos e, if_pos e]
    show List.map _ (List.map _ _) = _
    rw [List.map_map, ← h]
    apply List.map_congr_left
    intro p _
    show (if p.1 = Sum.inl n then (p.1, z) else p).1 = p.1
    split <;> rfl
  · rw [if_neg e, if_neg e]
    show List.map _ (kvs ++ [(Sum.inl n, z)]) = _
    rw [List.map_append, h, List.map_append]
    rfl
/-- the keys of a merge: those of both, none twice -/
theorem keys_merge : ∀ {more kvs : List (Key × V)} {ms ks : List Int}, KeysI more ms → KeysI kvs ks → ∃ ls, KeysI (mergeK kvs more) ls ∧ (∀ x, x ∈ ls ↔ x ∈ ks ∨ x ∈ ms) ∧ (ks.Nodup → ls.Nodup) ∧ ls.length ≤ ks.length + ms.length
  | [], kvs, ms, ks, h1, h2 => by
    cases ms with
    | nil => exact ⟨ks, h2, fun x => by simp, id, by simp⟩
    | cons m ms => cases h1
  | p :: more, kvs, [], ks, h1, h2 => by cases h1
  | p :: more, kvs, m :: ms, ks, h1, h2 => by
    unfold KeysI at h1
    rw [List.map_cons, List.map_cons] at h1
    injection h1 with e1 e2
    obtain ⟨ls, f1, f2, f3, f4⟩ := keys_merge (more := more) (ms := ms) e2 (keys_put (n := m) (z := p.2) h2)
    refine ⟨ls, ?_, fun x => ?_, fun nd => f3 ?_, ?_⟩
    · have e3 : mergeK kvs (p :: more) = mergeK (putK kvs (.inl m) p.2) more := by
        show mergeK (putK kvs p.1 p.2) more = _
        rw [e1]
      rw [e3]
      exact f1
    · rw [f2]
      by_cases e : ks.contains m = true
      · rw [if_pos e]
        have hm : m ∈ ks := List.contains_iff_mem.mp e
        rw [List.mem_cons]
        constructor
        · rintro (h | h)
          · exact .inl h
          · exact .inr (.inr h)
        · rintro (h | h | h)
          · exact .inl h
          · subst h; exact .inl hm
          · exact .inr h
      · rw [if_neg e, List.mem_append, List.mem_singleton, List.mem_cons, or_assoc]
    · by_cases e : ks.contains m = true
      · rw [if_pos e]
        exact nd
      · rw [if_neg e]
        have hm : ¬ m ∈ ks := fun z => e (List.contains_iff_mem.mpr z)
        exact List.nodup_append.mpr ⟨nd, by simp, fun x hx y hy => by
          cases List.mem_singleton.mp hy
          exact fun z => hm (z ▸ hx)⟩
    · rw [List.length_cons]
      split at f4
      · omega
      · rw [List.length_append] at f4
        simp at f4
        omega
/-! truth and equality -/
def rTruK (K : Frag) (x : V) (H : Hp) (Q : Bool → Hp → Prop) : Prop := ∃ k, TruV K x H k ∧ Q k H
theorem g_tru {ta : TE} {QB : Bool → Hp → Prop} (k : ta σ H fun x H' => rTruK K x H' QB) : (fun σ H Q => ta σ H fun x H' => ∃ k, TruV K x H' k ∧ Q k H' : TT) σ H QB := k
def tTru (K : Frag) (ta : TE) : TT := fun σ H Q => ta σ H fun x H' => rTruK K x H' Q
theorem pt_tru {X : Cx} {K : Frag} {a : Expr} {ta : TE} (hK : X.K = K) (ha : PE X a ta) (he : ∀ whole, isTrue a X.env whole = (do let v ← whole; standAt a.pos; holding [v] (truthy v))) : PT X a (tTru K ta) := hK ▸ pt_truth ha he
theorem g_tTru {ta : TE} {QB : Bool → Hp → Prop} (k : ta σ H fun x H' => rTruK K x H' QB) : tTru K ta σ H QB := k
theorem g_truL {l : Addr} {vs : List V} {QB : Bool → Hp → Prop} (h : SqL K H l vs) (k : QB (!vs.isEmpty) H) : rTruK K (.ref l) H QB := ⟨_, .inl ⟨vs, h, rfl⟩, k⟩
theorem g_eqD {x y : V} {d e : PyData} (h1 : L2.Dp K H x d) (h2 : L2.Dp K H y e) (s1 : SeqAt.shaped d = true) (s2 : SeqAt.shaped e = true) (k : Q (.bl (PyData.eqv d e)) H) : rEqD K x y H Q := ⟨d, e, h1, h2, s1, s2, k⟩
theorem g_neD {x y : V} {d e : PyData} (h1 : L2.Dp K H x d) (h2 : L2.Dp K H y e) (s1 : SeqAt.shaped d = true) (s2 : SeqAt.shaped e = true) (k : Q (.bl (!PyData.eqv d e)) H) : rNeD K x y H Q := ⟨d, e, h1, h2, s1, s2, k⟩
theorem RG.hu64 {k : Nat} {A : Around} (g : RG k A) : A.units + 64 < cLine := by
  have := g.rm.un
  omega
/-- a tuple whose items need not last as data -/
theorem g_newTq {vs : List V} (S : Sy K F G H) (hl : vs.length ≤ 100000) (k : ∀ p H', H p = none → Sy K F (.tq p vs :: G) H' → Q (.ref p) H') : rNewT vs H Q :=
  ⟨Nat.le_trans hl (by decide), fun p hp => k p _ hp ((S.over hp).add (.tq p vs) (.inl (.inl upd_same)))⟩
/-- the last item -/
theorem atI_last {α : Type} {xs : List α} {x : α} : atI (xs ++ [x]) (-1) = some x := by
  have e : ixN (xs ++ [x]).length (-1) = some xs.length := by
    unfold ixN
    rw [List.length_append, List.length_singleton]
    rw [if_neg (by omega)]
    first
      | (rw [if_pos (by omega)]; congr 1; omega)
      | (simp; omega)
  unfold atI
  rw [e]
  show (xs ++ [x])[xs.length]? = some x
  rw [List.getElem?_append_right (Nat.le_refl _), Nat.sub_self]
  rfl
/-- for over range(a, b) -/
def Rg2For (g : TG) (tb : TS) (D : Ends) (σ : L2.St) (lo : Int) (n : Nat) (H : Hp) : Prop := ∃ W : Nat → Nat → L2.St → Hp → Prop, (∃ m, W 0 m σ H) ∧ ∀ i m σ H, W i m σ H →
  ((Itr lo n).stop i H ∧ D.nx σ H) ∨ ((Itr lo n).go i H ∧ ∃ N : L2.St → Hp → Prop, (∀ σ' H', N σ' H' → ∃ m', m' < m ∧ W (i + 1) m' σ' H') ∧ ∀ x H', (Itr lo n).yld i H x H' → g x σ H' fun σ2 H2 => tb { D with nx := N, ct := N, bk := D.nx } σ2 H2)
theorem g_forR2 {ta : TA} (k : ta σ H fun vs H1 => ∃ i j : Int, vs = [.int i, .int j] ∧ (-(2 ^ 62) ≤ i ∧ i < 2 ^ 62 ∧ -(2 ^ 62) ≤ j ∧ j < 2 ^ 62) ∧ Rg2For g tb D σ i (j - i).toNat H1) : tFor (iRng2 ta) g tb D σ H := k
theorem rg2for_of {lo : Int} {n : Nat} (Pv : Nat → L2.St → Hp → Prop) (h0 : Pv 0 σ H) (turn : ∀ i σ' H', i < n → Pv i σ' H' → g (.int (lo + i)) σ' H' fun σ2 H2 => tb { D with nx := Pv (i + 1), ct := Pv (i + 1), bk := D.nx } σ2 H2)
    (done : ∀ σ' H', Pv n σ' H' → D.nx σ' H') : Rg2For g tb D σ lo n H := for_range (lo := lo) Pv h0 turn done
end
end OB

set_option Elab.async false
set_option linter.all false
set_option maxRecDepth 100000
set_option maxHeartbeats 4000000
/-! OB, part k: sums of tuples, tuples turned round and joined, lists joined. -/
namespace OB
open PySem PySem.Spec PyProof.Rows L2 PySem.W
/-! sum of a list or a tuple of whole numbers -/
def rSumU (K : Frag) : List V → Hp → VK → Prop := fun vs H Q => ∃ (a : Addr) (ns : List Int), vs = [V.ref a] ∧ (SqL K H a (ns.map V.int) ∨ SqT K H a (ns.map V.int)) ∧ Q (.int ns.sum) H
section
variable {X : Cx}
theorem c_sumU (hc : X.calm = true) : CallR X (.builtin "sum") (rSumU X.K) := by
  intro pins s σ H vs us Q I r h
  obtain ⟨a, ns, rfl, hs | hs, q⟩ := h
  · exact cr_sum hc pins s σ H [.ref a] us Q I r ⟨a, ns, rfl, hs, q⟩
  · obtain ⟨its, rv, hl, _⟩ := I.tuple hs
    rw [Vals.ref1 r]
    obtain ⟨xs, hx⟩ := rv.ints.allInts.items
    have hn : numsOf its.toArray.toList = ns := by rw [show its.toArray.toList = its from rfl, rv.ints.numsOf]
    have hl2 : s.heap.IsTuple a (intItems xs) := hx ▸ hl
    rw [hx, nums_intItems] at hn
    refine ktm_sumG (I.ok.hd hc) hl2 fun h' tk t' hk => ?_
    rw [preSum_eq, List.take_of_length_le (by simp), hn]
    exact ⟨.int _, H, I.kept hk, ⟨_, rfl⟩, q⟩
end
section
variable {K : Frag} {F : List (Addr × HO)} {G : List Ft} {H : Hp} {Q : VK} {ns : List Int} {l : Addr}
theorem g_sumUL (h : SqL K H l (ns.map V.int)) (k : Q (.int ns.sum) H) : rSumU K [.ref l] H Q := ⟨l, ns, rfl, .inl h, k⟩
theorem g_sumUT (h : SqT K H l (ns.map V.int)) (k : Q (.int ns.sum) H) : rSumU K [.ref l] H Q := ⟨l, ns, rfl, .inr h, k⟩
end
/-! xs[::-1] of a tuple -/
section
open HT
theorem fm_congr {α β : Type} : ∀ {l : List α} {f g : α → Option β}, (∀ m ∈ l, f m = g m) → l.filterMap f = l.filterMap g
  | [], _, _, _ => rfl
  | x :: l, f, g, h => by
    rw [List.filterMap_cons, List.filterMap_cons, h x (List.mem_cons_self ..), fm_congr fun m hm => h m (List.mem_cons_of_mem _ hm)]
theorem pick_rev (items : Array Value) : ((List.range items.size).filterMap fun (m : Nat) => items[((items.size : Int) - 1 + (m : Int) * (-1)).toNat]?).toArray = items.toList.reverse.toArray := by
  have e : (List.range items.size).filterMap (fun (m : Nat) => items[((items.size : Int) - 1 + (m : Int) * (-1)).toNat]?) = items.toList.reverse := by
    have e1 : ∀ m ∈ List.range items.size, items[((items.size : Int) - 1 + (m : Int) * (-1)).toNat]? = (items.toList.reverse)[m]? := by
      intro m hm
      have hm := List.mem_range.mp hm
      rw [List.getElem?_reverse (by rw [Array.length_toList]; exact hm), Array.length_toList, Array.getElem?_toList]
      congr 1
      omega
    have e2 : (List.range items.size).filterMap (fun (m : Nat) => items[((items.size : Int) - 1 + (m : Int) * (-1)).toNat]?) = (List.range items.toList.reverse.length).filterMap fun m => (items.toList.reverse)[m]? := by
      rw [List.length_reverse, Array.length_toList]
      exact fm_congr e1
    rw [e2]
    generalize items.toList.reverse = l
    induction l with
    | nil => rfl
    | cons x l ih =>
      rw [List.length_cons, List.range_succ_eq_map, List.filterMap_cons]
      show x :: List.filterMap _ _ = _
      rw [List.filterMap_map]
      congr 1
  rw [e]
theorem adjust_rev (n : Nat) : Builtin.Slice.sliceAdjust none none (-1) (n : Int) = ((n : Int) - 1, -1) := rfl
theorem places_rev (n : Nat) : Builtin.Slice.slicePlaces ((n : Int) - 1) (-1) (-1) = n := by
  unfold Builtin.Slice.slicePlaces
  have h1 : ¬ ((-1 : Int) > 0) := by decide
  have h2 : (-(-1 : Int)) = 1 := by decide
  rw [if_neg h1, h2, Int.ediv_one]
  split <;> omega
variable {prog : Program} {w : World} {A : Around} {E : Value → Shared → Prop} {s : Shared}
theorem sliceApplied_rev {sl : Addr} {vl vu vk : Value} {n : Nat} {Q : Int × Int × Nat → Shared → Prop} (hs : s.heap.IsSliceOf sl vl vu vk) (pl : IsPart vl none) (pu : IsPart vu none) (pk : IsPart vk (some (-1)))
    (h : Q ((n : Int) - 1, -1, n) s) : wpAny (model prog w) A (Builtin.Slice.sliceApplied (.ref sl) (pure (n : Int))) Q E s := by
  obtain ⟨os, hos, hcs, hds⟩ := id hs
  unfold Builtin.Slice.sliceApplied Builtin.Slice.sliceFields
  refine wpAny_bind (wpAny_bind (wpAny_field hos hds (x := vl) rfl (wpAny_bind (wpAny_field hos hds (x := vu) rfl (wpAny_bind (wpAny_field hos hds (x := vk) rfl (wpAny_pure ?_)))))))
  refine wpAny_bind (slicePart_ pk ?_)
  show wpAny _ _ (if ((-1 : Int) == 0) = true then _ else _) _ _ s
  rw [if_neg (by decide)]
  refine wpAny_bind (slicePart_ pl (wpAny_bind (slicePart_ pu (wpAny_bind (wpAny_pure ?_)))))
  show wpAny _ _ (match Builtin.Slice.sliceAdjust none none (-1) (n : Int) with | (lo, hi) => pure (lo, (-1 : Int), Builtin.Slice.slicePlaces lo hi (-1))) _ _ s
  rw [adjust_rev n]
  show wpAny _ _ (pure ((n : Int) - 1, (-1 : Int), Builtin.Slice.slicePlaces ((n : Int) - 1) (-1) (-1))) _ _ s
  rw [places_rev]
  exact wpAny_pure h
theorem getItem_tuple_rev {t sl : Addr} {items : Array Value} {vl vu vk : Value} {Q : Value → Shared → Prop} (ht : IsTup s.heap t items) (hs : s.heap.IsSliceOf sl vl vu vk) (pl : IsPart vl none) (pu : IsPart vu none) (pk : IsPart vk (some (-1)))
    (h : Q (.ref s.heap.objs.size) { s with heap := s.heap.push { cls := .type "tuple", data := .seq items.toList.reverse.toArray } })
    (hsz : items.size ≤ sizeLine) : wpAny (model prog w) A (getItem (.ref t) (.ref sl)) Q E s := by
  have htake : sizeOk (.seq items.toList.reverse.toArray) := by
    show (items.toList.reverse.toArray).size ≤ sizeLine
    rw [List.size_toArray, List.length_reverse, Array.length_toList]
    omega
  obtain ⟨os, hos, hcs, hds⟩ := id hs
  have hTs : s.TypeIs (.ref sl) "slice" := ⟨os, hos, hcs⟩
  unfold getItem
  try with_reducible refine wpAny_holding ?_
  first | refine wpAny_bind (wpAny_pure ?_) | skip
  refine wpAny_bind (wpAny_sequenceKey ht.typeIs (by decide) ?_)
  refine wpAny_bind (wpAny_callSpecial?_slot (name := Str.ofString "__getitem__") ht.typeIs PyProof.Rows.slot_tuple_getitem
    (wpAny_call_entry PyProof.Rows.slot_tuple_getitem ht.typeIs entry_tuple_getitem ?_ (args_tuple_getitem _ _)))
  show wpAny _ _ (Builtin.Tuple.tupleItemsOf (.ref t) >>= _) _ _ s
  refine wpAny_bind (tupleItemsOf_ ht ?_)
  refine wpAny_bind (wpAny_typeOf hTs ?_)
  rw [if_pos (by decide)]
  refine wpAny_bind (sliceApplied_rev hs pl pu pk ?_)
  have hno : ¬ (((((items.size : Int) - 1) == 0) && (-1 : Int) == 1 && items.size == items.size) = true) := by
    intro q
    rw [Bool.and_eq_true, Bool.and_eq_true] at q
    exact absurd q.1.2 (by decide)
  show wpAny _ _ (if ((((items.size : Int) - 1) == 0) && (-1 : Int) == 1 && items.size == items.size) = true then _ else _) _ _ s
  rw [if_neg hno, pick_rev]
  first
    | exact wpAny_bind (m := Builtin.Tuple.tupleExact _) (wpAny_newObj_type (wpAny_pure ⟨_, rfl, wpAny_pure h⟩) htake)
    | exact wpAny_bind (m := Builtin.Tuple.tupleExact _) (wpAny_newObj_type (wpAny_bind (wpAny_pure (wpAny_pure ⟨_, rfl, wpAny_pure h⟩))) htake)
    | exact wpAny_bind (wpAny_bind (m := Builtin.Tuple.tupleExact _) (wpAny_newObj_type (wpAny_pure (wpAny_pure ⟨_, rfl, wpAny_pure h⟩)) htake))
    | exact wpAny_bind (wpAny_bind (m := Builtin.Tuple.tupleExact _) (wpAny_newObj_type (wpAny_pure ⟨_, rfl, wpAny_pure h⟩) htake))
end
def tRevT (K : Frag) (te : TE) : TE := fun σ H Q => te σ H fun x H1 => ∃ a xs, x = .ref a ∧ SqT K H1 a xs ∧ ∀ p, H1 p = none → Q (.ref p) (upd H1 p (.tup xs.reverse))
theorem pe_revT0 {X : Cx} {e : Expr} {te : TE} {k : Nat} {p1 p2 p3 pos : Pos} (he : PE X e te) : PE X (.Subscript e (.Slice none none (some (.UnaryOp .USub (.Constant (.int 1) k p1) p2)) p3) pos) (tRevT X.K te) := by
  refine ⟨fun pins s σ H Q I h => ?_⟩
  refine Subscript_ (thn (he.run pins s σ H _ I h) fun v s1 ⟨x, H1, I1, r1, q1⟩ => ?_)
  obtain ⟨a, xs, ex, hx, q⟩ := q1
  subst ex
  cases r1
  have hst : PO X (some (.UnaryOp .USub (.Constant (.int 1) k p1) p2)) (tPart (tUn (rU fun i => .int (-i)) (tC (.int 1)))) := po_some (pe_un un_neg pe_int)
  refine wpAny_Slice (thn (po_none.run pins s1 σ H1 (fun o H2 => o = none ∧ H2 = H1) I1 ⟨rfl, rfl⟩) fun vl s2 ⟨l, H2, I2, pl, el, e2⟩ => ?_)
  subst el e2
  refine thn (po_none.run pins s2 σ H2 (fun o H3 => o = none ∧ H3 = H2) I2 ⟨rfl, rfl⟩) fun vu s3 ⟨u, H3, I3, pu, eu, e3⟩ => ?_
  subst eu e3
  refine thn (hst.run pins s3 σ H3 (fun o H4 => o = some (-1) ∧ H4 = H3) I3 ⟨1, rfl, -1, rfl, rfl, rfl⟩) fun vs s4 ⟨o, H4, I4, ps, eo, e4⟩ => ?_
  subst eo e4
  have I5 : Inv X pins σ H4 { s4 with heap := s4.heap.push { cls := .type "slice", data := .fields #[vl, vu, vs] } } := I4.kept (t' := s4.toks) fun b ob q => Heap.get?_push_of_some _ q
  obtain ⟨its, r, ht, hz⟩ := I5.tuple hx
  have hlen := r.length
  show wpAny (model X.prog X.w) X.A (subscriptTail e (.Slice none none (some (.UnaryOp .USub (.Constant (.int 1) k p1) p2)) p3) (.ref a) (.ref s4.heap.objs.size)) (EP X pins σ Q) X.xe { s4 with heap := s4.heap.push { cls := .type "slice", data := .fields #[vl, vu, vs] } }
  refine tail_any (ops := [.ref a, .ref s4.heap.objs.size]) ht.typeIs (PyProof.Rows.slot_tuple_getitem.lookup) ?_ (by with_unfolding_all rfl)
  refine getItem_tuple_rev ht (Heap.IsSliceOf.new _ vl vu vs) pl pu ps ?_ (by rw [List.size_toArray]; omega)
  refine ⟨.ref _, _, I5.laid (t' := s4.toks) (o := .tup xs.reverse) (fun b ob q => Heap.get?_push_of_some _ q) (Nat.le_refl _) ?_, rfl, q _ (I5.hok.fresh (Nat.le_refl _))⟩
  exact ⟨by rw [List.length_reverse]; exact hz, _, r.reverse, IsTup.new _ _⟩
theorem pe_revT {X : Cx} {K : Frag} (h : X.K = K) {e : Expr} {te : TE} {k : Nat} {p1 p2 p3 pos : Pos} (he : PE X e te) : PE X (.Subscript e (.Slice none none (some (.UnaryOp .USub (.Constant (.int 1) k p1) p2)) p3) pos) (tRevT K te) := h ▸ pe_revT0 he
theorem op_catAK {X : Cx} {K : Frag} (h : X.K = K) : OpR X (binaryOp .Add) (rCatA K) := h ▸ op_catA
section
variable {K : Frag} {F : List (Addr × HO)} {G : List Ft} {σ : L2.St} {H : Hp} {Q : VK} {te : TE} {l b : Addr} {vs zs : List V} {ds : List PyData}
theorem g_revT (k : te σ H fun x H1 => ∃ a xs, x = .ref a ∧ SqT K H1 a xs ∧ ∀ p, H1 p = none → Q (.ref p) (upd H1 p (.tup xs.reverse))) : tRevT K te σ H Q := k
theorem g_rev1 (S : Sy K F G H) (h : SqT K H l vs) (hd : DpAll K H vs ds) (hi : immAll ds = true) (k : ∀ p H', Sy K F (.dat [.ref p] [.tuple ds.reverse] :: G) H' → Q (.ref p) H') : ∃ a xs, V.ref l = .ref a ∧ SqT K H a xs ∧ ∀ p, H p = none → Q (.ref p) (upd H p (.tup xs.reverse)) := by
  have rev : ∀ {vs : List V} {ds : List PyData}, DpAll K H vs ds → DpAll K H vs.reverse ds.reverse := by
    intro vs ds h
    induction vs generalizing ds with
    | nil =>
      cases h
      exact .nil
    | cons v vs ih =>
      cases h with
      | cons a b =>
        rw [List.reverse_cons, List.reverse_cons]
        exact dps_append (ih b) (dps_one a)
  have irev : immAll ds.reverse = true := immAll_of fun x hx => by
    have := List.mem_reverse.mp hx
    clear k hd rev
    induction ds with
    | nil => cases this
    | cons d ds ih =>
      have hi2 : (imm d && immAll ds) = true := hi
      rw [Bool.and_eq_true] at hi2
      rcases List.mem_cons.mp this with rfl | h3
      · exact hi2.1
      · exact ih hi2.2 (List.mem_reverse.mpr h3) h3
  exact ⟨l, vs, rfl, h, fun p hp => k p _ (S.lay hp (rev hd) irev)⟩
/-- two tuples joined: both of data, neither empty -/
theorem g_catA {d1 d2 : List PyData} (S : Sy K F G H) (h1 : SqT K H l vs) (h2 : SqT K H b zs) (e1 : DpAll K H vs d1) (e2 : DpAll K H zs d2) (i1 : immAll (d1 ++ d2) = true) (n1 : vs ≠ []) (n2 : zs ≠ []) (hl : vs.length + zs.length ≤ 100000)
    (k : ∀ p H', H p = none → Sy K F (.dat [.ref p] [.tuple (d1 ++ d2)] :: G) H' → Q (.ref p) H') : rCatA K (.ref l) (.ref b) H Q :=
  ⟨l, b, vs, zs, rfl, rfl, h1, h2, Nat.le_trans hl (by decide), fun z => absurd z n1, fun _ z => absurd z n2, fun _ _ p hp => k p _ hp (S.lay hp (dps_append e1 e2) i1)⟩
/-- two lists joined -/
theorem g_cat {i j : Nat} (S : Sy K F G H) (h1 : F[i]? = some (l, .lst vs)) (h2 : F[j]? = some (b, .lst zs)) (hl : vs.length + zs.length ≤ 100000)
    (k : ∀ p H', Sy K ((p, .lst (vs ++ zs)) :: F) G H' → Q (.ref p) H') : rCat (.ref l) (.ref b) H Q :=
  ⟨l, b, vs, zs, rfl, rfl, S.at i h1, S.at j h2, Nat.le_trans hl (by decide), fun p hp => k p _ (S.push hp)⟩
end
end OB

set_option Elab.async false
set_option linter.all false
set_option maxRecDepth 100000
set_option maxHeartbeats 4000000
/-! OB, part l: sets of whole numbers made of lists, sorted; max of a tuple; in, index, pop; comprehensions over range(a, b). -/
namespace OB
open PySem PySem.Spec PyProof.Rows L2 PySem.W
/-! ### max of a tuple of ints -/
def rMaxU (K : Frag) : List V → Hp → VK → Prop := fun vs H Q => ∃ (a : Addr) (ns : List Int), vs = [V.ref a] ∧ (SqL K H a (ns.map V.int) ∨ SqT K H a (ns.map V.int)) ∧ 0 < ns.length ∧ ∀ m, m ∈ ns → (∀ y, y ∈ ns → y ≤ m) → Q (.int m) H
section
variable {prog : Program} {w : World} {A : Around} {E : Value → Shared → Prop} {s : Shared} {t : Addr} {its : List Value} {ns : List Int}
theorem max_rawT {Q : Value → Shared → Prop} (hh : A.handled = none) (hl : s.heap.IsTuple t its.toArray) (hi : IntsAre its ns) (hne : 0 < ns.length)
    (h : ∀ h' tk M t', (∀ b o, s.heap.get? b = some o → h'.get? b = some o) → M ∈ ns → (∀ a, a ∈ ns → a ≤ M) → Q (.int M t') { s with heap := h', toks := tk }) : wpAny (model prog w) A (call (.builtin "max") [.ref t]) Q E s := by
  obtain ⟨xs, e⟩ := hi.allInts.items
  have hn : numsOf (intItems xs).toList = ns := e ▸ hi.numsOf
  rw [nums_intItems] at hn
  subst hn
  rw [e] at hl
  have n0 : 0 < xs.size := by simpa using hne
  obtain ⟨o, ho, hc, n, hd⟩ := id hl
  have ne : t ≠ s.heap.objs.size := Nat.ne_of_lt (Heap.lt_size ho)
  refine call_max_walk (wpAny_pyIter_tuple hl ⟨s.heap.objs.size, _, _, _, _, _, _, rfl, Walks.tuple (A := A.in1) hh _ t ne (intItems xs), ⟨⟨_, Heap.get?_push_size _ rfl, rfl, rfl⟩, hl.at fun o e => Heap.get?_push_of_some _ e⟩, fun b hb => ?_, by simpa [intItems] using n0, CmpOf.ints_gt (numAt xs) (fun _ _ => intItems_at), fun v h' tk hP hk => ?_⟩)
  · rcases List.mem_cons.mp hb with rfl | hb
    · exact Heap.lt_size (Heap.get?_push_size _ rfl)
    · cases List.mem_singleton.mp hb
      exact Heap.lt_size (Heap.get?_push_of_some _ ho)
  · obtain ⟨t', rfl⟩ := intItems_at (show (intItems xs)[_]? = some v from hP)
    obtain ⟨b1, b2⟩ := argBest_gt (numAt xs) ((intItems xs).size - 1)
    have es : (intItems xs).size = xs.size := by simp [intItems]
    rw [es] at b1 b2
    refine h h' tk _ t' (fun b o e => hk b o (fun hb => absurd (Heap.lt_size e) ((List.mem_singleton.mp hb) ▸ Nat.lt_irrefl _)) (Heap.get?_push_of_some _ e)) ?_ fun a ha => ?_
    · rw [numAt_eq, es]
      exact PySem.getD_mem (by rw [List.length_map, Array.length_toList]; omega)
    · obtain ⟨j, hj, rfl⟩ := mem_getD ha
      rw [List.length_map, Array.length_toList] at hj
      have := b2 j (by omega)
      rw [numAt_eq, numAt_eq] at this
      rw [numAt_eq, es]
      exact this
end
section
variable {X : Cx}
theorem c_maxU (hc : X.calm = true) : CallR X (.builtin "max") (rMaxU X.K) := by
  intro pins s σ H vs us Q I r h
  obtain ⟨a, ns, rfl, hs | hs, n0, q⟩ := h
  · exact cr_max hc pins s σ H [.ref a] us Q I r ⟨a, ns, rfl, hs, n0, q⟩
  · obtain ⟨its, rv, hl, _⟩ := I.tuple hs
    rw [Vals.ref1 r]
    exact max_rawT (I.ok.hd hc) hl rv.ints n0 fun h' tk m t' hk h1 h2 => ⟨.int _, H, I.kept hk, ⟨_, rfl⟩, q m h1 h2⟩
/-! ### x in a list or tuple of ints -/
theorem op_inK {K : Frag} (h : X.K = K) : OpR X (compareOp .In) (rIn K false) := h ▸ op_in_seq
end
theorem flat_ints (ns : List Int) : (ns.map V.int).all flatV = true := List.all_eq_true.mpr fun x hx => by
  obtain ⟨n, _, rfl⟩ := List.mem_map.mp hx
  rfl
theorem inV_ints (a : Int) : ∀ (ns : List Int), inV (.int a) (ns.map V.int) = decide (a ∈ ns)
  | [] => by simp [inV]
  | n :: ns => by
    have e := inV_ints a ns
    unfold inV at e ⊢
    rw [List.map_cons, List.any_cons, e]
    by_cases h : n = a
    · subst h
      simp [eqV]
    · have h2 : ¬ a = n := fun z => h z.symm
      have e3 : eqV (.int n) (.int a) = false := by simp [eqV, h]
      rw [e3]
      simp [h2]
section
variable {K : Frag} {F : List (Addr × HO)} {G : List Ft} {σ : L2.St} {H : Hp} {Q : VK} {ns : List Int} {l : Addr} {a : Int}
theorem g_inT (h : SqT K H l (ns.map V.int)) (k : Q (.bl (decide (a ∈ ns))) H) : rIn K false (.int a) (.ref l) H Q :=
  ⟨l, _, rfl, .inr h, rfl, flat_ints ns, by rw [if_neg Bool.false_ne_true, inV_ints]; exact k⟩
theorem g_inL (h : SqL K H l (ns.map V.int)) (k : Q (.bl (decide (a ∈ ns))) H) : rIn K false (.int a) (.ref l) H Q :=
  ⟨l, _, rfl, .inl h, rfl, flat_ints ns, by rw [if_neg Bool.false_ne_true, inV_ints]; exact k⟩
theorem g_maxUL (h : SqL K H l (ns.map V.int)) (n0 : 0 < ns.length) (k : ∀ m, m ∈ ns → (∀ y, y ∈ ns → y ≤ m) → Q (.int m) H) : rMaxU K [.ref l] H Q := ⟨l, ns, rfl, .inl h, n0, k⟩
theorem g_maxUT (h : SqT K H l (ns.map V.int)) (n0 : 0 < ns.length) (k : ∀ m, m ∈ ns → (∀ y, y ∈ ns → y ≤ m) → Q (.int m) H) : rMaxU K [.ref l] H Q := ⟨l, ns, rfl, .inr h, n0, k⟩
theorem seqIx0 {n : Nat} (h : 0 < n) : seqIndex? 0 n = some 0 := by
  unfold seqIndex?
  first
    | (rw [if_pos (by omega)]; simp; done)
    | (simp; omega)
/-- xs.pop(0) -/
theorem g_pop0 {f : Nat} {x : V} {xs : List V} (S : Sy K F G H) (h : F[f]? = some (l, .lst (x :: xs))) (k : ∀ H', Sy K (F.set f (l, .lst xs)) G H' → Q x H') : rPopAt (.ref l) [.int 0] H Q :=
  ⟨l, x :: xs, 0, 0, x, rfl, rfl, S.at f h, by decide, by decide, seqIx0 (Nat.succ_pos _), rfl, k _ (S.put f h rfl)⟩
/-- xs.index(n), n there -/
theorem g_indexI (h : SqL K H l (ns.map V.int)) {j : Nat} (e : ns[j]? = some a) (no : ∀ m z, m < j → ns[m]? = some z → z ≠ a) (k : Q (.int (j : Nat)) H) : rIndex K (.ref l) [.int a] H Q := by
  refine ⟨l, ns.map V.int, .int a, j, .int a, rfl, rfl, h, rfl, flat_ints ns, by rw [List.getElem?_map, e]; rfl, by simp [eqV], fun m z' hm hz => ?_, k⟩
  rw [List.getElem?_map] at hz
  obtain ⟨z, hz2, rfl⟩ := Option.map_eq_some_iff.mp hz
  have := no m z hm hz2
  simp [eqV, this]
end
/-! ### comprehensions over range(a, b) -/
section
variable {K : Frag} {F : List (Addr × HO)} {G : List Ft} {σ : L2.St} {H : Hp} {Q : VK} {own : List Nat} {g : TG} {tt : TT} {te : TE}
def Rg2Lc (K : Frag) (g : TG) (tt : TT) (te : TE) (own : List Nat) (σ : L2.St) (Q : VK) (lo : Int) (n : Nat) (H : Hp) : Prop := ∀ Dp, H Dp = none → ∃ W : Nat → Nat → Hp → Prop, (∃ m, W 0 m (upd H Dp (.lst []))) ∧ ∀ i m H, W i m H →
  ((Itr lo n).stop i H ∧ Q (.ref Dp) H) ∨ ((Itr lo n).go i H ∧ ∃ Nx : Hp → Prop, (∀ H', Nx H' → ∃ m', m' < m ∧ W (i + 1) m' H') ∧ ∀ x H', (Itr lo n).yld i H x H' → g x (wipe σ own) H' fun σ2 H2 => wipe σ2 own = wipe σ own ∧ tt σ2 H2 fun b H3 =>
    if b = true then te σ2 H3 fun y H4 => ∃ acc, H4 Dp = some (.lst acc) ∧ acc.length < sizeLine ∧ Nx (upd H4 Dp (.lst (acc ++ [y]))) else Nx H3)
theorem g_lcR2 {ta : TA} (k : ta σ H fun vs H1 => ∃ i j : Int, vs = [.int i, .int j] ∧ (-(2 ^ 62) ≤ i ∧ i < 2 ^ 62 ∧ -(2 ^ 62) ≤ j ∧ j < 2 ^ 62) ∧ Rg2Lc K g tt te own σ Q i (j - i).toNat H1) : tLc (iRng2 ta) g tt te own σ H Q := k
theorem rg2lc_of {lo : Int} {n : Nat} (I : Nat → List (Addr × HO) → List PyData → Prop) (S : Sy K F G H) (h0 : I 0 F []) (hl : ∀ i F ds, I i F ds → ds.length < 100000)
    (turn : ∀ i, i < n → Turn1 K G I σ own g tt te i (.int (lo + i)))
    (done : ∀ Dp H' F' vs ds, H Dp = none → I n F' ds → Sy K ((Dp, .lst vs) :: F') (.dat vs ds :: G) H' → Q (.ref Dp) H') : Rg2Lc K g tt te own σ Q lo n H := fun Dp hD => by
  refine lc_range (lo := lo) (n := n) (LcP K G I Dp) (lcp_start S h0 hD) (fun i H' hi p => lcp_turn hl (turn i hi) p) fun H' p => ?_
  obtain ⟨F', vs, ds, hi, S'⟩ := p
  exact done Dp H' F' vs ds hD hi S'
/-! tuples of data joined, either of them empty or not -/
theorem g_catU {l b : Addr} {d1 d2 : List PyData} (S : Sy K F G H) (h1 : L2.Dp K H (.ref l) (.tuple d1)) (h2 : L2.Dp K H (.ref b) (.tuple d2)) (i1 : immAll d1 = true) (i2 : immAll d2 = true) (hl : d1.length + d2.length ≤ 100000)
    (k : ∀ p H', Sy K F (.dat [.ref p] [.tuple (d1 ++ d2)] :: G) H' → Q (.ref p) H') : rCatA K (.ref l) (.ref b) H Q := by
  obtain ⟨l', vs, e, s1, e1⟩ := dp_at h1
  cases e
  obtain ⟨b', zs, e, s2, e2⟩ := dp_at h2
  cases e
  have n1 := dps_length e1
  have n2 := dps_length e2
  refine ⟨l, b, vs, zs, rfl, rfl, s1, s2, Nat.le_trans (by omega) (show 100000 ≤ sizeLine by decide), fun z => ?_, fun _ z => ?_, fun _ _ p hp => k p _ (S.lay hp (dps_append e1 e2) (by rw [immAll_append, i1, i2]; rfl))⟩
  · subst z
    have : d1 = [] := List.length_eq_zero_iff.mp n1.symm
    subst this
    exact k b H (S.fact (dps_one h2) (by show (imm (.tuple d2) && true) = true; rw [Bool.and_true]; exact i2))
  · subst z
    have : d2 = [] := List.length_eq_zero_iff.mp n2.symm
    subst this
    refine k l H (S.fact (dps_one ?_) ?_)
    · rw [List.append_nil]; exact h1
    · show (imm (.tuple (d1 ++ [])) && true) = true
      rw [List.append_nil, Bool.and_true]
      exact i1
end
/-! ### set(xs) of a list of ints, sorted(set) -/
abbrev sObj (w : World) : Obj := { cls := .type "set", dict := none, data := .set #[] 0 (.fresh 0 0 (!w.params.followText "set-order")) }
section
variable {P : Program} {w : World} {A : Around} {E : Value → Shared → Prop} {s : Shared}
set_option maxRecDepth 100000 in
set_option maxHeartbeats 3200000 in
theorem set_listI {l : Addr} {items : Array Value} (ns : List Int) {Q : Value → Shared → Prop} (hh : A.handled = none) (hl : s.heap.IsList l items) (hit : IntsAre items.toList ns) (hb : ns.length + 1 < scanBound)
    (h : ∀ (h' : Heap) (tk c : Nat), SetR w h' s.heap.objs.size (fun j => decide (j ∈ ns)) c → c ≤ ns.length → (∀ b o, s.heap.get? b = some o → h'.get? b = some o) → Q (.ref s.heap.objs.size) { s with heap := h', toks := tk }) :
    wpAny (model P w) A (call (.type "set") [.ref l]) Q E s := by
  have isz : items.size = ns.length := (Array.length_toList ▸ IntsAre.length hit : _)
  obtain ⟨_, _, hmro⟩ := F.called_set.mro
  have made := F.called_set.made
  have sub := F.called_set.sub
  refine wpAny_call (codeAny_of_tree (show wpAny _ _ (callAny (.type "set") _) _ _ _ from wpAny_pure ⟨Code.quiet_builtin _ (by decide +kernel), codeAny_builtin F.entry_type_call ?_⟩))
  rw [Around.under_plain (weight_type_call_type "set" [.ref l] []) rfl]
  have nt := F.called_set.notType
  have cc := F.called_set.canCreate
  have tc := F.typeCall_set_1 (.ref l)
  repeat (any_goals (first | assumption | wp_step))
  refine codeAny_mono (code_set_led1 (.ref l) (E := E) (Q₁ := fun obj s₁ => obj = .ref s.heap.objs.size ∧ s₁ = { s with heap := s.heap.push (sObj w) }) ⟨rfl, rfl⟩) fun r s₁ hr => ?_
  cases r with
  | error e => exact hr
  | ok fl =>
    cases fl with
    | ret obj =>
      obtain ⟨rfl, rfl⟩ := hr
      have hS : (s.heap.push (sObj w)).get? s.heap.objs.size = some (sObj w) := Heap.get?_push_size _ rfl
      have hT : Shared.TypeIs { s with heap := s.heap.push (sObj w) } (.ref s.heap.objs.size) "set" := ⟨_, hS, rfl⟩
      have li := F.called_set.init.lookup
      have bi := F.called_set.init.bind (.ref s.heap.objs.size)
      repeat (any_goals (first | assumption | wp_step))
      refine codeAny_mono (codeAny_call_builtin (R := wants (fun r s₂ => r = .none ∧ ∃ h' tk c, s₂ = { s with heap := h', toks := tk } ∧ SetR w h' s.heap.objs.size (fun j => decide (j ∈ ns)) c ∧ c ≤ ns.length ∧ (∀ b o, s.heap.get? b = some o → h'.get? b = some o)) E) F.called_set.init.plain F.entry_set_init (check_set_init_1 hT ?_)) fun r₂ s₂ hr₂ => ?_
      · obtain ⟨⟨oc, od, oda, osl⟩, hol, hcl, nl, hdl⟩ := hl
        simp only at hcl hdl
        subst hcl hdl
        have hol' : (s.heap.push (sObj w)).get? l = some { cls := .type "list", dict := od, data := .seq items nl, slots := osl } := Heap.get?_push_of_some _ hol
        have u1 := F.sub_list_set
        have u2 := F.sub_list_frozenset
        have u3 : (Value.type "list" == Value.type "dict") = false := by decide
        have hl1 : (s.heap.push (sObj w)).IsList l items := ⟨_, hol', rfl, nl, rfl⟩
        unfold Builtin.«set.__init__» noKeywords Builtin.Frozenset.updateFrom
        generalize hPI : pyIter = PI
        wp_walk
        subst hPI
        refine wpAny_pyIter_list hl1 (wpAny_bind (wpAny_runValue ?_))
        have lS : l < s.heap.objs.size := Heap.lt_size hol
        have z1 : (s.heap.push (sObj w)).objs.size = s.heap.objs.size + 1 := Heap.size_push ..
        have nI : l ≠ (s.heap.push (sObj w)).objs.size := fun z => by
          rw [Heap.size_push] at z
          exact Nat.lt_irrefl _ (Nat.lt_of_succ_lt (z ▸ lS))
        have Sf : s.heap.objs.size ∉ [(s.heap.push (sObj w)).objs.size, l] := by
          intro z
          rcases List.mem_cons.mp z with z | z
          · rw [Heap.size_push] at z
            exact Nat.succ_ne_self _ z.symm
          · exact absurd (List.mem_singleton.mp z) (Nat.ne_of_gt lS)
        have val : ∀ (i : Nat) (v : Value), items[i]? = some v → ∃ k t, ns[i]? = some k ∧ v = .int k t := fun i v hv => by
          have hi : i < ns.length := by rw [← isz]; exact (Array.getElem?_eq_some_iff.mp hv).1
          obtain ⟨t, e⟩ := PyProof.Rows.IntsAre.int_at hit i v (by rw [Array.getElem?_toList]; exact hv)
          exact ⟨ns[i], t, List.getElem?_eq_getElem hi, by rw [e, List.getD_eq_getElem?_getD, List.getElem?_eq_getElem hi] <;> rfl⟩
        refine set_update_ints ((Walks.list (by simp [hh]) _ l nI items).toS) s.heap.objs.size Sf ns isz hb val (items.size - 0) 0 _ (by omega) (Nat.zero_le _) ⟨⟨_, Heap.get?_push_size _ rfl, rfl, rfl⟩, (hl1.push _)⟩ ⟨0, Nat.le_refl 0, setR_new_at (Heap.get?_push_of_some _ hS)⟩ fun s' c' hm hc' hS' => ?_
        obtain ⟨h', g2, d', tk', os'⟩ := s'
        have eg : g2 = s.gens := hm.gens
        have ed : d' = s.drawn := hm.drawn
        have eo : os' = s.os := hm.os
        subst eg ed eo
        show wpAny _ _ _ _ _ _
        refine wpAny_pure (show wpAny _ _ (ret Value.none) _ _ _ from ?_)
        rw [isz] at hc'
        refine wpAny_pure ⟨rfl, h', tk', c', rfl, hS', hc', fun b o e => ?_⟩
        have b0 : b < s.heap.objs.size := Heap.lt_size e
        refine hm.heap b o (fun z => ?_) (Heap.get?_push_of_some _ (Heap.get?_push_of_some _ e))
        rcases List.mem_cons.mp z with z | z
        · exact absurd z (Nat.ne_of_lt b0)
        · have z := List.mem_singleton.mp z
          rw [Heap.size_push] at z
          exact absurd z (Nat.ne_of_lt (Nat.lt_succ_of_lt b0))
      · cases r₂ with
        | error e => exact hr₂
        | ok fl₂ =>
          cases fl₂ with
          | ret r =>
            obtain ⟨rfl, h', tk, c, rfl, q1, q2, q3⟩ := hr₂
            repeat (any_goals (first | assumption | wp_step))
            exact h _ _ _ q1 q2 q3
          | _ => exact hr₂.elim
    | _ => exact hr.elim
end
def SetIO (w : World) (a : Addr) (S : Int → Bool) (n : Nat) : HO := .ext fun h => SetR w h a S n
theorem setIO_new {P : Program} {w : World} {H : Hp} {h : Heap} {a : Addr} {S : Int → Bool} {n : Nat} (R : SetR w h a S n) : ObjOk P w H h a (SetIO w a S n) := by
  obtain ⟨o, _, _, _, ho, _⟩ := id R
  exact ⟨R, ⟨o, ho⟩, fun h1 h2 p k => p.at k⟩
def rSetI (K : Frag) (w : World) : List V → Hp → VK → Prop := fun vs H Q => ∃ (l : Addr) (ns : List Int), vs = [V.ref l] ∧ SqL K H l (ns.map V.int) ∧ ns.length < 1000 ∧ ∀ a n, H a = none → n ≤ ns.length → Q (.ref a) (upd H a (SetIO w a (fun j => decide (j ∈ ns)) n))
def rSortSI (w : World) : List V → Hp → VK → Prop := fun vs H Q => ∃ (a : Addr) (S : Int → Bool) (n : Nat), vs = [V.ref a] ∧ H a = some (SetIO w a S n) ∧ n < 64 ∧
  ∀ (ms : List Int) (p : Addr), ms.Pairwise (· < ·) → (∀ k, k ∈ ms ↔ S k = true) → ms.length = n → H p = none → Q (.ref p) (upd H p (.lst (ms.map V.int)))
section
variable {X : Cx}
theorem c_setI (hc : X.calm = true) : CallR X (.type "set") (rSetI X.K X.w) := by
  intro pins s σ H vs us Q I r h
  obtain ⟨l, ns, rfl, hs, hn, q⟩ := h
  rw [Vals.ref1 r]
  obtain ⟨its, rv, pl, _⟩ := I.list hs
  refine set_listI (P := X.prog) (w := X.w) ns (I.ok.hd hc) pl.isList rv.ints (by unfold scanBound; omega) fun h' tk c R hc' k => ?_
  exact ⟨.ref s.heap.objs.size, upd H s.heap.objs.size (SetIO X.w s.heap.objs.size _ c), I.laid (t' := tk) k (Nat.le_refl _) (setIO_new R), rfl, q _ c (I.hok.fresh (Nat.le_refl _)) hc'⟩
theorem c_sortSI (hc : X.calm = true) : CallR X (.builtin "sorted") (rSortSI X.w) := by
  intro pins s σ H vs us Q I r h
  obtain ⟨a, S, n, rfl, ha, h64, q⟩ := h
  have R : SetR X.w s.heap a S n := (I.hok a _ ha).1
  rw [Vals.ref1 r]
  refine sorted_set R (I.ok.hd hc) h64 fun s' p out c ms k g o hp hg hi pw hm hl => ?_
  have len : (ms.map V.int).length ≤ sizeLine := by rw [List.length_map, hl, sizeLine_eq]; omega
  have hn : H p = none := I.hok.fresh hp
  have J : Inv X pins σ (upd H p (.lst (ms.map V.int))) { s with heap := s'.heap, gens := s'.gens, drawn := s'.drawn, toks := s'.toks } :=
    I.call (ch := []) (Un.laid k hp hn) (I.hok.laid k hp ⟨len, out.toList, c, vals_of_ints hi, hg⟩) (by rw [g]; exact I.bare) (fun _ z => nomatch z)
  have e : s' = { s with heap := s'.heap, gens := s'.gens, drawn := s'.drawn, toks := s'.toks } := by
    obtain ⟨_, _, _, _, _⟩ := s'
    obtain ⟨_, _, _, _, _⟩ := s
    cases o
    rfl
  rw [e]
  exact ⟨.ref p, _, J, rfl, q ms p pw hm hl hn⟩
end
section
variable {K : Frag} {w : World} {F : List (Addr × HO)} {G : List Ft} {H : Hp} {Q : VK} {ns : List Int} {l : Addr}
theorem g_setI (S : Sy K F G H) (h : SqL K H l (ns.map V.int)) (hl : ns.length < 64) (k : ∀ a n H', n < 64 → H' a = some (SetIO w a (fun j => decide (j ∈ ns)) n) → Sy K F G H' → Q (.ref a) H') : rSetI K w [.ref l] H Q :=
  ⟨l, ns, rfl, h, by omega, fun a n ha hn => k a n _ (by omega) upd_same (S.over ha)⟩
theorem g_sortSI {a : Addr} {n : Nat} (S : Sy K F G H) (h : H a = some (SetIO w a (fun j => decide (j ∈ ns)) n)) (h64 : n < 64) (k : ∀ (ms : List Int) p H', ms.Pairwise (· < ·) → (∀ x, x ∈ ms ↔ x ∈ ns) → ms.length < 64 → Sy K ((p, .lst (ms.map V.int)) :: F) G H' → Q (.ref p) H') : rSortSI w [.ref a] H Q :=
  ⟨a, _, n, rfl, h, h64, fun ms p pw hm hl hp => k ms p _ pw (fun x => by rw [hm]; exact decide_eq_true_iff) (by omega) (S.push hp)⟩
end
end OB

set_option Elab.async false
set_option linter.all false
set_option maxRecDepth 100000
set_option maxHeartbeats 4000000
/-! OB, part m: dicts of ints read, written, gone through; min of a list of alike data; lists turned round. -/
namespace OB
open PySem PySem.Spec PyProof.Rows L2 PySem.W
section
variable {K : Frag} {F : List (Addr × HO)} {G : List Ft} {σ : L2.St} {H : Hp} {Q : VK} {d : Addr} {kvs : List (Key × V)} {i : Nat} {n : Int} {v x : V} {od : Obj} {u : HO}
/-! ### locked while a comprehension goes through it -/
theorem g_lockE {t : TE} (S : Sy K F G H) (h : F[i]? = some (d, .dK kvs)) (k : ∀ od H', Sy K (F.set i (d, .frz od (.dK kvs))) G H' → t σ H' fun v H2 => H2 d = some (.frz od (.dK kvs)) ∧ Q v (upd H2 d (.dK kvs))) : tLockE t σ H Q :=
  ⟨d, _, S.at i h, trivial, fun od => k od _ (S.put i h rfl)⟩
theorem Sy.unlock {y : Addr × HO} (S : Sy K (y :: F.set i (d, .frz od u)) G H) (h : F[i]? = some (d, u)) (m : isFix u = false) : H d = some (.frz od u) ∧ Sy K (y :: F) G (upd H d u) := by
  have hi := (List.getElem?_eq_some_iff.mp h).1
  have e : (y :: F.set i (d, .frz od u))[i + 1]? = some (d, .frz od u) := by
    show (F.set i (d, .frz od u))[i]? = _
    exact List.getElem?_set_self hi
  refine ⟨S.at (i + 1) e, ?_⟩
  have S2 := S.put (o' := u) (i + 1) e (by show (!isFix u) = true; rw [m]; rfl)
  have S3 : Sy K (y :: (F.set i (d, .frz od u)).set i (d, u)) G (upd H d u) := S2
  have e3 : F.set i (d, u) = F := by
    refine List.ext_getElem? fun j => ?_
    by_cases c : i = j
    · subst c
      rw [List.getElem?_set_self hi, h]
    · rw [List.getElem?_set_ne c]
  rw [List.set_set, e3] at S3
  exact S3
/-- a comprehension over the keys -/
theorem g_lcK {td : TE} {g : TG} {tt : TT} {te : TE} {own : List Nat} {ks : List Int} (I : Nat → List (Addr × HO) → List PyData → Prop) (S : Sy K F G H) (ht : ∀ Q' : VK, Q' (.ref d) H → td σ H Q') (h0 : I 0 F [])
    (hq : ∀ i F' ds H', I i F' ds → Sy K F' G H' → H' d = some (.frz od (.dK kvs))) (hl : ∀ i F ds, I i F ds → ds.length < 100000) (hk : KeysI kvs ks)
    (turn : ∀ i n, ks[i]? = some n → Turn1 K G I σ own g tt te i (.int n))
    (done : ∀ Dp H' F' vs ds, H Dp = none → I ks.length F' ds → Sy K ((Dp, .lst vs) :: F') (.dat vs ds :: G) H' → Q (.ref Dp) H') : tLc (iKeys td) g tt te own σ H Q := by
  have kl : kvs.length = ks.length := by
    have e := congrArg List.length hk
    rw [List.length_map, List.length_map] at e
    exact e
  refine ht _ ⟨d, od, rfl, .inl ⟨kvs, hq 0 F [] H h0 S, fun Dp hD => ?_⟩⟩
  refine lc_it (walk_keys (d := d) (o := od) (kvs := kvs)) (LcP K G I Dp) (lcp_start S h0 hD) (fun i H' _ p => ?_) (fun i v H1 H' hi p y => ?_) fun H' p => ?_
  · obtain ⟨F', vs, ds, hi, S'⟩ := p
    exact hq i F' ds _ hi S'.drop.less
  · obtain ⟨rfl, k, z, hz, rfl⟩ := y
    have hki : (kvs.map (·.1))[i]? = some k := by rw [List.getElem?_map, hz]; rfl
    rw [show kvs.map (·.1) = ks.map Sum.inl from hk, List.getElem?_map] at hki
    obtain ⟨n, hn, rfl⟩ := Option.map_eq_some_iff.mp hki
    exact lcp_turn hl (turn i n hn) p
  · obtain ⟨F', vs, ds, hi, S'⟩ := p
    rw [kl] at hi
    exact done Dp H' F' vs ds hD hi S'
/-! ### read and written -/
def rDGet (x y : V) (H : Hp) (Q : VK) : Prop := ∃ a v, x = .ref a ∧ DGet H a y (some v) ∧ Q v H
theorem g_dget {td ty : TE} (k : td σ H fun x H1 => ty σ H1 fun y H2 => rDGet x y H2 Q) : tDGet td ty σ H Q := k
theorem g_dgetI (h : Rd H d (.dK kvs)) (e : valV kvs (.inl n) = some v) (k : Q v H) : rDGet (.ref d) (.int n) H Q := ⟨d, v, rfl, .inl ⟨kvs, .inl n, h, rfl, e.symm⟩, k⟩
def rDNotIn (y x : V) (H : Hp) (Q : VK) : Prop := ∃ a o, x = .ref a ∧ DGet H a y o ∧ Q (.bl (!o.isSome)) H
theorem g_dnotin {td ty : TE} (k : ty σ H fun y H1 => td σ H1 fun x H2 => rDNotIn y x H2 Q) : tDNotIn ty td σ H Q := k
theorem g_dnotinI (h : Rd H d (.dK kvs)) (k : Q (.bl (!(valV kvs (.inl n)).isSome)) H) : rDNotIn (.int n) (.ref d) H Q := ⟨d, _, rfl, .inl ⟨kvs, .inl n, h, rfl, rfl⟩, k⟩
theorem g_setD {QH : Hp → Prop} (S : Sy K F G H) (h : F[i]? = some (d, .dK kvs)) (hl : kvs.length < 100000) (k : ∀ H', Sy K (F.set i (d, .dK (putK kvs (.inl n) v))) G H' → QH H') : rSetD (.ref d) (.int n) v H QH :=
  ⟨d, _, rfl, .inl ⟨kvs, .inl n, S.at i h, rfl, Nat.lt_of_lt_of_le hl (by decide), rfl⟩, k _ (S.put i h rfl)⟩
/-- {k: v}, the value made behind the dict -/
theorem g_disp2 {tk tv : TE} (k : ∀ p, H p = none → tk σ (upd H p (.dK [])) fun x H2 => tv σ H2 fun y H3 => H3 p = some (.dK []) ∧ ∃ n, x = .int n ∧ Q (.ref p) (upd H3 p (.dK [(.inl n, y)]))) (mono : ∀ H (Q Q' : VK), (∀ x H', Q x H' → Q' x H') → tk σ H Q → tk σ H Q')
    (mono2 : ∀ H (Q Q' : VK), (∀ x H', Q x H' → Q' x H') → tv σ H Q → tv σ H Q') : tDisp [(tk, tv)] σ H Q := by
  intro p hp
  refine mono _ _ _ (fun x H2 h2 => mono2 _ _ _ (fun y H3 h3 => ?_) h2) (k p hp)
  obtain ⟨e, n, rfl, q⟩ := h3
  exact ⟨e, [(.inl n, y)], rfl, Nat.le_of_ble_eq_true rfl, q⟩
end
/-! ### min of a list of alike data: the item itself -/
def rMinD (K : Frag) : List V → Hp → VK → Prop := fun vs H Q => ∃ (a : Addr) (xs : List V) (d : PyData) (ds : List PyData), vs = [.ref a] ∧ SqL K H a xs ∧ DpAll K H xs (d :: ds) ∧ AlikeAll (d :: ds) ∧ (∀ e ∈ d :: ds, e.canLay0 = true) ∧ PyData.depthAll (d :: ds) ≤ 60 ∧
  ∀ (i : Nat) (v : V), xs[i]? = some v → (d :: ds)[i]? = some (minD d ds) → Q v H
section
variable {X : Cx}
theorem c_minD (hc : X.calm = true) (hu : X.A.units + 64 < cLine) : CallR X (.builtin "min") (rMinD X.K) := by
  intro pins s σ H vs us Q I r h
  obtain ⟨a, xs, d, ds, rfl, hs, hd, ha, hcl, hdp, q⟩ := h
  rw [Vals.ref1 r]
  obtain ⟨its, rv, pl, _⟩ := I.list hs
  obtain ⟨as, hr⟩ := Dp.readsAll I (d :: ds) xs its hd rv
  refine min_list_data (I.ok.hd hc) pl.isList hr ha (by omega) fun i v h' tk bs hv hrd hk => ?_
  have I2 : Inv X pins σ H { s with heap := h', toks := tk } := I.kept hk
  have hv : its[i]? = some v := by
    rw [← hv]
    simp
  have hi : i < xs.length := by
    rw [rv.length]
    exact (List.getElem?_eq_some_iff.mp hv).1
  have hy : xs[i]? = some xs[i] := List.getElem?_eq_getElem hi
  generalize xs[i] = y at hy
  obtain ⟨u, hu2, ry⟩ := rv.get hy
  rw [hv] at hu2
  cases hu2
  obtain ⟨e, he, hye⟩ := dps_get hd hy
  obtain ⟨as2, r2⟩ := Dp.reads I2 e y v hye ry
  have eq := PySem.SeqAt.Reads.unique e (minD d ds) v as2 bs (hcl e (List.mem_of_getElem? he)) r2 hrd
  exact ⟨y, H, I2, ry, q i y hy (eq ▸ he)⟩
end
/-! ### a list turned round -/
def rRevL (K : Frag) (x : V) (H : Hp) (Q : VK) : Prop := ∃ a xs, x = .ref a ∧ SqL K H a xs ∧ ∀ p, H p = none → Q (.ref p) (upd H p (.lst xs.reverse))
theorem pe_revLK {X : Cx} {K : Frag} (h : X.K = K) {e : Expr} {te : TE} {k : Nat} {p1 p2 p3 pos : Pos} (he : PE X e te) : PE X (.Subscript e (.Slice none none (some (.UnaryOp .USub (.Constant (.int 1) k p1) p2)) p3) pos) (tRevL K te) := h ▸ pe_revL he
section
variable {K : Frag} {F : List (Addr × HO)} {G : List Ft} {σ : L2.St} {H : Hp} {Q : VK} {te : TE} {l : Addr} {xs : List V}
theorem g_revL (k : te σ H fun x H1 => rRevL K x H1 Q) : tRevL K te σ H Q := k
theorem g_revL1 (S : Sy K F G H) (h : SqL K H l xs) (k : ∀ p H', Sy K ((p, .lst xs.reverse) :: F) G H' → Q (.ref p) H') : rRevL K (.ref l) H Q := ⟨l, xs, rfl, h, fun p hp => k p _ (S.push hp)⟩
/-! truth of None and of whole numbers -/
theorem g_truN {QB : Bool → Hp → Prop} (k : QB false H) : rTruK K .non H QB := ⟨_, rfl, k⟩
theorem g_truI {n : Int} {QB : Bool → Hp → Prop} (k : QB (n != 0) H) : rTruK K (.int n) H QB := ⟨_, rfl, k⟩
end
end OB

set_option Elab.async false
set_option linter.all false
set_option maxRecDepth 100000
set_option maxHeartbeats 4000000
/-! OB, part n: a comprehension inside of one; items that are objects that may change. -/
namespace OB
open PySem PySem.Spec PyProof.Rows L2 PySem.W
theorem pi_seqK {X : Cx} {K : Frag} {tg l : Expr} {tl : TE} (h : X.K = K) (hl : PE X l tl) : PI X tg l (iSeq K tl) := h ▸ pi_seq hl
section
variable {K : Frag}
/-! ### a comprehension whose items are objects that may change -/
abbrev Turn3 (K : Frag) (G : List Ft) (I : Nat → List (Addr × HO) → List V → Prop) (σ : L2.St) (own : List Nat) (g : TG) (tt : TT) (te : TE) (i : Nat) (x : V) : Prop :=
  ∀ (Dp : Addr) (H : Hp) (F : List (Addr × HO)) (vs : List V) (QE : VK) (QR : Hp → Prop), I i F vs → Sy K ((Dp, .lst vs) :: F) G H →
    (∀ y F' H', I (i + 1) F' (vs ++ [y]) → Sy K ((Dp, .lst vs) :: F') G H' → QE y H') → (∀ F' H', I (i + 1) F' vs → Sy K ((Dp, .lst vs) :: F') G H' → QR H') →
    g x (wipe σ own) H fun σ2 H2 => wipe σ2 own = wipe σ own ∧ tt σ2 H2 fun b H3 => if b = true then te σ2 H3 QE else QR H3
def LcP3 (K : Frag) (G : List Ft) (I : Nat → List (Addr × HO) → List V → Prop) (Dp : Addr) (i : Nat) (H : Hp) : Prop :=
  ∃ (F : List (Addr × HO)) (vs : List V), I i F vs ∧ Sy K ((Dp, .lst vs) :: F) G H
theorem lcp_turn3 {G : List Ft} {σ : L2.St} {H : Hp} {I : Nat → List (Addr × HO) → List V → Prop} {own : List Nat} {g : TG} {tt : TT} {te : TE} {Dp : Addr} {i : Nat} {x : V} (hl : ∀ i F vs, I i F vs → vs.length < 100000) (t : Turn3 K G I σ own g tt te i x) (p : LcP3 K G I Dp i H) :
    g x (wipe σ own) H fun σ2 H2 => wipe σ2 own = wipe σ own ∧ tt σ2 H2 fun b H3 =>
      if b = true then te σ2 H3 fun y H4 => ∃ acc, H4 Dp = some (.lst acc) ∧ acc.length < sizeLine ∧ LcP3 K G I Dp (i + 1) (upd H4 Dp (.lst (acc ++ [y]))) else LcP3 K G I Dp (i + 1) H3 := by
  obtain ⟨F, vs, hi, S⟩ := p
  refine t Dp H F vs _ (LcP3 K G I Dp (i + 1)) hi S (fun y F' H' hi' S' => ?_) fun F' H' hi' S' => ⟨F', vs, hi', S'⟩
  have lt := hl _ _ _ hi'
  rw [List.length_append] at lt
  exact ⟨vs, S'.at 0 rfl, Nat.lt_of_lt_of_le (by omega) (show 100000 ≤ sizeLine by decide), F', vs ++ [y], hi', S'.put (o' := .lst (vs ++ [y])) 0 rfl rfl⟩
theorem g_lcV {F : List (Addr × HO)} {G : List Ft} {σ : L2.St} {H : Hp} {Q : VK} {own : List Nat} {g : TG} {tt : TT} {te tl : TE} {a : Addr} {xs : List V} (I : Nat → List (Addr × HO) → List V → Prop) (S : Sy K F G H) (ht : ∀ Q' : VK, Q' (.ref a) H → tl σ H Q') (h0 : I 0 F [])
    (hq : ∀ i F' vs H', I i F' vs → Sy K F' G H' → SqL K H' a xs) (hl : ∀ i F vs, I i F vs → vs.length < 100000)
    (turn : ∀ i x, xs[i]? = some x → Turn3 K G I σ own g tt te i x)
    (done : ∀ Dp H' F' vs, H Dp = none → I xs.length F' vs → Sy K ((Dp, .lst vs) :: F') G H' → Q (.ref Dp) H') : tLc (iSeq K tl) g tt te own σ H Q := by
  refine ht _ ⟨a, rfl, ?_⟩
  have q0 := hq 0 F [] H h0 S
  have sub : ∀ {Dp i H'}, LcP3 K G I Dp i H' → SqL K H' a xs := fun ⟨F', vs, hi, S'⟩ => hq _ F' vs _ hi S'.less
  refine .inl ⟨⟨xs, q0⟩, fun Dp hD => lc_list (K := K) (a := a) (xs := xs) (LcP3 K G I Dp) ⟨F, [], h0, S.push hD⟩ (fun i H' _ p => sub p) (fun i x H' hx p => lcp_turn3 hl (turn i x hx) p) fun H' p => ?_⟩
  obtain ⟨F', vs, hi, S'⟩ := p
  exact done Dp H' F' vs hD hi S'
theorem Sy.tail {G : List Ft} {H : Hp} : ∀ {A F : List (Addr × HO)}, Sy K (A ++ F) G H → Sy K F G H
  | [], _, S => S
  | _ :: A, _, S => Sy.tail (A := A) (Sy.less S)
end
end OB

set_option Elab.async false
set_option linter.all false
set_option maxRecDepth 100000
set_option maxHeartbeats 4000000
/-! OB, part o: a comprehension over enumerate; not in, of data in a list. -/
namespace OB
open PySem PySem.Spec PyProof.Rows L2 PySem.W
def YEn (xs : List V) : Nat → Hp → V → Hp → Prop := fun i H v H' => ∃ T x, v = .ref T ∧ H T = none ∧ H' = upd H T (.tup [.int (i : Nat), x]) ∧ xs[i]? = some x
theorem walk_enumK {K : Frag} {k : Bool} {a : Addr} {xs : List V} : Walk (IteK K k a) xs.length (fun H => SqK K H k a xs) (YEn xs) where
  goes := fun i H hi qa => ⟨xs, xs[i]'(by omega), qa, List.getElem?_eq_getElem _⟩
  stops := fun H qa => ⟨xs, qa, rfl⟩
  yields := fun i H x H' hi qa ⟨T, u, e1, hT, e2, f1⟩ => ⟨T, u, e1, hT, e2, f1 xs qa⟩
section
variable {K : Frag} {F : List (Addr × HO)} {G : List Ft} {σ : L2.St} {H : Hp} {Q : VK} {D : Ends} {g : TG} {tt : TT} {te : TE} {tb : TS} {own : List Nat}
def EnLc (K : Frag) (g : TG) (tt : TT) (te : TE) (own : List Nat) (σ : L2.St) (Q : VK) (vs : List V) (H1 : Hp) : Prop := ∃ k a xs, vs = [.ref a] ∧ SqK K H1 k a xs ∧ ∀ Da, H1 Da = none → ∃ W : Nat → Nat → Hp → Prop, (∃ m, W 0 m (upd H1 Da (.lst []))) ∧ ∀ i m H, W i m H →
  ((IteK K k a).stop i H ∧ Q (.ref Da) H) ∨ ((IteK K k a).go i H ∧ ∃ Nx : Hp → Prop, (∀ H', Nx H' → ∃ m', m' < m ∧ W (i + 1) m' H') ∧ ∀ x H', (IteK K k a).yld i H x H' → g x (wipe σ own) H' fun σ2 H2 => wipe σ2 own = wipe σ own ∧ tt σ2 H2 fun b H3 =>
    if b = true then te σ2 H3 fun y H4 => ∃ acc, H4 Da = some (.lst acc) ∧ acc.length < sizeLine ∧ Nx (upd H4 Da (.lst (acc ++ [y]))) else Nx H3)
theorem g_lcEn {ta : TA} (k : ta σ H fun vs H1 => EnLc K g tt te own σ Q vs H1) : tLc (iEnumK K ta) g tt te own σ H Q := k
theorem enlc_of {k : Bool} {a : Addr} {xs : List V} (I : Nat → List (Addr × HO) → List PyData → Prop) (S : Sy K F G H) (h0 : I 0 F [])
    (hq : ∀ i F' ds H', I i F' ds → Sy K F' G H' → SqK K H' k a xs) (hl : ∀ i F ds, I i F ds → ds.length < 100000)
    (turn : ∀ (i : Nat) x, xs[i]? = some x → TurnZ K G I σ own g tt te i (.int (i : Nat)) x)
    (done : ∀ Da H' F' vs ds, H Da = none → I xs.length F' ds → Sy K ((Da, .lst vs) :: F') (.dat vs ds :: G) H' → Q (.ref Da) H') : EnLc K g tt te own σ Q [.ref a] H := by
  have q1 := hq 0 F [] H h0 S
  refine ⟨k, a, xs, rfl, q1, fun Da hD => lc_it (walk_enumK (K := K) (xs := xs)) (LcP K G I Da) (lcp_start S h0 hD) (fun i H' _ p => ?_) (fun i v H1 H' hi p y => ?_) fun H' p => ?_⟩
  · obtain ⟨F', vs, ds, hi, S'⟩ := p
    exact hq i F' ds _ hi S'.drop.less
  · obtain ⟨F', vs, ds, hI, S'⟩ := p
    obtain ⟨T, x, rfl, hT, rfl, e1⟩ := y
    refine turn i x e1 Da T H1 F' vs ds _ (LcP K G I Da (i + 1)) hI hT S' (fun z d F2 H2 hi' S2 => ?_) fun F2 H2 hi' S2 => ⟨F2, vs, ds, hi', S2⟩
    have len := dps_length (S2.dps 1 rfl)
    have lt := hl _ _ _ hi'
    rw [List.length_append] at lt
    refine ⟨vs, S2.at 0 rfl, Nat.lt_of_lt_of_le (by omega) (show 100000 ≤ sizeLine by decide), F2, vs ++ [z], ds ++ [d], hi', ?_⟩
    have S3 : Sy K ((Da, .lst (vs ++ [z])) :: F2) (.dat [z] [d] :: .dat vs ds :: G) (upd H2 Da (.lst (vs ++ [z]))) := S2.put (o' := .lst (vs ++ [z])) 0 rfl rfl
    exact (S3.drop.drop).fact (dps_append (S3.dps 1 rfl) (S3.dps 0 rfl)) (by rw [immAll_append, S2.dpi 1 rfl, S2.dpi 0 rfl]; rfl)
  · obtain ⟨F', vs, ds, hI, S'⟩ := p
    exact done Da H' F' vs ds hD hI S'
/-! in, of data in a list -/
theorem g_notinD {x : V} {l : Addr} {vs : List V} {d : PyData} {ds : List PyData} (h1 : L2.Dp K H x d) (h2 : SqL K H l vs) (h3 : DpAll K H vs ds) (s1 : SeqAt.shaped d = true) (s2 : SeqAt.shaped (.list ds) = true) (k : Q (.bl (!ds.any fun z => PyData.eqv z d)) H) : rNotInD K x (.ref l) H Q := ⟨d, ds, h1, .lst h2 h3, s1, s2, k⟩
end
end OB

set_option Elab.async false
set_option linter.all false
set_option maxRecDepth 100000
set_option maxHeartbeats 4000000
/-! OB, part p: what repr writes of numbers differs where they differ; in, of data in a list. -/
namespace OB
open PySem PySem.Spec PyProof.Rows L2 PySem.W PySem.NumText
theorem sh_int {i : Int} : (PyData.int i).shown.cps.toList = (toString i).toList.map Char.toNat := by
  rw [PyData.shown_int]
  exact signs_ofString _
theorem nat_repr_inj {m n : Nat} (h : Nat.repr m = Nat.repr n) : m = n := by
  have h2 := congrArg String.toList h
  rw [Nat.toList_repr, Nat.toList_repr] at h2
  rw [← Nat.ofDigitChars_ten_toDigits (n := m), h2, Nat.ofDigitChars_ten_toDigits]
theorem no_dash {n : Nat} : '-' ∉ (Nat.repr n).toList := fun h => by
  rw [Nat.toList_repr] at h
  have := Nat.isDigit_of_mem_toDigits (by decide) (by decide) h
  exact absurd this (by decide)
theorem int_str_inj {i j : Int} (h : toString i = toString j) : i = j := by
  rw [Int.toString_eq_repr, Int.toString_eq_repr, Int.repr_eq_if, Int.repr_eq_if] at h
  split at h <;> split at h
  · have := nat_repr_inj h
    omega
  · exfalso
    exact no_dash (n := i.toNat) (by rw [h, String.toList_append]; exact List.mem_append_left _ (by decide))
  · exfalso
    exact no_dash (n := j.toNat) (by rw [← h, String.toList_append]; exact List.mem_append_left _ (by decide))
  · have h2 := congrArg String.toList h
    rw [String.toList_append, String.toList_append] at h2
    have h3 := List.append_cancel_left h2
    have := nat_repr_inj (String.toList_injective h3)
    omega
theorem int_sh_inj {i j : Int} (h : (PyData.int i).shown = (PyData.int j).shown) : i = j := by
  have h2 := congrArg (fun s : Str => s.cps.toList) h
  simp only [sh_int] at h2
  have h3 : (toString i).toList = (toString j).toList := by
    refine List.map_inj_right ?_ |>.mp h2
    intro a b e
    exact Char.toNat_inj.mp e
  exact int_str_inj (String.toList_injective h3)
theorem int_sh {i j : Int} : decide ((PyData.int i).shown = (PyData.int j).shown) = decide (i = j) := by
  by_cases h : i = j
  · subst h
    rw [decide_eq_true rfl, decide_eq_true rfl]
  · rw [decide_eq_false h, decide_eq_false fun z => h (int_sh_inj z)]
/-- the signs of a number's text -/
theorem int_sign {i : Int} {c : Nat} (h : c ∈ (PyData.int i).shown.cps.toList) : c ≤ 57 ∧ 45 ≤ c := by
  rw [sh_int] at h
  obtain ⟨ch, hc, rfl⟩ := List.mem_map.mp h
  have dig : ∀ n : Nat, ch ∈ (Nat.repr n).toList → ch.toNat ≤ 57 ∧ 45 ≤ ch.toNat := fun n hn => by
    rw [Nat.toList_repr] at hn
    have r := digit_range (Nat.isDigit_of_mem_toDigits (by decide) (by decide) hn)
    omega
  rw [Int.toString_eq_repr, Int.repr_eq_if] at hc
  split at hc
  · exact dig _ hc
  · rw [String.toList_append, List.mem_append] at hc
    rcases hc with hc | hc
    · have : ch = '-' := by simpa using hc
      subst this
      decide
    · exact dig _ hc
theorem bl_sh {b : Bool} {j : Int} : decide ((PyData.bool b).shown = (PyData.int j).shown) = false := decide_eq_false fun z => by
  cases b
  · have : 70 ∈ (PyData.int j).shown.cps.toList := by rw [← z]; decide +kernel
    have := int_sign this
    omega
  · have : 84 ∈ (PyData.int j).shown.cps.toList := by rw [← z]; decide +kernel
    have := int_sign this
    omega
theorem tup_sh {l : List PyData} {j : Int} : decide ((PyData.tuple l).shown = (PyData.int j).shown) = false := decide_eq_false fun z => by
  have : 40 ∈ (PyData.int j).shown.cps.toList := by
    rw [← z, PyData.shown_tuple]
    show 40 ∈ ((((("(" : String) : Str).cps ++ (Str.join ", " (PyData.shownAll l)).cps) ++ _ : Array Nat)).toList
    rw [Array.toList_append, Array.toList_append]
    exact List.mem_append_left _ (List.mem_append_left _ (by decide +kernel))
  have := int_sign this
  omega
section
variable {K : Frag} {H : Hp} {Q : VK}
theorem g_inD {x : V} {l : Addr} {vs : List V} {d : PyData} {ds : List PyData} (h1 : L2.Dp K H x d) (h2 : SqL K H l vs) (h3 : DpAll K H vs ds) (s1 : SeqAt.shaped d = true) (s2 : SeqAt.shaped (.list ds) = true) (k : Q (.bl (ds.any fun z => PyData.eqv z d)) H) : rInD K x (.ref l) H Q := ⟨d, ds, h1, .lst h2 h3, s1, s2, k⟩
end
end OB

set_option Elab.async false
set_option linter.all false
set_option maxRecDepth 100000
set_option maxHeartbeats 4000000
/-! OB, part q: own classes of errors over ValueError, the first of them with an __init__ that says super().__init__(value) and keeps value. -/
namespace OB
open PySem PySem.Spec PyProof.Rows L2 PySem.W
/-- what the written part says of a class of errors, D being the one with the __init__ -/
structure ErC (K : Frag) (D C : Addr) : Prop where
  ox : OexC K C
  sub : mroIn K C (.ref D) = some true
  sup : ks_superIn K C D "__init__" = some (some (.builtin "ValueError.__init__"))
  val : subIn K (.ref C) (.type "ValueError") = some true
  fld : findIn K (.ref C) "value" = some none
abbrev eiBody (p0 p1 p2 p3 p4 p5 q1 q2 q3 q4 : Pos) : List Stmt :=
  [.Expr (.Call (.Attribute (.Call (.Name "super" p0) [] [] p1) "__init__" p2) [.Name "value" p3] [] p4) p5, .Assign [.Attribute (.Name "self" q1) "value" q2] (.Name "value" q3) q4]
abbrev eiNames : List (Str × NameKind) := [("self", .local), ("value", .local), ("super", .globalImplicit), ("__class__", .free)]
def sp_einit (K : Frag) (D : Addr) : Sp := fun vs H Q E => vs.length = 2 ∧ ∃ (a C : Addr) (y : V), vs = [.ref a, y] ∧ ErC K D C ∧ H a = some (exo a C none) ∧ ∀ dx, H dx = none → dx ≠ a → Q .non (upd (upd H dx (exd dx [("value", y)])) a (exo a C (some dx)))
theorem ei_eval {env : Env} {p0 p1 p2 p3 p4 : Pos} (hp : (p2.endLine == p4.line) = true) :
    eval (.Call (.Attribute (.Call (.Name "super" p0) [] [] p1) "__init__" p2) [.Name "value" p3] [] p4) env = (do
      let ov ← attributeBase (.Call (.Name "super" p0) [] [] p1) "__init__" env (eval (.Call (.Name "super" p0) [] [] p1) env)
      standAt p2.atName
      let (f, first) ← holding [ov] (getMethod ov "__init__" (do return (← importBound (.Call (.Name "super" p0) [] [] p1) env).getD true))
      callWith p4 f first (backTo p4 (starEach [.Name "value" p3] env)) []) := by
  refine (show eval _ env = (attributeBase (.Call (.Name "super" p0) [] [] p1) "__init__" env (eval (.Call (.Name "super" p0) [] [] p1) env) >>= fun ov => standAt p2.atName >>= fun _ =>
    methodCall (.Call (.Name "super" p0) [] [] p1) "__init__" p2 p4 env ov 1 (backTo p4 (starEach [.Name "value" p3] env)) []) from rfl).trans ?_
  congr 1
  funext ov
  congr 1
  funext _
  unfold methodCall
  rw [show methodCallForm 1 (backTo p4 (starEach [.Name "value" p3] env)) [] = true from rfl]
  unfold methodCallPos calleeOf
  rw [hp]
  rfl
theorem ei_inter {q : Str} {sc : Scope} {L f : Addr} {cd : Value} {cc : Addr} (sk : sc.kind = .function) : interactive (ksEnv q sc L f cd cc) = false := by
  unfold interactive
  show (sc.kind == .module && _) = false
  rw [sk]
  rfl
section
variable {P : Program} {w : World} {K : Frag} {mg : Str → Option Value} {base : Heap} {CX : CXT}
/-- ValueError.__init__ bound to the object at a, called -/
theorem mw_init {A : Around} {E : Value → Shared → Prop} {h : Heap} {g : Array GenState} {d : Drawn} {t : Nat} {os : OsState} {u a C t1 : Addr} {us : List Value} {Q : Value → Shared → Prop} (T : OexC K C) (KH : K.In h) (hu : h.get? u = some (kxs_mw "ValueError.__init__" a))
    (hx : h.get? a = some ({ cls := .ref C, dict := none, data := .fields #[.ref t1, .none, .none, .none, .bool false, .none] } : Obj)) (hl : us.length ≤ sizeLine)
    (k : ∀ h' t2, (∀ b o, b ≠ a → h.get? b = some o → h'.get? b = some o) → h'.get? a = some ({ cls := .ref C, dict := none, data := .fields #[.ref t2, .none, .none, .none, .bool false, .none] } : Obj) → Q .none ⟨h', g, d, t, os⟩) :
    wpAny (model P w) A (call (.ref u) us) Q E ⟨h, g, d, t, os⟩ := by
  obtain ⟨nm, q, N, bs, bm, sn, sub, ab, col, dd, k0, k1, k2, k3, k5, hC, hbm⟩ := T.cls
  refine wpAny_call (codeAny_of_tree (show wpAny _ A.in1 (callAny (.ref u) ⟨us, []⟩) _ _ _ from ?_))
  simp only [callAny]
  refine wpAny_bind (wpAny_load hu ?_)
  have e1 : (Value.type "method-wrapper" == Value.type "method" || Value.type "method-wrapper" == Value.type "builtin_function_or_method" || Value.type "method-wrapper" == Value.type "method-wrapper") = true := by decide
  simp only [kxs_mw, e1, if_true]
  refine KFB.if_so (by decide) (wpAny_bind (check_bound_init PySem.F.excBase_ValueError.toExcCallFacts (KH _ _ hC) hx rfl ?_))
  refine wpAny_bind (wpAny_pure (wpAny_pure ⟨plainId_quiet PySem.F.excBase_ValueError.init.plain _, ?_⟩))
  refine codeAny_builtin PySem.F.excBase_ValueError.initEntry ?_
  exact exc_init_tree (cls := .ref C) (t0 := t1) (dv := none) (c2 := .none) (c3 := .none) (b4 := .bool false) hx hl fun h' kk e' _ => k h' _ kk e'
/-- the end: the object at a has its dict at dx -/
theorem ei_end {A : Around} {outer : List Env} {s : Shared} {H : Hp} {Q : VK} {a C dx t3 : Addr} {y : V} {u : Value} {h4 : Heap} {t4 : Nat} (e0 : Env0 P w K mg base A outer s H) (ha : H a = some (exo a C none)) (hdx : H dx = none) (dne : dx ≠ a) (sz : s.heap.objs.size ≤ dx)
    (kAll : ∀ b o, b ≠ a → s.heap.get? b = some o → h4.get? b = some o) (x4 : h4.get? a = some ({ cls := .ref C, dict := some dx, data := .fields #[.ref t3, .none, .none, .none, .bool false, .none] } : Obj))
    (hn4 : h4.Ns1 dx (fun z => if z = "value" then some u else none)) (ry : RelV y u) (kq : Q .non (upd (upd H dx (exd dx [("value", y)])) a (exo a C (some dx)))) :
    CE outer P w H s Q .none ⟨h4, s.gens, s.drawn, t4, s.os⟩ := by
  have na : ∀ {b : Addr} {o : HO}, H b = some o → o ≠ exo a C none → b ≠ a := fun {b o} e ne z => by
    subst z
    rw [ha] at e
    exact ne (Option.some.inj e).symm
  have nn : ∀ {b : Addr}, H b = none → b ≠ a := fun {b} e z => by
    subst z
    rw [ha] at e
    cases e
  have nx : ∀ {b : Addr} {o : HO}, H b = some o → b ≠ dx := fun {b o} e z => by
    subst z
    rw [hdx] at e
    cases e
  have lt : ∀ {b : Addr} {o : Obj}, s.heap.get? b = some o → b ≠ dx := fun {b o} e => Nat.ne_of_lt (Nat.lt_of_lt_of_le (Heap.lt_size e) sz)
  have at' : ∀ {b : Addr}, b ≠ a → b ≠ dx → upd (upd H dx (exd dx [("value", y)])) a (exo a C (some dx)) b = H b := fun {b} n1 n2 => (upd_ne n1).trans (upd_ne n2)
  refine ⟨.non, _, rfl, e0.bare, ?_, fun b o e => ?_, rfl, kq⟩
  · exact {
      keep := fun b o e n _ _ => kAll b o (nn n) e
      slot := fun b o e n _ _ => ⟨o.slots, kAll b o (nn n) e⟩
      free := fun b o e n _ => (at' (nn n) (lt e)).trans n
      there := fun b o e _ => if z : b = a then ⟨_, z ▸ x4⟩ else ⟨o, kAll b o z e⟩
      tups := fun b xs e => (at' (na e fun z => exo_tup z.symm) (nx e)).trans e
      frzs := fun b o v e => (at' (na e fun z => exo_frz z.symm) (nx e)).trans e
      tbls := fun b ps e => ⟨#[], by rw [at' (na e fun z => exo_tbl z.symm) (nx e), e, Array.append_empty]⟩ }
  · by_cases c1 : b = a
    · subst c1
      rw [upd_same] at e
      cases e
      exact exo_ok x4
    · by_cases c2 : b = dx
      · subst c2
        rw [upd_ne c1, upd_same] at e
        cases e
        exact exd_ok hn4 (relO_put (fs := []) ry fun _ => True.intro)
      · rw [at' c1 c2] at e
        refine (e0.hok b o e).stay (fun c v hc z => kAll c v ?_ z) (fun c hc => (at' (na hc fun z => exo_own z.symm) (nx hc)).trans hc) fun c xs hc => (at' (na hc fun z => exo_tup z.symm) (nx hc)).trans hc
        rcases hc with rfl | hc
        · exact c1
        · exact na hc fun z => exo_own z.symm
theorem einit_run {k : Nat} {fI D cda cc : Addr} {q : Str} {pa : Arguments} {ar : Arg} {sc : Scope} {dV kV doc pm ct oc ccl cl : Value} {an od cdd cld : Option Addr} {osl ccs csl : Array (Option Value)} {vs2 : Array Value} {file : Str} {tf : Tok} {cdD : ClassData}
    {p0 p1 p2 p3 p4 p5 q1 q2 q3 q4 : Pos} (hp : (p2.endLine == p4.line) = true)
    (lk : K.lookup fI = some ⟨oc, od, .func (ksFn "__init__" q pa (eiBody p0 p1 p2 p3 p4 p5 q1 q2 q3 q4) sc dV kV doc pm an (.ref cda) ct cc), osl⟩) (hcd : codeIn K (.ref cda) q = true)
    (hpa : (pa.posonlyargs ++ pa.args).head? = some ar) (har : ar.arg = "self") (hcode : K.lookup cda = some ⟨ccl, cdd, .fields vs2, ccs⟩) (hvs : vs2[2]? = some (.str file tf)) (hfile : ((P.main.file : Str) == file) = true)
    (hcell : K.lookup cc = some ⟨cl, cld, .cell (some (.ref D)), csl⟩) (hD : clsIn K D = some cdD) (hop : nsIn K cStatics "thirdparty.any" = some none) (hms : mg "super" = none) (htop : (P.main.scope.names.lookup ("super" : Str)).isSome = false)
    (sk : sc.kind = .function) (sco : sc.isCoroutine = false) (sg : sc.isGenerator = false) (sn : ∀ x ∈ sc.names, x.2 ≠ .cell) (s1 : sc.names.lookup ("self" : Str) = some .local) (s2 : sc.names.lookup ("value" : Str) = some .local)
    (s3 : sc.names.lookup ("super" : Str) = some .globalImplicit) (s4 : sc.names.lookup ("__class__" : Str) = some .free) :
    FnOk P w K mg base CX k fI (ksFn "__init__" q pa (eiBody p0 p1 p2 p3 p4 p5 q1 q2 q3 q4) sc dV kV doc pm an (.ref cda) ct cc) ["self", "value"] (sp_einit K D) where
  len := fun vs H Q E h => h.1
  run := by
    intro A outer s H args us vs Q E hr e0 hb hv hs
    obtain ⟨_, a, C, y, rfl, ec, ha, kq⟩ := hs
    obtain ⟨u0, u, rfl, r0, ry⟩ := vals2 hv
    obtain rfl : u0 = Value.ref a := r0
    have bk : ∀ b o, base.get? b = some o → s.heap.get? b = some o := fun b o e => (e0.bs b o e).1
    have KX : K.In s.heap := e0.mod.kin.keeps bk
    have lim : s.heap.NoLimit := e0.mod.nolimit.keeps bk
    obtain ⟨t1, hx⟩ := exo_at e0.hok ha
    refine ks_codeAny_call_defAt hr.depth (KX _ _ lk) rfl lim (codeRec_of KX hcd) rfl hb sn (fun z hz => ?_) (fun h₀ hns kp => ?_) sco sg sk
    · simp only [List.zip_cons_cons, List.zip_nil_right, List.mem_cons, List.not_mem_nil, or_false] at hz
      rcases hz with rfl | rfl
      · exact s1
      · exact s2
    have K0 : K.In h₀ := KX.keeps kp
    obtain ⟨mb, hbn, hbv⟩ := e0.mod.blt
    obtain ⟨oD, hD1, hD2⟩ : ∃ oD, K.lookup D = some oD ∧ oD.data = .cls cdD := by
      unfold clsIn at hD
      split at hD
      · rename_i c d cd' sl ho
        cases hD
        exact ⟨_, ho, rfl⟩
      · cases hD
    have n1 : (List.lookup ("self" : Str) ((["self", "value"] : List Str).zip [Value.ref a, u]).reverse) = some (.ref a) := rfl
    have n2 : (List.lookup ("value" : Str) ((["self", "value"] : List Str).zip [Value.ref a, u]).reverse) = some u := rfl
    show PySem.wpAt _ _ (.func _ (ksEnv q sc s.heap.objs.size fI (.ref cda) cc)) (execs _ (ksEnv q sc s.heap.objs.size fI (.ref cda) cc)) _ _ _
    refine ks_wpAt_execs_cons (ks_wpAt_Expr_any (ks_wpAt_MethodCall ?_ (ei_eval hp)) (ei_inter sk))
    refine ks_wpAt_super_base (env := ksEnv q sc s.heap.objs.size fI (.ref cda) cc) s3 s4 rfl rfl (K0 _ _ lk) rfl hpa rfl (K0 _ _ hcode) rfl hvs hfile htop ?_
    refine ks_loadName_global sk s3 (Calls.loadGlobal_builtin (env := ksEnv q sc s.heap.objs.size fI (.ref cda) cc) (e0.mod.glob.keeps fun b o e => kp b o (bk b o e)) hms (hbn.keeps fun b o e => kp b o (bk b o e)) ((hbv _ (by decide)).trans Boot.«super») ⟨rfl, ?_⟩)
    refine wpAny_loadName_free sk s4 rfl ⟨_, K0 _ _ hcell, rfl⟩ ?_
    rw [har]
    refine wpAny_loadName_local sk s1 hns n1 ?_
    refine ks_wpAny_isType_cls (K0 _ _ hD1) hD2 ⟨rfl, ?_⟩
    refine ks_wpAny_call_super (K0 _ _ hD1) hD2 (kp _ _ hx) rfl (fun c e => by cases e) (looks_mroIn K0 ec.sub) fun h1 eso k1 => ?_
    have K1 : K.In h1 := K0.keeps k1
    have x1 := k1 _ _ (kp _ _ hx)
    obtain ⟨cd, hcl⟩ : ∃ cd, clsIn K C = some cd := by
      cases z : clsIn K C with
      | some cd => exact ⟨cd, rfl⟩
      | none =>
        have q := ec.sup
        unfold ks_superIn at q
        rw [z] at q
        cases q
    have sup := ec.sup
    unfold ks_superIn at sup
    rw [hcl, Option.bind_some] at sup
    have I1 : InstAt h1 a _ C none := ⟨x1, rfl, rfl, trivial⟩
    refine kxs_getMethod kxs_ValueError eso (looks_opaque K1 hop) (l₀ := cd.mro) (fun A Q E s k q => wpAny_bind ((looks_clsIn K1 hcl) A _ E s k (wpAny_pure q))) rfl K1 sup (I1.type.andThen (looks_subIn K1 ec.val)) (ks_ne K1 I1 hcl) rfl ?_
    have k2 : ∀ b o, h1.get? b = some o → (h1.push (kxs_mw "ValueError.__init__" a)).get? b = some o := fun b o e => Heap.get?_push_of_some _ e
    have hmw : (h1.push (kxs_mw "ValueError.__init__" a)).get? h1.objs.size = some (kxs_mw "ValueError.__init__" a) := Heap.get?_push_at rfl rfl
    refine kxs_callWith (i := "ValueError.__init__") (x := a) rfl (Calls.evalArgs_plain ?_)
    refine Calls.spliced_cons (wpAny_Name (wpAny_loadName_local sk s2 (hns.at fun o e => k2 _ _ (k1 _ _ e)) n2 ?_))
    refine Calls.spliced_nil ⟨hmw, ?_⟩
    have K2 : K.In (h1.push (kxs_mw "ValueError.__init__" a)) := K1.keeps k2
    have x2 := k2 _ _ x1
    have hns2 : (h1.push (kxs_mw "ValueError.__init__" a)).Ns s.heap.objs.size (fun x => List.lookup x ((["self", "value"] : List Str).zip [Value.ref a, u]).reverse) := hns.at fun o e => k2 _ _ (k1 _ _ e)
    generalize h1.push (kxs_mw "ValueError.__init__" a) = h2 at *
    refine mw_init ec.ox K2 hmw x2 (us := [u]) (Nat.le_of_ble_eq_true rfl) fun h3 t3 k3 x3 => ?_
    have c0 : base.get? a = none := by
      cases z : base.get? a with
      | none => rfl
      | some o =>
        have := (e0.bs a o z).2
        rw [ha] at this
        cases this
    have K3 : K.In h3 := fun b o e => k3 b o (fun z => by
      have := e0.mod.kin b o e
      rw [z, c0] at this
      cases this) (K2 b o e)
    have fr : s.heap.objs.size ≠ a := Nat.ne_of_gt (Heap.lt_size hx)
    have hns3 : h3.Ns s.heap.objs.size (fun x => List.lookup x ((["self", "value"] : List Str).zip [Value.ref a, u]).reverse) := hns2.at fun o e => k3 _ _ fr e
    obtain ⟨nm, qn, N, bs, bm, nsl, sub, ab, col, dd, z0, z1, z2, z3, z5, hC, hbm⟩ := ec.ox.cls
    have hcl2 : clsIn K C = some { name := nm, bases := bs, mro := .ref C :: bm, ns := N, qualname := qn, hasDict := true, slotNames := nsl, subclasses := sub, abstract := ab, collection := col, hasDel := false } := by
      unfold clsIn
      rw [hC] <;> rfl
    refine ks_wpAt_execs_cons (ks_wpAt_Assign_Attr (wpAt_of_wpAny (wpAny_Name (wpAny_loadName_local sk s2 hns3 n2 (wpAny_Name (wpAny_loadName_local sk s1 hns3 n1 ?_))))))
    refine set_plain K3 (ox := { cls := .ref C, dict := none, data := .fields #[.ref t3, .none, .none, .none, .bool false, .none] }) (od := none) ⟨x3, rfl, rfl, trivial⟩ ec.ox.sa ?_
    refine HandSPX.exc_osa K3 x3 hcl2 (show HandSPX.refsVE (.ref C :: bm) = true from hbm) rfl ec.fld fun h4 t4 dx k4 dn dne x4 hn4 => ?_
    refine wpAt_of_wpAny (wpAny_pure (show CE outer P w H s Q .none _ from ?_))
    have sz : s.heap.objs.size ≤ dx := by
      obtain ⟨oL, _, _, hL, _⟩ := hns3
      exact Nat.le_trans (Nat.le_of_lt (Heap.lt_size hL)) dn
    have hdx : H dx = none := e0.hok.fresh sz
    have kAll : ∀ b o, b ≠ a → s.heap.get? b = some o → h4.get? b = some o := fun b o nb e => k4 b o nb (k3 b o nb (k2 b o (k1 b o (kp b o e))))
    exact ei_end e0 ha hdx dne sz kAll x4 hn4 ry (kq dx hdx dne)
end
end OB

set_option Elab.async false
set_option linter.all false
set_option maxRecDepth 100000
set_option maxHeartbeats 4000000
/-! OB, part r: errors as values: made, their field read, isinstance. -/
namespace OB
open PySem PySem.Spec PyProof.Rows L2 PySem.W
/-- C(e), C an own class of errors: the object stays with us -/
def tMkE (C : Addr) (sp : Sp) (ta : TA) : TE := fun σ H Q => ta σ H fun vs H1 => vs.length = 1 ∧ ∀ a, H1 a = none → sp (.ref a :: vs) (upd H1 a (exo a C none)) (fun v H2 => v = .non ∧ Q (.ref a) H2) fun _ _ _ => False
/-- x.f of an error -/
def rEf (K : Frag) (f : Str) (x : V) (H : Hp) (Q : VK) : Prop := ∃ (a C dx : Addr) (fs : List (Str × V)) (v : V), x = .ref a ∧ XfC K C ∧ findIn K (.ref C) f = some none ∧ H a = some (exo a C (some dx)) ∧ H dx = some (exd dx fs) ∧ fs.lookup f = some v ∧ Q v H
def tEf (K : Frag) (f : Str) (te : TE) : TE := fun σ H Q => te σ H fun x H1 => rEf K f x H1 Q
/-- isinstance(e, c), e an error -/
def rIsX (K : Frag) : List V → Hp → VK → Prop := fun xs H Q => ∃ (a C dx : Addr) (fs : List (Str × V)) (c : V) (cv : Value) (b : Bool), xs = [.ref a, c] ∧ ClsV c cv ∧ ExcC K C ∧ H a = some (exo a C (some dx)) ∧ H dx = some (exd dx fs) ∧ fs.lookup ("__class__" : Str) = none ∧ kitOne K (.ref C) cv = some b ∧ Q (.bl b) H
section
variable {X : Cx} {e : Expr} {es : List Expr} {te : TE} {ta : TA} {p p' pos : Pos}
theorem pe_mkE {CX : CXT} {x : Str} {C fI : Addr} {k : Nat} {fd : FuncData} {sp : Sp} (T : OexC X.K C) (iC : findIn X.K (.ref C) "__init__" = some (some (.ref fI))) (tI : typeIn X.K (.ref fI) = some (.type "function"))
    (F1 : FnOk X.prog X.w X.K X.mg X.base CX k fI fd ["self", "value"] sp) (hr : Room (k + 1) X.A) (hb : L2.Binds X.K fd ["self", "value"] []) (hx : Passes CX X fun _ _ _ => False) (hg : Gl X x) (hm : X.mg x = some (.ref C)) (ha : PA X (e :: es) ta)
    (hdb : (x == ("__debug__" : Str)) = false := by decide) (he : starEach (e :: es) X.env = (false, eval e X.env) :: starEach es X.env := by rfl) (hpl : (backTo pos (starEach es X.env)).any (·.1) = false := by rfl) : PE X (.Call (.Name x p) (e :: es) [] pos) (tMkE C sp ta) := by
  refine ⟨fun pins s σ H Q I h => ?_⟩
  obtain ⟨nm, q, N, bs, bm, sn, sub, ab, col, dd, k0, k1, k2, k3, k5, hC, hbm⟩ := T.cls
  refine wpAny_Call_Name_kw (ld_glob I hg hm ?_ hdb)
  refine callWith_K (h₀ := X.base) I.ok.mod.kin T.kC (thn (ha.run pos pins s σ H _ I h) fun us s1 ⟨vs, H1, I1, r1, hz, q1⟩ => ⟨I1.kIn, show wpAny _ _ (call (.ref C) us) _ _ _ from ?_⟩) he hpl
  obtain ⟨hp, g, dr, tk, os⟩ := s1
  have hn : H1 (hp.objs.size + 1) = none := I1.hok.fresh (Nat.le_succ _)
  have hq := q1 (hp.objs.size + 1) hn
  have hget : ((hp.push (kdv_tup us)).push (HandSPX.excO C hp.objs.size)).get? (hp.objs.size + 1) = some (HandSPX.excO C hp.objs.size) := by heap_get
  have J : Inv X pins σ (upd H1 (hp.objs.size + 1) (exo (hp.objs.size + 1) C none)) ⟨(hp.push (kdv_tup us)).push (HandSPX.excO C hp.objs.size), g, dr, tk, os⟩ :=
    I1.laid (t' := tk) (fun b o z => Heap.get?_push_of_some _ (Heap.get?_push_of_some _ z)) (Nat.le_succ _) (exo_ok hget)
  have r2 : Vals (V.ref (hp.objs.size + 1) :: vs) (Value.ref (hp.objs.size + 1) :: us) := .cons rfl r1
  have ul : us.length = 1 := (Paired.length r1).symm.trans hz
  refine wpAny_call (HandSPX.call_own PySem.F.excBase_ValueError (fun Y => HandSPX.refsVE_contains Y bm hbm) (I1.kIn _ _ hC) (looks_findIn I1.kIn iC) (fun self => bind_fn I1.kIn self tI) (by rw [ul]; decide)
    (codeAny_mono (F1.run _ X.stack _ _ ⟨Value.ref (hp.objs.size + 1) :: us, []⟩ (Value.ref (hp.objs.size + 1) :: us) _ _ (fun _ _ _ => False) (hr.make C us []) (J.env0.make C us [])
      (by have := hb _ (Value.ref (hp.objs.size + 1) :: us) J.kIn (by rw [List.append_nil, List.length_cons, ul]; rfl); rw [List.append_nil] at this; exact this) r2 hq) fun r s' hq' => ?_))
  cases r with
  | error er => exact hx pins σ _ _ er s' J hq'
  | ok fl =>
    cases fl with
    | ret u =>
      obtain ⟨v, H', I', rv, rfl, q2⟩ := J.after hq'
      exact ⟨rv, .ref (hp.objs.size + 1), H', I', rfl, q2⟩
    | next => exact False.elim hq'
    | brk => exact False.elim hq'
    | cont => exact False.elim hq'
theorem pe_ef {n : Str} (he : PE X e te) (hb : attributeBase e n X.env (eval e X.env) = eval e X.env := by rfl) : PE X (.Attribute e n pos) (tEf X.K n te) := by
  refine ⟨fun pins s σ H Q I h => attr_of hb (thn (he.run pins s σ H _ I h) fun u s1 hh => ?_)⟩
  obtain ⟨x, H1, I1, rx, a, C, dx, fs, v, ex, T, hno, ea, ed, l, q⟩ := hh
  subst ex
  obtain rfl : u = Value.ref a := rx
  obtain ⟨t1, ho⟩ := exo_at I1.hok ea
  obtain ⟨mA, hns, rel⟩ := exd_at I1.hok ed
  obtain ⟨od, hd, hl⟩ := lookIn_ns hns
  obtain ⟨u, hu, ru⟩ := RelO.some_of (v := v) (o := mA n) (by rw [← l]; exact rel n)
  exact HandSPX.exc_get I1.kIn (⟨ho, rfl, rfl, hd⟩ : InstAt s1.heap a _ C (some od)) T.ga T.gg T.exC (findObj_own T.hdC hno rfl (by rw [hl, hu])) (handed_of ru) ⟨v, H1, I1.tok _, ru, q⟩
theorem call_isX : CallR X (.builtin "isinstance") (rIsX X.K) := by
  intro pins s σ H xs us Q I r h
  obtain ⟨a, C, dx, fs, c, cv, b, rfl, hc, T, ea, ed, hl, e, q⟩ := h
  obtain ⟨u1, u2, rfl, r1, r2⟩ := vals2 r
  obtain rfl : u2 = cv := hc.eq r2
  obtain rfl : u1 = Value.ref a := r1
  obtain ⟨t1, ho⟩ := exo_at I.hok ea
  obtain ⟨mA, hns, rel⟩ := exd_at I.hok ed
  obtain ⟨od, hd, hl2⟩ := lookIn_ns hns
  obtain ⟨cdD, hcD, _⟩ := any_some T.hd
  have J : InstAt s.heap a _ C (some od) := ⟨ho, rfl, rfl, hd⟩
  exact kia_one (kitx_exc (by rw [hcD]; rfl) T.hg T.hk T.hs T.ha T.hn T.ht T.hm) I.kIn J e (fun z => nomatch z) fun tk => ⟨.bl b, H, I.tok tk, rfl, q⟩
end
end OB

set_option Elab.async false
set_option linter.all false
set_option maxRecDepth 100000
set_option maxHeartbeats 4000000
/-! OB, part s: what a class of errors must have, checked at once. -/
namespace OB
open PySem PySem.Spec PyProof.Rows L2 PySem.W
/-- a class of errors: D the first one of them, whose __init__ stands at I -/
structure ErrC (K : Frag) (D I C : Addr) : Prop where
  er : ErC K D C
  ini : findIn K (.ref C) "__init__" = some (some (.ref I))
  xf : XfC K C
  ex : ExcC K C
  cls : ((clsIn K C).isSome && typeIn K (.ref C) == some (.type "type")) = true
  kitD : kitOne K (.ref C) (.ref D) = some true
  kitV : kitOne K (.ref C) (.type "ValueError") = some true
  kitN : ∀ C', C' ≠ C → C' ≠ D → ((clsIn K C').isSome && typeIn K (.ref C') == some (.type "type")) = true → kitOne K (.ref C) (.ref C') = some false
def shB (K : Frag) (D C : Addr) : Bool := match K.lookup C with
  | some ⟨.type "type", _, .cls cd, sl⟩ => (match cd.mro, sl.toList with
    | .ref C' :: bm, [_, _, _, _, some (.builtin n), _] => C' == C && (n == "ValueError.__new__" && (!cd.hasDel && (cd.hasDict && bm == (if C == D then HandSPX.veTail else .ref D :: HandSPX.veTail))))
    | _, _ => false)
  | _ => false
def erB (K : Frag) (D I C : Addr) : Bool := shB K D C && (decide (findIn K (.ref C) "__setattr__" = some (some (.builtin "object.__setattr__"))) && (decide (findIn K (.ref C) "__init__" = some (some (.ref I))) &&
  (decide (findIn K (.ref C) "__getattribute__" = some (some (.builtin "BaseException.__getattribute__"))) && (decide (findIn K (.ref C) "__getattr__" = some none) &&
  (decide (findIn K (.ref C) "__class__" = some (some (.builtin "object.__class__"))) && (decide (findIn K (.ref C) "value" = some none) && keepIn K (.ref C)))))))
theorem ve_init (K : Frag) : alongIn K "__init__" HandSPX.veTail = some (some (.builtin "ValueError.__init__")) := by kernel_rfl
theorem erB_ok {K : Frag} {D I C : Addr} (hn : specialIn K (.builtin "object.__class__") "__get__" = some (some (.builtin "getset_descriptor.__get__"))) (ht : takesIn K (.builtin "object.__class__") = some true) (hD : ((clsIn K D).isSome && typeIn K (.ref D) == some (.type "type")) = true) (h : erB K D I C = true) : ErrC K D I C := by
  unfold erB at h
  simp only [Bool.and_eq_true, decide_eq_true_eq] at h
  obtain ⟨h1, hsa, hini, hga, hgt, hca, hva, hk⟩ := h
  unfold shB at h1
  split at h1
  · rename_i dd cd sl hC
    split at h1
    · rename_i C' bm k0 k1 k2 k3 n k5 hm hs
      simp only [Bool.and_eq_true, beq_iff_eq, Bool.not_eq_true'] at h1
      obtain ⟨rfl, rfl, hdel, hdc, hbm⟩ := h1
      obtain ⟨nm, bs, mro, ns, qn, hd, sn, sb, ab, col, del⟩ := cd
      dsimp only at hm hdel hdc
      subst hm hdel hdc
      have hsl : sl = #[k0, k1, k2, k3, some (.builtin "ValueError.__new__"), k5] := by
        obtain ⟨l⟩ := sl
        simp only at hs
        rw [hs]
      subst hsl
      have hcl : clsIn K C' = some { name := nm, bases := bs, mro := .ref C' :: bm, ns := ns, qualname := qn, hasDict := true, slotNames := sn, subclasses := sb, abstract := ab, collection := col, hasDel := false } := by
        unfold clsIn
        rw [hC] <;> rfl
      have mi : ∀ b, mroIn K C' b = some ((Value.ref C' :: bm).contains b) := fun b => by
        unfold mroIn
        rw [hcl]
        rfl
      have ty : typeIn K (.ref C') = some (.type "type") := by
        show (K.lookup C').map (·.cls) = _
        rw [hC]
        rfl
      have hvt : HandSPX.refsVE bm = true := by
        rw [hbm]
        split <;> rfl
      have con : ∀ T, HandSPX.veTail.contains (Value.type T) = true → (Value.ref C' :: bm).contains (Value.type T) = true := fun T e => by
        rw [List.contains_cons, hbm]
        split
        · rw [e, Bool.or_true]
        · rw [List.contains_cons, e, Bool.or_true, Bool.or_true]
      have cD : (Value.ref C' :: bm).contains (Value.ref D) = true := by
        rw [List.contains_cons, hbm]
        split
        · rename_i e
          have e : C' = D := by simpa using e
          subst e
          rw [beq_self_eq_true, Bool.true_or]
        · rw [List.contains_cons, beq_self_eq_true, Bool.true_or, Bool.or_true]
      have hcls : ((clsIn K C').isSome && typeIn K (.ref C') == some (.type "type")) = true := by
        rw [hcl, ty]
        rfl
      have hsup : ks_superIn K C' D "__init__" = some (some (.builtin "ValueError.__init__")) := by
        unfold ks_superIn
        rw [hcl, Option.bind_some, ← ve_init K, hbm]
        congr 1
        split
        · rename_i e
          have e : C' = D := by simpa using e
          subst e
          simp [List.dropWhile_cons]
        · rename_i e
          have e : C' ≠ D := by simpa using e
          simp [List.dropWhile_cons, e]
      have ox : OexC K C' := ⟨⟨nm, qn, ns, bs, bm, sn, sb, ab, col, dd, k0, k1, k2, k3, k5, hC, hvt⟩, hsa, (mi _).trans (congrArg some (con "BaseException" (by decide +kernel))), ty, hk⟩
      have hdi : hasDictIn K C' = true := by
        unfold hasDictIn
        rw [hcl]
        rfl
      refine ⟨⟨ox, (mi _).trans (congrArg some cD), hsup, (mi _).trans (congrArg some (con "ValueError" (by decide +kernel))), hva⟩, hini, ⟨hga, hgt, ox.exC, hdi⟩, ⟨hga, hgt, ox.exC, hdi, hca, hn, ht, (mi _).trans (congrArg some (con "object" (by decide +kernel)))⟩, hcls, ?_, ?_, fun C2 n1 n2 h2 => ?_⟩
      · unfold kitOne
        by_cases c : C' = D
        · subst c
          rw [if_pos (beq_self_eq_true _)]
        · rw [if_neg (by simpa using c)]
          show (if ((clsIn K D).isSome && typeIn K (.ref D) == some (.type "type")) = true then mroIn K C' (.ref D) else none) = some true
          rw [if_pos hD, mi, cD]
      · unfold kitOne
        rw [if_neg (by simp)]
        show (if kitMeta "ValueError" = true then mroIn K C' (.type "ValueError") else none) = some true
        rw [if_pos (by decide +kernel), mi, con "ValueError" (by decide +kernel)]
      · unfold kitOne
        rw [if_neg (by simpa using fun z => n1 z.symm)]
        show (if ((clsIn K C2).isSome && typeIn K (.ref C2) == some (.type "type")) = true then mroIn K C' (.ref C2) else none) = some false
        rw [if_pos h2, mi, List.contains_cons, hbm]
        have q1 : (Value.ref C2 == Value.ref C') = false := by simpa using n1
        have q2 : (Value.ref C2 == Value.ref D) = false := by simpa using n2
        have q3 : HandSPX.veTail.contains (Value.ref C2) = false := by simp [HandSPX.veTail]
        rw [q1]
        split
        · rw [q3]; rfl
        · rw [List.contains_cons, q2, q3]; rfl
    · cases h1
  · cases h1
end OB

set_option Elab.async false
set_option linter.all false
set_option maxRecDepth 100000
set_option maxHeartbeats 4000000
/-! OB, part t: errors' fields with K told; list.count and index of data; repr and != of small dicts; lists joined. -/
namespace OB
open PySem PySem.Spec PyProof.Rows L2 PySem.W
section
variable {X : Cx} {K : Frag}
theorem pe_efK (h : X.K = K) {e : Expr} {te : TE} {pos : Pos} {n : Str} (he : PE X e te) (hb : attributeBase e n X.env (eval e X.env) = eval e X.env := by rfl) : PE X (.Attribute e n pos) (tEf K n te) := h ▸ pe_ef he hb
theorem mtrK {id : String} {r : Frag → V → List V → Hp → VK → Prop} (h : X.K = K) (c : MtR X id (r X.K)) : MtR X id (r K) := h ▸ c
theorem oprK {f : Value → Value → Sem Value} {r : Frag → R2} (h : X.K = K) (c : OpR X f (r X.K)) : OpR X f (r K) := h ▸ c
/-- l.count(x) of data -/
def rCntD (K : Frag) : V → List V → Hp → VK → Prop := fun x xs H Q => ∃ (a : Addr) (y : V) (d : PyData) (ds : List PyData), x = V.ref a ∧ xs = [y] ∧ L2.Dp K H (V.ref a) (.list ds) ∧ L2.Dp K H y d ∧ SeqAt.shaped (.list ds) = true ∧ SeqAt.shaped d = true ∧
  Q (.int ((ds.countP fun z => PyData.eqv z d : Nat) : Int)) H
theorem mt_cntD (hu : X.A.units + 65 < cLine) : MtR X "list.count" (rCntD X.K) := by
  intro pins s σ H x xs v us Q I rx rxs h
  obtain ⟨a, y, d, ds, rfl, rfl, hl, hy, sl, sd, q⟩ := h
  cases rx
  obtain ⟨uy, rfl, ry⟩ := rxs.one
  obtain ⟨bs, r1⟩ := Dp.reads I d y uy hy ry
  have room : X.A.units + 1 + min (PyData.depthAll ds) d.depth < cLine := room_in_shaped sd hu
  have lay : PyData.canLayAll0 ds = true := SeqAt.canLay_of_shaped sl
  cases hl with
  | lst hs ha =>
    obtain ⟨its, rv, ⟨⟨cls, dd, data, sls⟩, n, ho, hc, hdn, hdt⟩, hlen⟩ := I.list hs
    simp only at hc hdt
    subst hc hdt
    obtain ⟨as, r4⟩ := Dp.readsAll I ds _ its ha rv
    have hmap : its.map (SeqAt.readOf s.heap) = ds := SeqAt.readsAll_map ds its as lay r4
    have hcnt : its.toArray.toList.countP (fun u => PyData.eqv (SeqAt.readOf s.heap u) d) = ds.countP fun z => PyData.eqv z d := by
      rw [← hmap, List.countP_map]
      rfl
    refine call_meets PySem.F.slot_list_count ⟨_, ho, rfl⟩ PySem.F.entry_list_count (PySem.F.args_list_count_2 _ _) (SeqAt.list_countAt a its.toArray n dd sls uy fun u => PyData.eqv (SeqAt.readOf s.heap u) d)
      ⟨ho, SeqAt.items_eqAt (vs := its.toArray) (show ReadsAll s.heap its.toArray.toList ds as from r4) r1 lay (SeqAt.canLay_of_shaped sd) room, ?_⟩
    rw [hcnt]
    exact ⟨.int _, H, I.tok _, ⟨_, rfl⟩, q⟩
/-- the small dicts of which is asked here -/
def oddK (kvs : List (Key × V)) (d : PyData) : Prop := (kvs = [] ∧ d = .dict []) ∨ (kvs = [(.inr "a", .int 1)] ∧ d = .dict [(.str "a", .int 1)])
def rReprX (K : Frag) : List V → Hp → VK → Prop := fun xs H Q => rRepr K xs H Q ∨ ∃ (a : Addr) (kvs : List (Key × V)) (d : PyData), xs = [.ref a] ∧ H a = some (.dK kvs) ∧ oddK kvs d ∧ Q (.str d.shown) H
theorem odd_reads {P : Program} {w : World} {H : Hp} {h : Heap} {a : Addr} {kvs : List (Key × V)} {d : PyData} (hok : HOk P w H h) (ha : H a = some (.dK kvs)) (o : oddK kvs d) : ∃ as, Reads h (.ref a) d as ∧ sysModules ∉ as := by
  obtain ⟨_, hs, vs, kv, ob, es, ep, hg, hx, hd, _, hp, _⟩ := hok a _ ha
  have hs' : sysModules ≠ a := fun z => by
    subst z
    simp at hs
  rcases o with ⟨rfl, rfl⟩ | ⟨rfl, rfl⟩
  · cases kv
    cases he : es.toList with
    | cons e r =>
      rw [he] at hp
      cases hp
    | nil =>
      refine ⟨_, Reads.dict (kvs := []) hg hx.1 hd (by rw [he]; exact .nil) (by rw [he]; exact .nil), ?_⟩
      simp [hs']
  · obtain ⟨qk, qv, rfl, e1, e2⟩ : ∃ (qk : Key) (qv : Value), vs = [(qk, qv)] ∧ (.inr "a" : Key) = qk ∧ RelV (.int 1) qv := by
      cases kv with
      | cons k1 kv =>
        cases kv
        exact ⟨_, _, rfl, k1.1, k1.2⟩
    subst e1
    obtain ⟨t2, rfl⟩ := e2
    cases he : es.toList with
    | nil =>
      rw [he] at hp
      cases hp
    | cons e r =>
      rw [he] at hp
      cases hp with
      | cons ke ve hp =>
        cases hp
        rcases keyIs_shape (show keyIs (.inr "a") e.key = true from ke) with ⟨i, t, z, _⟩ | ⟨x, t, z, ek⟩
        · cases z
        · cases z
          refine ⟨_, Reads.dict (kvs := [(.str "a", .int 1)]) hg hx.1 hd (by rw [he]; simp only [List.map_cons, List.map_nil, ek]; exact .cons (.str _ _) .nil) (by rw [he]; simp only [List.map_cons, List.map_nil, ve]; exact .cons (.int _ _) .nil), ?_⟩
          simp [hs']
theorem call_reprX {k : Nat} (g : RG k X.A) : CallR X (.builtin "repr") (rReprX X.K) := by
  intro pins s σ H xs us Q I r h
  rcases h with h | ⟨a, kvs, d, rfl, ha, o, q⟩
  · exact call_repr g pins s σ H xs us Q I r h
  · obtain ⟨u, rfl, ru⟩ := vals1 r
    cases ru
    have hun := g.rm.un
    obtain ⟨as, rd, ns⟩ := odd_reads I.hok ha o
    have fin : d.showable = true ∧ d.depth ≤ 3 ∧ d.shown.length ≤ 20 := by
      rcases o with ⟨_, rfl⟩ | ⟨_, rfl⟩
      · exact ⟨by decide +kernel, by decide +kernel, by decide +kernel⟩
      · exact ⟨by decide +kernel, by decide +kernel, by decide +kernel⟩
    exact repr_of_reads' rd fin.1 (fun _ => ns) g.gd (by have := fin.2.1; omega) (fun _ _ e => e) (fun h' u tk hk => ⟨.str _, H, I.kept hk, ⟨_, rfl⟩, q⟩) (by have := fin.2.2; rw [sizeLine_eq]; omega)
def rNeX (K : Frag) : R2 := fun x y H Q => rNeD K x y H Q ∨ rNeDA x y H Q
theorem op_neX (hu : X.A.units + 64 < cLine) : OpR X (compareOp .NotEq) (rNeX X.K) := by
  intro pins s σ H x y v u Q I rx ry h
  rcases h with h | h
  · exact op_neD hu pins s σ H x y v u Q I rx ry h
  · exact op_ne_dictA (by omega) pins s σ H x y v u Q I rx ry h
end
section
variable {K : Frag} {F : List (Addr × HO)} {G : List Ft} {H : Hp} {Q : VK} {l b : Addr} {vs zs : List V}
theorem g_catH (S : Sy K F G H) (h1 : H l = some (.lst vs)) (h2 : H b = some (.lst zs)) (hl : vs.length + zs.length ≤ 100000) (k : ∀ p H', Sy K ((p, .lst (vs ++ zs)) :: F) G H' → Q (.ref p) H') : rCat (.ref l) (.ref b) H Q :=
  ⟨l, b, vs, zs, rfl, rfl, h1, h2, Nat.le_trans hl (by decide), fun p hp => k p _ (S.push hp)⟩
end
end OB

set_option Elab.async false
set_option linter.all false
set_option maxRecDepth 100000
set_option maxHeartbeats 4000000
/-! OB, part v: dicts with tuple keys: setdefault, get, d[k], d[k] = v, their keys and items gone through, sorted; sorted of a list of data. -/
namespace OB
open PySem PySem.Spec PyProof.Rows L2 PySem.W
section
variable {K : Frag} {F F' : List (Addr × HO)} {G : List Ft} {H : Hp} {p : Addr} {xs : List V}
theorem Sy.perm (S : Sy K F G H) (h : F'.Perm F) : Sy K F' G H := ⟨fun q hq => S.st q (h.mem_iff.mp hq), (h.map _).nodup_iff.mpr S.nd, S.ft⟩
theorem Sy.toTT : ∀ {l : List (Addr × List V)}, Sy K (l.map (fun q => (q.1, HO.tup q.2)) ++ F) G H → Sy K F (.tt l :: G) H := fun {l} S =>
  ⟨fun q hq => S.st q (List.mem_append_right _ hq), by
    have := S.nd
    rw [List.map_append] at this
    exact (List.nodup_append.mp this).2.1, fun g hg => by
    rcases List.mem_cons.mp hg with rfl | hg
    · exact fun q hq => S.st (q.1, .tup q.2) (List.mem_append_left _ (List.mem_map.mpr ⟨q, hq, rfl⟩))
    · exact S.ft g hg⟩
theorem Sy.toTT1 (S : Sy K ((p, .tup xs) :: F) G H) : Sy K F (.tt [(p, xs)] :: G) H := Sy.toTT (l := [(p, xs)]) S
end
/-! ### methods -/
def rSetdT (x : V) (xs : List V) (H : Hp) (Q : VK) : Prop := ∃ a kvs k b z, x = .ref a ∧ xs = [.ref b, z] ∧ H a = some (.dT kvs) ∧ H b = some (.tup (k.map kV)) ∧ kvs.length < sizeLine ∧ (∀ v, valV kvs k = some v → Q v H) ∧ (valV kvs k = none → Q z (upd H a (.dT (putK kvs k z))))
def rGetT (x : V) (xs : List V) (H : Hp) (Q : VK) : Prop := ∃ a kvs k b z, x = .ref a ∧ xs = [.ref b, z] ∧ Rd H a (.dT kvs) ∧ H b = some (.tup (k.map kV)) ∧ Q ((valV kvs k).getD z) H
section
variable {X : Cx}
theorem mt_setdT (hu : X.A.units + 1 < cLine) : MtR X "dict.setdefault" rSetdT := by
  intro pins s σ H x xs v us Q I rx rxs h
  obtain ⟨a, kvs, k, b, z, rfl, rfl, e, eb, hl, h1, h2⟩ := h
  cases rx
  obtain ⟨u0, u1, rfl, r0, r1⟩ : ∃ u0 u1, us = [u0, u1] ∧ RelV (.ref b) u0 ∧ RelV z u1 := by
    cases rxs with
    | cons r0 t =>
      cases t with
      | cons r1 t => cases t; exact ⟨_, _, rfl, r0, r1⟩
  cases r0
  obtain ⟨hz, hd, ks, rel, dd⟩ := dt_of I.hok e
  have hzl : ks.length ≤ sizeLine := by rw [← Paired.length rel]; exact hz
  refine call_setdefault_heap (hsz := hzl) (tupleKind_room_in1 hu) (key_of I.hok eb) hd dd (fun q hq => ?_) fun hn h' dd' hs => ?_
  · have q1 := rel.val k
    rw [hq] at q1
    cases q0 : valV kvs k with
    | none =>
      rw [q0] at q1
      exact (show False from q1).elim
    | some v0 =>
      rw [q0] at q1
      exact ⟨v0, H, I.tok _, q1, h1 v0 q0⟩
  · have q1 := rel.val k
    rw [hn] at q1
    cases q0 : valV kvs k with
    | some v0 =>
      rw [q0] at q1
      exact (show False from q1).elim
    | none =>
      have hl2 : (putK kvs k z).length ≤ sizeLine := by
        have := length_putK kvs k z
        omega
      obtain ⟨q, es, ep, hq, c2, c3, c4, c5, c6⟩ := dd'
      refine ⟨z, _, d_write (ob := .dT (putK kvs k z)) (t' := s.toks + _) I (by rw [e]; exact True.intro) hs ⟨q, hq⟩ ⟨hl2, hd, _, (rel.put k eb r1).keeps fun c ys ec => ?_, q, es, ep, hq, c2, c3, c4, c6⟩, r1, h2 q0⟩
      rw [upd_ne (ne_of ec e (fun z => nomatch z))]
      exact ec
theorem mt_getT (hu : X.A.units + 1 < cLine) : MtR X "dict.get" rGetT := by
  intro pins s σ H x xs v us Q I rx rxs h
  obtain ⟨a, kvs, k, b, z, rfl, rfl, e, eb, q⟩ := h
  cases rx
  obtain ⟨u0, u1, rfl, r0, r1⟩ : ∃ u0 u1, us = [u0, u1] ∧ RelV (.ref b) u0 ∧ RelV z u1 := by
    cases rxs with
    | cons r0 t =>
      cases t with
      | cons r1 t => cases t; exact ⟨_, _, rfl, r0, r1⟩
  exact d_get2 hu I (y := .ref b) (o := valV kvs k) (.inr ⟨kvs, k, b, e, rfl, eb, rfl⟩) r0 r1 fun w' s3 I3 rw' => ⟨_, H, I3, rw', q⟩
end
section
variable {K : Frag} {F : List (Addr × HO)} {G : List Ft} {σ : L2.St} {H : Hp} {Q : VK} {d b : Addr} {kvs : List (List Key × V)} {k : List Key} {i : Nat} {v z : V}
theorem g_setdT (S : Sy K F G H) (h : F[i]? = some (d, .dT kvs)) (hb : H b = some (.tup (k.map kV))) (hl : kvs.length < 100000) (h1 : ∀ v, valV kvs k = some v → Q v H)
    (h2 : ∀ H', valV kvs k = none → Sy K (F.set i (d, .dT (kvs ++ [(k, z)]))) G H' → Q z H') : rSetdT (.ref d) [.ref b, z] H Q :=
  ⟨d, kvs, k, b, z, rfl, rfl, S.at i h, hb, Nat.lt_of_lt_of_le hl (by decide), h1, fun hn => h2 _ hn (by have := S.put (o' := .dT (putK kvs k z)) i h rfl; rw [putK_new z hn] at this ⊢; exact this)⟩
theorem g_getT (h : Rd H d (.dT kvs)) (hb : H b = some (.tup (k.map kV))) (q : Q ((valV kvs k).getD z) H) : rGetT (.ref d) [.ref b, z] H Q := ⟨d, kvs, k, b, z, rfl, rfl, h, hb, q⟩
theorem g_dgetT (h : Rd H d (.dT kvs)) (hb : H b = some (.tup (k.map kV))) (e : valV kvs k = some v) (q : Q v H) : rDGet (.ref d) (.ref b) H Q := ⟨d, v, rfl, .inr ⟨kvs, k, b, h, rfl, hb, e.symm⟩, q⟩
theorem g_setDT {QH : Hp → Prop} (S : Sy K F G H) (h : F[i]? = some (d, .dT kvs)) (hb : H b = some (.tup (k.map kV))) (hl : kvs.length < 100000) (q : ∀ H', Sy K (F.set i (d, .dT (putK kvs k v))) G H' → QH H') : rSetD (.ref d) (.ref b) v H QH :=
  ⟨d, _, rfl, .inr ⟨kvs, k, b, S.at i h, rfl, hb, Nat.lt_of_lt_of_le hl (by decide), rfl⟩, q _ (S.put i h rfl)⟩
end
/-! ### a value locked for good -/
def tFrz (t : TE) : TE := fun σ H Q => t σ H fun x H1 => ∃ d u, x = .ref d ∧ H1 d = some u ∧ Mut (some u) ∧ ∀ od, Q (.ref d) (upd H1 d (.frz od u))
theorem pe_frz {X : Cx} {e : Expr} {t : TE} (h : PE X e t) : PE X e (tFrz t) := by
  refine ⟨fun pins s σ H Q I hw => ?_⟩
  refine thn (h.run pins s σ H _ I hw) fun u s1 ⟨x, H1, I1, rx, d, o, ex, hd, mu, q⟩ => ?_
  subst ex
  obtain ⟨od, I2⟩ := I1.lock hd mu
  exact ⟨.ref d, _, I2, rx, q od⟩
/-! ### the items -/
def Itit (d : Addr) (o : Obj) (kvs : List (List Key × V)) : It :=
  ⟨fun i H => H d = some (.frz o (.dT kvs)) ∧ i < kvs.length, fun i H x H' => ∃ T k v q, kvs[i]? = some (k, v) ∧ x = .ref T ∧ H T = none ∧ H q = some (.tup (k.map kV)) ∧ H' = upd H T (.tup [.ref q, v]), fun i H => H d = some (.frz o (.dT kvs)) ∧ kvs.length ≤ i⟩
section
variable {P : Program} {w : World} {K : Frag} {X : Cx} {pins : List (Addr × Obj)} {σ : L2.St} {H : Hp} {s : Shared} {d : Addr} {o : Obj} {es : Array DictEntry} {ep : Nat}
theorem frzT' {kvs : List (List Key × V)} (I : Inv X pins σ H s) (h : H d = some (.frz o (.dT kvs))) :
    (d == sysModules) = false ∧ s.heap.get? d = some o ∧ o.ExactDict ∧ ∃ (es : Array DictEntry) (ep : Nat), o.data = .dict es ep ∧ es.size = kvs.length ∧
      ∀ (i : Nat) (k : List Key) (v : V), kvs[i]? = some (k, v) → ∃ (en : DictEntry) (q : Addr), es[i]? = some en ∧ en.key = .ref q ∧ H q = some (.tup (k.map kV)) ∧ RelV v en.val := by
  obtain ⟨hd, z, hs, xs, pr, o', es, ep, ho, hx, hdt, he, _⟩ := I.hok d _ h
  rw [hd] at ho
  cases ho
  refine ⟨hs, hd, hx, es, ep, hdt, ?_, fun i k v e => ?_⟩
  · have l1 : es.size = xs.length := size_of_entries he
    have l2 : kvs.length = xs.length := Paired.length pr
    omega
  · obtain ⟨b, hb, e1, e2, e3⟩ := paired_get pr e
    have q := entry_at he i
    rw [hb] at q
    exact ⟨_, b.2.1, q, rfl, e2, e3⟩
theorem turn_itemsT {kvs : List (List Key × V)} {elts : List Expr} {kk : Nat} {tpos : Pos} (it : Addr) (hod : o.data = .dict es ep) :
    Turn P w K (.Tuple elts kk tpos) (Itit d o kvs) [it] it (fun i h => ∃ ok ov, IsItemIter h it d i kvs.length ep ok ov) where
  mem := by simp
  obj := fun i h st b hb => by
    have e : b = it := by simpa using hb
    subst e
    obtain ⟨ok, ov, e⟩ := st
    exact ⟨_, e, fun v z => nomatch z⟩
  keep := fun i h h' st k => let ⟨ok, ov, e⟩ := st; ⟨ok, ov, k it (by simp) _ e⟩
  item := by
    intro X hP hw hK hc i pins s σ H E I hf st hg
    subst hP hw hK
    obtain ⟨hd, hi⟩ := hg
    obtain ⟨hs, hgd, hx, es', ep', hdt, hsz, ent⟩ := frzT' I hd
    obtain ⟨rfl, rfl⟩ := dict_ep hod hdt
    obtain ⟨⟨k, v⟩, hkv⟩ : ∃ p, kvs[i]? = some p := ⟨kvs[i], List.getElem?_eq_getElem hi⟩
    obtain ⟨en, q, hen, hkey, hq, rv⟩ := ent i k v hkv
    obtain ⟨ok, ov, he⟩ := st
    rw [← hsz] at he
    have hi' : i < es'.size := by omega
    have e3 : es'[i] = en := by
      have := Array.getElem?_eq_getElem hi'
      rw [hen] at this
      exact (Option.some.inj this).symm
    have hlt : it < s.heap.objs.size := Heap.lt_size he
    refine DT.nextI he ⟨o, hgd, hx, hdt⟩ hi' fun h' ho hT hz hk => ?_
    rw [e3] at ho hT
    refine ⟨_, rfl, wpAny_letOwnedTupleGo_items (s := { s with heap := h' }) ho fun h'' he' sb => ?_⟩
    have hT2 : h''.get? s.heap.objs.size = some { cls := .type "tuple", data := .seq #[en.key, en.val] } := (sb.2 _ (Nat.ne_of_gt hlt)).trans hT
    have new : ObjOk X.prog X.w (upd H s.heap.objs.size (.tup [.ref q, v])) h'' s.heap.objs.size (.tup [.ref q, v]) :=
      ⟨by show 2 ≤ sizeLine; decide, [en.key, en.val], .cons hkey (.cons rv .nil), ⟨_, hT2, rfl, _, rfl⟩⟩
    have I1 : Inv X pins σ (upd H s.heap.objs.size (.tup [.ref q, v])) { s with heap := h'' } :=
      I.turnedNew (t' := s.toks) (ch := [it]) (fun b ob hb e => (sb.2 b (by simpa using hb)).trans (hk b ob (by simpa using hb) e)) hf (Nat.le_refl _) new
    refine ⟨.ref s.heap.objs.size, _, I1, rfl, ⟨_, k, v, q, hkv, rfl, I.hok.fresh (Nat.le_refl _), hq, rfl⟩, ⟨en.key, en.val, ?_⟩, fun b hb => ?_⟩
    · rw [← hsz]; exact he'
    · have e : b = it := by simpa using hb
      rw [e, upd_ne (Nat.ne_of_lt hlt)]
      exact (hf it (by simp)).1
  done := by
    intro X hP hw hK hc i pins s σ H E I hf st hg
    subst hP hw hK
    obtain ⟨hd, hi⟩ := hg
    obtain ⟨f0, f1, f2, f3, f4, f5⟩ := hf it (by simp)
    obtain ⟨hs, hgd, hx, es', ep', hdt, hsz, ent⟩ := frzT' I hd
    obtain ⟨rfl, rfl⟩ := dict_ep hod hdt
    obtain ⟨ok, ov, he⟩ := st
    rw [← hsz] at he
    exact DT.endI (I.ok.hd hc) he ⟨o, hgd, hx, hdt⟩ (by omega) fun h' eb => ⟨rfl, I.turned (t' := s.toks) (fun b ob hb e => eb b ob hb e) f0 f1 f3 f4 f5⟩
  self := fun A i s Q E st h => let ⟨_, _, e⟩ := st; PySem.W.kcp_self e h
end
def iItemsT (td : TE) : TI := fun σ H R => td σ H fun x H1 => ∃ d o kvs, x = .ref d ∧ H1 d = some (.frz o (.dT kvs)) ∧ R (Itit d o kvs) H1
theorem pi_itemsT {X : Cx} {e : Expr} {td : TE} {apos cpos : Pos} {elts : List Expr} {kk : Nat} {tpos : Pos} (he : PE X e td) (hbase : attributeBase e "items" X.env (eval e X.env) = eval e X.env := by rfl) (hline : (apos.endLine == cpos.line) = true := by rfl) :
    PI X (.Tuple elts kk tpos) (.Call (.Attribute e "items" apos) [] [] cpos) (iItemsT td) := by
  refine ⟨fun pins s σ H R I h => ?_⟩
  refine wpAny_Call_method (T := "dict") (id := "dict.items") hbase rfl hline F.plainAttrs_dict F.slot_dict_items F.type_dict_items (thn (he.run pins s σ H _ I h) fun u s1 ⟨x, H1, I1, rx, d, o, kvs, ex, hd, q⟩ => ?_)
  subst ex
  obtain rfl : u = Value.ref d := rx
  obtain ⟨hs, hgd, hx, es, ep, hdt, hsz, ent⟩ := frzT' I1 hd
  refine ⟨⟨o, hgd, hx.1⟩, fun b q => ?_, ?_⟩
  · cases q
    exact ⟨o, hgd, hx.2.1⟩
  have I2 : Inv X pins σ H1 { s1 with heap := s1.heap.push { cls := .type "dict_items", data := .fields #[.ref d] } } := I1.kept (t' := s1.toks) fun b ob q => Heap.get?_push_of_some _ q
  have fin : wpAny (model X.prog X.w) X.A (pyIter (.ref s1.heap.objs.size)) (PIE X pins σ (.Tuple elts kk tpos) R) X.xe { s1 with heap := s1.heap.push { cls := .type "dict_items", data := .fields #[.ref d] } } := by
    refine DT.iterI (d := d) (es := es) (ep := ep) ⟨_, Heap.get?_push_size _ rfl, rfl, rfl⟩ ⟨o, Heap.get?_push_of_some _ hgd, hx, hdt⟩ (pi_one (tk := s1.toks) I2 _ (turn_itemsT _ hdt) ⟨.none, .none, ?_⟩ q)
    rw [← hsz]
    exact Heap.get?_push_size _ rfl
  show wpAny _ _ (callWith cpos (.builtin "dict.items") [.ref d] [] []) _ X.xe s1
  exact method_meetsIn F.slot_dict_items F.entry_dict_items rfl (PySem.evalArgs_none ⟨rfl, ⟨o, hgd, hx.1⟩, F.args_dict_items_1 _, _, DT.meetsItems (es := es) (ep := ep) hs, ⟨⟨o, hgd, hx, hdt⟩, fin⟩⟩)
/-! ### sorted -/
def rSortD (K : Frag) : List V → Hp → VK → Prop := fun vs H Q => ∃ a xs ds, vs = [.ref a] ∧ SqL K H a xs ∧ DpAll K H xs ds ∧ AllAlike ds ∧ PySem.W.Sortable ds ∧ (∀ d ∈ ds, d.depth ≤ 50) ∧ xs.length ≤ 100000 ∧
  ∀ p, H p = none → Q (.ref p) (upd H p (.lst (((xs.zip ds).mergeSort (dataLe false Prod.snd)).map Prod.fst)))
theorem eachs_zip {h : Heap} : ∀ {xs : List V} {its : List Value} {ds : List PyData}, Vals xs its → EachIs (fun v b => ∃ as, Reads h v b as) its ds → EachIs (fun v b => RelV b.1 v) its (xs.zip ds) ∧ EachIs (fun v b => ∃ as, Reads h v b.2 as) its (xs.zip ds)
  | [], _, _, .nil, .nil => ⟨.nil, .nil⟩
  | _ :: _, _, _, .cons r t, .cons e u => ⟨.cons r (eachs_zip t u).1, .cons e (eachs_zip t u).2⟩
theorem eachs_vals : ∀ {out : List Value} {bs : List (V × PyData)}, EachIs (fun v b => RelV b.1 v) out bs → Vals (bs.map Prod.fst) out
  | [], _, .nil => .nil
  | _ :: _, _, .cons r t => .cons r (eachs_vals t)
section
variable {X : Cx}
theorem c_sortD (hu : X.A.units + 64 < cLine) : CallR X (.builtin "sorted") (rSortD X.K) := by
  intro pins s σ H vs us Q I r h
  obtain ⟨a, xs, ds, rfl, hs, hd, ha, hk, hdp, hl, q⟩ := h
  rw [Vals.ref1 r]
  obtain ⟨its, rv, pl, _⟩ := I.list hs
  obtain ⟨as, hr⟩ := Dp.readsAll I ds xs its hd rv
  have e0 : EachIs (fun v b => ∃ as, Reads s.heap v b as) its ds := readsAll_each (enc := id) (by rw [List.map_id]; exact hr)
  obtain ⟨e1, e2⟩ := eachs_zip rv e0
  have lx : xs.length = ds.length := dps_length hd
  have em : (xs.zip ds).map Prod.snd = ds := List.map_snd_zip (by omega)
  have lz : (xs.zip ds).length = xs.length := by rw [List.length_zip, lx, Nat.min_self]
  refine sorted_data (bs := xs.zip ds) (enc := Prod.snd) (R := fun v b => RelV b.1 v) pl.isList e1 e2 (by rw [em]; exact ha) (by rw [em]; exact hk) (by rw [lz]; exact Nat.le_trans hl (by decide)) (fun b hb => ?_) fun out ho eo => ?_
  · have := hdp b.2 (by rw [← em]; exact List.mem_map.mpr ⟨b, hb, rfl⟩)
    omega
  · have rv2 := eachs_vals eo
    obtain ⟨c, hc⟩ := sortedAll_at s.heap its (List.toArray out)
    refine ⟨.ref (s.heap.objs.size + 1), _, I.laid (t' := s.toks) (a := s.heap.objs.size + 1) (o := .lst (((xs.zip ds).mergeSort (dataLe false Prod.snd)).map Prod.fst)) (fun _ _ => sortedAll_old) (Nat.le_succ _) ?_, rfl, q _ (I.hok.fresh (Nat.le_succ _))⟩
    refine ⟨?_, out, c, rv2, hc⟩
    rw [List.length_map, List.length_mergeSort, lz]
    exact Nat.le_trans hl (by decide)
end
end OB

set_option Elab.async false
set_option linter.all false
set_option maxRecDepth 100000
set_option maxHeartbeats 4000000
/-! OB, part w: sorted of a dict with tuple keys; comprehensions over its items, over its keys and the lists that it holds, over a text; texts cut, joined, read as numbers; remove. -/
namespace OB
open PySem PySem.Spec PyProof.Rows L2 PySem.W
/-! ### sorted(d) -/
def kD : L2.Key → PyData
  | .inl i => .int i
  | .inr s => .str s
def kDs (k : List L2.Key) : PyData := .tuple (k.map kD)
theorem dps_key {K : Frag} {H : Hp} : ∀ k : List L2.Key, DpAll K H (k.map kV) (k.map kD)
  | [] => .nil
  | .inl i :: r => .cons (.int i) (dps_key r)
  | .inr s :: r => .cons (.str s) (dps_key r)
theorem dp_key {K : Frag} {H : Hp} {q : Addr} {k : List L2.Key} (h : H q = some (.tup (k.map kV))) : Dp K H (.ref q) (kDs k) := .tup (.inl (.inl h)) (dps_key k)
def rSortDT : List V → Hp → VK → Prop := fun vs H Q => ∃ d kvs, vs = [.ref d] ∧ Rd H d (.dT kvs) ∧ kvs.length ≤ 100000 ∧ AllAlike (kvs.map fun p => kDs p.1) ∧ (∀ p ∈ kvs, p.1 ≠ []) ∧ (∀ p ∈ kvs, (kDs p.1).depth ≤ 50) ∧
  ∀ p bs, H p = none → IsKeys H kvs bs → Q (.ref p) (upd H p (.lst (((bs.zip (kvs.map Prod.fst)).mergeSort (dataLe false fun b => kDs b.2)).map fun b => V.ref b.1)))
theorem isKeys_get {H : Hp} : ∀ {kvs : List (List L2.Key × V)} {bs : List Addr}, IsKeys H kvs bs → ∀ z ∈ bs.zip (kvs.map Prod.fst), H z.1 = some (.tup (z.2.map kV))
  | [], [], .nil, _, h => by cases h
  | _ :: _, _ :: _, .cons h t, z, hz => by
    rcases List.mem_cons.mp hz with rfl | hz
    · exact h
    · exact isKeys_get t z hz
theorem eachs_refs {R : Value → Addr × List L2.Key → Prop} : ∀ {vs : List Value} {bs : List (Addr × List L2.Key)}, vs = bs.map (fun b => Value.ref b.1) → (∀ b ∈ bs, R (.ref b.1) b) → EachIs R vs bs
  | _, [], rfl, _ => .nil
  | _, b :: bs, rfl, h => .cons (h b (List.mem_cons_self ..)) (eachs_refs rfl fun c hc => h c (List.mem_cons_of_mem _ hc))
theorem eachs_out : ∀ {out : List Value} {bs : List (Addr × List L2.Key)}, EachIs (fun v b => v = .ref b.1) out bs → Vals (bs.map fun b => V.ref b.1) out
  | [], _, .nil => .nil
  | _ :: _, _, .cons rfl t => .cons rfl (eachs_out t)
section
variable {X : Cx}
theorem c_sortDT (hc : X.calm = true) (hu : X.A.units + 64 < cLine) : CallR X (.builtin "sorted") rSortDT := by
  intro pins s σ H xs us Q I r h
  obtain ⟨d, kvs, rfl, hd, hl, hal, hne, hdp, q⟩ := h
  rw [Vals.ref1 r]
  obtain ⟨z, hs, ks, pr, o, es, ep, ho, hx, hdt, he, hn⟩ := (show ObjOk X.prog X.w H s.heap d (.dT kvs) from hd.ok I.hok)
  have l1 : es.size = ks.length := size_of_entries he
  have l2 : kvs.length = ks.length := Paired.length pr
  have z1 : es.size ≤ sizeLine := by
    have : 100000 ≤ sizeLine := by decide
    omega
  refine Calls.call_function_entry kind_sorted plain_sorted entry_sorted (args_sorted1 _) ?_
  unfold Builtin.«sorted»
  refine wpAny_bind (m := checkCount "sorted" 1 1 _) (wpAny_pure ?_)
  refine wpAny_bind (PySem.W.kdu_collect (A := X.A.in1) (kdl_raw hs hx hdt) (I.ok.hd hc) ho z1 fun h' tk acc hk it => ?_)
  have hacc : acc.toList.length = ks.length := by rw [Array.length_toList, it.1]; exact l1
  have ea : acc.toList = ks.map fun x => Value.ref x.2.1 := by
    apply List.ext_getElem?
    intro j
    rw [List.getElem?_map]
    cases hj : acc.toList[j]? with
    | none =>
      have h1 := List.getElem?_eq_none_iff.mp hj
      rw [List.getElem?_eq_none (by omega)]
      all_goals rfl
    | some v =>
      obtain ⟨en, hen, hv⟩ := it.2 j v (by rw [← Array.getElem?_toList]; exact hj)
      have qe := entry_at he j
      rw [hen] at qe
      cases hb : ks[j]? with
      | none =>
        rw [hb] at qe
        exact nomatch (show some en = none from qe)
      | some b =>
        rw [hb] at qe
        have e2 : en = entryOfKey (tupleKind (mixKind X.prog X.w)) b := Option.some.inj qe
        rw [hv, e2]
        all_goals rfl
  refine wpAny_bind (wpAny_newList ?_ (by rw [hacc, ← l1]; exact z1))
  have ik : IsKeys H kvs (ks.map fun x => x.2.1) := isKeys_of pr
  have em : ((ks.map fun x => x.2.1).zip (kvs.map Prod.fst)).map Prod.fst = ks.map fun x => x.2.1 := List.map_fst_zip (by rw [List.length_map, List.length_map]; omega)
  have em2 : ((ks.map fun x => x.2.1).zip (kvs.map Prod.fst)).map Prod.snd = kvs.map Prod.fst := List.map_snd_zip (by rw [List.length_map, List.length_map]; omega)
  generalize hB : (ks.map fun x => x.2.1).zip (kvs.map Prod.fst) = bs at em em2
  have lb : bs.length = kvs.length := by
    have := congrArg List.length em2
    rw [List.length_map, List.length_map] at this
    exact this
  have eab : acc.toList = bs.map fun b => Value.ref b.1 := by
    rw [ea, show (ks.map fun x => Value.ref x.2.1) = (ks.map fun x => x.2.1).map Value.ref by rw [List.map_map]; rfl, ← em, List.map_map]
    rfl
  have I1 : Inv X pins σ H { s with heap := h', toks := tk } := I.kept hk
  have I2 : Inv X pins σ H { s with heap := h'.push { cls := .type "list", data := .seq acc.toList.toArray }, toks := tk } := I1.kept (t' := tk) fun b o e => Heap.get?_push_of_some _ e
  have hob : (h'.push { cls := .type "list", data := .seq acc.toList.toArray }).get? h'.objs.size = some (seqObj "list" acc.toList.toArray 0) := Heap.get?_push_size _ rfl
  have ekd : bs.map (fun b => kDs b.2) = kvs.map fun p => kDs p.1 := by
    rw [show (bs.map fun b => kDs b.2) = (bs.map Prod.snd).map kDs by rw [List.map_map]; rfl, em2, List.map_map]
    rfl
  have mk : ∀ b ∈ bs, ∃ p ∈ kvs, p.1 = b.2 := fun b hb => by
    have : b.2 ∈ kvs.map Prod.fst := by rw [← em2]; exact List.mem_map.mpr ⟨b, hb, rfl⟩
    obtain ⟨p, hp, e⟩ := List.mem_map.mp this
    exact ⟨p, hp, e⟩
  have rd : ∀ b ∈ bs, ∃ as, Reads (h'.push { cls := .type "list", data := .seq acc.toList.toArray }) (.ref b.1) (kDs b.2) as ∧ h'.objs.size ∉ as := fun b hb => by
    have hH := isKeys_get ik b (by rw [hB]; exact hb)
    obtain ⟨as, ra⟩ := Dp.reads I1 (kDs b.2) (.ref b.1) (.ref b.1) (dp_key hH) rfl
    refine ⟨as, Reads.keeps (fun _ _ e => Heap.get?_push_of_some _ e) ra, fun hm => ?_⟩
    have : as = [] := by
      have key : ∀ (k : List L2.Key) (v : Value) (as : List Addr), Reads h' v (kDs k) as → as = [] := by
        intro k v as r
        cases r with
        | tuple h1 h2 h3 h4 =>
          have all : ∀ (k : List L2.Key) (vs : List Value) (as : List Addr), ReadsAll h' vs (k.map kD) as → as = [] := by
            intro k
            induction k with
            | nil => intro vs as r; cases r; rfl
            | cons x k ih =>
              intro vs as r
              cases r with
              | cons r1 r2 =>
                rw [ih _ _ r2]
                cases x with
                | inl i => cases (show Reads h' _ (.int i) _ from r1); rfl
                | inr t => cases (show Reads h' _ (.str t) _ from r1); rfl
          exact all k _ _ h4
      exact key _ _ _ ra
    rw [this] at hm
    cases hm
  refine wpAny_bind (wpAny_holding (list_sort_data (n := 0) (vs := acc.toList) (bs := bs) (enc := fun b => kDs b.2) (R := fun v b => v = .ref b.1) hob (eachs_refs eab fun b hb => rfl) (eachs_refs eab rd) (by rw [ekd]; exact hal) (.inl fun e hm => ?_) ?_ (fun b hb => ?_) fun out ho eo => ?_))
  · obtain ⟨b, hb, rfl⟩ := List.mem_map.mp hm
    obtain ⟨p, hp, e⟩ := mk b hb
    have := hne p hp
    rw [e] at this
    cases hk : b.2 with
    | nil => exact absurd hk this
    | cons x r => exact ⟨kD x, r.map kD, rfl⟩
  · rw [lb]
    exact Nat.le_trans hl (by decide)
  · obtain ⟨p, hp, e⟩ := mk b hb
    have := hdp p hp
    rw [e] at this
    show X.A.units + 1 + 1 + (kDs b.2).depth < cLine
    omega
  · refine wpAny_pure ?_
    have ho2 : (sortedHeap (h'.push { cls := .type "list", data := .seq acc.toList.toArray }) h'.objs.size acc.toList (List.toArray out)).get? h'.objs.size = _ := (sortedHeap_at (vs := acc.toList) (out := List.toArray out) hob).choose_spec
    refine ⟨_, rfl, .ref h'.objs.size, _, I1.laid (t' := tk) (a := h'.objs.size) (o := .lst ((bs.mergeSort (dataLe false fun b => kDs b.2)).map fun b => V.ref b.1)) (fun b u e1 => ?_) (Nat.le_refl _) ?_, rfl, ?_⟩
    · have e2 : (h'.push { cls := .type "list", data := .seq acc.toList.toArray }).get? b = some u := Heap.get?_push_of_some _ e1
      exact (sortedHeap_old (Nat.ne_of_lt (Heap.lt_size e1)) (Heap.lt_size e2)).trans e2
    · refine ⟨?_, out, _, eachs_out eo, ho2⟩
      rw [List.length_map, List.length_mergeSort, lb]
      exact Nat.le_trans hl (by decide)
    · have := q h'.objs.size (ks.map fun x => x.2.1) (I1.hok.fresh (Nat.le_refl _)) ik
      rw [hB] at this
      exact this
end
end OB

set_option Elab.async false
set_option linter.all false
set_option maxRecDepth 100000
set_option maxHeartbeats 4000000
/-! OB, part x: comprehensions over the items of a dict with tuple keys, over its keys and the lists that it holds, over a text; texts cut, joined, read as numbers; remove. -/
namespace OB
open PySem PySem.Spec PyProof.Rows L2 PySem.W
section
variable {K : Frag} {F : List (Addr × HO)} {G : List Ft} {σ : L2.St} {H : Hp} {Q : VK} {g : TG} {tt : TT} {te : TE} {own : List Nat} {d : Addr} {o : Obj}
/-! ### over the items -/
def TurnI (K : Frag) (G : List Ft) (I : Nat → List (Addr × HO) → List PyData → Prop) (σ : L2.St) (own : List Nat) (g : TG) (tt : TT) (te : TE) (i : Nat) (k : List L2.Key) (y : V) : Prop :=
  ∀ (Da T q : Addr) (H2 : Hp) (F2 : List (Addr × HO)) (vs : List V) (ds : List PyData) (QE : VK) (QR : Hp → Prop), I i F2 ds → H2 T = none → H2 q = some (.tup (k.map kV)) → Sy K ((Da, .lst vs) :: F2) (.dat vs ds :: G) H2 →
    (∀ (z : V) (d : PyData) F' H', I (i + 1) F' (ds ++ [d]) → Sy K ((Da, .lst vs) :: F') (.dat [z] [d] :: .dat vs ds :: G) H' → QE z H') →
    (∀ F' H', I (i + 1) F' ds → Sy K ((Da, .lst vs) :: F') (.dat vs ds :: G) H' → QR H') →
    g (.ref T) (wipe σ own) (upd H2 T (.tup [.ref q, y])) fun σ2 H2 => wipe σ2 own = wipe σ own ∧ tt σ2 H2 fun b H3 => if b = true then te σ2 H3 QE else QR H3
theorem walk_itemsT {kvs : List (List L2.Key × V)} : Walk (Itit d o kvs) kvs.length (fun H => H d = some (.frz o (.dT kvs)))
    (fun i H x H' => ∃ T k v q, kvs[i]? = some (k, v) ∧ x = .ref T ∧ H T = none ∧ H q = some (.tup (k.map kV)) ∧ H' = upd H T (.tup [.ref q, v])) :=
  ⟨fun _ _ hi q => ⟨q, hi⟩, fun _ q => ⟨q, Nat.le_refl _⟩, fun _ _ _ _ _ _ y => y⟩
theorem g_lcIT {td : TE} {kvs : List (List L2.Key × V)} (I : Obj → Nat → List (Addr × HO) → List PyData → Prop)
    (ht : td σ H fun x H1 => ∃ d F u, x = .ref d ∧ u = .dT kvs ∧ H1 d = some u ∧ ∃ j, F[j]? = some (d, u) ∧ Sy K F G H1 ∧ ∀ od,
      I od 0 (F.set j (d, .frz od u)) [] ∧ (∀ i F' ds H', I od i F' ds → Sy K F' G H' → H' d = some (.frz od (.dT kvs))) ∧ (∀ i F ds, I od i F ds → ds.length < 100000) ∧
      (∀ i k v, kvs[i]? = some (k, v) → TurnI K G (I od) σ own g tt te i k v) ∧
      (∀ Dp H' F' vs ds, I od kvs.length F' ds → Sy K ((Dp, .lst vs) :: F') (.dat vs ds :: G) H' → Q (.ref Dp) H'))
    (mono : ∀ (H : Hp) (Q Q' : VK), (∀ x H', Q x H' → Q' x H') → td σ H Q → td σ H Q') : tLc (iItemsT (tFrz td)) g tt te own σ H Q := by
  refine mono _ _ _ (fun x H1 h => ?_) ht
  obtain ⟨d, F, u, rfl, rfl, hd, j, hj, S, h⟩ := h
  refine ⟨d, _, rfl, hd, trivial, fun od => ?_⟩
  obtain ⟨h0, hq, hl, turn, done⟩ := h od
  have S1 := S.put (o' := .frz od (.dT kvs)) j hj rfl
  refine ⟨d, od, kvs, rfl, upd_same, fun Dp hD => ?_⟩
  refine lc_it (walk_itemsT (d := d) (o := od) (kvs := kvs)) (LcP K G (I od) Dp) (lcp_start S1 h0 hD) (fun i H' _ p => ?_) (fun i v H1 H' hi p y => ?_) fun H' p => ?_
  · obtain ⟨F', vs, ds, hi, S'⟩ := p
    exact hq i F' ds _ hi S'.drop.less
  · obtain ⟨F', vs, ds, hI, S'⟩ := p
    obtain ⟨T, k, v, q, hk, rfl, hT, hq, rfl⟩ := y
    refine turn i k v hk Dp T q H1 F' vs ds _ (LcP K G (I od) Dp (i + 1)) hI hT hq S' (fun z d F2 H2 hi' S2 => ?_) fun F2 H2 hi' S2 => ⟨F2, vs, ds, hi', S2⟩
    have len := dps_length (S2.dps 1 rfl)
    have lt := hl _ _ _ hi'
    rw [List.length_append] at lt
    refine ⟨vs, S2.at 0 rfl, Nat.lt_of_lt_of_le (by omega) (show 100000 ≤ sizeLine by decide), F2, vs ++ [z], ds ++ [d], hi', ?_⟩
    have S3 : Sy K ((Dp, .lst (vs ++ [z])) :: F2) (.dat [z] [d] :: .dat vs ds :: G) (upd H2 Dp (.lst (vs ++ [z]))) := S2.put (o' := .lst (vs ++ [z])) 0 rfl rfl
    exact (S3.drop.drop).fact (dps_append (S3.dps 1 rfl) (S3.dps 0 rfl)) (by rw [immAll_append, S2.dpi 1 rfl, S2.dpi 0 rfl]; rfl)
  · obtain ⟨F', vs, ds, hI, S'⟩ := p
    exact done Dp H' F' vs ds hI S'
theorem g_tYes {f : Bool → Hp → Prop} (k : f true H) : tYes σ H f := k
/-! ### [x for k in d for x in d[k]], d a dict of lists of whole numbers -/
theorem lc2_it {J : It} {n : Nat} {Gd : Hp → Prop} {Y : Nat → Hp → V → Hp → Prop} (w : Walk J n Gd Y) {wi1 : TI} {g1 : TG} {tt1 : TT} {vs vs1 : List Nat} {H1 : Hp} {D : Addr} {Qd : Hp → Prop} (Pv : Nat → Hp → Prop) (h0 : Pv 0 (upd H1 D (.lst []))) (hG : ∀ i H, i ≤ n → Pv i H → Gd H)
    (hs : ∀ i x H H', i < n → Pv i H → Y i H x H' → g x (wipe σ vs) H' fun σ2 H2 => wipe σ2 vs = wipe σ vs ∧ tt σ2 H2 fun b H3 =>
      if b = true then wi1 σ2 H3 fun J1 H4 => ∃ W1 : Nat → Nat → Hp → Prop, (∃ m, W1 0 m H4) ∧ ∀ j k H, W1 j k H →
        (J1.stop j H ∧ Pv (i + 1) H) ∨ (J1.go j H ∧ ∃ Nx1 : Hp → Prop, (∀ H', Nx1 H' → ∃ k', k' < k ∧ W1 (j + 1) k' H') ∧ ∀ x H', J1.yld j H x H' → g1 x (wipe σ2 vs1) H' fun σ3 H5 => wipe σ3 vs1 = wipe σ2 vs1 ∧ tt1 σ3 H5 fun b H6 =>
          if b = true then te σ3 H6 fun y H7 => ∃ acc, H7 D = some (.lst acc) ∧ acc.length < sizeLine ∧ Nx1 (upd H7 D (.lst (acc ++ [y]))) else Nx1 H6)
      else Pv (i + 1) H3) (hd : ∀ H, Pv n H → Qd H) :
    ∃ W : Nat → Nat → Hp → Prop, (∃ m, W 0 m (upd H1 D (.lst []))) ∧ ∀ i m H, W i m H →
      (J.stop i H ∧ Qd H) ∨ (J.go i H ∧ ∃ Nx : Hp → Prop, (∀ H', Nx H' → ∃ m', m' < m ∧ W (i + 1) m' H') ∧ ∀ x H', J.yld i H x H' → g x (wipe σ vs) H' fun σ2 H2 => wipe σ2 vs = wipe σ vs ∧ tt σ2 H2 fun b H3 =>
        if b = true then wi1 σ2 H3 fun J1 H4 => ∃ W1 : Nat → Nat → Hp → Prop, (∃ m, W1 0 m H4) ∧ ∀ j k H, W1 j k H →
          (J1.stop j H ∧ Nx H) ∨ (J1.go j H ∧ ∃ Nx1 : Hp → Prop, (∀ H', Nx1 H' → ∃ k', k' < k ∧ W1 (j + 1) k' H') ∧ ∀ x H', J1.yld j H x H' → g1 x (wipe σ2 vs1) H' fun σ3 H5 => wipe σ3 vs1 = wipe σ2 vs1 ∧ tt1 σ3 H5 fun b H6 =>
            if b = true then te σ3 H6 fun y H7 => ∃ acc, H7 D = some (.lst acc) ∧ acc.length < sizeLine ∧ Nx1 (upd H7 D (.lst (acc ++ [y]))) else Nx1 H6)
        else Nx H3) := by
  refine ⟨fun i m H => m = n - i ∧ i ≤ n ∧ Pv i H, ⟨n, by simp, Nat.zero_le _, h0⟩, ?_⟩
  rintro i m H ⟨rfl, hi, p⟩
  have q := hG i H hi p
  by_cases hlt : i < n
  · refine .inr ⟨w.goes i H hlt q, Pv (i + 1), fun H' p' => ⟨n - (i + 1), by omega, rfl, hlt, p'⟩, fun x H' y => hs i x H H' hlt p (w.yields i H x H' hlt q y)⟩
  · have e : i = n := by omega
    subst e
    exact .inl ⟨w.stops H q, hd H p⟩
/-- the rows of such a dict: key, where the list stands, its numbers -/
abbrev Row : Type := List L2.Key × Addr × List Int
def rowD (rs : List Row) : HO := .dT (rs.map fun r => (r.1, V.ref r.2.1))
def rowL (rs : List Row) : List (Addr × HO) := rs.map fun r => (r.2.1, HO.lst (r.2.2.map V.int))
theorem g_lc2R {rs : List Row} {a b c : Nat} (hab : a ≠ b) (hca : c ≠ a) (hcb : c ≠ b) (la : a < σ.length) (lb : b < σ.length) (S : Sy K F G H) {i : Nat} (hi : F[i]? = some (d, rowD rs)) (hr : ∀ r ∈ rs, (r.2.1, HO.lst (r.2.2.map V.int)) ∈ F) (nd : (rs.map (·.1)).Nodup)
    (hl : (rs.flatMap fun r => r.2.2).length < 100000) (hc : σ[c]? = some (some (.ref d)))
    (done : ∀ p H', Sy K ((p, .lst ((rs.flatMap fun r => r.2.2).map V.int)) :: F) G H' → Q (.ref p) H') :
    tLockE (tLc2 (iKeys (tVar c)) (gName a) tYes (iSeq K (tDGet (tVar c) (tVar a))) (gName b) tYes (tVar b) [a, b] [b]) σ H Q := by
  have mu : Mut (some (rowD rs)) := trivial
  refine ⟨d, rowD rs, S.at i hi, mu, fun od => ?_⟩
  have S1 := S.put (o' := .frz od (rowD rs)) i hi rfl
  have hil := (List.getElem?_eq_some_iff.mp hi).1
  have hFd : (F.set i (d, .frz od (rowD rs)))[i]? = some (d, .frz od (rowD rs)) := List.getElem?_set_self hil
  have hrow : ∀ r ∈ rs, (r.2.1, HO.lst (r.2.2.map V.int)) ∈ F.set i (d, .frz od (rowD rs)) := fun r hr' => by
    obtain ⟨j, hj⟩ := List.mem_iff_getElem?.mp (hr r hr')
    have hne : i ≠ j := fun e => by
      subst e
      rw [hi] at hj
      cases hj
    refine List.mem_of_getElem? (i := j) ?_
    rw [List.getElem?_set_ne hne]
    exact hj
  refine ⟨_, hc, d, od, rfl, .inr ⟨_, upd_same, fun D hD => ?_⟩⟩
  refine lc2_it (walk_keysT (d := d) (o := od)) (fun n H' => Sy K ((D, .lst (((rs.take n).flatMap fun r => r.2.2).map V.int)) :: F.set i (d, .frz od (rowD rs))) G H') (S1.push hD) (fun n H' _ S' => S'.at (i + 1) hFd) (fun n x H1 H2 hn S' y => ?_) fun H' S' => ?_
  · obtain ⟨rfl, k, v, q, hk, rfl, hq⟩ := y
    rw [List.getElem?_map] at hk
    obtain ⟨r, hr1, hr2⟩ := Option.map_eq_some_iff.mp hk
    obtain ⟨rfl, rfl⟩ := Prod.mk.inj hr2
    have hrm := List.mem_of_getElem? hr1
    have e1 : (wipe σ [a, b]).length = σ.length := wipe_length σ [a, b]
    have wc : (wipe σ [a, b])[c]? = some (some (.ref d)) := by rw [wipe_out (by simp [hca, hcb])]; exact hc
    show gName a (.ref q) (wipe σ [a, b]) H2 _
    show _ ∧ _
    refine ⟨?_, ?_⟩
    · simp only [wipe]
      apply List.ext_getElem?
      intro j
      simp only [List.getElem?_set, List.length_set]
      by_cases ja : a = j <;> by_cases jb : b = j <;> simp [ja, jb]
    refine g_tYes ?_
    refine g_T rfl ?_
    have c1 : ((wipe σ [a, b]).set a (some (.ref q)))[c]? = some (some (.ref d)) := by rw [List.getElem?_set_ne (Ne.symm hca)]; exact wc
    have a1 : ((wipe σ [a, b]).set a (some (.ref q)))[a]? = some (some (.ref q)) := List.getElem?_set_self (by rw [e1]; exact la)
    have vv : valV (rs.map fun r => (r.1, V.ref r.2.1)) r.1 = some (.ref r.2.1) := by
      clear hl done hr hrow hi hc hFd S S1 S' mu hD wc c1 a1 hn hq
      induction rs generalizing n with
      | nil => cases hrm
      | cons x rs ih =>
        rw [List.map_cons, List.nodup_cons] at nd
        rcases List.mem_cons.mp hrm with rfl | hm
        · exact valV_pos rfl
        · rw [List.map_cons, valV_neg (fun e => nd.1 (by rw [show x.1 = r.1 from e]; exact List.mem_map.mpr ⟨r, hm, rfl⟩))]
          obtain ⟨m, hm1⟩ := List.mem_iff_getElem?.mp hm
          exact ih nd.2 m hm1 (by rw [hm1]; rfl) hm
    show iSeq K (tDGet (tVar c) (tVar a)) _ H2 _
    refine ⟨_, c1, _, a1, d, .ref r.2.1, rfl, .inr ⟨_, r.1, q, .inr ⟨od, S'.at (i + 1) hFd⟩, rfl, hq, vv.symm⟩, r.2.1, rfl, .inl ⟨⟨r.2.2.map V.int, ?_⟩, ?_⟩⟩
    · exact .inl (.inl (S'.st _ (List.mem_cons_of_mem _ (hrow r hrm))))
    · have hpre : (rs.take (n + 1)).flatMap (fun r => r.2.2) = (rs.take n).flatMap (fun r => r.2.2) ++ r.2.2 := by
        rw [List.take_succ, hr1, List.flatMap_append]
        simp
      have hle : ((rs.take (n + 1)).flatMap fun r => r.2.2).length ≤ (rs.flatMap fun r => r.2.2).length := by
        have : rs.flatMap (fun r => r.2.2) = (rs.take (n + 1)).flatMap (fun r => r.2.2) ++ (rs.drop (n + 1)).flatMap (fun r => r.2.2) := by rw [← List.flatMap_append, List.take_append_drop]
        rw [this, List.length_append]
        omega
      refine ⟨fun j k H' => k = r.2.2.length - j ∧ j ≤ r.2.2.length ∧ Sy K ((D, .lst (((rs.take n).flatMap (fun r => r.2.2) ++ r.2.2.take j).map V.int)) :: F.set i (d, .frz od (rowD rs))) G H', ⟨_, rfl, Nat.zero_le _, by rw [List.take_zero, List.append_nil]; exact S'⟩, ?_⟩
      rintro j k H' ⟨rfl, hj, S2⟩
      have hL : SqL K H' r.2.1 (r.2.2.map V.int) := .inl (.inl (S2.st _ (List.mem_cons_of_mem _ (hrow r hrm))))
      by_cases hlt : j < r.2.2.length
      · refine .inr ⟨⟨_, V.int (r.2.2[j]), hL, by rw [List.getElem?_map, List.getElem?_eq_getElem hlt]; rfl⟩, fun H5 => Sy K ((D, .lst (((rs.take n).flatMap (fun r => r.2.2) ++ r.2.2.take (j + 1)).map V.int)) :: F.set i (d, .frz od (rowD rs))) G H5, fun H5 S5 => ⟨_, by omega, rfl, hlt, S5⟩, fun x H5 y => ?_⟩
        obtain ⟨rfl, y⟩ := y
        have hx := y _ hL
        rw [List.getElem?_map, List.getElem?_eq_getElem hlt] at hx
        obtain rfl : V.int r.2.2[j] = x := Option.some.inj hx
        show _ ∧ _
        refine ⟨?_, ?_⟩
        · simp only [wipe]
          apply List.ext_getElem?
          intro z
          simp only [List.getElem?_set, List.length_set]
          by_cases jb : b = z <;> simp [jb]
        refine g_tYes ?_
        refine g_T rfl ?_
        refine ⟨_, List.getElem?_set_self ?_, _, S2.at 0 rfl, ?_, ?_⟩
        · show b < (((wipe σ [a, b]).set a (some (V.ref q))).set b none).length
          rw [List.length_set, List.length_set, e1]
          exact lb
        · rw [List.length_map, List.length_append, List.length_take]
          have := congrArg List.length hpre
          rw [List.length_append] at this
          have h3 : 100000 ≤ sizeLine := by decide
          omega
        · have S3 := S2.put (o' := .lst (((rs.take n).flatMap (fun r => r.2.2) ++ r.2.2.take j).map V.int ++ [V.int r.2.2[j]])) 0 rfl rfl
          have e5 : ((rs.take n).flatMap (fun r => r.2.2) ++ r.2.2.take (j + 1)).map V.int = ((rs.take n).flatMap (fun r => r.2.2) ++ r.2.2.take j).map V.int ++ [V.int r.2.2[j]] := by
            rw [List.take_succ, List.getElem?_eq_getElem hlt, ← List.append_assoc, List.map_append (l₂ := (some r.2.2[j]).toList)]
            rfl
          rw [e5]
          exact S3
      · have e : j = r.2.2.length := by omega
        subst e
        refine .inl ⟨⟨_, hL, by rw [List.length_map]; exact Nat.le_refl _⟩, ?_⟩
        rw [List.take_of_length_le (Nat.le_refl _), ← hpre] at S2
        exact S2
  · rw [List.length_map, List.take_of_length_le (Nat.le_refl _)] at S'
    obtain ⟨e1, S2⟩ := S'.unlock hi rfl
    exact ⟨e1, done D _ S2⟩
end
end OB

set_option Elab.async false
set_option linter.all false
set_option maxRecDepth 100000
set_option maxHeartbeats 4000000
/-! OB, part y: texts gone through, cut, joined, read as numbers; list.remove of whole numbers. -/
namespace OB
open PySem PySem.Spec PyProof.Rows L2 PySem.W
def tx (l : List Nat) : Str := ⟨l.toArray⟩
theorem tx_cps (l : List Nat) : (tx l).cps.toList = l := rfl
theorem tx_len (l : List Nat) : (tx l).length = l.length := by simp [tx, Str.length]
theorem tx_of (z : Str) : tx z.cps.toList = z := by simp [tx]
theorem tx_append (l m : List Nat) : tx l ++ tx m = tx (l ++ m) := by
  refine Str.ext' ?_
  show l.toArray ++ m.toArray = (l ++ m).toArray
  simp
theorem tx_inj {l m : List Nat} (h : tx l = tx m) : l = m := by
  have := congrArg (fun z : Str => z.cps.toList) h
  simpa [tx] using this
theorem sIx_nat {n k d : Nat} (h : k ≤ n) : HT.sIx n d (some (k : Int)) = k := by
  unfold HT.sIx
  show (if (k : Int) < 0 then ((k : Int) + (n : Int)).toNat else min (k : Int).toNat n) = k
  rw [if_neg (by omega)]
  omega
theorem cut_take (l : List Nat) (k : Nat) (h : k ≤ l.length) : cutS (tx l) none (some (k : Int)) = tx (l.take k) := by
  unfold cutS
  rw [tx_len, sIx_nat h, show HT.sIx l.length 0 none = 0 from rfl, tx_cps, List.drop_zero, Nat.sub_zero]
  rfl
theorem cut_drop (l : List Nat) (k : Nat) (h : k ≤ l.length) : cutS (tx l) (some (k : Int)) none = tx (l.drop k) := by
  unfold cutS
  rw [tx_len, sIx_nat h, show HT.sIx l.length l.length none = l.length from rfl, tx_cps, List.take_of_length_le (by rw [List.length_drop]; exact Nat.le_refl _)]
  rfl
section
variable {K : Frag} {F : List (Addr × HO)} {G : List Ft} {σ : L2.St} {H : Hp} {Q : VK} {D : Ends} {g : TG} {tt : TT} {te : TE} {own : List Nat}
/-- a comprehension over a text -/
theorem g_lcStr {tl : TE} {l : List Nat} (I : Nat → List (Addr × HO) → List PyData → Prop) (S : Sy K F G H) (ht : ∀ Q' : VK, Q' (.str (tx l)) H → tl σ H Q') (h0 : I 0 F [])
    (hl : ∀ i F ds, I i F ds → ds.length < 100000)
    (turn : ∀ i c, l[i]? = some c → Turn1 K G I σ own g tt te i (.str (tx [c])))
    (done : ∀ Dp H' F' vs ds, H Dp = none → I l.length F' ds → Sy K ((Dp, .lst vs) :: F') (.dat vs ds :: G) H' → Q (.ref Dp) H') : tLc (iStr tl) g tt te own σ H Q := by
  refine ht _ ⟨tx l, rfl, fun Dp hD => ?_⟩
  have e : (tx l).cps.size = l.length := tx_len l
  refine lc_it (walk_str (z := tx l)) (LcP K G I Dp) (lcp_start S h0 hD) (fun i H' _ p => trivial) (fun i x H1 H2 hi p y => ?_) fun H' p => ?_
  · obtain ⟨rfl, c, hc, rfl⟩ := y
    rw [← Array.getElem?_toList, tx_cps] at hc
    exact lcp_turn hl (turn i c hc) p
  · rw [e] at p
    obtain ⟨F', vs, ds, hi, S'⟩ := p
    exact done Dp H' F' vs ds hD hi S'
/-! z[i], z[i:j], z + y -/
theorem g_ixS {l : List Nat} {i : Int} {c : Nat} (h : atI l i = some c) (hl : l.length ≤ 100000) (k : Q (.str (tx [c])) H) : rIxU K (.str (tx l)) (.int i) H Q :=
  .inr (.inr (.inr ⟨tx l, i, c, rfl, rfl, by rw [tx_len]; exact Nat.le_trans hl (by decide), h, k⟩))
theorem g_slS {l : List Nat} {lo hi : Option Int} (hl : l.length ≤ 100000) (k : Q (.str (cutS (tx l) lo hi)) H) : rSlS (.str (tx l)) lo hi H Q := ⟨tx l, rfl, by rw [tx_len]; exact Nat.le_trans hl (by decide), k⟩
theorem g_catS {l m : List Nat} (h : l.length + m.length ≤ 100000) (k : Q (.str (tx (l ++ m))) H) : rCatS (.str (tx l)) (.str (tx m)) H Q :=
  ⟨tx l, tx m, rfl, rfl, by rw [tx_len, tx_len]; exact Nat.le_trans h (by decide), by rw [tx_append]; exact k⟩
theorem g_lenS {l : List Nat} (k : Q (.int (l.length : Nat)) H) (r : rLen K [.str (tx l)] H Q) : rLen K [.str (tx l)] H Q := r
end
/-! int(z) -/
def rIntS : List V → Hp → VK → Prop := fun xs H Q => ∃ a n, xs = [.str a] ∧ PySem.intText? a = some n ∧ a.length ≤ 640 ∧ Q (.int n) H
theorem c_intS {X : Cx} : CallR X (.type "int") rIntS := call_int_str
/-! l.remove(k) -/
def rRemI (x : V) (xs : List V) (H : Hp) (Q : VK) : Prop := ∃ (l : Addr) (ns : List Int) (k : Int), x = .ref l ∧ xs = [.int k] ∧ H l = some (.lst (ns.map V.int)) ∧ k ∈ ns ∧ Q .non (upd H l (.lst ((ns.erase k).map V.int)))
theorem mt_remI {X : Cx} : MtR X "list.remove" rRemI := by
  intro pins s σ H x xs v us Q I rx rxs h
  obtain ⟨l, ns, k, rfl, rfl, hH, hk, qy⟩ := h
  cases rx
  obtain ⟨u, rfl, ry⟩ := rxs.one
  obtain ⟨t, rfl⟩ := (show ∃ t, u = Value.int k t from ry)
  obtain ⟨z, its, n, r, hl, e0⟩ := I.lstM hH
  have hi : IntsAre its ns := intsAre_of r
  have heq := eq_isInt k t hi
  have hnl : ns.length = its.length := by rw [← hl, List.length_map]
  have hsz : its.toArray.size ≤ sizeLine := by rw [List.size_toArray, ← hl]; exact z
  obtain ⟨j, j1, j2, j3, j4⟩ := first_at hk
  have hj : j < its.length := by omega
  refine call_meets PySem.F.slot_list_remove ⟨_, e0, rfl⟩ PySem.F.entry_list_remove (PySem.F.args_list_remove_2 _ _)
    (MeetsSeq.list_remove l its.toArray n (.int k t) (isInt k) (fun y hy => heq y (by simpa using hy)) j (by rw [List.size_toArray]; exact hj) ?hit (fun i hi2 hlt => ?hno) hsz) ⟨e0, ?_⟩
  case hit =>
    show isInt k its[j] = true
    exact (L2.isInt_at k hi j hj).mpr j2
  case hno =>
    have hi3 : i < its.length := by rw [List.size_toArray] at hi2; exact hi2
    show isInt k its[i] = false
    rw [Bool.eq_false_iff]
    intro w
    exact j3 i hlt ((L2.isInt_at k hi i hi3).mp w)
  have r2 : Vals ((ns.erase k).map V.int) (its.eraseIdx j) := by
    have w := r.eraseIdx j
    rw [map_eraseIdx', j4] at w
    exact w
  refine ⟨.non, _, I.lset (its' := its.eraseIdx j) hH e0 ?_ r2 ?_, rfl, qy⟩
  · show its.toArray.eraseIdxIfInBounds j = (its.eraseIdx j).toArray
    rw [List.eraseIdxIfInBounds_toArray]
  · rw [List.length_map]
    have := List.length_erase_le (a := k) (l := ns)
    rw [List.length_map] at z
    omega
theorem g_remI {K : Frag} {F : List (Addr × HO)} {G : List Ft} {H : Hp} {Q : VK} {l : Addr} {ns : List Int} {k : Int} {i : Nat} (S : Sy K F G H) (h : F[i]? = some (l, .lst (ns.map V.int))) (hk : k ∈ ns) (q : ∀ H', Sy K (F.set i (l, .lst ((ns.erase k).map V.int))) G H' → Q .non H') : rRemI (.ref l) [.int k] H Q :=
  ⟨l, ns, k, rfl, rfl, S.at i h, hk, q _ (S.put i h rfl)⟩
theorem RG.hu1 {k : Nat} {A : Around} (g : RG k A) : A.units + 1 < cLine := by
  have := g.hu64
  omega
/-! sorted -/
section
variable {K : Frag} {F : List (Addr × HO)} {G : List Ft} {H : Hp} {Q : VK} {l : Addr} {xs : List V} {ds : List PyData}
theorem g_sortD (S : Sy K F G H) (h : SqL K H l xs) (hd : DpAll K H xs ds) (m : immAll ds = true) (ha : AllAlike ds) (hk : PySem.W.Sortable ds) (hdp : ∀ d ∈ ds, d.depth ≤ 50) (hl : ds.length ≤ 100000)
    (k : ∀ p H' ys, Sy K ((p, .lst ys) :: F) (.dat ys (ds.mergeSort (dataLe false id)) :: G) H' → Q (.ref p) H') : rSortD K [.ref l] H Q := by
  have lx := dps_length hd
  refine ⟨l, xs, ds, rfl, h, hd, ha, hk, hdp, by omega, fun p hp => k p _ (((xs.zip ds).mergeSort (dataLe false Prod.snd)).map Prod.fst) ?_⟩
  have em : (xs.zip ds).map Prod.snd = ds := List.map_snd_zip (by omega)
  have e1 : ((xs.zip ds).mergeSort (dataLe false Prod.snd)).map Prod.snd = ds.mergeSort (dataLe false id) := by
    have := sort_maps (r := dataLe false (Prod.snd : V × PyData → PyData)) (s := dataLe false (id : PyData → PyData)) Prod.snd (l := xs.zip ds) (fun a _ b _ => rfl)
    rw [this, em]
  refine (S.push hp).fact (dps_keep (Tx.new hp) _ _ ?_ ?_) ?_
  · rw [← e1]
    refine immAll_of fun d hd2 => immAll_mem m d ?_
    obtain ⟨b, hb, rfl⟩ := List.mem_map.mp hd2
    rw [← em]
    exact List.mem_map.mpr ⟨b, (List.mergeSort_perm _ _).mem_iff.mp hb, rfl⟩
  · rw [← e1]
    have key : ∀ bs : List (V × PyData), (∀ b ∈ bs, Dp K H b.1 b.2) → DpAll K H (bs.map Prod.fst) (bs.map Prod.snd) := fun bs => by
      induction bs with
      | nil => exact fun _ => .nil
      | cons b bs ih => exact fun hb => .cons (hb b (List.mem_cons_self ..)) (ih fun c hc => hb c (List.mem_cons_of_mem _ hc))
    refine key _ fun b hb => ?_
    have hz : ∀ {xs : List V} {ds : List PyData}, DpAll K H xs ds → ∀ b ∈ xs.zip ds, Dp K H b.1 b.2 := fun {xs} => by
      induction xs with
      | nil => intro ds _ b hb; cases hb
      | cons x xs ih =>
        intro ds hd b hb
        cases hd with
        | cons h1 h2 =>
          rcases List.mem_cons.mp hb with rfl | hb
          · exact h1
          · exact ih h2 b hb
    exact hz hd b ((List.mergeSort_perm _ _).mem_iff.mp hb)
  · rw [← e1]
    refine immAll_of fun d hd2 => immAll_mem m d ?_
    obtain ⟨b, hb, rfl⟩ := List.mem_map.mp hd2
    rw [← em]
    exact List.mem_map.mpr ⟨b, (List.mergeSort_perm _ _).mem_iff.mp hb, rfl⟩
end
end OB

set_option Elab.async false
set_option linter.all false
set_option maxRecDepth 100000
set_option maxHeartbeats 4000000
/-! OB, part z: sorted of tuples of which the first one is (). -/
namespace PySem.SeqAt
theorem ob_call_tuple_lt {s : Shared} {A : Around} {prog : Program} {w : World} {E : Value → Shared → Prop} {Q : Value → Shared → Prop} {l b : Addr} {items items2 : Array Value} {e r : Nat → Bool} (hl : s.heap.IsTuple l items) (hb : s.heap.IsTuple b items2)
    (he : ∀ j (h1 : j < items.size) (h2 : j < items2.size), EqAt A.in1 s items[j] items2[j] (e j)) (hr : ∀ j (h1 : j < items.size) (h2 : j < items2.size), e j = false → RcLt A.in1 s items[j] items2[j] (r j))
    (h : Q (.bool (firstLt e r (decide (items.size < items2.size)) (List.range (min items.size items2.size)))) s) : wpAny (model prog w) A (call (.builtin "tuple.__lt__") [.ref l, .ref b]) Q E s := by
  obtain ⟨⟨cls, dd, data, sl⟩, ho, hc, n, hd⟩ := id hl
  obtain ⟨⟨cls2, dd2, data2, sl2⟩, ho2, hc2, n2, hd2⟩ := id hb
  simp only at hc hd hc2 hd2
  subst hc hd hc2 hd2
  exact call_meets F.slot_tuple_lt ⟨_, ho, rfl⟩ F.entry_tuple_lt (F.args_tuple_lt_2 _ _) (tuple_ltAt l b items items2 n n2 dd dd2 sl sl2 e r) ⟨ho, ho2, he, hr, h⟩
end PySem.SeqAt
namespace PySem.W
open PySem PySem.Calls PyProof.Rows PySem.SeqAt
section
variable {prog : Program} {w : World} {A : Around} {E : Value → Shared → Prop} {s : Shared}
theorem ob_oneLt_tup {xs ys : List PyData} {a b : Value} {as bs : List Addr} {Q : Bool → Shared → Prop} (ra : Reads s.heap a (.tuple xs) as) (rb : Reads s.heap b (.tuple ys) bs) (hal : alikeAll xs ys = true)
    (hu : A.units + min (PyData.tuple xs).depth (PyData.tuple ys).depth < cLine) (hq : Q (dataLt (.tuple xs) (.tuple ys)) s) : wpAny (model prog w) A (oneLt' true a b) Q E s := by
  cases ra with
  | @tuple l o vs n _ as₁ h1 h2 h3 h4 =>
    cases rb with
    | @tuple l' o' vs' n' _ bs₁ k1 k2 k3 k4 =>
      have n1 : vs.size = xs.length := by simpa using SeqAt.ReadsAll.length _ _ _ h4
      have n2 : vs'.size = ys.length := by simpa using SeqAt.ReadsAll.length _ _ _ k4
      rw [dataLt_tuple, ← firstLt_toks xs ys hal, ← n1, ← n2] at hq
      rw [oneLt'_eq]
      simp only [if_true]
      refine wpAny_bind (wpAny_cRoomFor (room_here hu) ?_)
      refine wpAny_bind (wpAny_callSpecialIfBound?_slot (T := "tuple") ⟨_, h1, h2⟩ F.slot_tuple_lt (ob_call_tuple_lt (e := pairEq xs ys) (r := fun j => dataLt (xs.getD j .none) (ys.getD j .none)) ⟨_, h1, h2, _, h3⟩ ⟨_, k1, k2, _, k3⟩ (fun j j1 j2 => ?_) (fun j j1 j2 hj => ?_) ?_))
      · have := eqAt_alikeAll xs ys A.in1 s vs.toList vs'.toList _ _ h4 k4 hal (room_in hu) j (by simpa using j1) (by simpa using j2)
        simpa using this
      · have := rcLt_alikeAll xs ys A.in1 s vs.toList vs'.toList _ _ h4 k4 hal (room_in hu) j (by simpa using j1) (by simpa using j2) hj
        simpa using this
      · exact wpAny_truthy_bool hq
/-- all tuples, the first one empty -/
def Sortable0 (ds : List PyData) : Prop := ∃ rest, ds = .tuple [] :: rest ∧ ∀ d ∈ rest, ∃ xs, d = .tuple xs
end
section
variable {M : Model} {A : Around} {E : Value → Shared → Prop} {s : Shared}
theorem ob_mapM0 : ∀ (l : List Value) {Q : List (Option Value) → Shared → Prop}, (∀ v ∈ l, ∃ d as, Reads s.heap v (.tuple d) as) → (∀ rs : List (Option Value), rs.length = l.length → Q rs s) → wpAny M A (l.mapM firstOfTuple') Q E s
  | [], _, _, h => by rw [List.mapM_nil]; exact wpAny_pure (h [] rfl)
  | x :: l, Q, hf, h => by
    rw [List.mapM_cons, kas_first_eq]
    obtain ⟨d, as, r⟩ := hf x (List.mem_cons_self ..)
    refine wpAny_bind ?_
    cases r with
    | @tuple a o xs n _ _ ho hc hd hr =>
      refine wpAny_bind (Looks.here (show Looks M s.heap (typeOf (.ref a)) o.cls from (Looks.ld ho).andThen .now) ?_)
      rw [hc, if_neg (by first | decide | simp)]
      refine wpAny_bind (listItems_at ho hd (wpAny_pure ?_))
      exact wpAny_bind (ob_mapM0 l (Q := fun bs s' => wpAny M A (pure (xs[0]? :: bs)) Q E s') (fun v hv => hf v (List.mem_cons_of_mem _ hv)) fun rs hrs => wpAny_pure (h _ (by rw [List.length_cons, hrs]; rfl)))
theorem ob_kind0 {v0 : Value} {vs : List Value} {as0 : List Addr} {Q : SortKind → Shared → Prop} (h0 : Reads s.heap v0 (.tuple []) as0) (hv : ∀ v ∈ vs, ∃ d as, Reads s.heap v (.tuple d) as) (h : Q oneType' s) : wpAny M A (keyKind' (v0 :: vs).toArray) Q E s := by
  rw [keyKind'_eq, List.mapM_toArray, map_eq_pure_bind]
  refine wpAny_bind (wpAny_bind ?_)
  rw [List.mapM_cons, kas_first_eq]
  have hT : ∀ v ∈ v0 :: vs, Looks M s.heap (typeOf v) (.type "tuple") := fun v hm => by
    rcases List.mem_cons.mp hm with rfl | hm
    · exact looks_reads h0
    · obtain ⟨d, as, r⟩ := hv v hm
      exact looks_reads r
  refine wpAny_bind ?_
  cases h0 with
  | @tuple a o xs n _ _ ho hc hd hr =>
    refine wpAny_bind (Looks.here (show Looks M s.heap (typeOf (.ref a)) o.cls from (Looks.ld ho).andThen .now) ?_)
    rw [hc, if_neg (by first | decide | simp)]
    refine wpAny_bind (listItems_at ho hd (wpAny_pure ?_))
    have hx : xs[0]? = none := by
      have : xs.toList = [] := by
        cases q : xs.toList with
        | nil => rfl
        | cons x r => rw [q] at hr; cases hr
      rw [← Array.getElem?_toList, this]
      rfl
    rw [hx]
    refine wpAny_bind (ob_mapM0 vs hv fun rs hrs => wpAny_pure (wpAny_pure ?_))
    rw [if_neg (by simp), if_neg (by simp)]
    rw [oneTypeOnly'_eq, List.mapM_toArray, map_eq_pure_bind]
    refine wpAny_bind (wpAny_bind (wpAny_bind (kas_mapM (r := Value.type "tuple") _ (fun v hv Q' hq => (hT v hv).here hq) (wpAny_pure ?_))))
    have hall : ((List.map (fun _ => Value.type "tuple") (Value.ref a :: vs)).toArray.all fun x => x == Value.type "tuple") = true := by
      simp only [List.all_toArray, List.all_map, List.all_eq_true]
      intro _ _
      exact beq_self_eq_true _
    have h1 : (List.map (fun _ => Value.type "tuple") (Value.ref a :: vs)).toArray[0]? = some (Value.type "tuple") := by simp
    rw [h1]
    simp only [hall, if_true]
    exact wpAny_pure (wpAny_pure h)
end
section
variable {prog : Program} {w : World} {A : Around} {E : Value → Shared → Prop} {s : Shared}
theorem SortsAt.data0 {vs : List Value} {ds : List PyData} (e : EachIs (fun v d => ∃ as, Reads s.heap v d as) vs ds) (hal : AllAlike ds) (hk : Sortable0 ds) (hu : ∀ d, d ∈ ds → A.units + d.depth < cLine) : SortsAt prog w A s (dataKind s.heap ds) vs := by
  have room : ∀ {d d' : PyData}, d ∈ ds → A.units + min d.depth d'.depth < cLine := fun {d d'} hd => Nat.lt_of_le_of_lt (Nat.add_le_add_left (Nat.min_le_left _ _) _) (hu d hd)
  obtain ⟨rest, rfl, ht⟩ := hk
  have ht2 : ∀ d ∈ PyData.tuple [] :: rest, ∃ xs, d = .tuple xs := fun d hd => by
    rcases List.mem_cons.mp hd with rfl | hd
    · exact ⟨[], rfl⟩
    · exact ht d hd
  refine ⟨fun v hv => ?_, oneType', ?_, fun h2 E Q hq => ?_⟩
  · obtain ⟨d, hd, as, r⟩ := e.left v hv
    exact ⟨_, dataKind_some hal hd r⟩
  · intro E x y a b Q ha hb hq
    obtain ⟨d, as, hd, ra, rfl⟩ := dataKind_inv ha
    obtain ⟨d', as', hd', rb, rfl⟩ := dataKind_inv hb
    rw [keyLt'_oneType]
    have hdd := hal d hd d' hd'
    have hroom := room (d' := d') hd
    obtain ⟨xs, rfl⟩ := ht2 d hd
    obtain ⟨ys, rfl⟩ := ht2 d' hd'
    exact ob_oneLt_tup ra rb (by simpa [alike] using hdd) hroom hq
  · cases e with
    | cons r0 t =>
      obtain ⟨as0, r0⟩ := r0
      refine ob_kind0 r0 (fun v hv => ?_) hq
      obtain ⟨d, hd, as, r⟩ := t.left v hv
      obtain ⟨xs, rfl⟩ := ht d hd
      exact ⟨xs, as, r⟩
theorem sorted_data0 {β : Type} {vs : List Value} {bs : List β} {enc : β → PyData} {R : Value → β → Prop} {l : Addr} {Q : Value → Shared → Prop} (hl : s.heap.IsList l vs.toArray) (e : EachIs R vs bs) (er : EachIs (fun v b => ∃ as, Reads s.heap v (enc b) as) vs bs) (hal : AllAlike (bs.map enc)) (hk : Sortable0 (bs.map enc)) (hL : bs.length ≤ sizeLine)
    (hu : ∀ b, b ∈ bs → A.units + 2 + (enc b).depth < cLine) (h : ∀ out, out.length = bs.length → EachIs R out (bs.mergeSort (dataLe false enc)) → Q (.ref (s.heap.objs.size + 1)) { s with heap := sortedAll s.heap vs (List.toArray out) }) :
    wpAny (model prog w) A (call (.builtin "sorted") [.ref l]) Q E s := by
  have er' : EachIs (fun v b => ∃ as, Reads (sortingHeap (copyHeap s.heap vs) (s.heap.objs.size + 1) vs) v (enc b) as) vs bs := er.mono fun _ _ ⟨as, r⟩ => ⟨as, PyProof.Rows.Reads.keeps (fun _ _ => sorting_copy_old) r⟩
  exact sorted_vals hl (SortsAt.data0 (s := { s with heap := sortingHeap (copyHeap s.heap vs) (s.heap.objs.size + 1) vs }) (each_map (R := fun v d => ∃ as, Reads (sortingHeap (copyHeap s.heap vs) (s.heap.objs.size + 1) vs) v d as) enc er') hal hk (bound_map hu)) (by rw [e.length]; exact hL)
    (h _ (by rw [sortVals_length false rfl]; exact e.length) (sortVals_data false e er' hal))
end
end PySem.W
namespace OB
open PySem PySem.Spec PyProof.Rows L2 PySem.W
/-- sorted of a list of data: of a kind, tuples with the first one empty as well -/
def rSortE (K : Frag) : List V → Hp → VK → Prop := fun vs H Q => ∃ a xs ds, vs = [.ref a] ∧ SqL K H a xs ∧ DpAll K H xs ds ∧ AllAlike ds ∧ (PySem.W.Sortable ds ∨ Sortable0 ds) ∧ (∀ d ∈ ds, d.depth ≤ 50) ∧ xs.length ≤ 100000 ∧
  ∀ p, H p = none → Q (.ref p) (upd H p (.lst (((xs.zip ds).mergeSort (dataLe false Prod.snd)).map Prod.fst)))
section
variable {X : Cx}
theorem c_sortE (hu : X.A.units + 64 < cLine) : CallR X (.builtin "sorted") (rSortE X.K) := by
  intro pins s σ H vs us Q I r h
  obtain ⟨a, xs, ds, rfl, hs, hd, ha, hk, hdp, hl, q⟩ := h
  rcases hk with hk | hk
  · exact c_sortD hu pins s σ H _ us Q I r ⟨a, xs, ds, rfl, hs, hd, ha, hk, hdp, hl, q⟩
  rw [Vals.ref1 r]
  obtain ⟨its, rv, pl, _⟩ := I.list hs
  obtain ⟨as, hr⟩ := Dp.readsAll I ds xs its hd rv
  have e0 : EachIs (fun v b => ∃ as, Reads s.heap v b as) its ds := readsAll_each (enc := id) (by rw [List.map_id]; exact hr)
  obtain ⟨e1, e2⟩ := eachs_zip rv e0
  have lx : xs.length = ds.length := dps_length hd
  have em : (xs.zip ds).map Prod.snd = ds := List.map_snd_zip (by omega)
  have lz : (xs.zip ds).length = xs.length := by rw [List.length_zip, lx, Nat.min_self]
  refine sorted_data0 (bs := xs.zip ds) (enc := Prod.snd) (R := fun v b => RelV b.1 v) pl.isList e1 e2 (by rw [em]; exact ha) (by rw [em]; exact hk) (by rw [lz]; exact Nat.le_trans hl (by decide)) (fun b hb => ?_) fun out ho eo => ?_
  · have := hdp b.2 (by rw [← em]; exact List.mem_map.mpr ⟨b, hb, rfl⟩)
    omega
  · have rv2 := eachs_vals eo
    obtain ⟨c, hc⟩ := sortedAll_at s.heap its (List.toArray out)
    refine ⟨.ref (s.heap.objs.size + 1), _, I.laid (t' := s.toks) (a := s.heap.objs.size + 1) (o := .lst (((xs.zip ds).mergeSort (dataLe false Prod.snd)).map Prod.fst)) (fun _ _ => sortedAll_old) (Nat.le_succ _) ?_, rfl, q _ (I.hok.fresh (Nat.le_succ _))⟩
    refine ⟨?_, out, c, rv2, hc⟩
    rw [List.length_map, List.length_mergeSort, lz]
    exact Nat.le_trans hl (by decide)
end
end OB

set_option Elab.async false
set_option linter.all false
set_option maxRecDepth 100000
set_option maxHeartbeats 4000000
/-! OB, part za: defs that raise own errors with values, and try .. except D as n around a call of one. -/
namespace OB
open PySem PySem.Spec PyProof.Rows L2 PySem.W
section
variable {P : Program} {w : World} {K : PySem.W.Frag} {mg : Str → Option Value} {base : Heap} {f : Addr} {fd : FuncData} {ps : List Str} {sp : Sp}
/-- a def of the text that may raise -/
theorem Fun.fgX {x qual : Str} {st : Stmt} {N : List Str} {k : Nat} (F : Fun K x qual st f fd) (S : FnScope N ps (defScope st)) (len : ∀ vs H Q E, sp vs H Q E → vs.length = ps.length)
    (hbody : ∀ (cdv : Value) (A : Around) (out : List Env) (s : Shared) (H : Hp) (vs : List V) (Q : VK) (E : XK), RG k (A.deeper (envOfC qual (defScope st) s.heap.objs.size f cdv)) → sp vs H Q E →
      ∃ t, PSs (cxOf (L2.CX P w) P w K mg base N qual (defScope st) f cdv A out s H E) (defBody st) t ∧ t { nx := fun _ H' => Q .non H', rt := Q } (start N vs) H) : FG P w K mg base (L2.CX P w) (k + 1) f fd ps sp := by
  obtain ⟨oc, od, kV, doc, pm, an, cdv, ct, osl, rfl, lk, hcd⟩ := F.ex
  exact fg_of lk hcd S len fun A out s H vs Q E g hsp => hbody cdv A out s H vs Q E g hsp
end
/-! ### a call in a try's body -/
def tCgS (n m : Nat) (ix : List Nat) (sp : Sp) (E : L2.St → XK) (t tk : TA) : TE := fun σ H Q => t σ H fun vs H1 => tk σ H1 fun zs H2 => vs.length = n ∧ zs.length = m ∧ sp (pick ix (vs ++ zs)) H2 Q (E σ)
theorem g_cgS {σ : L2.St} {H : Hp} {Q : VK} {n m : Nat} {ix : List Nat} {sp : Sp} {E : L2.St → XK} {t tk : TA} (k : t σ H fun vs H1 => tk σ H1 fun zs H2 => vs.length = n ∧ zs.length = m ∧ sp (pick ix (vs ++ zs)) H2 Q (E σ)) : tCgS n m ix sp E t tk σ H Q := k
section
variable {X : Cx} {CX : CXT} {k n : Nat} {f C : Addr} {fd : FuncData} {ps ks : List Str} {ix : List Nat} {sp : Sp} {E : L2.St → XK} {x : Str} {p pos : Pos} {e : Expr} {es : List Expr} {kws : List Keyword} {t tk : TA}
theorem run_gS {pins : List (Addr × Obj)} {σ : L2.St} {H : Hp} {s : Shared} {Q : VK} {us ws : List Value} {vs zs : List V} (F : FG X.prog X.w X.K X.mg X.base CX k f fd ps sp) (g : RG k X.A) (hb : Bd X.K fd ps n ks ix) (hx : PassesAt CX X σ (E σ))
    (I : Inv X pins σ H s) (r : Vals vs us) (rz : Vals zs ws) (l1 : vs.length = n) (l2 : zs.length = ks.length) (h : sp (pick ix (vs ++ zs)) H Q (E σ)) :
    wpAny (model X.prog X.w) X.A (call (.ref f) us (ks.zip ws)) (EP X pins σ Q) X.xe s := by
  refine wpAny_call (codeAny_mono (F.go X.A X.stack s H ⟨us, ks.zip ws⟩ (pick ix (us ++ ws)) (pick ix (vs ++ zs)) Q (E σ) g I.env0 (.of_eq (hb.to us ws (r.length.symm.trans l1) (rz.length.symm.trans l2))) (vals_pick (r.append rz) ix) h) fun r s' hq => ?_)
  match r, hq with
  | .error e, hq => exact hx pins H s e s' I hq
  | .ok (.ret u), hq => exact I.after hq
  | .ok .next, hq => exact False.elim hq
  | .ok .brk, hq => exact False.elim hq
  | .ok .cont, hq => exact False.elim hq
theorem pe_cgS (F : FG X.prog X.w X.K X.mg X.base CX k f fd ps sp) (g : RG k X.A) (hg : Gl X x) (hm : X.mg x = some (.ref f)) (hk : PySem.W.keepIn X.K (.ref f) = true) (hb : Bd X.K fd ps n ks ix) (hx : ∀ σ, PassesAt CX X σ (E σ))
    (ha : PA X (e :: es) t) (hkw : PK X kws tk) (hall : (backToKw pos (keywordEach kws X.env)).all (·.1.isSome) = true := by rfl) (hks : (backToKw pos (keywordEach kws X.env)).filterMap (·.1) = ks := by rfl)
    (hdb : (x == ("__debug__" : Str)) = false := by decide) (he : starEach (e :: es) X.env = (false, eval e X.env) :: starEach es X.env := by rfl)
    (hpl : ((backTo pos (starEach (e :: es) X.env)).any (·.1) || (backToKw pos (keywordEach kws X.env)).any (·.1.isNone)) = false := by rfl) : PE X (.Call (.Name x p) (e :: es) kws pos) (tCgS n ks.length ix sp E t tk) := by
  refine ⟨fun pins s σ H Q I h => wpAny_Call_Name_kw (ld_glob I hg hm ?_ hdb)⟩
  refine PySem.W.callWith_KW (h₀ := X.base) I.ok.mod.kin hk hall (thn (ha.run pos pins s σ H _ I h) fun us s1 ⟨vs, H1, I1, r, q⟩ => ?_) hpl he
  refine thn (hkw.run pos pins s1 σ H1 _ I1 q) fun ws s2 ⟨zs, H2, I2, rz, l1, l2, q2⟩ => ⟨I2.kIn, ?_⟩
  rw [hks]
  exact run_gS F g hb (hx σ) I2 r rz l1 l2 q2
theorem pe_cgS0 (F : FG X.prog X.w X.K X.mg X.base CX k f fd ps sp) (g : RG k X.A) (hg : Gl X x) (hm : X.mg x = some (.ref f)) (hk : PySem.W.keepIn X.K (.ref f) = true) (hb : Bd X.K fd ps 0 ks ix) (hx : ∀ σ, PassesAt CX X σ (E σ))
    (hkw : PK X kws tk) (hall : (backToKw pos (keywordEach kws X.env)).all (·.1.isSome) = true := by rfl) (hks : (backToKw pos (keywordEach kws X.env)).filterMap (·.1) = ks := by rfl)
    (hdb : (x == ("__debug__" : Str)) = false := by decide)
    (hpl : ((backTo pos (starEach [] X.env)).any (·.1) || (backToKw pos (keywordEach kws X.env)).any (·.1.isNone)) = false := by rfl) : PE X (.Call (.Name x p) [] kws pos) (tCgS 0 ks.length ix sp E tNil tk) := by
  refine ⟨fun pins s σ H Q I h => wpAny_Call_Name_kw (ld_glob I hg hm ?_ hdb)⟩
  refine PySem.W.callWith_KW0 (h₀ := X.base) I.ok.mod.kin hk hall ?_ hpl
  refine thn (hkw.run pos pins s σ H _ I h) fun ws s2 ⟨zs, H2, I2, rz, l1, l2, q2⟩ => ⟨I2.kIn, ?_⟩
  rw [hks]
  exact run_gS (us := []) (vs := []) F g hb (hx σ) I2 .nil rz l1 l2 q2
end
/-! ### what an except suite asks of the error -/
/-- room and no guard around, a handled error or none -/
structure RH (A : Around) : Prop where
  un : A.units + 200 < cLine
  gd : A.guards = some []
theorem RG.rh {k : Nat} {A : Around} (g : RG k A) : RH A := ⟨by have := g.rm.un; omega, g.gd⟩
theorem RH.suite {A : Around} (g : RH A) (e : Option Value) : RH (A.mark e) := ⟨g.un, g.gd⟩
section
variable {X : Cx}
theorem call_reprH (g : RH X.A) : CallR X (.builtin "repr") (rRepr X.K) := by
  intro pins s σ H xs us Q I r h
  obtain ⟨v, d, rfl, hd, hs, hn, hdep, hsz, q⟩ := h
  obtain ⟨u, rfl, ru⟩ := vals1 r
  have hun := g.un
  obtain ⟨as, rd⟩ := Dp.reads I d v u hd ru
  cases hd with
  | non =>
    cases ru
    exact PySem.P.repr_of_none ⟨.str _, H, I.tok _, ⟨_, rfl⟩, q⟩
  | bl b =>
    cases ru
    exact PySem.P.repr_of_bool ⟨.str _, H, I.tok _, ⟨_, rfl⟩, q⟩
  | int i =>
    obtain ⟨t, rfl⟩ := ru
    exact PySem.P.repr_of_int (of_decide_eq_true hs) ⟨.str _, H, I.tok _, ⟨_, rfl⟩, q⟩
  | str x =>
    obtain ⟨t, rfl⟩ := ru
    exact PySem.P.repr_of_str ⟨.str _, H, I.tok _, ⟨_, rfl⟩, q⟩ hsz
  | lst h1 h2 =>
    cases ru
    exact repr_of_reads' rd hs (PyData.noDict_hsm hn) g.gd (by omega) (fun _ _ e => e) (fun h' u tk hk => ⟨.str _, H, I.kept hk, ⟨_, rfl⟩, q⟩) hsz
  | tup h1 h2 =>
    cases ru
    exact repr_of_reads' rd hs (PyData.noDict_hsm hn) g.gd (by omega) (fun _ _ e => e) (fun h' u tk hk => ⟨.str _, H, I.kept hk, ⟨_, rfl⟩, q⟩) hsz
end
/-- error.f, whatever class of ours the error is of -/
def tXg (K : Frag) (a : Addr) (cls : Value) (d : Option Addr) (f : Str) (te : TE) : TE := fun σ H Q => te σ H fun x H1 => x = .ref a ∧ ∃ (C dd : Addr) (fs : List (Str × V)) (v : V), cls = .ref C ∧ XfC K C ∧ findIn K (.ref C) f = some none ∧ d = some dd ∧ H1 dd = some (.xd fs) ∧ fs.lookup f = some v ∧ Q v H1
/-- isinstance(error, c) -/
def rIsG (K : Frag) (a : Addr) (cls : Value) (d : Option Addr) : List V → Hp → VK → Prop := fun xs H Q => ∃ (C dd : Addr) (fs : List (Str × V)) (c : V) (cv : Value) (b : Bool), xs = [.ref a, c] ∧ cls = .ref C ∧ ExcC K C ∧ ClsV c cv ∧ d = some dd ∧ H dd = some (.xd fs) ∧ fs.lookup ("__class__" : Str) = none ∧ kitOne K (.ref C) cv = some b ∧ Q (.bl b) H
section
variable {X : Cx} {a : Addr} {oe : Obj} {cls : Value} {d : Option Addr} {pn : List (Addr × Obj)} {e : Expr} {te : TE} {pos : Pos} {n : Str}
theorem pe_xg (hz : Zc cls d oe) (hf : ∃ vs, oe.data = .fields vs) (he : PE (X.suite a ((a, oe) :: pn)) e te) (hb : attributeBase e n X.env (eval e X.env) = eval e X.env := by rfl) :
    PE (X.suite a ((a, oe) :: pn)) (.Attribute e n pos) (tXg X.K a cls d n te) := by
  refine ⟨fun pins s σ H Q I h => ?_⟩
  refine attr_of hb (thn (he.run pins s σ H _ I h) fun u s1 hh => ?_)
  obtain ⟨x, H1, I1, rx, ex, C, dd, fs, v, ec, T, hno, ed, ea, l, q⟩ := hh
  subst ex
  obtain rfl : u = Value.ref a := rx
  subst ec
  subst ed
  obtain ⟨ha, _⟩ := I1.pin (a, oe) (List.mem_append_left _ List.mem_cons_self)
  obtain ⟨vs, hd⟩ := hf
  have hx : ObjOk X.prog X.w H1 s1.heap dd (.xd fs) := I1.hok dd _ ea
  obtain ⟨mA, hns, hr⟩ := hx
  obtain ⟨od, ho, hl⟩ := lookIn_ns hns
  obtain ⟨u, hu, ru⟩ := RelO.some_of (v := v) (o := mA n) (by rw [← l]; exact hr n)
  have J : PySem.W.InstAt s1.heap a oe C (some od) := ⟨ha, hz.1, by unfold PySem.W.notCls; rw [hd] <;> rfl, by rw [hz.2]; exact ho⟩
  exact HandSPX.exc_get I1.kIn J T.ga T.gg T.exC (PySem.W.findObj_own T.hdC hno rfl (by rw [hl, hu])) (handed_of ru) ⟨v, H1, I1.tok _, ru, q⟩
theorem call_isG (hz : Zc cls d oe) (hf : ∃ vs, oe.data = .fields vs) : CallR (X.suite a ((a, oe) :: pn)) (.builtin "isinstance") (rIsG X.K a cls d) := by
  intro pins s σ H xs us Q I r h
  obtain ⟨C, dd, fs, c, cv, b, rfl, ec, T, hc, ed, ea, hl, e, q⟩ := h
  subst ec
  subst ed
  obtain ⟨u1, u2, rfl, r1, r2⟩ := vals2 r
  obtain rfl : u2 = cv := hc.eq r2
  obtain rfl : u1 = Value.ref a := r1
  obtain ⟨ha, _⟩ := I.pin (a, oe) (List.mem_append_left _ List.mem_cons_self)
  obtain ⟨vs, hd⟩ := hf
  have hx : ObjOk X.prog X.w H s.heap dd (.xd fs) := I.hok dd _ ea
  obtain ⟨mA, hns, rel⟩ := hx
  obtain ⟨od, ho, hl2⟩ := lookIn_ns hns
  obtain ⟨cdD, hcD, _⟩ := any_some T.hd
  have J : InstAt s.heap a oe C (some od) := ⟨ha, hz.1, by unfold PySem.W.notCls; rw [hd] <;> rfl, by rw [hz.2]; exact ho⟩
  exact kia_one (kitx_exc (by rw [hcD]; rfl) T.hg T.hk T.hs T.ha T.hn T.ht T.hm) I.kIn J e (fun z => nomatch z) fun tk => ⟨.bl b, H, I.tok tk, rfl, q⟩
end
/-- the except clause names the first class of errors -/
theorem ErrC.exm {K : Frag} {D I C : Addr} (hD : ErrC K D I D) (hC : ErrC K D I C) : exmOne K (.ref C) (.ref D) = some true :=
  exm_ref hD.er.ox.exC hD.xf.hdC hD.er.ox.tyC hC.er.sub
end OB

set_option Elab.async false
set_option linter.all false
set_option maxRecDepth 100000
set_option maxHeartbeats 4000000
/-! OB, part zb: steps met in the laws of the chapter match. -/
namespace OB
open PySem PySem.Spec PyProof.Rows L2 PySem.W
section
variable {K : Frag}
theorem g_tydT {P : Prop} {H : Hp} {d : Addr} {kvs : List (List L2.Key × V)} (h : H d = some (.dT kvs)) (k : P) : tyV K "dict" (.ref d) H ∧ P := ⟨.inr (.inr (.inl ⟨rfl, .inr ⟨_, h⟩⟩)), k⟩
theorem valV_some {rows : List OB.Row} {k : List L2.Key} {v : V} (h : valV (rows.map fun r => (r.1, V.ref r.2.1)) k = some v) : ∃ (j : Nat) (p : Addr) (l : List Int), rows[j]? = some (k, p, l) ∧ v = .ref p := by
  induction rows with
  | nil => cases h
  | cons r rows ih =>
    rw [List.map_cons] at h
    by_cases c : r.1 = k
    · rw [valV_pos c] at h
      exact ⟨0, r.2.1, r.2.2, by rw [← c]; rfl, (Option.some.inj h).symm⟩
    · rw [valV_neg c] at h
      obtain ⟨j, p, l, h1, h2⟩ := ih h
      exact ⟨j + 1, p, l, h1, h2⟩
theorem valV_none {rows : List OB.Row} {k : List L2.Key} (h : valV (rows.map fun r => (r.1, V.ref r.2.1)) k = none) : ∀ r ∈ rows, r.1 ≠ k := by
  induction rows with
  | nil => exact fun _ h => (nomatch h)
  | cons r rows ih =>
    rw [List.map_cons] at h
    by_cases c : r.1 = k
    · rw [valV_pos c] at h
      cases h
    · rw [valV_neg c] at h
      intro s hs
      rcases List.mem_cons.mp hs with rfl | hs
      · exact c
      · exact ih h s hs
theorem Sy.cut {F : List (Addr × HO)} {x : Ft} {L G : List Ft} {H : Hp} (S : Sy K F (x :: (L ++ G)) H) : Sy K F (x :: G) H := Sy.facts S fun g hg => by
  rcases List.mem_cons.mp hg with rfl | hg
  · exact List.mem_cons_self ..
  · exact List.mem_cons_of_mem _ (List.mem_append_right _ hg)
theorem imm3 {a b c : List PyData} (h1 : immAll a = true) (h2 : immAll b = true) (h3 : immAll c = true) : immAll [.tuple a, .tuple b, .tuple c] = true := by
  show (immAll a && (immAll b && (immAll c && true))) = true
  rw [h1, h2, h3]
  rfl
theorem alike_ints (l : List Int) : AllAlike (l.map PyData.int) := fun d hd e he => by
  obtain ⟨x, _, rfl⟩ := List.mem_map.mp hd
  obtain ⟨y, _, rfl⟩ := List.mem_map.mp he
  rfl
theorem sortable_ints (l : List Int) : PySem.W.Sortable (l.map PyData.int) := Sortable.others (enc := PyData.int) (bs := l) fun b => ⟨fun z => PyData.noConfusion z, fun xs z => PyData.noConfusion z⟩
theorem dataLe_int (a b : Int) : dataLe false id (PyData.int a) (PyData.int b) = decide (a ≤ b) := by
  show (!dataLt (.int b) (.int a)) = _
  rw [show dataLt (.int b) (.int a) = decide (b < a) from by rw [show dataLt (.int b) (.int a) = itemLt (.inl b) (.inl a) from lex_one _ _]; rfl]
  by_cases h : b < a
  · rw [decide_eq_true h, decide_eq_false (by omega)]
    rfl
  · rw [decide_eq_false h, decide_eq_true (by omega)]
    rfl
theorem sort_ints (l : List Int) : (l.map PyData.int).mergeSort (dataLe false id) = (l.mergeSort fun a b => decide (a ≤ b)).map PyData.int :=
  (sort_maps PyData.int fun a _ b _ => (dataLe_int a b).symm).symm
theorem ints_imm (l : List Int) : immAll (l.map PyData.int) = true := immAll_of fun x hx => by
  obtain ⟨s, _, rfl⟩ := List.mem_map.mp hx
  rfl
theorem dps_intsV {H : Hp} {vs : List V} {ns : List Int} (h : DpAll K H vs (ns.map PyData.int)) : vs = ns.map V.int := by
  rw [dps_scal h fun d hd => by
    obtain ⟨s, _, rfl⟩ := List.mem_map.mp hd
    rfl, List.map_map]
  rfl
theorem g_lcIC {σ : L2.St} {H : Hp} {Q : VK} {g : TG} {td te : TE} {tt : TT} {own : List Nat} (k : td σ H fun x H1 => tLc (iItemsT (tFrz (tC x))) g tt te own σ H1 Q) : tLc (iItemsT (tFrz td)) g tt te own σ H Q := k
theorem op_eqDK {X : Cx} {K : Frag} (h : X.K = K) (hu : X.A.units + 64 < cLine) : OpR X (compareOp .Eq) (rEqD K) := h ▸ op_eqD hu
theorem erase_cast (l : List Nat) (x : Nat) : (l.map fun i : Nat => (i : Int)).erase (x : Int) = (l.erase x).map fun i : Nat => (i : Int) := by
  induction l with
  | nil => rfl
  | cons y l ih =>
    by_cases h : y = x
    · subst h
      rw [List.map_cons, List.erase_cons_head, List.erase_cons_head]
    · rw [List.map_cons, List.erase_cons_tail (by simp; omega), ih, List.erase_cons_tail (by simp [h]), List.map_cons]
theorem op_catS {X : Cx} : OpR X (binaryOp .Add) rCatS := op_add_str
theorem tx_ne {c d : Nat} : decide (tx [c] ≠ tx [d]) = !decide (c = d) := by
  by_cases h : c = d
  · subst h
    simp
  · have : tx [c] ≠ tx [d] := fun e => h (by simpa using tx_inj e)
    simp [this, h]
theorem log2_small {n : Nat} (h : n < 18446744073709551616) : n.log2 < 1920 := by
  by_cases h0 : n = 0
  · subst h0
    decide
  · exact Nat.lt_trans ((Nat.log2_lt h0).mpr (show n < 2 ^ 64 from h)) (by decide)
theorem g_eqB {b c : Bool} {H : Hp} {Q : VK} (k : Q (.bl (decide (b = c))) H) : rEq (.bl b) (.bl c) H Q := ⟨rfl, by
  have e : decide (V.bl b = V.bl c) = decide (b = c) := by simp
  rw [e]
  exact k⟩
theorem g_andS {F : List (Addr × HO)} {G : List Ft} {σ : L2.St} {H : Hp} {Q : VK} {sm d : Bool} {t : TE} (S : Sy K F G H) (ht : ∀ Q' : VK, (∀ H', Sy K F G H' → Q' (.bl d) H') → t σ H Q') (k : ∀ H', Sy K F G H' → Q (.bl (sm && d)) H') : if sm = true then t σ H Q else Q (.bl false) H := by
  cases sm with
  | true =>
    rw [if_pos rfl]
    exact ht _ fun H' S' => by have := k H' S'; rwa [Bool.true_and] at this
  | false =>
    rw [if_neg (by decide)]
    exact k H S
theorem g_orS {F : List (Addr × HO)} {G : List Ft} {σ : L2.St} {H : Hp} {Q : VK} {sm d : Bool} {t : TE} (S : Sy K F G H) (ht : ∀ Q' : VK, (∀ H', Sy K F G H' → Q' (.bl d) H') → t σ H Q') (k : ∀ H', Sy K F G H' → Q (.bl (sm || d)) H') : if sm = true then Q (.bl true) H else t σ H Q := by
  cases sm with
  | true =>
    rw [if_pos rfl]
    exact k H S
  | false =>
    rw [if_neg (by decide)]
    exact ht _ fun H' S' => by have := k H' S'; rwa [Bool.false_or] at this
theorem g_truD {H : Hp} {p : Addr} {ds : List PyData} {QB : Bool → Hp → Prop} (h : L2.Dp K H (.ref p) (.tuple ds)) (k : QB (!ds.isEmpty) H) : rTruK K (.ref p) H QB := by
  obtain ⟨a, xs, e, h1, h2⟩ := dp_tuple h
  cases e
  refine ⟨_, .inr (.inl ⟨xs, h1, rfl⟩), ?_⟩
  have e : xs.isEmpty = ds.isEmpty := by
    cases h2 <;> rfl
  rw [e]
  exact k
theorem viaS {t : TS} {D : Ends} {σ : L2.St} {H : Hp} (R : L2.St → Hp → Prop) (h : ∀ (N : L2.St → Hp → Prop) (A : VK) (B C : L2.St → Hp → Prop), (∀ σ' H', R σ' H' → N σ' H') → t ⟨N, A, B, C⟩ σ H) (c : ∀ σ' H', R σ' H' → D.nx σ' H') : t D σ H := h D.nx D.rt D.bk D.ct c
theorem atIfS {t : TT} {t1 t2 : TS} {D : Ends} {σ : L2.St} {H : Hp} (h : tIfS t t1 t2 D σ H) : tIfS t t1 t2 D σ H := h
theorem via {t : TE} {σ : L2.St} {H : Hp} {Q : VK} (R : V → Hp → Prop) (h : ∀ Q : VK, (∀ v H', R v H' → Q v H') → t σ H Q) (c : ∀ v H', R v H' → Q v H') : t σ H Q := h Q c
theorem atIf {t : TT} {ta tb : TE} {σ : L2.St} {H : Hp} {Q : VK} (h : tIf t ta tb σ H Q) : tIf t ta tb σ H Q := h
theorem atNewT {xs : List V} {H : Hp} {Q : VK} (h : rNewT xs H Q) : rNewT xs H Q := h
theorem g_newTt {F : List (Addr × HO)} {G : List Ft} {H : Hp} {Q : VK} {vs : List V} (S : Sy K F G H) (hl : vs.length ≤ 100000) (k : ∀ p H', Sy K F (.tt [(p, vs)] :: G) H' → Q (.ref p) H') : rNewT vs H Q :=
  ⟨Nat.le_trans hl (by decide), fun p hp => k p _ ((S.over hp).add (.tt [(p, vs)]) fun q hq => by rcases List.mem_singleton.mp hq with rfl; exact upd_same)⟩
theorem seqIx_nn {r : Int} {n : Nat} (h0 : 0 ≤ r) (h1 : r < n) : seqIndex? r n = some r.toNat := by
  unfold seqIndex?
  first
    | (rw [if_pos (by omega)]; simp; done)
    | (simp; omega)
theorem g_popA {F : List (Addr × HO)} {G : List Ft} {H : Hp} {Q : VK} {l : Addr} {f : Nat} {x : V} {xs : List V} {r : Int} (S : Sy K F G H) (h : F[f]? = some (l, .lst xs)) (hx : xs[r.toNat]? = some x) (h0 : 0 ≤ r) (h1 : r < xs.length) (hl : xs.length ≤ 100000) (k : ∀ H', Sy K (F.set f (l, .lst (xs.eraseIdx r.toNat))) G H' → Q x H') : rPopAt (.ref l) [.int r] H Q := by
  exact ⟨l, xs, r, r.toNat, x, rfl, rfl, S.at f h, by omega, by omega, seqIx_nn h0 h1, hx, k _ (S.put f h rfl)⟩
theorem eraseIdx_perm {α : Type} {l : List α} {i : Nat} (h : i < l.length) : ([l[i]] ++ l.eraseIdx i).Perm l := by
  induction l generalizing i with
  | nil => cases h
  | cons x l ih =>
    cases i with
    | zero => exact .refl _
    | succ i =>
      have h2 : i < l.length := Nat.lt_of_succ_lt_succ h
      have := ih h2
      exact (List.Perm.swap x (l[i]'h2) _).trans (this.cons x)
theorem g_tupA {F : List (Addr × HO)} {G : List Ft} {H : Hp} {Q : VK} {l : Addr} {vs : List V} (S : Sy K F G H) (h : SqL K H l vs) (k : ∀ t H', Sy K F (.tq t vs :: G) H' → Q (.ref t) H') : rTuple K [.ref l] H Q :=
  ⟨l, vs, rfl, .inl ⟨h, fun p hp => k p _ ((S.over hp).add (.tq p vs) (.inl (.inl upd_same)))⟩⟩
theorem perm_map {α β : Type} (f : α → β) {ys zs : List β} (h : ys.Perm zs) : ∀ l : List α, zs = l.map f → ∃ l' : List α, l'.Perm l ∧ ys = l'.map f := by
  induction h with
  | nil =>
    intro l e
    exact ⟨l, .refl _, e⟩
  | cons x h ih =>
    intro l e
    cases l with
    | nil => cases e
    | cons a l =>
      rw [List.map_cons] at e
      obtain ⟨rfl, e2⟩ := List.cons.inj e
      obtain ⟨l', p, e3⟩ := ih l e2
      exact ⟨a :: l', p.cons a, by rw [e3]; rfl⟩
  | swap x y l0 =>
    intro l e
    match l, e with
    | a :: b :: l, e =>
      rw [List.map_cons, List.map_cons] at e
      obtain ⟨rfl, e2⟩ := List.cons.inj e
      obtain ⟨rfl, rfl⟩ := List.cons.inj e2
      exact ⟨b :: a :: l, List.Perm.swap _ _ _, rfl⟩
  | trans h1 h2 ih1 ih2 =>
    intro l e
    obtain ⟨l1, p1, e1⟩ := ih2 l e
    obtain ⟨l2, p2, e2⟩ := ih1 l1 e1
    exact ⟨l2, p2.trans p1, e2⟩
theorem rglc3_of {n : Nat} {F : List (Addr × HO)} {G : List Ft} {σ : L2.St} {H : Hp} {Q : VK} {own : List Nat} {g : TG} {tt : TT} {te : TE} (I : Nat → List (Addr × HO) → List V → List Ft → Prop) (S : Sy K F G H) (h0 : I 0 F [] G) (hl : ∀ i F vs G, I i F vs G → vs.length < 100000)
    (turn : ∀ i, i < n → ∀ (Dp : Addr) (H : Hp) (F : List (Addr × HO)) (G : List Ft) (vs : List V) (QE : VK) (QR : Hp → Prop), I i F vs G → Sy K ((Dp, .lst vs) :: F) G H →
      (∀ y F' G' H', I (i + 1) F' (vs ++ [y]) G' → Sy K ((Dp, .lst vs) :: F') G' H' → QE y H') →
      g (.int (0 + i)) (wipe σ own) H fun σ2 H2 => wipe σ2 own = wipe σ own ∧ tt σ2 H2 fun b H3 => if b = true then te σ2 H3 QE else QR H3)
    (done : ∀ Dp H' F' G' vs, H Dp = none → I n F' vs G' → Sy K ((Dp, .lst vs) :: F') G' H' → Q (.ref Dp) H') : RgLc K g tt te own σ Q n H := fun Dp hD => by
  refine lc_range (lo := 0) (n := n) (fun i H' => ∃ F' vs G', I i F' vs G' ∧ Sy K ((Dp, .lst vs) :: F') G' H') ⟨F, [], G, h0, S.push hD⟩ (fun i H' hi ⟨F', vs, G', hI, S'⟩ => ?_) fun H' ⟨F', vs, G', hI, S'⟩ => done Dp H' F' G' vs hD hI S'
  refine turn i hi Dp H' F' G' vs _ _ hI S' fun y F2 G2 H2 hI2 S2 => ?_
  have lt := hl _ _ _ _ hI2
  rw [List.length_append] at lt
  exact ⟨vs, S2.at 0 rfl, Nat.lt_of_lt_of_le (by omega) (show 100000 ≤ sizeLine by decide), F2, vs ++ [y], G2, hI2, S2.put (o' := .lst (vs ++ [y])) 0 rfl rfl⟩
theorem SmallL.len {n k m : Nat} {xs : List PyData} (h : ∀ x ∈ xs, Small n k x) (hl : xs.length ≤ m) : SmallL ((n + 2) * m) k xs := (SmallL.all h).mono (Nat.mul_le_mul_left _ hl) (Nat.le_refl _)
theorem nodup_sub {α : Type} [DecidableEq α] : ∀ {L M : List α}, L.Nodup → (∀ x ∈ L, x ∈ M) → L.length ≤ M.length
  | [], _, _, _ => Nat.zero_le _
  | x :: L, M, nd, h => by
    rw [List.nodup_cons] at nd
    have hx := h x (List.mem_cons_self ..)
    have ih := nodup_sub (L := L) (M := M.erase x) nd.2 fun y hy => by
      have hne : y ≠ x := fun e => nd.1 (e ▸ hy)
      exact (List.mem_erase_of_ne hne).mpr (h y (List.mem_cons_of_mem _ hy))
    rw [List.length_erase_of_mem hx] at ih
    have := List.length_pos_of_mem hx
    rw [List.length_cons]
    omega
theorem isKeys_len {H : Hp} : ∀ {kvs : List (List L2.Key × V)} {bs : List Addr}, IsKeys H kvs bs → bs.length = kvs.length
  | [], [], .nil => rfl
  | _ :: _, _ :: _, .cons h t => by rw [List.length_cons, List.length_cons, isKeys_len t]
theorem g_tDGet {σ : L2.St} {td ty : TE} (k : td σ H fun x H1 => ty σ H1 fun y H2 => rDGet x y H2 Q) : tDGet td ty σ H Q := k
theorem g_filtI {σ : L2.St} {H : Hp} {Q : VK} {F : List (Addr × HO)} {G : List Ft} {tl te : TE} {tt : TT} {own : List Nat} {z j : Nat} {a : Addr} {ns : List Int} (f : Int → Bool) (S : Sy K F G H) (hF : F[j]? = some (a, .lst (ns.map V.int))) (hl : ns.length < 1000) (ht : ∀ Q' : VK, Q' (.ref a) H → tl σ H Q')
    (turn : ∀ (x : Int) (H : Hp) (QE : VK) (QR : Hp → Prop), (f x = true → QE (.int x) H) → (f x = false → QR H) → gName z (.int x) (wipe σ own) H fun σ2 H2 => wipe σ2 own = wipe σ own ∧ tt σ2 H2 fun b H3 => if b = true then te σ2 H3 QE else QR H3)
    (k : ∀ p H', Sy K ((p, .lst ((ns.filter f).map V.int)) :: F) G H' → Q (.ref p) H') : tLc (iSeq K tl) (gName z) tt te own σ H Q := by
  have hn : (ns.map V.int).length = ns.length := List.length_map ..
  refine g_lcS (a := a) (xs := ns.map V.int) true (fun i F' ds => F' = F ∧ ds = ((ns.take i).filter f).map PyData.int ∧ i ≤ ns.length) S ht ⟨rfl, rfl, Nat.zero_le _⟩ (fun i F' ds H' hi S4 => by
      rw [hi.1] at S4
      exact SqL.of (S4.at j hF)) (fun i F' ds hi => by
      rw [hi.2.1, List.length_map]
      refine Nat.lt_of_le_of_lt (List.length_filter_le _ _) ?_
      rw [List.length_take]
      omega) ?_ ?_
  · intro i x hx Dq H4 F2 zs ds QE QR hi S4 kE kR
    obtain ⟨rfl, rfl, hi2⟩ := hi
    rw [List.getElem?_map] at hx
    obtain ⟨n, hn2, rfl⟩ := Option.map_eq_some_iff.mp hx
    have hi3 := (List.getElem?_eq_some_iff.mp hn2).1
    have st : (ns.take (i + 1)).filter f = (ns.take i).filter f ++ if f n = true then [n] else [] := by
      rw [List.take_succ, List.filter_append, hn2]
      by_cases h : f n = true <;> simp [h]
    refine turn n H4 QE QR (fun h => ?_) fun h => ?_
    · refine kE _ (.int n) _ _ ⟨rfl, ?_, hi3⟩ (S4.fact (dps_one (.int _)) rfl)
      rw [st, if_pos h, List.map_append]
      rfl
    · refine kR _ _ ⟨rfl, ?_, hi3⟩ S4
      rw [st, if_neg (by rw [h]; decide), List.append_nil]
  · rintro Dq H4 F2 zs ds hD ⟨rfl, rfl, _⟩ S4
    rw [hn, List.take_of_length_le (Nat.le_refl _)] at S4
    have hv := dps_intsV (S4.dps 0 rfl)
    subst hv
    exact k _ _ S4.drop
theorem atForR {ta : TA} {g : TG} {tb : TS} {D : Ends} {σ : L2.St} {H : Hp} (h : tFor (iRng1 ta) g tb D σ H) : tFor (iRng1 ta) g tb D σ H := h
end
end OB

set_option Elab.async false
set_option linter.all false
set_option maxRecDepth 100000
set_option maxHeartbeats 4000000
/-! OB, part zc: setdefault and get of dicts with whole numbers as keys; starred items. -/
namespace OB
open PySem PySem.Spec PyProof.Rows L2 PySem.W
def rSetdK (x : V) (xs : List V) (H : Hp) (Q : VK) : Prop := ∃ a kvs k z, x = .ref a ∧ xs = [kV k, z] ∧ H a = some (.dK kvs) ∧ kvs.length < sizeLine ∧ (∀ v, valV kvs k = some v → Q v H) ∧ (valV kvs k = none → Q z (upd H a (.dK (putK kvs k z))))
def rGetK (x : V) (xs : List V) (H : Hp) (Q : VK) : Prop := ∃ a kvs k z, x = .ref a ∧ xs = [kV k, z] ∧ Rd H a (.dK kvs) ∧ Q ((valV kvs k).getD z) H
section
variable {X : Cx}
theorem mt_setdK (hu : X.A.units + 1 < cLine) : MtR X "dict.setdefault" rSetdK := by
  intro pins s σ H x xs v us Q I rx rxs h
  obtain ⟨a, kvs, k, z, rfl, rfl, e, hl, h1, h2⟩ := h
  cases rx
  obtain ⟨u0, u1, rfl, r0, r1⟩ : ∃ u0 u1, us = [u0, u1] ∧ RelV (kV k) u0 ∧ RelV z u1 := by
    cases rxs with
    | cons r0 t =>
      cases t with
      | cons r1 t => cases t; exact ⟨_, _, rfl, r0, r1⟩
  exact d_setd I e r0 r1 hl (fun v hv w' s4 I4 rw' => ⟨v, _, I4, rw', h1 v hv⟩) fun hn w' s4 I4 rw' => ⟨z, _, I4, rw', h2 hn⟩
theorem mt_getK (hu : X.A.units + 1 < cLine) : MtR X "dict.get" rGetK := by
  intro pins s σ H x xs v us Q I rx rxs h
  obtain ⟨a, kvs, k, z, rfl, rfl, e, q⟩ := h
  cases rx
  obtain ⟨u0, u1, rfl, r0, r1⟩ : ∃ u0 u1, us = [u0, u1] ∧ RelV (kV k) u0 ∧ RelV z u1 := by
    cases rxs with
    | cons r0 t =>
      cases t with
      | cons r1 t => cases t; exact ⟨_, _, rfl, r0, r1⟩
  exact d_get2 hu I (y := kV k) (o := valV kvs k) (.inl ⟨kvs, k, e, rfl, rfl⟩) r0 r1 fun w' s3 I3 rw' => ⟨_, H, I3, rw', q⟩
end
theorem pa_starK {X : Cx} {K : Frag} {e : Expr} {es : List Expr} {te : TE} {t : TA} {p : Pos} (h : X.K = K) (he : PE X e te) (hr : PA X es t) (hs : starEach (.Starred e p :: es) X.env = (true, eval e X.env) :: starEach es X.env := by rfl) : PA X (.Starred e p :: es) (StX.tStar K te t) := h ▸ StX.pa_star he hr hs
section
variable {K : Frag} {F : List (Addr × HO)} {G : List Ft} {σ : L2.St} {H : Hp} {Q : VK} {d : Addr} {kvs : List (Key × V)} {n : Int} {i : Nat} {v z : V}
theorem g_setdK (S : Sy K F G H) (h : F[i]? = some (d, .dK kvs)) (hl : kvs.length < 100000) (h1 : ∀ v, valV kvs (.inl n) = some v → Q v H)
    (h2 : ∀ H', valV kvs (.inl n) = none → Sy K (F.set i (d, .dK (kvs ++ [(.inl n, z)]))) G H' → Q z H') : rSetdK (.ref d) [.int n, z] H Q :=
  ⟨d, kvs, .inl n, z, rfl, rfl, S.at i h, Nat.lt_of_lt_of_le hl (by decide), h1, fun hn => h2 _ hn (by have := S.put (o' := .dK (putK kvs (.inl n) z)) i h rfl; rw [putK_new z hn] at this ⊢; exact this)⟩
theorem g_getK (h : Rd H d (.dK kvs)) (q : Q ((valV kvs (.inl n)).getD z) H) : rGetK (.ref d) [.int n, z] H Q := ⟨d, kvs, .inl n, z, rfl, rfl, h, q⟩
theorem g_starL {te : TE} {t : TA} {QL : List V → Hp → Prop} (k : te σ H fun x H1 => (fun x H1 => ∃ p xs, x = V.ref p ∧ (SqT K H1 p xs ∨ SqL K H1 p xs) ∧ t σ H1 fun ys H2 => QL (xs ++ ys) H2) x H1) : StX.tStar K te t σ H QL := k
theorem g_stL {p : Addr} {xs : List V} {f : List V → Prop} (h : SqL K H p xs) (k : f xs) : ∃ q zs, V.ref p = V.ref q ∧ (SqT K H q zs ∨ SqL K H q zs) ∧ f zs := ⟨p, xs, rfl, .inr h, k⟩
theorem g_stT {p : Addr} {xs : List V} {f : List V → Prop} (h : SqT K H p xs) (k : f xs) : ∃ q zs, V.ref p = V.ref q ∧ (SqT K H q zs ∨ SqL K H q zs) ∧ f zs := ⟨p, xs, rfl, .inl h, k⟩
/-- for over range(a, b) -/
theorem g_dnewK (k : ∀ p, H p = none → Q (.ref p) (upd H p (.dK []))) : tDNewK σ H Q := k
end
end OB

set_option Elab.async false
set_option linter.all false
set_option maxRecDepth 100000
set_option maxHeartbeats 4000000
/-! OB, part zd: raise C(value) in a def that may raise; parts without errors lifted; sorted of lots. -/
namespace OB
open PySem PySem.Spec PyProof.Rows L2 PySem.W
section
variable {X : Cx} {st : Stmt} {t : TS}
theorem ps_noxL (h : PS X.nox st t) : PS X st t := ⟨fun pins s σ H D I hw =>
  wpAny_mono (h.run pins s σ H D (I.wish _) hw) (fun _ _ q => q.unwish) fun _ _ z => False.elim z⟩
end
/-- raise C(value) -/
def rRz (C : Addr) (E : XK) (sp : Sp) (vs : List V) (H1 : Hp) : Prop := vs.length ≤ 1000 ∧ ∀ a, H1 a = none → sp (.ref a :: (vs ++ [])) (upd H1 a (exo a C none))
  (fun v H2 => v = .non ∧ ∃ (d : Addr) (fs : List (Str × V)), H2 a = some (exo a C (some d)) ∧ H2 d = some (exd d fs) ∧ H1 d = none ∧ E (.ref C) (some d) (upd (del H2 a) d (.xd fs))) (fun _ _ _ => False)
def tRz (C : Addr) (E : XK) (sp : Sp) (ta : TA) : TS := fun _ σ H => ta σ H fun vs H1 => rRz C E sp vs H1
section
variable {X : Cx} {CX : CXT} {x : Str} {C fI : Addr} {k : Nat} {fd : FuncData} {sp : Sp} {E : XK} {e : Expr} {es : List Expr} {ta : TA} {p pos pos' : Pos}
theorem ps_rz (hc : X.calm = true) (tk : Takes X (fun cls d _ H => E cls d H)) (T : OexC X.K C) (iC : findIn X.K (.ref C) "__init__" = some (some (.ref fI))) (tI : typeIn X.K (.ref fI) = some (.type "function"))
    (F1 : FnOk X.prog X.w X.K X.mg X.base CX k fI fd ["self", "value"] sp) (hr : Room (k + 1) X.A) (hb : L2.Binds X.K fd ["self", "value"] []) (hx : Passes CX X fun _ _ _ => False) (hg : Gl X x) (hm : X.mg x = some (.ref C)) (ha : PA X (e :: es) ta)
    (hdb : (x == ("__debug__" : Str)) = false := by decide) (he : starEach (e :: es) X.env = (false, eval e X.env) :: starEach es X.env := by rfl) (hpl : (backTo pos (starEach es X.env)).any (·.1) = false := by rfl) :
    PS X (.Raise (some (.Call (.Name x p) (e :: es) [] pos)) none pos') (tRz C E sp ta) :=
  ps_raise hc tk (pmk_oex T iC tI F1 hr hb .nil hx hg hm ha hdb he hpl)
end
section
variable {K : Frag} {D I C : Addr} {E : XK} {sp : Sp} {ta : TA} {σ : L2.St} {H : Hp} {De : Ends} {y : V}
theorem g_rz (k : ta σ H fun vs H1 => rRz C E sp vs H1) : tRz C E sp ta De σ H := k
theorem g_rzE (hC : ErrC K D I C) (k : ∀ d, H d = none → E (.ref C) (some d) (upd H d (.xd [("value", y)]))) : rRz C E (sp_einit K D) [y] H := by
  refine ⟨Nat.le_of_ble_eq_true rfl, fun a ha => ⟨rfl, a, C, y, rfl, hC.er, upd_same, fun dx hdx hne => ⟨rfl, dx, [("value", y)], upd_same, ?_, ?_, ?_⟩⟩⟩
  · rw [upd_ne hne, upd_same]
  · rwa [upd_ne hne] at hdx
  · rw [upd_ne hne] at hdx
    have e : upd (del (upd (upd (upd H a (exo a C none)) dx (exd dx [("value", y)])) a (exo a C (some dx))) a) dx (.xd [("value", y)]) = upd H dx (.xd [("value", y)]) := by
      funext b
      by_cases h1 : b = dx
      · subst h1
        rw [upd_same, upd_same]
      · rw [upd_ne h1, upd_ne h1]
        by_cases h2 : b = a
        · subst h2
          rw [del_same, ha]
        · rw [del_ne h2, upd_ne h2, upd_ne h1, upd_ne h2]
    rw [e]
    exact k dx hdx
end
/-! sorted -/
section
variable {K : Frag} {F : List (Addr × HO)} {G : List Ft} {H : Hp} {Q : VK} {l : Addr} {xs : List V} {ds : List PyData}
theorem g_sortE (S : Sy K F G H) (h : SqL K H l xs) (hd : DpAll K H xs ds) (m : immAll ds = true) (ha : AllAlike ds) (hk : PySem.W.Sortable ds ∨ Sortable0 ds) (hdp : ∀ d ∈ ds, d.depth ≤ 50) (hl : ds.length ≤ 100000)
    (k : ∀ p H' ys, Sy K ((p, .lst ys) :: F) (.dat ys (ds.mergeSort (dataLe false id)) :: G) H' → Q (.ref p) H') : rSortE K [.ref l] H Q := by
  have lx := dps_length hd
  refine ⟨l, xs, ds, rfl, h, hd, ha, hk, hdp, by omega, fun p hp => k p _ (((xs.zip ds).mergeSort (dataLe false Prod.snd)).map Prod.fst) ?_⟩
  have em : (xs.zip ds).map Prod.snd = ds := List.map_snd_zip (by omega)
  have e1 : ((xs.zip ds).mergeSort (dataLe false Prod.snd)).map Prod.snd = ds.mergeSort (dataLe false id) := by
    have := sort_maps (r := dataLe false (Prod.snd : V × PyData → PyData)) (s := dataLe false (id : PyData → PyData)) Prod.snd (l := xs.zip ds) (fun a _ b _ => rfl)
    rw [this, em]
  refine (S.push hp).fact (dps_keep (Tx.new hp) _ _ ?_ ?_) ?_
  · rw [← e1]
    refine immAll_of fun d hd2 => immAll_mem m d ?_
    obtain ⟨b, hb, rfl⟩ := List.mem_map.mp hd2
    rw [← em]
    exact List.mem_map.mpr ⟨b, (List.mergeSort_perm _ _).mem_iff.mp hb, rfl⟩
  · rw [← e1]
    have key : ∀ bs : List (V × PyData), (∀ b ∈ bs, Dp K H b.1 b.2) → DpAll K H (bs.map Prod.fst) (bs.map Prod.snd) := fun bs => by
      induction bs with
      | nil => exact fun _ => .nil
      | cons b bs ih => exact fun hb => .cons (hb b (List.mem_cons_self ..)) (ih fun c hc => hb c (List.mem_cons_of_mem _ hc))
    refine key _ fun b hb => ?_
    have hz : ∀ {xs : List V} {ds : List PyData}, DpAll K H xs ds → ∀ b ∈ xs.zip ds, Dp K H b.1 b.2 := fun {xs} => by
      induction xs with
      | nil => intro ds _ b hb; cases hb
      | cons x xs ih =>
        intro ds hd b hb
        cases hd with
        | cons h1 h2 =>
          rcases List.mem_cons.mp hb with rfl | hb
          · exact h1
          · exact ih h2 b hb
    exact hz hd b ((List.mergeSort_perm _ _).mem_iff.mp hb)
  · rw [← e1]
    refine immAll_of fun d hd2 => immAll_mem m d ?_
    obtain ⟨b, hb, rfl⟩ := List.mem_map.mp hd2
    rw [← em]
    exact List.mem_map.mpr ⟨b, (List.mergeSort_perm _ _).mem_iff.mp hb, rfl⟩
theorem g_lcE2 {tl te : TE} {g : TG} {tt : TT} {own : List Nat} {σ : L2.St} (k : tl σ H fun x H1 => tLc (iSeq K (tC x)) g tt te own σ H1 Q) : tLc (iSeq K tl) g tt te own σ H Q := k
theorem g_forE3 {tl : TE} {g : TG} {tb : TS} {D : Ends} {σ : L2.St} {H : Hp} (k : tl σ H fun x H1 => tFor (iSeq K (tC x)) g tb D σ H1) : tFor (iSeq K tl) g tb D σ H := k
end
theorem Sy.to {K : Frag} {F F' : List (Addr × HO)} {G G' : List Ft} {H : Hp} (S : Sy K F G H) (h1 : F'.Sublist F) (h2 : ∀ g ∈ G', g ∈ G) : Sy K F' G' H := ⟨fun q hq => S.st q (h1.subset hq), (h1.map _).nodup S.nd, fun g hg => S.ft g (h2 g hg)⟩
section
variable {X : Cx} {K : Frag} {T id : String} {name : Str} {r : V → List V → Hp → VK → Prop} {o e : Expr} {es : List Expr} {to : TE} {t : TA} {cpos apos : Pos}
theorem pe_bmK (h : X.K = K) (pa : PySem.PlainAttrs T) (slot : PySem.Slot T name id) (hty : typeOf (.builtin id) = pure (.type "method_descriptor")) (hm : MtR X id r) (ho : PE X o to) (ha : PA X (e :: es) t)
    (hbase : attributeBase o name X.env (eval o X.env) = eval o X.env := by rfl)
    (hfew : ((backTo cpos (starEach (e :: es) X.env)).all (fun x => !x.1) && (backToKw cpos (keywordEach [] X.env)).all (fun x => x.1.isSome)
      && decide ((e :: es).length + ([] : List Keyword).length + (if ([] : List Keyword).isEmpty then 0 else 1) < 30)) = true := by rfl)
    (hline : (apos.endLine == cpos.line) = true := by rfl) (hs : starEach (e :: es) X.env = (false, eval e X.env) :: starEach es X.env := by rfl) (hplain : (backTo cpos (starEach es X.env)).any (·.1) = false := by rfl) :
    PE X (.Call (.Attribute o name apos) (e :: es) [] cpos) (tBM K T r to t) := h ▸ pe_bm pa slot hty hm ho ha hbase hfew hline hs hplain
theorem op_neDK {X : Cx} {K : Frag} (h : X.K = K) (hu : X.A.units + 64 < cLine) : OpR X (compareOp .NotEq) (rNeD K) := h ▸ op_neD hu
end
/-! a list unpacked; a comprehension over a tuple of objects that may change -/
theorem pg_lstK {X : Cx} {K : Frag} (hK : X.K = K) {es : List Expr} {k pos : _} {t : TGs} {n : Nat} (hc : X.calm = true) (h : PGs X es t)
    (hn : (assignEach es X.env).length = n := by rfl) (hst : (assignEach es X.env).findIdx? (·.1) = none := by rfl) : PG X (.Tuple es k pos) (gLst K n t) := hK ▸ pg_lst hc h hn hst
theorem g_unpL {K : Frag} {σ : L2.St} {H : Hp} {QS : L2.St → Hp → Prop} {n : Nat} {tgs : TGs} {l : Addr} {vs : List V} (h : SqL K H l vs) (hl : vs.length = n) (k : tgs vs σ H QS) : gLst K n tgs (.ref l) σ H QS := ⟨l, vs, rfl, h, hl, k⟩
theorem g_lcVT {K : Frag} {F : List (Addr × HO)} {G : List Ft} {σ : L2.St} {H : Hp} {Q : VK} {own : List Nat} {g : TG} {tt : TT} {te tl : TE} {a : Addr} {xs : List V} (I : Nat → List (Addr × HO) → List V → Prop) (S : Sy K F G H) (ht : ∀ Q' : VK, Q' (.ref a) H → tl σ H Q') (h0 : I 0 F [])
    (hq : ∀ i F' vs H', I i F' vs → Sy K F' G H' → SqT K H' a xs) (hl : ∀ i F vs, I i F vs → vs.length < 100000)
    (turn : ∀ i x, xs[i]? = some x → Turn3 K G I σ own g tt te i x)
    (done : ∀ Dp H' F' vs, H Dp = none → I xs.length F' vs → Sy K ((Dp, .lst vs) :: F') G H' → Q (.ref Dp) H') : tLc (iSeq K tl) g tt te own σ H Q := by
  refine ht _ ⟨a, rfl, ?_⟩
  have q0 := hq 0 F [] H h0 S
  have sub : ∀ {Dp i H'}, LcP3 K G I Dp i H' → SqT K H' a xs := fun ⟨F', vs, hi, S'⟩ => hq _ F' vs _ hi S'.less
  refine .inr ⟨⟨xs, q0⟩, fun Dp hD => lc_tup (K := K) (a := a) (xs := xs) (LcP3 K G I Dp) ⟨F, [], h0, S.push hD⟩ (fun i H' _ p => sub p) (fun i x H' hx p => lcp_turn3 hl (turn i x hx) p) fun H' p => ?_⟩
  obtain ⟨F', vs, hi, S'⟩ := p
  exact done Dp H' F' vs hD hi S'
theorem takes0 {X : Cx} : Takes X (fun _ _ _ _ => False) := fun _ _ x => by
  obtain ⟨_, _, _, _, _, _, _, _, _, _, _, _, _, _, _, _, z⟩ := x
  exact z.elim
end OB

set_option Elab.async false
set_option linter.all false
set_option maxRecDepth 100000
set_option maxHeartbeats 4000000
/-! OB, part ze: texts (len, times, sorted); dicts with texts as keys; dicts of lists. -/
namespace OB
open PySem PySem.Spec PyProof.Rows L2 PySem.W
/-! ### len of anything -/
def rLenS : List V → Hp → VK → Prop := fun xs H Q => ∃ z, xs = [.str z] ∧ z.length ≤ sizeLine ∧ Q (.int z.length) H
def rLenV (K : Frag) : List V → Hp → VK → Prop := fun xs H Q => OB.rLen K xs H Q ∨ rLenS xs H Q
theorem c_lenV {X : Cx} : CallR X (.builtin "len") (rLenV X.K) := by
  intro pins s σ H xs us Q I r h
  rcases h with h | h
  · exact c_len pins s σ H xs us Q I r h
  · exact call_len_str pins s σ H xs us Q I r h
theorem c_lenS {X : Cx} : CallR X (.builtin "len") rLenS := call_len_str
theorem g_lnS {H : Hp} {Q : VK} {l : List Nat} (h : l.length ≤ 100000) (k : Q (.int (l.length : Nat)) H) : rLenS [.str (tx l)] H Q := ⟨tx l, rfl, by rw [tx_len]; exact Nat.le_trans h (by decide), by rw [tx_len]; exact k⟩
/-! ### text * number -/
def repS (l : List Nat) : Nat → List Nat
  | 0 => []
  | n + 1 => l ++ repS l n
theorem repS_len (l : List Nat) : ∀ n, (repS l n).length = n * l.length
  | 0 => by simp [repS]
  | n + 1 => by rw [repS, List.length_append, repS_len l n, Nat.succ_mul]; omega
theorem repS_mem {l : List Nat} {c : Nat} : ∀ {n : Nat}, c ∈ repS l n → c ∈ l
  | n + 1, h => (List.mem_append.mp h).elim id fun h => repS_mem h
theorem foldl_app (x : Array Nat) : ∀ (n : Nat) (a : Array Nat), ((List.replicate n x).foldl (· ++ ·) a).toList = a.toList ++ repS x.toList n
  | 0, a => by simp [repS]
  | n + 1, a => by
    rw [List.replicate_succ, List.foldl_cons, foldl_app x n]
    simp [repS]
def rMulS : R2 := fun x y H Q => ∃ (l : List Nat) (k : Int), x = .str (tx l) ∧ y = .int k ∧ 2 ≤ k ∧ k ≤ 1000 ∧ 0 < l.length ∧ l.length ≤ 1000 ∧ Q (.str (tx (repS l k.toNat))) H
theorem op_mulS {X : Cx} : OpR X (binaryOp .Mult) rMulS := by
  intro pins s σ H x y v u Q I rx ry h
  obtain ⟨l, k, rfl, rfl, h1, h2, h3, h4, q⟩ := h
  obtain ⟨t, rfl⟩ := rx
  obtain ⟨t2, rfl⟩ := ry
  have hl : (tx l).length = l.length := tx_len l
  refine PySem.P.mul_str (by rw [decide_eq_false (by omega), decide_eq_false (by omega)]; rfl) (fun _ _ => ?_) (fun _ _ => ?_) ?_
  · rw [hl]
    have : (1000 : Int) ≤ (2 ^ 63 - 1) / k := by
      refine (Int.le_ediv_iff_mul_le (by omega)).mpr ?_
      omega
    omega
  · rw [hl]
    refine decide_eq_false ?_
    have : l.length * k.toNat ≤ 1000 * 1000 := Nat.mul_le_mul h4 (by omega)
    have : (1000000 : Nat) ≤ sizeLine := by decide
    omega
  · rw [if_neg (by omega), if_neg (by
      rw [hl]
      have e1 : (k == 1) = false := by
        rw [beq_eq_false_iff_ne]
        omega
      have e2 : (l.length == 0) = false := by
        rw [beq_eq_false_iff_ne]
        omega
      rw [e1, e2]
      decide)]
    have e : (⟨(List.replicate k.toNat (tx l).cps).foldl (· ++ ·) #[]⟩ : Str) = tx (repS l k.toNat) := by
      unfold tx
      congr 1
      apply Array.ext'
      rw [foldl_app]
      simp
    show (Made.str _).post _ _
    rw [e]
    refine ⟨?_, .str _, H, I.tok _, ⟨_, rfl⟩, q⟩
    have h5 : (repS l k.toNat).length ≤ 1000 * 1000 := by
      rw [repS_len]
      exact Nat.mul_le_mul (by omega) h4
    have : (1000000 : Nat) ≤ sizeLine := by decide
    rw [tx_len]
    omega
/-! ### get with one argument -/
def rGet1 (x : V) (xs : List V) (H : Hp) (Q : VK) : Prop := ∃ a kvs k, x = .ref a ∧ xs = [kV k] ∧ Rd H a (.dK kvs) ∧ Q ((valV kvs k).getD .non) H
theorem mt_get1 {X : Cx} (hu : X.A.units + 1 < cLine) : MtR X "dict.get" rGet1 := by
  intro pins s σ H x xs v us Q I rx rxs h
  obtain ⟨a, kvs, k, rfl, rfl, e, q⟩ := h
  cases rx
  obtain ⟨u0, rfl, r0⟩ : ∃ u0, us = [u0] ∧ RelV (kV k) u0 := by
    cases rxs with
    | cons r0 t => cases t; exact ⟨_, rfl, r0⟩
  exact d_get1 hu I (y := kV k) (o := valV kvs k) (.inl ⟨kvs, k, e, rfl, rfl⟩) r0 fun w' s3 I3 rw' => ⟨_, H, I3, rw', q⟩
section
variable {K : Frag} {F : List (Addr × HO)} {G : List Ft} {σ : L2.St} {H : Hp} {Q : VK} {d : Addr} {kvs : List (Key × V)} {n : Str} {i : Nat} {v z : V} {g : TG} {tt : TT} {te tk tv td : TE} {own : List Nat} {od : Obj}
theorem g_lenVS {l : List Nat} (h : l.length ≤ 100000) (k : Q (.int (l.length : Nat)) H) : rLenV K [.str (tx l)] H Q := .inr ⟨tx l, rfl, by rw [tx_len]; exact Nat.le_trans h (by decide), by rw [tx_len]; exact k⟩
theorem g_lenVL {l : Addr} {vs : List V} (h : SqL K H l vs) (k : Q (.int vs.length) H) : rLenV K [.ref l] H Q := .inl (g_lenL h k)
theorem g_lenVT {l : Addr} {vs : List V} (h : SqT K H l vs) (k : Q (.int vs.length) H) : rLenV K [.ref l] H Q := .inl (g_lenT h k)
theorem g_mulS {l : List Nat} {k : Int} (h1 : 2 ≤ k) (h2 : k ≤ 1000) (h3 : 0 < l.length) (h4 : l.length ≤ 1000) (q : Q (.str (tx (repS l k.toNat))) H) : rMulS (.str (tx l)) (.int k) H Q := ⟨l, k, rfl, rfl, h1, h2, h3, h4, q⟩
/-! ### dicts with texts as keys -/
theorem g_setdS (S : Sy K F G H) (h : F[i]? = some (d, .dK kvs)) (hl : kvs.length < 100000) (h1 : ∀ v, valV kvs (.inr n) = some v → Q v H)
    (h2 : ∀ H', valV kvs (.inr n) = none → Sy K (F.set i (d, .dK (kvs ++ [(.inr n, z)]))) G H' → Q z H') : rSetdK (.ref d) [.str n, z] H Q :=
  ⟨d, kvs, .inr n, z, rfl, rfl, S.at i h, Nat.lt_of_lt_of_le hl (by decide), h1, fun hn => h2 _ hn (by have := S.put (o' := .dK (putK kvs (.inr n) z)) i h rfl; rw [putK_new z hn] at this ⊢; exact this)⟩
theorem g_getS (h : Rd H d (.dK kvs)) (q : Q ((valV kvs (.inr n)).getD z) H) : rGetK (.ref d) [.str n, z] H Q := ⟨d, kvs, .inr n, z, rfl, rfl, h, q⟩
theorem g_get1S (h : Rd H d (.dK kvs)) (q : Q ((valV kvs (.inr n)).getD .non) H) : rGet1 (.ref d) [.str n] H Q := ⟨d, kvs, .inr n, rfl, rfl, h, q⟩
theorem g_dgetS (h : Rd H d (.dK kvs)) (e : valV kvs (.inr n) = some v) (k : Q v H) : rDGet (.ref d) (.str n) H Q := ⟨d, v, rfl, .inl ⟨kvs, .inr n, h, rfl, e.symm⟩, k⟩
def rDIn (y x : V) (H : Hp) (Q : VK) : Prop := ∃ a o, x = .ref a ∧ DGet H a y o ∧ Q (.bl o.isSome) H
theorem g_din {td ty : TE} (k : ty σ H fun y H1 => td σ H1 fun x H2 => rDIn y x H2 Q) : tDIn ty td σ H Q := k
theorem g_dinS (h : Rd H d (.dK kvs)) (k : Q (.bl (valV kvs (.inr n)).isSome) H) : rDIn (.str n) (.ref d) H Q := ⟨d, _, rfl, .inl ⟨kvs, .inr n, h, rfl, rfl⟩, k⟩
theorem g_dnotinS (h : Rd H d (.dK kvs)) (k : Q (.bl (!(valV kvs (.inr n)).isSome)) H) : rDNotIn (.str n) (.ref d) H Q := ⟨d, _, rfl, .inl ⟨kvs, .inr n, h, rfl, rfl⟩, k⟩
theorem g_setDS {QH : Hp → Prop} (S : Sy K F G H) (h : F[i]? = some (d, .dK kvs)) (hl : kvs.length < 100000) (k : ∀ H', Sy K (F.set i (d, .dK (putK kvs (.inr n) v))) G H' → QH H') : rSetD (.ref d) (.str n) v H QH :=
  ⟨d, _, rfl, .inl ⟨kvs, .inr n, S.at i h, rfl, Nat.lt_of_lt_of_le hl (by decide), rfl⟩, k _ (S.put i h rfl)⟩
/-- a comprehension over the items of a locked dict -/
theorem g_lcIV {kvs : List (Key × V)} (I : Nat → List (Addr × HO) → List V → Prop) (S : Sy K F G H) (ht : ∀ Q' : VK, Q' (.ref d) H → td σ H Q') (h0 : I 0 F [])
    (hq : ∀ i F' vs H', I i F' vs → Sy K F' G H' → H' d = some (.frz od (.dK kvs))) (hl : ∀ i F vs, I i F vs → vs.length < 100000)
    (turn : ∀ i k y, kvs[i]? = some (k, y) → ∀ (Da T : Addr) (H2 : Hp) (F2 : List (Addr × HO)) (vs : List V) (QE : VK) (QR : Hp → Prop), I i F2 vs → H2 T = none → Sy K ((Da, .lst vs) :: F2) G H2 →
      (∀ z F' H', I (i + 1) F' (vs ++ [z]) → Sy K ((Da, .lst vs) :: F') G H' → QE z H') → (∀ F' H', I (i + 1) F' vs → Sy K ((Da, .lst vs) :: F') G H' → QR H') →
      g (.ref T) (wipe σ own) (upd H2 T (.tup [kV k, y])) fun σ2 H2 => wipe σ2 own = wipe σ own ∧ tt σ2 H2 fun b H3 => if b = true then te σ2 H3 QE else QR H3)
    (done : ∀ Dp H' F' vs, H Dp = none → I kvs.length F' vs → Sy K ((Dp, .lst vs) :: F') G H' → Q (.ref Dp) H') : tLc (iItems td) g tt te own σ H Q := by
  refine ht _ ⟨d, od, kvs, rfl, hq 0 F [] H h0 S, fun Dp hD => ?_⟩
  refine lc_it (walk_items (d := d) (o := od) (kvs := kvs)) (LcP3 K G I Dp) ⟨F, [], h0, S.push hD⟩ (fun i H' _ p => ?_) (fun i v H1 H' hi p y => ?_) fun H' p => ?_
  · obtain ⟨F', vs, hi, S'⟩ := p
    exact hq i F' vs _ hi S'.less
  · obtain ⟨F', vs, hI, S'⟩ := p
    obtain ⟨T, x, y, rfl, hT, rfl, hx, hy⟩ := y
    obtain ⟨⟨k, y2⟩, hk, rfl⟩ := Option.map_eq_some_iff.mp hx
    have hy : kvs[i]?.map Prod.snd = some y := hy
    rw [hk] at hy
    cases hy
    refine turn i k y2 hk Dp T H1 F' vs _ (LcP3 K G I Dp (i + 1)) hI hT S' (fun z F2 H2 hi' S2 => ?_) fun F2 H2 hi' S2 => ⟨F2, vs, hi', S2⟩
    have lt := hl _ _ _ hi'
    rw [List.length_append] at lt
    exact ⟨vs, S2.at 0 rfl, Nat.lt_of_lt_of_le (by omega) (show 100000 ≤ sizeLine by decide), F2, vs ++ [z], hi', S2.put (o' := .lst (vs ++ [z])) 0 rfl rfl⟩
  · obtain ⟨F', vs, hI, S'⟩ := p
    exact done Dp H' F' vs hD hI S'
/-- a dict comprehension over a tuple, its values new objects -/
theorem g_dcV {tl : TE} {a : Addr} {xs : List V} (I : Nat → List (Addr × HO) → List (Key × V) → Prop) (S : Sy K F (.tq a xs :: G) H) (ht : ∀ Q' : VK, Q' (.ref a) H → tl σ H Q') (h0 : I 0 F []) (hl : ∀ i F kvs, I i F kvs → kvs.length < 100000)
    (turn : ∀ i x, xs[i]? = some x → ∀ (Da : Addr) (H2 : Hp) (F2 : List (Addr × HO)) (kvs : List (Key × V)) (QE : V → V → Hp → Prop) (QR : Hp → Prop), I i F2 kvs → Sy K ((Da, .dK kvs) :: F2) (.tq a xs :: G) H2 →
      (∀ (k : Key) z F' H', I (i + 1) F' (putK kvs k z) → Sy K ((Da, .dK kvs) :: F') (.tq a xs :: G) H' → QE (kV k) z H') → (∀ F' H', I (i + 1) F' kvs → Sy K ((Da, .dK kvs) :: F') (.tq a xs :: G) H' → QR H') →
      g x (wipe σ own) H2 fun σ2 H3 => wipe σ2 own = wipe σ own ∧ tt σ2 H3 fun b H4 => if b = true then tk σ2 H4 fun y H5 => tv σ2 H5 fun z H6 => QE y z H6 else QR H4)
    (done : ∀ Da H' F' kvs, H Da = none → I xs.length F' kvs → Sy K ((Da, .dK kvs) :: F') (.tq a xs :: G) H' → Q (.ref Da) H') : tDc (iSeq K tl) g tt tk tv own σ H Q := by
  refine ht _ ⟨a, rfl, .inr ⟨⟨xs, S.tqs 0 rfl⟩, fun Da hD => ?_⟩⟩
  refine dc_tup (K := K) (a := a) (xs := xs) (fun i H' => ∃ F' kvs, I i F' kvs ∧ Sy K ((Da, .dK kvs) :: F') (.tq a xs :: G) H') ⟨F, [], h0, S.push hD⟩ (fun i H' _ ⟨F', kvs, _, S'⟩ => S'.tqs 0 rfl) (fun i x H' hx ⟨F', kvs, hi, S'⟩ => ?_) (fun H' ⟨F', kvs, hi, S'⟩ => done Da H' F' kvs hD hi S')
  have hz := hl i F' kvs hi
  refine turn i x hx Da H' F' kvs _ (fun H2 => ∃ F' kvs, I (i + 1) F' kvs ∧ Sy K ((Da, .dK kvs) :: F') (.tq a xs :: G) H2) hi S' (fun k z F2 H2 hi2 S2 => ?_) fun F2 H2 hi2 S2 => ⟨F2, kvs, hi2, S2⟩
  exact ⟨kvs, k, rfl, S2.at 0 rfl, Nat.lt_of_lt_of_le hz (by decide), F2, _, hi2, S2.put (o' := .dK (putK kvs k z)) 0 rfl rfl⟩
end
/-! ### sorted texts -/
def IsSrt (ks ys : List Str) : Prop := ys.Perm ks ∧ sortedS ys = true
theorem rising_pw : ∀ {xs : List Str} {p : Str}, risingS p xs = true → (∀ x ∈ xs, ¬ x.cps.toList < p.cps.toList) ∧ xs.Pairwise fun a b => ¬ b.cps.toList < a.cps.toList
  | [], _, _ => ⟨fun _ h => (nomatch h), .nil⟩
  | x :: r, p, h => by
    have h2 : (!ltCps x.cps.toList p.cps.toList && risingS x r) = true := h
    rw [Bool.and_eq_true, ltCps_eq] at h2
    obtain ⟨h3, h4⟩ := h2
    have h3 : ¬ x.cps.toList < p.cps.toList := by simpa using h3
    obtain ⟨h5, h6⟩ := rising_pw h4
    refine ⟨fun y hy => ?_, List.pairwise_cons.mpr ⟨h5, h6⟩⟩
    rcases List.mem_cons.mp hy with rfl | hy
    · exact h3
    · exact List.le_trans (show p.cps.toList ≤ x.cps.toList from h3) (h5 y hy)
theorem sorted_pw {ys : List Str} (h : sortedS ys = true) : ys.Pairwise fun a b => ¬ b.cps.toList < a.cps.toList := by
  cases ys with
  | nil => exact .nil
  | cons x r =>
    obtain ⟨h1, h2⟩ := rising_pw (p := x) (xs := r) h
    exact List.pairwise_cons.mpr ⟨h1, h2⟩
theorem IsSrt.uniq {ks ys zs : List Str} (h1 : IsSrt ks ys) (h2 : IsSrt ks zs) : ys = zs :=
  List.Perm.eq_of_pairwise (le := fun a b : Str => ¬ b.cps.toList < a.cps.toList) (fun a b _ _ h3 h4 => by
    have : a.cps.toList = b.cps.toList := List.le_antisymm h3 h4
    rw [← tx_of a, ← tx_of b, this]) (sorted_pw h1.2) (sorted_pw h2.2) (h1.1.trans h2.1.symm)
theorem IsSrt.perm {ks ls ys : List Str} (h : ks.Perm ls) (h1 : IsSrt ks ys) : IsSrt ls ys := ⟨h1.1.trans h, h1.2⟩
end OB

set_option Elab.async false
set_option linter.all false
set_option maxRecDepth 100000
set_option maxHeartbeats 4000000
/-! OB, part zf: a dict from names to lists, and the lists that it holds. -/
namespace OB
open PySem PySem.Spec PyProof.Rows L2 PySem.W
/-- a name, where its list stands, what the list holds -/
abbrev FRow : Type := Str × Addr × List V
def kvO (rs : List FRow) : List (Key × V) := rs.map fun r => (.inr r.1, .ref r.2.1)
def fL (rs : List FRow) : List (Addr × HO) := rs.map fun r => (r.2.1, .lst r.2.2)
/-- the dict and its lists -/
def fB (d : Addr) (rs : List FRow) : List (Addr × HO) := (d, .dK (kvO rs)) :: fL rs
def frOf (rs : List FRow) (n : Str) : Option FRow := rs.find? fun r => decide (r.1 = n)
theorem kvO_len (rs : List FRow) : (kvO rs).length = rs.length := List.length_map ..
theorem valV_kvO (n : Str) : ∀ rs : List FRow, valV (kvO rs) (.inr n) = (frOf rs n).map fun r => V.ref r.2.1
  | [] => rfl
  | r :: rs => by
    have ih := valV_kvO n rs
    unfold kvO frOf at *
    rw [List.map_cons, List.find?_cons]
    by_cases h : r.1 = n
    · rw [valV_pos (p := ((.inr r.1 : Key), V.ref r.2.1)) (by rw [h]), decide_eq_true h]
      rfl
    · rw [valV_neg (p := ((.inr r.1 : Key), V.ref r.2.1)) (fun z => h (Sum.inr.inj z)), decide_eq_false h, ih]
theorem frOf_some {rs : List FRow} {n : Str} {r : FRow} (h : frOf rs n = some r) : r ∈ rs ∧ r.1 = n :=
  ⟨List.mem_of_find?_eq_some h, by simpa using List.find?_some h⟩
theorem frOf_none {rs : List FRow} {n : Str} (h : frOf rs n = none) : ∀ r ∈ rs, r.1 ≠ n := fun r hr => by
  have := List.find?_eq_none.mp h r hr
  simpa using this
/-- the row of a name given a new list -/
def putR (rs : List FRow) (n : Str) (p : Addr) (vs : List V) : List FRow := if (rs.any fun r => decide (r.1 = n)) = true then rs.map fun r => if r.1 = n then (r.1, p, vs) else r else rs ++ [(n, p, vs)]
theorem kvO_put (rs : List FRow) (n : Str) (p : Addr) (vs : List V) : kvO (putR rs n p vs) = putK (kvO rs) (.inr n) (.ref p) := by
  have e : ((kvO rs).any fun kv => decide (kv.1 = .inr n)) = rs.any fun r => decide (r.1 = n) := by
    unfold kvO
    rw [List.any_map]
    congr 1
    funext r
    show decide ((Sum.inr r.1 : Key) = Sum.inr n) = decide (r.1 = n)
    by_cases h : r.1 = n <;> simp [h]
  unfold putR putK
  rw [e]
  by_cases h : (rs.any fun r => decide (r.1 = n)) = true
  · rw [if_pos h, if_pos h]
    unfold kvO
    rw [List.map_map, List.map_map]
    refine List.map_congr_left fun r _ => ?_
    show ((Sum.inr (if r.1 = n then (r.1, p, vs) else r).1 : Key), V.ref (if r.1 = n then (r.1, p, vs) else r).2.1) = if (Sum.inr r.1 : Key) = Sum.inr n then (Sum.inr r.1, V.ref p) else (Sum.inr r.1, V.ref r.2.1)
    by_cases c : r.1 = n
    · rw [if_pos c, if_pos (by rw [c])]
    · rw [if_neg c, if_neg (fun z => c (Sum.inr.inj z))]
  · rw [if_neg h, if_neg h]
    unfold kvO
    rw [List.map_append]
    rfl
theorem putR_names (rs : List FRow) (n : Str) (p : Addr) (vs : List V) : (putR rs n p vs).map (·.1) = if n ∈ rs.map (·.1) then rs.map (·.1) else rs.map (·.1) ++ [n] := by
  have e : ((rs.any fun r => decide (r.1 = n)) = true) ↔ n ∈ rs.map (·.1) := by
    rw [List.any_eq_true, List.mem_map]
    constructor
    · rintro ⟨r, hr, h⟩
      exact ⟨r, hr, of_decide_eq_true h⟩
    · rintro ⟨r, hr, h⟩
      exact ⟨r, hr, decide_eq_true h⟩
  unfold putR
  by_cases h : (rs.any fun r => decide (r.1 = n)) = true
  · rw [if_pos h, if_pos (e.mp h), List.map_map]
    refine List.map_congr_left fun r _ => ?_
    show (if r.1 = n then (r.1, p, vs) else r).1 = r.1
    by_cases c : r.1 = n
    · rw [if_pos c]
    · rw [if_neg c]
  · rw [if_neg h, if_neg (fun z => h (e.mpr z)), List.map_append]
    rfl
theorem putR_nodup {rs : List FRow} {n : Str} {p : Addr} {vs : List V} (h : (rs.map (·.1)).Nodup) : ((putR rs n p vs).map (·.1)).Nodup := by
  rw [putR_names]
  by_cases c : n ∈ rs.map (·.1)
  · rw [if_pos c]
    exact h
  · rw [if_neg c, List.nodup_append]
    exact ⟨h, List.nodup_cons.mpr ⟨fun h => (nomatch h), .nil⟩, fun a ha b hb e => c (by rw [← List.mem_singleton.mp hb, ← e]; exact ha)⟩
section
variable {K : Frag} {F : List (Addr × HO)} {G : List Ft} {H : Hp} {d : Addr} {rs : List FRow}
theorem Sy.re {F' : List (Addr × HO)} (S : Sy K F G H) (h : ∀ q ∈ F', q ∈ F) (nd : (F'.map (·.1)).Nodup) : Sy K F' G H := ⟨fun q hq => S.st q (h q hq), nd, S.ft⟩
theorem fL_addr (rs : List FRow) : (fL rs).map (·.1) = rs.map (·.2.1) := by
  unfold fL
  rw [List.map_map]
  rfl
/-- the dict's own row is given the list p -/
theorem Sy.putR {n : Str} {p : Addr} {vs : List V} (S : Sy K ((p, .lst vs) :: (fB d rs ++ F)) G H) (nd : (rs.map (·.1)).Nodup) : Sy K (fB d (OB.putR rs n p vs) ++ F) G (upd H d (.dK (putK (kvO rs) (.inr n) (.ref p)))) := by
  have S1 : Sy K ((p, .lst vs) :: (d, .dK (putK (kvO rs) (.inr n) (.ref p))) :: (fL rs ++ F)) G (upd H d (.dK (putK (kvO rs) (.inr n) (.ref p)))) := S.put (o' := .dK (putK (kvO rs) (.inr n) (.ref p))) 1 rfl rfl
  have nA := S1.nd
  have e1 : (((p, HO.lst vs) :: (d, HO.dK (putK (kvO rs) (.inr n) (.ref p))) :: (fL rs ++ F)).map (·.1)) = p :: d :: (rs.map (·.2.1) ++ F.map (·.1)) := by
    rw [List.map_cons, List.map_cons, List.map_append, fL_addr]
  rw [e1] at nA
  have nA1 := (List.nodup_cons.mp nA)
  have nA2 := (List.nodup_cons.mp nA1.2)
  have nA3 := List.nodup_append.mp nA2.2
  refine S1.re (fun q hq => ?_) ?_
  · have hq : q ∈ (d, HO.dK (kvO (OB.putR rs n p vs))) :: (fL (OB.putR rs n p vs) ++ F) := hq
    rcases List.mem_cons.mp hq with rfl | hq
    · rw [kvO_put]
      exact List.mem_cons_of_mem _ (List.mem_cons_self ..)
    rcases List.mem_append.mp hq with hq | hq
    · obtain ⟨r, hr, rfl⟩ := List.mem_map.mp hq
      unfold OB.putR at hr
      by_cases h : (rs.any fun r => decide (r.1 = n)) = true
      · rw [if_pos h] at hr
        obtain ⟨r0, hr0, rfl⟩ := List.mem_map.mp hr
        by_cases c : r0.1 = n
        · rw [if_pos c]
          exact List.mem_cons_self ..
        · rw [if_neg c]
          exact List.mem_cons_of_mem _ (List.mem_cons_of_mem _ (List.mem_append_left _ (List.mem_map.mpr ⟨r0, hr0, rfl⟩)))
      · rw [if_neg h] at hr
        rcases List.mem_append.mp hr with hr | hr
        · exact List.mem_cons_of_mem _ (List.mem_cons_of_mem _ (List.mem_append_left _ (List.mem_map.mpr ⟨r, hr, rfl⟩)))
        · rw [List.mem_singleton.mp hr]
          exact List.mem_cons_self ..
    · exact List.mem_cons_of_mem _ (List.mem_cons_of_mem _ (List.mem_append_right _ hq))
  · show (((d, HO.dK (kvO (OB.putR rs n p vs))) :: (fL (OB.putR rs n p vs) ++ F)).map (·.1)).Nodup
    rw [List.map_cons, List.map_append, fL_addr]
    have sub : ∀ a ∈ (OB.putR rs n p vs).map (·.2.1), a = p ∨ a ∈ rs.map (·.2.1) := fun a ha => by
      obtain ⟨r, hr, rfl⟩ := List.mem_map.mp ha
      unfold OB.putR at hr
      by_cases h : (rs.any fun r => decide (r.1 = n)) = true
      · rw [if_pos h] at hr
        obtain ⟨r0, hr0, rfl⟩ := List.mem_map.mp hr
        by_cases c : r0.1 = n
        · rw [if_pos c]
          exact .inl rfl
        · rw [if_neg c]
          exact .inr (List.mem_map.mpr ⟨r0, hr0, rfl⟩)
      · rw [if_neg h] at hr
        rcases List.mem_append.mp hr with hr | hr
        · exact .inr (List.mem_map.mpr ⟨r, hr, rfl⟩)
        · rw [List.mem_singleton.mp hr]
          exact .inl rfl
    have pA : p ∉ d :: (rs.map (·.2.1) ++ F.map (·.1)) := nA1.1
    have dA : d ∉ rs.map (·.2.1) ++ F.map (·.1) := nA2.1
    refine List.nodup_cons.mpr ⟨fun hd => ?_, List.nodup_append.mpr ⟨?_, nA3.2.1, fun a ha b hb e => ?_⟩⟩
    · rcases List.mem_append.mp hd with hd | hd
      · rcases sub d hd with e | e
        · exact pA (by rw [← e]; exact List.mem_cons_self ..)
        · exact dA (List.mem_append_left _ e)
      · exact dA (List.mem_append_right _ hd)
    · have pn : p ∉ rs.map (·.2.1) := fun z => pA (List.mem_cons_of_mem _ (List.mem_append_left _ z))
      unfold OB.putR
      by_cases h : (rs.any fun r => decide (r.1 = n)) = true
      · rw [if_pos h]
        have key : ∀ l : List FRow, (l.map (·.1)).Nodup → (l.map (·.2.1)).Nodup → p ∉ l.map (·.2.1) → ((l.map fun r => if r.1 = n then (r.1, p, vs) else r).map (·.2.1)).Nodup := by
          intro l
          induction l with
          | nil => intro _ _ _; exact .nil
          | cons r l ih =>
            intro h1 h2 h3
            rw [List.map_cons] at h1 h2 h3
            obtain ⟨h1a, h1b⟩ := List.nodup_cons.mp h1
            obtain ⟨h2a, h2b⟩ := List.nodup_cons.mp h2
            have h3b : p ∉ l.map (·.2.1) := fun z => h3 (List.mem_cons_of_mem _ z)
            rw [List.map_cons, List.map_cons]
            refine List.nodup_cons.mpr ⟨fun z => ?_, ih h1b h2b h3b⟩
            rw [List.map_map] at z
            obtain ⟨r2, hr2, e2⟩ := List.mem_map.mp z
            have e2 : (if r2.1 = n then (r2.1, p, vs) else r2).2.1 = (if r.1 = n then (r.1, p, vs) else r).2.1 := e2
            by_cases c : r.1 = n
            · rw [if_pos c] at e2
              by_cases c2 : r2.1 = n
              · exact h1a (by rw [c, ← c2]; exact List.mem_map.mpr ⟨r2, hr2, rfl⟩)
              · rw [if_neg c2] at e2
                exact h3b (by rw [← show r2.2.1 = p from e2]; exact List.mem_map.mpr ⟨r2, hr2, rfl⟩)
            · rw [if_neg c] at e2
              by_cases c2 : r2.1 = n
              · rw [if_pos c2] at e2
                exact h3 (by rw [show p = r.2.1 from e2]; exact List.mem_cons_self ..)
              · rw [if_neg c2] at e2
                exact h2a (by rw [← e2]; exact List.mem_map.mpr ⟨r2, hr2, rfl⟩)
        exact key rs nd nA3.1 pn
      · rw [if_neg h, List.map_append]
        exact List.nodup_append.mpr ⟨nA3.1, List.nodup_cons.mpr ⟨fun h => (nomatch h), .nil⟩, fun a ha b hb e => pn (by rw [← show b = p from List.mem_singleton.mp hb, ← e]; exact ha)⟩
    · have hb2 : a ∈ F.map (·.1) := e ▸ hb
      rcases sub a ha with z | z
      · exact pA (by rw [← z]; exact List.mem_cons_of_mem _ (List.mem_append_right _ hb2))
      · exact nA3.2.2 a z a hb2 rfl
/-- what is known of a dict of lists -/
def FLat (H : Hp) (d : Addr) (rs : List FRow) : Prop := Rd H d (.dK (kvO rs)) ∧ ∀ r ∈ rs, H r.2.1 = some (.lst r.2.2)
theorem FLat.of (S : Sy K (fB d rs ++ F) G H) : FLat H d rs := ⟨.inl (S.at 0 rfl), fun r hr => S.st (r.2.1, .lst r.2.2) (List.mem_cons_of_mem _ (List.mem_append_left _ (List.mem_map.mpr ⟨r, hr, rfl⟩)))⟩
theorem FLat.row {n : Str} {r : FRow} (f : FLat H d rs) (h : frOf rs n = some r) : H r.2.1 = some (.lst r.2.2) := f.2 r (frOf_some h).1
theorem fB_at {j : Nat} {r : FRow} (h : rs[j]? = some r) : (fB d rs ++ F)[j + 1]? = some (r.2.1, .lst r.2.2) := by
  show (fL rs ++ F)[j]? = _
  have hj := (List.getElem?_eq_some_iff.mp h).1
  rw [List.getElem?_append_left (by unfold fL; rw [List.length_map]; exact hj)]
  unfold fL
  rw [List.getElem?_map, h]
  rfl
theorem fB_set {j : Nat} {r : FRow} {vs : List V} (h : rs[j]? = some r) : (fB d rs ++ F).set (j + 1) (r.2.1, .lst vs) = fB d (rs.set j (r.1, r.2.1, vs)) ++ F := by
  have hj := (List.getElem?_eq_some_iff.mp h).1
  have e : kvO (rs.set j (r.1, r.2.1, vs)) = kvO rs := by
    unfold kvO
    rw [List.map_set]
    refine List.ext_getElem? fun i => ?_
    by_cases c : j = i
    · subst c
      rw [List.getElem?_set_self (by rw [List.length_map]; exact hj), List.getElem?_map, h]
      rfl
    · rw [List.getElem?_set_ne c]
  show (d, HO.dK (kvO rs)) :: (fL rs ++ F).set j (r.2.1, .lst vs) = (d, HO.dK (kvO (rs.set j (r.1, r.2.1, vs)))) :: (fL (rs.set j (r.1, r.2.1, vs)) ++ F)
  rw [e, List.set_append_left _ _ (by unfold fL; rw [List.length_map]; exact hj)]
  congr 2
  unfold fL
  rw [List.map_set]
end
end OB

set_option Elab.async false
set_option linter.all false
set_option maxRecDepth 100000
set_option maxHeartbeats 4000000
/-! OB, part zg: tuple(l) told as an object that is known; dict(t) of such a tuple of pairs. -/
namespace OB
open PySem PySem.Spec PyProof.Rows L2 PySem.W
/-- tuple(l): the new tuple's own object is known, it has no dict -/
def rTupleF (K : Frag) : List V → Hp → VK → Prop := fun xs H Q => ∃ p ys, xs = [.ref p] ∧ SqL K H p ys ∧ ∀ l (o : Obj), o.dict = none → H l = none → Q (.ref l) (upd H l (.frz o (.tup ys)))
theorem c_tupleF {X : Cx} : CallR X (.type "tuple") (rTupleF X.K) := by
  intro pins s σ H xs us Q I r h
  obtain ⟨p, ys, rfl, hq, q⟩ := h
  obtain ⟨u, rfl, rx⟩ := vals1 r
  cases rx
  obtain ⟨its, r', pl, hz⟩ := I.list hq
  have hlen := r'.length
  refine call_tuple_list pl.isList (fun h' kp => ?_) (by simp only [List.size_toArray] <;> omega)
  have I1 : Inv X pins σ H { s with heap := h' } := I.kept (t' := s.toks) kp
  have I2 : Inv X pins σ (upd H h'.objs.size (.frz { cls := .type "tuple", data := .seq its.toArray } (.tup ys))) { s with heap := h'.push { cls := .type "tuple", data := .seq its.toArray } } :=
    I1.laid (t' := s.toks) (fun b o e => Heap.get?_push_of_some _ e) (Nat.le_refl _) (show ObjOk X.prog X.w _ _ _ (.frz { cls := .type "tuple", data := .seq its.toArray } (.tup ys)) from ⟨Heap.get?_push_size _ rfl, hz, its, r', IsTup.new _ _⟩)
  exact ⟨.ref h'.objs.size, _, I2, rfl, q _ _ rfl (I1.hok.fresh (Nat.le_refl _))⟩
def rDictPT (K : Frag) : List V → Hp → VK → Prop := fun xs H Q => ∃ (a : Addr) (o : Obj) (ps : List Addr) (kvs : List (Key × V)), xs = [.ref a] ∧ H a = some (.frz o (.tup (ps.map V.ref))) ∧ o.dict = none ∧ Paired (fun p kv => SqT K H p [kV kv.1, kv.2]) ps kvs ∧ ∀ p, H p = none → Q (.ref p) (upd H p (.dK (mergeK [] kvs)))
theorem c_dictPT {X : Cx} (hcalm : X.calm = true) : CallR X (.type "dict") (rDictPT X.K) := by
  intro pins s σ H xs us Q I r q
  obtain ⟨a, o, ps, kvs, ex, hq, hod, hp, q⟩ := q
  subst ex
  obtain ⟨u, eu, rx⟩ := vals1 r
  subst eu
  cases rx
  obtain ⟨prs, rel, hl, hpr⟩ := pairs_of I hp
  obtain ⟨ho, hz, its, rv, o2, ho2, hc, n, hd⟩ := I.hok a _ hq
  rw [ho] at ho2
  cases ho2
  have ei := refs_at rv
  subst ei
  rw [List.length_map] at hz
  -- the values of the keys themselves
  have hks : ∀ (l : List (Key × Value)) (qs : List Addr), l.length = qs.length → (∀ (j : Nat) (q : Key × Value), l[j]? = some q → ∃ (b : Addr) (u : Value), qs[j]? = some b ∧ IsTup s.heap b #[u, q.2] ∧ keyIs q.1 u = true) →
      ∃ us : List (Value × Value), us.length = l.length ∧ ∀ (j : Nat) (q : Key × Value), l[j]? = some q → ∃ (b : Addr) (u : Value), qs[j]? = some b ∧ us[j]? = some (u, q.2) ∧ IsTup s.heap b #[u, q.2] ∧ keyIs q.1 u = true := by
    intro l
    induction l with
    | nil => intro qs _ _; exact ⟨[], rfl, fun j q e => by simp at e⟩
    | cons x l ih =>
      intro qs hl h
      cases qs with
      | nil => cases hl
      | cons b qs =>
        obtain ⟨us, hu, h2⟩ := ih qs (by simpa using hl) fun j q e => by
          obtain ⟨b', u', e1, e2, e3⟩ := h (j + 1) q (by simpa using e)
          exact ⟨b', u', by simpa using e1, e2, e3⟩
        obtain ⟨b', u', e1, e2, e3⟩ := h 0 x rfl
        refine ⟨(u', x.2) :: us, by rw [List.length_cons, List.length_cons, hu], fun j q e => ?_⟩
        cases j with
        | zero =>
          have e' : x = q := Option.some.inj e
          subst e'
          exact ⟨b', u', e1, rfl, e2, e3⟩
        | succ j =>
          obtain ⟨b2, u2, g1, g2, g3, g4⟩ := h2 j q (by simpa using e)
          exact ⟨b2, u2, by simpa using g1, by simpa using g2, g3, g4⟩
  obtain ⟨us, hul, hus⟩ := hks prs ps hl hpr
  have hps : ∀ j, j < us.length → ∃ q, prs[j]? = some q := fun j hj => ⟨prs[j]'(by omega), List.getElem?_eq_getElem (by omega)⟩
  have hget : ∀ j k v, us[j]? = some (k, v) → ∃ (q : Key × Value) (b : Addr), prs[j]? = some q ∧ ps[j]? = some b ∧ q.2 = v ∧ IsTup s.heap b #[k, v] ∧ keyIs q.1 k = true := fun j k v e => by
    obtain ⟨q, hq2⟩ := hps j (List.getElem?_eq_some_iff.mp e).1
    obtain ⟨b, u, g1, g2, g3, g4⟩ := hus j q hq2
    rw [e] at g2
    cases g2
    exact ⟨q, b, hq2, g1, rfl, g3, g4⟩
  refine PySem.call_dict_pairs (knd := mixKind X.prog X.w) (kvs := prs) (PairArg.tuple a (ps.map Value.ref).toArray (fun j => ps.getD j 0) us) (I.ok.hd hcalm) ⟨⟨o, n, ho, hc, hod, hd⟩, ?_, fun j k v e => ?_⟩ ⟨hul.symm, fun j k v e => ?_⟩ (by rw [hul, hl]; exact hz) fun h' tk hd' k => ?_
  · rw [List.size_toArray, List.length_map, hul, hl]
  · obtain ⟨q, b, g1, g2, g3, g4, g5⟩ := hget j k v e
    obtain ⟨ob, hob, hcb, nb, hdb⟩ := g4
    refine ⟨by simp [g2], .inl ⟨ob, ?_, hcb, nb, hdb⟩⟩
    show s.heap.get? (ps.getD j 0) = some ob
    rw [List.getD_eq_getElem?_getD, g2]
    exact hob
  · obtain ⟨q, b, g1, g2, g3, g4, g5⟩ := hget j k v e
    exact ⟨q.1, by rw [g1, ← g3], g5⟩
  · have hm : (s.heap.objs.size == sysModules) = false := beq_eq_false_iff_ne.mpr (Nat.ne_of_gt I.big)
    have hlen : (mergeK [] kvs).length ≤ sizeLine := by
      refine Nat.le_trans (length_mergeK kvs []) ?_
      rw [List.length_nil, Nat.zero_add, rel.length, hl]
      exact hz
    exact ⟨.ref s.heap.objs.size, upd H s.heap.objs.size (.dK (mergeK [] kvs)), I.laid (t' := tk) (fun b o e => k b o (fun h => nomatch h) e) (Nat.le_refl _) (show ObjOk X.prog X.w _ _ _ (.dK (mergeK [] kvs)) from ⟨hlen, hm, merged [] prs, KV.merge rel .nil, hd'⟩), rfl, q _ (I.hok.fresh (Nat.le_refl _))⟩
section
variable {K : Frag} {F : List (Addr × HO)} {G : List Ft} {H : Hp} {Q : VK} {l : Addr} {vs : List V} {ds : List PyData}
theorem g_tup0F (S : Sy K F G H) (h : SqL K H l vs) (hd : DpAll K H vs ds) (hi : immAll ds = true) (k : ∀ p (o : Obj) H', o.dict = none → Sy K ((p, .frz o (.tup vs)) :: F) (.dat [.ref p] [.tuple ds] :: G) H' → Q (.ref p) H') : rTupleF K [.ref l] H Q :=
  ⟨l, vs, rfl, h, fun p o ho hp => by
    have S1 := S.push (o := .frz o (.tup vs)) hp
    refine k p o _ ho (S1.fact (dps_one (.tup (.inl (.inr ⟨o, upd_same⟩)) ?_)) ?_)
    · exact dps_keep (Tx.new hp) _ _ hi hd
    · show (imm (.tuple ds) && true) = true
      rw [Bool.and_true]
      exact hi⟩
theorem g_dictPT {a : Addr} {o : Obj} {ps : List Addr} {kvs : List (Key × V)} (S : Sy K F G H) (h : H a = some (.frz o (.tup (ps.map V.ref)))) (ho : o.dict = none) (hp : Paired (fun p kv => SqT K H p [kV kv.1, kv.2]) ps kvs) (k : ∀ p H', Sy K ((p, .dK (mergeK [] kvs)) :: F) G H' → Q (.ref p) H') : rDictPT K [.ref a] H Q :=
  ⟨a, o, ps, kvs, rfl, h, ho, hp, fun p hp => k p _ (S.push hp)⟩
end
end OB

set_option Elab.async false
set_option linter.all false
set_option maxRecDepth 100000
set_option maxHeartbeats 4000000
/-! OB, part zh: `is` of truth values, tuples joined of which one may be empty. -/
namespace OB
open PySem PySem.Spec PyProof.Rows L2 PySem.W
def rIsB : R2 := fun x y H Q => ∃ b c, x = .bl b ∧ y = .bl c ∧ Q (.bl (b == c)) H
theorem op_isB {X : Cx} : OpR X (compareOp .Is) rIsB := by
  intro pins s σ H x y v u Q I rx ry h
  obtain ⟨b, c, rfl, rfl, q⟩ := h
  cases rx
  cases ry
  exact PyProof.Rows.is_bool ⟨.bl (b == c), H, I, rfl, q⟩
section
variable {K : Frag} {F : List (Addr × HO)} {G : List Ft} {σ : L2.St} {H : Hp} {Q : VK} {te : TE} {l b : Addr} {vs zs : List V} {ds : List PyData}
theorem g_isB {b c : Bool} (k : Q (.bl (b == c)) H) : rIsB (.bl b) (.bl c) H Q := ⟨b, c, rfl, rfl, k⟩
/-- two tuples joined: the second one of data, not empty; the first of data -/
theorem g_catD {d1 d2 : List PyData} (S : Sy K F G H) (h1 : SqT K H l vs) (h2 : SqT K H b zs) (e1 : DpAll K H vs d1) (e2 : DpAll K H zs d2) (i1 : immAll (d1 ++ d2) = true) (e3 : L2.Dp K H (.ref b) (.tuple d2)) (n2 : zs ≠ []) (hl : vs.length + zs.length ≤ 100000)
    (k : ∀ p H', Sy K F (.dat [.ref p] [.tuple (d1 ++ d2)] :: G) H' → Q (.ref p) H') : rCatA K (.ref l) (.ref b) H Q := by
  refine ⟨l, b, vs, zs, rfl, rfl, h1, h2, Nat.le_trans hl (by decide), fun z => ?_, fun _ z => absurd z n2, fun _ _ p hp => k p _ (S.lay hp (dps_append e1 e2) i1)⟩
  subst z
  cases e1
  refine k b H (S.fact (dps_one e3) ?_)
  show (immAll d2 && true) = true
  rw [show immAll d2 = true from i1]
  rfl
/-- two tuples joined: what the new one holds -/
theorem g_catQ (S : Sy K F G H) (h1 : SqT K H l vs) (h2 : SqT K H b zs) (n2 : zs ≠ []) (hl : vs.length + zs.length ≤ 100000)
    (k : ∀ p H', Sy K F (.tq p (vs ++ zs) :: G) H' → Q (.ref p) H') : rCatA K (.ref l) (.ref b) H Q := by
  refine ⟨l, b, vs, zs, rfl, rfl, h1, h2, Nat.le_trans hl (by decide), fun z => ?_, fun _ z => absurd z n2, fun _ _ p hp => k p _ ((S.over hp).add (.tq p _) (.inl (.inl upd_same)))⟩
  subst z
  exact k b H (S.add (.tq b _) h2)
end
section
variable {K : Frag}
/-! ### a comprehension whose turns change objects and facts -/
abbrev Turn5 (K : Frag) (I : Nat → List (Addr × HO) → List Ft → List V → Prop) (σ : L2.St) (own : List Nat) (g : TG) (tt : TT) (te : TE) (i : Nat) (x : V) : Prop :=
  ∀ (Dp : Addr) (H : Hp) (F : List (Addr × HO)) (G : List Ft) (vs : List V) (QE : VK) (QR : Hp → Prop), I i F G vs → Sy K ((Dp, .lst vs) :: F) G H →
    (∀ y F' G' H', I (i + 1) F' G' (vs ++ [y]) → Sy K ((Dp, .lst vs) :: F') G' H' → QE y H') → (∀ F' G' H', I (i + 1) F' G' vs → Sy K ((Dp, .lst vs) :: F') G' H' → QR H') →
    g x (wipe σ own) H fun σ2 H2 => wipe σ2 own = wipe σ own ∧ tt σ2 H2 fun b H3 => if b = true then te σ2 H3 QE else QR H3
def LcP5 (K : Frag) (I : Nat → List (Addr × HO) → List Ft → List V → Prop) (Dp : Addr) (i : Nat) (H : Hp) : Prop :=
  ∃ (F : List (Addr × HO)) (G : List Ft) (vs : List V), I i F G vs ∧ Sy K ((Dp, .lst vs) :: F) G H
theorem lcp_turn5 {σ : L2.St} {H : Hp} {I : Nat → List (Addr × HO) → List Ft → List V → Prop} {own : List Nat} {g : TG} {tt : TT} {te : TE} {Dp : Addr} {i : Nat} {x : V} (hl : ∀ i F G vs, I i F G vs → vs.length < 100000) (t : Turn5 K I σ own g tt te i x) (p : LcP5 K I Dp i H) :
    g x (wipe σ own) H fun σ2 H2 => wipe σ2 own = wipe σ own ∧ tt σ2 H2 fun b H3 =>
      if b = true then te σ2 H3 fun y H4 => ∃ acc, H4 Dp = some (.lst acc) ∧ acc.length < sizeLine ∧ LcP5 K I Dp (i + 1) (upd H4 Dp (.lst (acc ++ [y]))) else LcP5 K I Dp (i + 1) H3 := by
  obtain ⟨F, G, vs, hi, S⟩ := p
  refine t Dp H F G vs _ (LcP5 K I Dp (i + 1)) hi S (fun y F' G' H' hi' S' => ?_) fun F' G' H' hi' S' => ⟨F', G', vs, hi', S'⟩
  have lt := hl _ _ _ _ hi'
  rw [List.length_append] at lt
  exact ⟨vs, S'.at 0 rfl, Nat.lt_of_lt_of_le (by omega) (show 100000 ≤ sizeLine by decide), F', G', vs ++ [y], hi', S'.put (o' := .lst (vs ++ [y])) 0 rfl rfl⟩
theorem g_lcW {F : List (Addr × HO)} {G : List Ft} {σ : L2.St} {H : Hp} {Q : VK} {own : List Nat} {g : TG} {tt : TT} {te tl : TE} {a : Addr} {xs : List V} (I : Nat → List (Addr × HO) → List Ft → List V → Prop) (S : Sy K F G H) (ht : ∀ Q' : VK, Q' (.ref a) H → tl σ H Q') (h0 : I 0 F G [])
    (hq : ∀ i F' G' vs H', I i F' G' vs → Sy K F' G' H' → SqL K H' a xs) (hl : ∀ i F G vs, I i F G vs → vs.length < 100000)
    (turn : ∀ i x, xs[i]? = some x → Turn5 K I σ own g tt te i x)
    (done : ∀ Dp H' F' G' vs, H Dp = none → I xs.length F' G' vs → Sy K ((Dp, .lst vs) :: F') G' H' → Q (.ref Dp) H') : tLc (iSeq K tl) g tt te own σ H Q := by
  refine ht _ ⟨a, rfl, ?_⟩
  have q0 := hq 0 F G [] H h0 S
  have sub : ∀ {Dp i H'}, LcP5 K I Dp i H' → SqL K H' a xs := fun ⟨F', G', vs, hi, S'⟩ => hq _ F' G' vs _ hi S'.less
  refine .inl ⟨⟨xs, q0⟩, fun Dp hD => lc_list (K := K) (a := a) (xs := xs) (LcP5 K I Dp) ⟨F, G, [], h0, S.push hD⟩ (fun i H' _ p => sub p) (fun i x H' hx p => lcp_turn5 hl (turn i x hx) p) fun H' p => ?_⟩
  obtain ⟨F', G', vs, hi, S'⟩ := p
  exact done Dp H' F' G' vs hD hi S'
end
end OB

set_option Elab.async false
set_option linter.all false
set_option maxRecDepth 100000
namespace LAW
open PySem PySem.Spec PyProof.Rows L2 PySem.W OB
local macro_rules | `(tactic| walk_at "obc") => `(tactic| first
  | exact Or.inl ⟨by omega, by omega⟩
  | exact Or.inr ⟨by omega, by omega⟩
  | exact cdiv_ok (by omega) (by omega)
  | (show (0 : Int) < _; omega)
  | exact ⟨by omega, by decide⟩
  | exact ⟨by decide, by decide⟩)
local macro_rules | `(tactic| walk_at "obat") => `(tactic| first
  | exact Sy.at (by assumption) 0 rfl | exact Sy.at (by assumption) 1 rfl | exact Sy.at (by assumption) 2 rfl | exact Sy.at (by assumption) 3 rfl
  | exact Sy.at (by assumption) 4 rfl | exact Sy.at (by assumption) 5 rfl | exact Sy.at (by assumption) 6 rfl | exact Sy.at (by assumption) _ (by assumption) | exact Sy.at (by assumption) (_ + 1) (by assumption) | exact Sy.at (by assumption) (_ + 2) (by assumption))
local macro_rules | `(tactic| walk_at "obt") => `(tactic| first
  | exact Sy.tqs (by assumption) 0 rfl | exact Sy.tqs (by assumption) 1 rfl | exact Sy.tqs (by assumption) 2 rfl | exact Sy.tqs (by assumption) 3 rfl | exact Sy.tqs (by assumption) 4 rfl | exact Sy.tqs (by assumption) 5 rfl
  | exact Sy.tqs (by assumption) 6 rfl | exact Sy.tqs (by assumption) 7 rfl | assumption)
local macro_rules | `(tactic| walk_at "obl") => `(tactic| first
  | exact SqL.of (by walk_at "obat")
  | exact Sy.sq (by assumption) 0 rfl | exact Sy.sq (by assumption) 1 rfl | exact Sy.sq (by assumption) 2 rfl | exact Sy.sq (by assumption) 3 rfl | exact Sy.sq (by assumption) _ (by assumption))
local macro_rules | `(tactic| walk_at "obd") => `(tactic| first
  | exact Dp.int _ | exact Dp.bl _ | exact Dp.str _ | exact Dp.non
  | exact Sy.dp (by assumption) 0 rfl | exact Sy.dp (by assumption) 1 rfl | exact Sy.dp (by assumption) 2 rfl | exact Sy.dp (by assumption) 3 rfl
  | exact Sy.dp (by assumption) 4 rfl | exact Sy.dp (by assumption) 5 rfl | exact Sy.dp (by assumption) 6 rfl | exact Sy.dp (by assumption) 7 rfl
  | exact Sy.dp (by assumption) 8 rfl | exact Sy.dp (by assumption) 9 rfl | exact Sy.dp (by assumption) _ (by assumption) | assumption)
local macro_rules | `(tactic| walk_at "obds") => `(tactic| first
  | exact DpAll.nil
  | (refine' DpAll.cons ?ob1 ?ob2; (case ob1 => walk_at "obd"); (case ob2 => walk_at "obds"))
  | exact Sy.dps (by assumption) 0 rfl | exact Sy.dps (by assumption) 1 rfl | exact Sy.dps (by assumption) 2 rfl | exact Sy.dps (by assumption) 3 rfl | assumption)
local macro_rules | `(tactic| walk_at "obsc") => `(tactic| first
  | exact ScL.nil
  | ((first | refine' ScL.int ?obz | refine' ScL.str ?obz | refine' ScL.bl ?obz | refine' ScL.non ?obz); (case obz => walk_at "obsc")))
local macro_rules | `(tactic| walk_at "ob1") => `(tactic| first
  | ((with_reducible refine' g_var ?obh ?_); (case obh => rfl))
  | with_reducible refine g_c ?_
  | with_reducible refine g_nx ?_
  | with_reducible refine g_rt ?_
  | with_reducible refine g_bk ?_
  | with_reducible refine g_ct ?_
  | with_reducible refine g_op ?_
  | with_reducible refine g_I0 ?_
  | with_reducible refine g_test ?_
  | with_reducible refine g_bl ?_
  | with_reducible refine g_blx ?_
  | with_reducible refine g_B ?_
  | with_reducible refine g_seq ?_
  | with_reducible refine g_asg ?_
  | with_reducible refine g_name ?_
  | with_reducible refine g_ifS ?_
  | with_reducible refine g_ret ?_
  | with_reducible refine g_cb ?_
  | with_reducible refine g_cons ?_
  | with_reducible refine g_nil ?_
  | with_reducible refine g_int ?_
  | with_reducible refine g_intB ?_
  | with_reducible refine g_abs ?_
  | with_reducible refine g_max ?_
  | with_reducible refine g_min ?_
  | with_reducible refine g_un ?_
  | with_reducible refine g_U ?_
  | with_reducible refine g_eqI ?_
  | with_reducible refine g_neI ?_
  | with_reducible refine g_eqS ?_
  | with_reducible refine g_neS ?_
  | with_reducible refine g_tt ?_
  | with_reducible refine g_ff ?_
  | with_reducible refine g_next ?_
  | with_reducible refine g_drop ?_
  | with_reducible refine g_if ?_
  | with_reducible refine g_andV ?_
  | with_reducible refine g_orV ?_
  | with_reducible refine g_notV ?_
  | with_reducible refine g_and ?_
  | with_reducible refine g_or ?_
  | with_reducible refine g_not ?_
  | with_reducible refine g_yes ?_
  | with_reducible refine g_chain ?_
  | with_reducible refine g_cg ?_
  | with_reducible refine g_mg ?_
  | with_reducible refine g_kg ?_
  | with_reducible refine g_pg ?_
  | ((with_reducible refine' g_call ?obh ?obj ?_); (case obh => rfl); (case obj => rfl))
  | with_reducible refine g_par ?_
  | with_reducible refine g_par2 ?_
  | with_reducible refine g_par3 ?_
  | with_reducible refine g_par33 ?_
  | with_reducible refine g_gnil ?_
  | with_reducible refine g_gcons ?_
  | with_reducible refine g_gsub ?_
  | with_reducible refine g_ipI ?_
  | with_reducible refine g_rAdd ?_
  | with_reducible refine g_rSub ?_
  | ((with_reducible refine' g_aug ?obh ?_); (case obh => rfl))
  | with_reducible refine g_tup ?_
  | with_reducible refine g_lst ?_
  | with_reducible refine g_bm ?_
  | with_reducible refine g_bm0 ?_
  | with_reducible refine g_sl ?_
  | with_reducible refine g_nopart ?_
  | with_reducible refine g_part ?_
  | with_reducible refine g_pint ?_
  | with_reducible refine isi_int ?_
  | with_reducible refine isi_intB ?_
  | ((with_reducible refine' g_I ?obh ?_); (case obh => walk_at "obc"))
  | ((with_reducible refine' g_tyl ?obh ?_); (case obh => walk_at "obl"))
  | ((with_reducible refine' g_lenL ?obh ?_); (case obh => walk_at "obl"))
  | with_reducible refine g_ne ?_
  | ((with_reducible refine' g_neN' ?obh ?_); (case obh => rfl))
  | with_reducible refine g_ntt ?_
  | with_reducible refine g_nff ?_
  | with_reducible refine g_star ?_
  | with_reducible refine g_att ?_
  | with_reducible refine g_sfld ?_
  | with_reducible refine g_faug ?_
  | with_reducible refine g_fld ?_
  | ((with_reducible refine' g_nF ?obh ?_); (case obh => omega))
  | ((with_reducible refine' g_nT ?obh ?_); (case obh => omega))
  | ((with_reducible refine' g_TD ?obh ?_); (case obh => omega))
  | ((with_reducible refine' g_FD ?obh ?_); (case obh => omega))
  | ((with_reducible refine' g_ixUL ?obh ?obi ?_); (case obh => walk_at "obl"); (case obi => exact atI_nn (by omega) (by rfl)))
  | ((with_reducible refine' g_setLS ?obs ?obh ?obi ?_); (case obs => assumption); (case obh => assumption); (case obi => rfl); intro _ _ _)
  | ((with_reducible refine' g_newT ?obs ?obh ?obi ?obj ?_); (case obs => assumption); (case obh => walk_at "obds"); (case obi => rfl); (case obj => exact Nat.le_of_ble_eq_true rfl); intro _ _ _ _)
  | ((with_reducible refine' g_newL ?obs ?obj ?_); (case obs => assumption); (case obj => exact Nat.le_of_ble_eq_true rfl); intro _ _ _ _)
  | ((with_reducible refine' isi_tup ?obh ?_); (case obh => walk_at "obt"))
  | ((with_reducible refine' g_lenT ?obh ?_); (case obh => walk_at "obt"))
  | ((with_reducible refine' g_unpT ?obh ?obi ?_); (case obh => walk_at "obt"); (case obi => rfl))
  | ((with_reducible refine' g_divmod ?obs ?obh ?_); (case obs => assumption); (case obh => exact cdivp_ok (by omega) (by omega) (by omega)); intro _ _ _ _)
  | ((with_reducible refine' g_unpD ?obh ?obi ?obj ?_); (case obh => walk_at "obd"); (case obi => walk_at "obsc"); (case obj => rfl))
  | with_reducible refine g_att ?_)
def top (i : Nat) : Stmt := PySem.Challenge.pw_oncebooked_k00_whole_shelves_deed_by_dee.main.body.getD i (.Pass ⟨0, 0, 0, 0⟩)
structure Tx (K : Frag) (mg : Str → Option Value) where
  a_Cut : Addr
  m_Cut : mg "Cut" = some (.ref a_Cut)
  c_Cut : Cls K a_Cut
  na_Cut_own_known : NoAttr K a_Cut "own_known"
  na_Cut_own_now : NoAttr K a_Cut "own_now"
  na_Cut_own_since : NoAttr K a_Cut "own_since"
  na_Cut_own_sure : NoAttr K a_Cut "own_sure"
  a_Shelf : Addr
  m_Shelf : mg "Shelf" = some (.ref a_Shelf)
  c_Shelf : Cls K a_Shelf
  na_Shelf_own_files : NoAttr K a_Shelf "own_files"
  na_Shelf_own_log : NoAttr K a_Shelf "own_log"
  a_lists_of : Addr
  d_lists_of : FuncData
  F_lists_of : Fun K "lists_of" "lists_of" (top 32) a_lists_of d_lists_of
  m_lists_of : mg "lists_of" = some (.ref a_lists_of)
  a_is_name : Addr
  d_is_name : FuncData
  F_is_name : Fun K "is_name" "is_name" (top 12) a_is_name d_is_name
  m_is_name : mg "is_name" = some (.ref a_is_name)
  a_is_line : Addr
  d_is_line : FuncData
  F_is_line : Fun K "is_line" "is_line" (top 24) a_is_line d_is_line
  m_is_line : mg "is_line" = some (.ref a_is_line)
  a_has_room : Addr
  d_has_room : FuncData
  F_has_room : Fun K "has_room" "has_room" (top 33) a_has_room d_has_room
  m_has_room : mg "has_room" = some (.ref a_has_room)
  a_files_of : Addr
  d_files_of : FuncData
  F_files_of : Fun K "files_of" "files_of" (top 31) a_files_of d_files_of
  m_files_of : mg "files_of" = some (.ref a_files_of)
  a_do_deed : Addr
  d_do_deed : FuncData
  F_do_deed : Fun K "do_deed" "do_deed" (top 34) a_do_deed d_do_deed
  m_do_deed : mg "do_deed" = some (.ref a_do_deed)
  a_law_take : Addr
  d_law_take : FuncData
  F_law_take : Fun K "_law_take" "_law_take" (top 40) a_law_take d_law_take
  m_law_take : mg "_law_take" = some (.ref a_law_take)
  a_Shelf_log : Addr
  d_Shelf_log : FuncData
  F_Shelf_log : Fun K "log" "Shelf.log" (inClass (top 35) 2) a_Shelf_log d_Shelf_log
  p_Shelf_log : Addr
  pr_Shelf_log : PropOf K a_Shelf "log" p_Shelf_log a_Shelf_log
  a_law_deed_done : Addr
  d_law_deed_done : FuncData
  F_law_deed_done : Fun K "_law_deed_done" "_law_deed_done" (top 48) a_law_deed_done d_law_deed_done
  m_law_deed_done : mg "_law_deed_done" = some (.ref a_law_deed_done)
  a_law_file_tuple : Addr
  d_law_file_tuple : FuncData
  F_law_file_tuple : Fun K "_law_file_tuple" "_law_file_tuple" (top 46) a_law_file_tuple d_law_file_tuple
  m_law_file_tuple : mg "_law_file_tuple" = some (.ref a_law_file_tuple)
  a_law_pot : Addr
  d_law_pot : FuncData
  F_law_pot : Fun K "_law_pot" "_law_pot" (top 39) a_law_pot d_law_pot
  m_law_pot : mg "_law_pot" = some (.ref a_law_pot)
  a_law_cells : Addr
  d_law_cells : FuncData
  F_law_cells : Fun K "_law_cells" "_law_cells" (top 42) a_law_cells d_law_cells
  m_law_cells : mg "_law_cells" = some (.ref a_law_cells)
  a_is_kept_line : Addr
  d_is_kept_line : FuncData
  F_is_kept_line : Fun K "is_kept_line" "is_kept_line" (top 26) a_is_kept_line d_is_kept_line
  m_is_kept_line : mg "is_kept_line" = some (.ref a_is_kept_line)
  a_are_lines : Addr
  d_are_lines : FuncData
  F_are_lines : Fun K "are_lines" "are_lines" (top 25) a_are_lines d_are_lines
  m_are_lines : mg "are_lines" = some (.ref a_are_lines)
  a_Shelf_files : Addr
  d_Shelf_files : FuncData
  F_Shelf_files : Fun K "files" "Shelf.files" (inClass (top 35) 1) a_Shelf_files d_Shelf_files
  p_Shelf_files : Addr
  pr_Shelf_files : PropOf K a_Shelf "files" p_Shelf_files a_Shelf_files
  a_law_files_behind : Addr
  d_law_files_behind : FuncData
  F_law_files_behind : Fun K "_law_files_behind" "_law_files_behind" (top 49) a_law_files_behind d_law_files_behind
  m_law_files_behind : mg "_law_files_behind" = some (.ref a_law_files_behind)
  a_law_of : Addr
  d_law_of : FuncData
  F_law_of : Fun K "_law_of" "_law_of" (top 41) a_law_of d_law_of
  m_law_of : mg "_law_of" = some (.ref a_law_of)
  a_is_file : Addr
  d_is_file : FuncData
  F_is_file : Fun K "is_file" "is_file" (top 27) a_is_file d_is_file
  m_is_file : mg "is_file" = some (.ref a_is_file)
  a_is_deed : Addr
  d_is_deed : FuncData
  F_is_deed : Fun K "is_deed" "is_deed" (top 29) a_is_deed d_is_deed
  m_is_deed : mg "is_deed" = some (.ref a_is_deed)
  a_law_line : Addr
  d_law_line : FuncData
  F_law_line : Fun K "_law_line" "_law_line" (top 44) a_law_line d_law_line
  m_law_line : mg "_law_line" = some (.ref a_law_line)
  a_law_names : Addr
  d_law_names : FuncData
  F_law_names : Fun K "_law_names" "_law_names" (top 43) a_law_names d_law_names
  m_law_names : mg "_law_names" = some (.ref a_law_names)
  a_are_files : Addr
  d_are_files : FuncData
  F_are_files : Fun K "are_files" "are_files" (top 28) a_are_files d_are_files
  m_are_files : mg "are_files" = some (.ref a_are_files)
  a_Shelf_read : Addr
  d_Shelf_read : FuncData
  F_Shelf_read : Fun K "read" "Shelf.read" (inClass (top 35) 3) a_Shelf_read d_Shelf_read
  me_Shelf_read : Meth K a_Shelf "read" a_Shelf_read
  a_law_shelf_deeds : Addr
  d_law_shelf_deeds : FuncData
  F_law_shelf_deeds : Fun K "_law_shelf_deeds" "_law_shelf_deeds" (top 47) a_law_shelf_deeds d_law_shelf_deeds
  m_law_shelf_deeds : mg "_law_shelf_deeds" = some (.ref a_law_shelf_deeds)
  a_Shelf_done : Addr
  d_Shelf_done : FuncData
  F_Shelf_done : Fun K "done" "Shelf.done" (inClass (top 35) 4) a_Shelf_done d_Shelf_done
  me_Shelf_done : Meth K a_Shelf "done" a_Shelf_done
  a_law_files : Addr
  d_law_files : FuncData
  F_law_files : Fun K "_law_files" "_law_files" (top 45) a_law_files d_law_files
  m_law_files : mg "_law_files" = some (.ref a_law_files)
  a_check_files : Addr
  d_check_files : FuncData
  F_check_files : Fun K "check_files" "check_files" (top 30) a_check_files d_check_files
  m_check_files : mg "check_files" = some (.ref a_check_files)
  a_law_stands_right : Addr
  d_law_stands_right : FuncData
  F_law_stands_right : Fun K "_law_stands_right" "_law_stands_right" (top 51) a_law_stands_right d_law_stands_right
  m_law_stands_right : mg "_law_stands_right" = some (.ref a_law_stands_right)
  a_Shelf_sync : Addr
  d_Shelf_sync : FuncData
  F_Shelf_sync : Fun K "sync" "Shelf.sync" (inClass (top 35) 7) a_Shelf_sync d_Shelf_sync
  me_Shelf_sync : Meth K a_Shelf "sync" a_Shelf_sync
  a_Shelf_lay : Addr
  d_Shelf_lay : FuncData
  F_Shelf_lay : Fun K "lay" "Shelf.lay" (inClass (top 35) 6) a_Shelf_lay d_Shelf_lay
  me_Shelf_lay : Meth K a_Shelf "lay" a_Shelf_lay
  a_Shelf_add : Addr
  d_Shelf_add : FuncData
  F_Shelf_add : Fun K "add" "Shelf.add" (inClass (top 35) 5) a_Shelf_add d_Shelf_add
  me_Shelf_add : Meth K a_Shelf "add" a_Shelf_add
  a_law_are_values_told : Addr
  d_law_are_values_told : FuncData
  F_law_are_values_told : Fun K "_law_are_values_told" "_law_are_values_told" (top 52) a_law_are_values_told d_law_are_values_told
  m_law_are_values_told : mg "_law_are_values_told" = some (.ref a_law_are_values_told)
  a_Shelf___init__ : Addr
  d_Shelf___init__ : FuncData
  F_Shelf___init__ : Fun K "__init__" "Shelf.__init__" (inClass (top 35) 0) a_Shelf___init__ d_Shelf___init__
  mk_Shelf : Mk K a_Shelf a_Shelf___init__
  a_Cut___init__ : Addr
  d_Cut___init__ : FuncData
  F_Cut___init__ : Fun K "__init__" "Cut.__init__" (inClass (top 36) 0) a_Cut___init__ d_Cut___init__
  mk_Cut : Mk K a_Cut a_Cut___init__
  a_law_is_done_right : Addr
  d_law_is_done_right : FuncData
  F_law_is_done_right : Fun K "_law_is_done_right" "_law_is_done_right" (top 50) a_law_is_done_right d_law_is_done_right
  m_law_is_done_right : mg "_law_is_done_right" = some (.ref a_law_is_done_right)
  a_done_deeds : Addr
  d_done_deeds : FuncData
  F_done_deeds : Fun K "done_deeds" "done_deeds" (top 37) a_done_deeds d_done_deeds
  m_done_deeds : mg "done_deeds" = some (.ref a_done_deeds)
  a_Shelf_copy : Addr
  d_Shelf_copy : FuncData
  F_Shelf_copy : Fun K "copy" "Shelf.copy" (inClass (top 35) 8) a_Shelf_copy d_Shelf_copy
  me_Shelf_copy : Meth K a_Shelf "copy" a_Shelf_copy
  a_law_right : Addr
  d_law_right : FuncData
  F_law_right : Fun K "_law_right" "_law_right" (top 53) a_law_right d_law_right
  m_law_right : mg "_law_right" = some (.ref a_law_right)
  a_law : Addr
  d_law : FuncData
  F_law : Fun K "law" "law" (top 54) a_law d_law
  m_law : mg "law" = some (.ref a_law)
  t_LETTERS : Tok
  g_LETTERS : mg "LETTERS" = some (.str "abcdefghijklmnopqrstuvwxyz" t_LETTERS)
  t_MOST_LETTERS : Tok
  g_MOST_LETTERS : mg "MOST_LETTERS" = some (.int 8 t_MOST_LETTERS)
  t_MOST_FILES : Tok
  g_MOST_FILES : mg "MOST_FILES" = some (.int 40 t_MOST_FILES)
  t_MOST_LINES : Tok
  g_MOST_LINES : mg "MOST_LINES" = some (.int 20000 t_MOST_LINES)
  t_MOST_SIGNS : Tok
  g_MOST_SIGNS : mg "MOST_SIGNS" = some (.int 200 t_MOST_SIGNS)
  t_MOST_DEEDS : Tok
  g_MOST_DEEDS : mg "MOST_DEEDS" = some (.int 50000 t_MOST_DEEDS)
  t_ADD : Tok
  g_ADD : mg "ADD" = some (.str "add" t_ADD)
  t_LAY : Tok
  g_LAY : mg "LAY" = some (.str "lay" t_LAY)
  t_SYNC : Tok
  g_SYNC : mg "SYNC" = some (.str "sync" t_SYNC)
  t_PAIR : Tok
  g_PAIR : mg "PAIR" = some (.int 2 t_PAIR)
  t_DEED_PARTS : Tok
  g_DEED_PARTS : mg "DEED_PARTS" = some (.int 3 t_DEED_PARTS)
  n_ValueError : mg "ValueError" = none
  n_abs : mg "abs" = none
  n_all : mg "all" = none
  n_dict : mg "dict" = none
  n_enumerate : mg "enumerate" = none
  n_int : mg "int" = none
  n_isinstance : mg "isinstance" = none
  n_len : mg "len" = none
  n_list : mg "list" = none
  n_max : mg "max" = none
  n_min : mg "min" = none
  n_range : mg "range" = none
  n_repr : mg "repr" = none
  n_sorted : mg "sorted" = none
  n_str : mg "str" = none
  n_sum : mg "sum" = none
  n_tuple : mg "tuple" = none
  n_zip : mg "zip" = none
def mkTx {K : Frag} {h : Heap} {mg : Str → Option Value} {a_Cut : Addr} {a_Shelf : Addr} {a_lists_of : Addr} {oc_lists_of kV_lists_of dc_lists_of pm_lists_of cd_lists_of ct_lists_of : Value} {od_lists_of an_lists_of : Option Addr} {sl_lists_of : Array (Option Value)} {a_is_name : Addr} {oc_is_name kV_is_name dc_is_name pm_is_name cd_is_name ct_is_name : Value} {od_is_name an_is_name : Option Addr} {sl_is_name : Array (Option Value)} {a_is_line : Addr} {oc_is_line kV_is_line dc_is_line pm_is_line cd_is_line ct_is_line : Value} {od_is_line an_is_line : Option Addr} {sl_is_line : Array (Option Value)} {a_has_room : Addr} {oc_has_room kV_has_room dc_has_room pm_has_room cd_has_room ct_has_room : Value} {od_has_room an_has_room : Option Addr} {sl_has_room : Array (Option Value)} {a_files_of : Addr} {oc_files_of kV_files_of dc_files_of pm_files_of cd_files_of ct_files_of : Value} {od_files_of an_files_of : Option Addr} {sl_files_of : Array (Option Value)} {a_do_deed : Addr} {oc_do_deed kV_do_deed dc_do_deed pm_do_deed cd_do_deed ct_do_deed : Value} {od_do_deed an_do_deed : Option Addr} {sl_do_deed : Array (Option Value)} {a_law_take : Addr} {oc_law_take kV_law_take dc_law_take pm_law_take cd_law_take ct_law_take : Value} {od_law_take an_law_take : Option Addr} {sl_law_take : Array (Option Value)} {a_Shelf_log : Addr} {oc_Shelf_log kV_Shelf_log dc_Shelf_log pm_Shelf_log cd_Shelf_log ct_Shelf_log : Value} {od_Shelf_log an_Shelf_log : Option Addr} {sl_Shelf_log : Array (Option Value)} {p_Shelf_log : Addr} {r_Shelf_log : List Value} {a_law_deed_done : Addr} {oc_law_deed_done kV_law_deed_done dc_law_deed_done pm_law_deed_done cd_law_deed_done ct_law_deed_done : Value} {od_law_deed_done an_law_deed_done : Option Addr} {sl_law_deed_done : Array (Option Value)} {a_law_file_tuple : Addr} {oc_law_file_tuple kV_law_file_tuple dc_law_file_tuple pm_law_file_tuple cd_law_file_tuple ct_law_file_tuple : Value} {od_law_file_tuple an_law_file_tuple : Option Addr} {sl_law_file_tuple : Array (Option Value)} {a_law_pot : Addr} {oc_law_pot kV_law_pot dc_law_pot pm_law_pot cd_law_pot ct_law_pot : Value} {od_law_pot an_law_pot : Option Addr} {sl_law_pot : Array (Option Value)} {a_law_cells : Addr} {oc_law_cells kV_law_cells dc_law_cells pm_law_cells cd_law_cells ct_law_cells : Value} {od_law_cells an_law_cells : Option Addr} {sl_law_cells : Array (Option Value)} {a_is_kept_line : Addr} {oc_is_kept_line kV_is_kept_line dc_is_kept_line pm_is_kept_line cd_is_kept_line ct_is_kept_line : Value} {od_is_kept_line an_is_kept_line : Option Addr} {sl_is_kept_line : Array (Option Value)} {a_are_lines : Addr} {oc_are_lines kV_are_lines dc_are_lines pm_are_lines cd_are_lines ct_are_lines : Value} {od_are_lines an_are_lines : Option Addr} {sl_are_lines : Array (Option Value)} {a_Shelf_files : Addr} {oc_Shelf_files kV_Shelf_files dc_Shelf_files pm_Shelf_files cd_Shelf_files ct_Shelf_files : Value} {od_Shelf_files an_Shelf_files : Option Addr} {sl_Shelf_files : Array (Option Value)} {p_Shelf_files : Addr} {r_Shelf_files : List Value} {a_law_files_behind : Addr} {oc_law_files_behind kV_law_files_behind dc_law_files_behind pm_law_files_behind cd_law_files_behind ct_law_files_behind : Value} {od_law_files_behind an_law_files_behind : Option Addr} {sl_law_files_behind : Array (Option Value)} {a_law_of : Addr} {oc_law_of kV_law_of dc_law_of pm_law_of cd_law_of ct_law_of : Value} {od_law_of an_law_of : Option Addr} {sl_law_of : Array (Option Value)} {a_is_file : Addr} {oc_is_file kV_is_file dc_is_file pm_is_file cd_is_file ct_is_file : Value} {od_is_file an_is_file : Option Addr} {sl_is_file : Array (Option Value)} {a_is_deed : Addr} {oc_is_deed kV_is_deed dc_is_deed pm_is_deed cd_is_deed ct_is_deed : Value} {od_is_deed an_is_deed : Option Addr} {sl_is_deed : Array (Option Value)} {a_law_line : Addr} {oc_law_line kV_law_line dc_law_line pm_law_line cd_law_line ct_law_line : Value} {od_law_line an_law_line : Option Addr} {sl_law_line : Array (Option Value)} {a_law_names : Addr} {oc_law_names kV_law_names dc_law_names pm_law_names cd_law_names ct_law_names : Value} {od_law_names an_law_names : Option Addr} {sl_law_names : Array (Option Value)} {a_are_files : Addr} {oc_are_files kV_are_files dc_are_files pm_are_files cd_are_files ct_are_files : Value} {od_are_files an_are_files : Option Addr} {sl_are_files : Array (Option Value)} {a_Shelf_read : Addr} {oc_Shelf_read kV_Shelf_read dc_Shelf_read pm_Shelf_read cd_Shelf_read ct_Shelf_read : Value} {od_Shelf_read an_Shelf_read : Option Addr} {sl_Shelf_read : Array (Option Value)} {a_law_shelf_deeds : Addr} {oc_law_shelf_deeds kV_law_shelf_deeds dc_law_shelf_deeds pm_law_shelf_deeds cd_law_shelf_deeds ct_law_shelf_deeds : Value} {od_law_shelf_deeds an_law_shelf_deeds : Option Addr} {sl_law_shelf_deeds : Array (Option Value)} {a_Shelf_done : Addr} {oc_Shelf_done kV_Shelf_done dc_Shelf_done pm_Shelf_done cd_Shelf_done ct_Shelf_done : Value} {od_Shelf_done an_Shelf_done : Option Addr} {sl_Shelf_done : Array (Option Value)} {a_law_files : Addr} {oc_law_files kV_law_files dc_law_files pm_law_files cd_law_files ct_law_files : Value} {od_law_files an_law_files : Option Addr} {sl_law_files : Array (Option Value)} {a_check_files : Addr} {oc_check_files kV_check_files dc_check_files pm_check_files cd_check_files ct_check_files : Value} {od_check_files an_check_files : Option Addr} {sl_check_files : Array (Option Value)} {a_law_stands_right : Addr} {oc_law_stands_right kV_law_stands_right dc_law_stands_right pm_law_stands_right cd_law_stands_right ct_law_stands_right : Value} {od_law_stands_right an_law_stands_right : Option Addr} {sl_law_stands_right : Array (Option Value)} {a_Shelf_sync : Addr} {oc_Shelf_sync kV_Shelf_sync dc_Shelf_sync pm_Shelf_sync cd_Shelf_sync ct_Shelf_sync : Value} {od_Shelf_sync an_Shelf_sync : Option Addr} {sl_Shelf_sync : Array (Option Value)} {a_Shelf_lay : Addr} {oc_Shelf_lay kV_Shelf_lay dc_Shelf_lay pm_Shelf_lay cd_Shelf_lay ct_Shelf_lay : Value} {od_Shelf_lay an_Shelf_lay : Option Addr} {sl_Shelf_lay : Array (Option Value)} {a_Shelf_add : Addr} {oc_Shelf_add kV_Shelf_add dc_Shelf_add pm_Shelf_add cd_Shelf_add ct_Shelf_add : Value} {od_Shelf_add an_Shelf_add : Option Addr} {sl_Shelf_add : Array (Option Value)} {a_law_are_values_told : Addr} {oc_law_are_values_told kV_law_are_values_told dc_law_are_values_told pm_law_are_values_told cd_law_are_values_told ct_law_are_values_told : Value} {od_law_are_values_told an_law_are_values_told : Option Addr} {sl_law_are_values_told : Array (Option Value)} {a_Shelf___init__ : Addr} {oc_Shelf___init__ kV_Shelf___init__ dc_Shelf___init__ pm_Shelf___init__ cd_Shelf___init__ ct_Shelf___init__ : Value} {od_Shelf___init__ an_Shelf___init__ : Option Addr} {sl_Shelf___init__ : Array (Option Value)} {a_Cut___init__ : Addr} {oc_Cut___init__ kV_Cut___init__ dc_Cut___init__ pm_Cut___init__ cd_Cut___init__ ct_Cut___init__ : Value} {od_Cut___init__ an_Cut___init__ : Option Addr} {sl_Cut___init__ : Array (Option Value)} {a_law_is_done_right : Addr} {oc_law_is_done_right kV_law_is_done_right dc_law_is_done_right pm_law_is_done_right cd_law_is_done_right ct_law_is_done_right : Value} {od_law_is_done_right an_law_is_done_right : Option Addr} {sl_law_is_done_right : Array (Option Value)} {a_done_deeds : Addr} {oc_done_deeds kV_done_deeds dc_done_deeds pm_done_deeds cd_done_deeds ct_done_deeds : Value} {od_done_deeds an_done_deeds : Option Addr} {sl_done_deeds : Array (Option Value)} {a_Shelf_copy : Addr} {oc_Shelf_copy kV_Shelf_copy dc_Shelf_copy pm_Shelf_copy cd_Shelf_copy ct_Shelf_copy : Value} {od_Shelf_copy an_Shelf_copy : Option Addr} {sl_Shelf_copy : Array (Option Value)} {a_law_right : Addr} {oc_law_right kV_law_right dc_law_right pm_law_right cd_law_right ct_law_right : Value} {od_law_right an_law_right : Option Addr} {sl_law_right : Array (Option Value)} {a_law : Addr} {oc_law kV_law dc_law pm_law cd_law ct_law : Value} {od_law an_law : Option Addr} {sl_law : Array (Option Value)} {t_LETTERS : Tok} {t_MOST_LETTERS : Tok} {t_MOST_FILES : Tok} {t_MOST_LINES : Tok} {t_MOST_SIGNS : Tok} {t_MOST_DEEDS : Tok} {t_ADD : Tok} {t_LAY : Tok} {t_SYNC : Tok} {t_PAIR : Tok} {t_DEED_PARTS : Tok} (X : K.In h) (G : h.Ns mainGlobals mg)
    (n_Cut : nsIn K mainGlobals "Cut" = some (some (.ref a_Cut)))
    (pg_Cut : plainGet K a_Cut Str.empty = true)
    (hd_Cut : hasDictIn K a_Cut = true)
    (po_Cut : plainOver K a_Cut = true)
    (sa_Cut : findIn K (.ref a_Cut) "__setattr__" = some (some (.builtin "object.__setattr__")))
    (na_Cut_own_known : findIn K (.ref a_Cut) "own_known" = some none)
    (na_Cut_own_now : findIn K (.ref a_Cut) "own_now" = some none)
    (na_Cut_own_since : findIn K (.ref a_Cut) "own_since" = some none)
    (na_Cut_own_sure : findIn K (.ref a_Cut) "own_sure" = some none)
    (n_Shelf : nsIn K mainGlobals "Shelf" = some (some (.ref a_Shelf)))
    (pg_Shelf : plainGet K a_Shelf Str.empty = true)
    (hd_Shelf : hasDictIn K a_Shelf = true)
    (po_Shelf : plainOver K a_Shelf = true)
    (sa_Shelf : findIn K (.ref a_Shelf) "__setattr__" = some (some (.builtin "object.__setattr__")))
    (na_Shelf_own_files : findIn K (.ref a_Shelf) "own_files" = some none)
    (na_Shelf_own_log : findIn K (.ref a_Shelf) "own_log" = some none)
    (n_lists_of : nsIn K mainGlobals "lists_of" = some (some (.ref a_lists_of)))
    (l_lists_of : K.lookup a_lists_of = some ⟨oc_lists_of, od_lists_of, .func (fnOf "lists_of" "lists_of" (defArgs (top 32)) (defBody (top 32)) (defScope (top 32)) .none kV_lists_of dc_lists_of pm_lists_of an_lists_of cd_lists_of ct_lists_of), sl_lists_of⟩)
    (c_lists_of : codeIn K cd_lists_of "lists_of" = true)
    (k_lists_of : keepIn K (.ref a_lists_of) = true)
    (n_is_name : nsIn K mainGlobals "is_name" = some (some (.ref a_is_name)))
    (l_is_name : K.lookup a_is_name = some ⟨oc_is_name, od_is_name, .func (fnOf "is_name" "is_name" (defArgs (top 12)) (defBody (top 12)) (defScope (top 12)) .none kV_is_name dc_is_name pm_is_name an_is_name cd_is_name ct_is_name), sl_is_name⟩)
    (c_is_name : codeIn K cd_is_name "is_name" = true)
    (k_is_name : keepIn K (.ref a_is_name) = true)
    (n_is_line : nsIn K mainGlobals "is_line" = some (some (.ref a_is_line)))
    (l_is_line : K.lookup a_is_line = some ⟨oc_is_line, od_is_line, .func (fnOf "is_line" "is_line" (defArgs (top 24)) (defBody (top 24)) (defScope (top 24)) .none kV_is_line dc_is_line pm_is_line an_is_line cd_is_line ct_is_line), sl_is_line⟩)
    (c_is_line : codeIn K cd_is_line "is_line" = true)
    (k_is_line : keepIn K (.ref a_is_line) = true)
    (n_has_room : nsIn K mainGlobals "has_room" = some (some (.ref a_has_room)))
    (l_has_room : K.lookup a_has_room = some ⟨oc_has_room, od_has_room, .func (fnOf "has_room" "has_room" (defArgs (top 33)) (defBody (top 33)) (defScope (top 33)) .none kV_has_room dc_has_room pm_has_room an_has_room cd_has_room ct_has_room), sl_has_room⟩)
    (c_has_room : codeIn K cd_has_room "has_room" = true)
    (k_has_room : keepIn K (.ref a_has_room) = true)
    (n_files_of : nsIn K mainGlobals "files_of" = some (some (.ref a_files_of)))
    (l_files_of : K.lookup a_files_of = some ⟨oc_files_of, od_files_of, .func (fnOf "files_of" "files_of" (defArgs (top 31)) (defBody (top 31)) (defScope (top 31)) .none kV_files_of dc_files_of pm_files_of an_files_of cd_files_of ct_files_of), sl_files_of⟩)
    (c_files_of : codeIn K cd_files_of "files_of" = true)
    (k_files_of : keepIn K (.ref a_files_of) = true)
    (n_do_deed : nsIn K mainGlobals "do_deed" = some (some (.ref a_do_deed)))
    (l_do_deed : K.lookup a_do_deed = some ⟨oc_do_deed, od_do_deed, .func (fnOf "do_deed" "do_deed" (defArgs (top 34)) (defBody (top 34)) (defScope (top 34)) .none kV_do_deed dc_do_deed pm_do_deed an_do_deed cd_do_deed ct_do_deed), sl_do_deed⟩)
    (c_do_deed : codeIn K cd_do_deed "do_deed" = true)
    (k_do_deed : keepIn K (.ref a_do_deed) = true)
    (n_law_take : nsIn K mainGlobals "_law_take" = some (some (.ref a_law_take)))
    (l_law_take : K.lookup a_law_take = some ⟨oc_law_take, od_law_take, .func (fnOf "_law_take" "_law_take" (defArgs (top 40)) (defBody (top 40)) (defScope (top 40)) .none kV_law_take dc_law_take pm_law_take an_law_take cd_law_take ct_law_take), sl_law_take⟩)
    (c_law_take : codeIn K cd_law_take "_law_take" = true)
    (k_law_take : keepIn K (.ref a_law_take) = true)
    (f_Shelf_log : findIn K (.ref a_Shelf) "log" = some (some (.ref p_Shelf_log)))
    (g_Shelf_log : specialIn K (.ref p_Shelf_log) "__get__" = some (some (.builtin "property.__get__")))
    (t_Shelf_log : takesIn K (.ref p_Shelf_log) = some true)
    (r_Shelf_log_ : recIn K p_Shelf_log "property" = some (.ref a_Shelf_log :: r_Shelf_log))
    (l_Shelf_log : K.lookup a_Shelf_log = some ⟨oc_Shelf_log, od_Shelf_log, .func (fnOf "log" "Shelf.log" (defArgs (inClass (top 35) 2)) (defBody (inClass (top 35) 2)) (defScope (inClass (top 35) 2)) .none kV_Shelf_log dc_Shelf_log pm_Shelf_log an_Shelf_log cd_Shelf_log ct_Shelf_log), sl_Shelf_log⟩)
    (c_Shelf_log : codeIn K cd_Shelf_log "Shelf.log" = true)
    (k_Shelf_log : keepIn K (.ref a_Shelf_log) = true)
    (n_law_deed_done : nsIn K mainGlobals "_law_deed_done" = some (some (.ref a_law_deed_done)))
    (l_law_deed_done : K.lookup a_law_deed_done = some ⟨oc_law_deed_done, od_law_deed_done, .func (fnOf "_law_deed_done" "_law_deed_done" (defArgs (top 48)) (defBody (top 48)) (defScope (top 48)) .none kV_law_deed_done dc_law_deed_done pm_law_deed_done an_law_deed_done cd_law_deed_done ct_law_deed_done), sl_law_deed_done⟩)
    (c_law_deed_done : codeIn K cd_law_deed_done "_law_deed_done" = true)
    (k_law_deed_done : keepIn K (.ref a_law_deed_done) = true)
    (n_law_file_tuple : nsIn K mainGlobals "_law_file_tuple" = some (some (.ref a_law_file_tuple)))
    (l_law_file_tuple : K.lookup a_law_file_tuple = some ⟨oc_law_file_tuple, od_law_file_tuple, .func (fnOf "_law_file_tuple" "_law_file_tuple" (defArgs (top 46)) (defBody (top 46)) (defScope (top 46)) .none kV_law_file_tuple dc_law_file_tuple pm_law_file_tuple an_law_file_tuple cd_law_file_tuple ct_law_file_tuple), sl_law_file_tuple⟩)
    (c_law_file_tuple : codeIn K cd_law_file_tuple "_law_file_tuple" = true)
    (k_law_file_tuple : keepIn K (.ref a_law_file_tuple) = true)
    (n_law_pot : nsIn K mainGlobals "_law_pot" = some (some (.ref a_law_pot)))
    (l_law_pot : K.lookup a_law_pot = some ⟨oc_law_pot, od_law_pot, .func (fnOf "_law_pot" "_law_pot" (defArgs (top 39)) (defBody (top 39)) (defScope (top 39)) .none kV_law_pot dc_law_pot pm_law_pot an_law_pot cd_law_pot ct_law_pot), sl_law_pot⟩)
    (c_law_pot : codeIn K cd_law_pot "_law_pot" = true)
    (k_law_pot : keepIn K (.ref a_law_pot) = true)
    (n_law_cells : nsIn K mainGlobals "_law_cells" = some (some (.ref a_law_cells)))
    (l_law_cells : K.lookup a_law_cells = some ⟨oc_law_cells, od_law_cells, .func (fnOf "_law_cells" "_law_cells" (defArgs (top 42)) (defBody (top 42)) (defScope (top 42)) .none kV_law_cells dc_law_cells pm_law_cells an_law_cells cd_law_cells ct_law_cells), sl_law_cells⟩)
    (c_law_cells : codeIn K cd_law_cells "_law_cells" = true)
    (k_law_cells : keepIn K (.ref a_law_cells) = true)
    (n_is_kept_line : nsIn K mainGlobals "is_kept_line" = some (some (.ref a_is_kept_line)))
    (l_is_kept_line : K.lookup a_is_kept_line = some ⟨oc_is_kept_line, od_is_kept_line, .func (fnOf "is_kept_line" "is_kept_line" (defArgs (top 26)) (defBody (top 26)) (defScope (top 26)) .none kV_is_kept_line dc_is_kept_line pm_is_kept_line an_is_kept_line cd_is_kept_line ct_is_kept_line), sl_is_kept_line⟩)
    (c_is_kept_line : codeIn K cd_is_kept_line "is_kept_line" = true)
    (k_is_kept_line : keepIn K (.ref a_is_kept_line) = true)
    (n_are_lines : nsIn K mainGlobals "are_lines" = some (some (.ref a_are_lines)))
    (l_are_lines : K.lookup a_are_lines = some ⟨oc_are_lines, od_are_lines, .func (fnOf "are_lines" "are_lines" (defArgs (top 25)) (defBody (top 25)) (defScope (top 25)) .none kV_are_lines dc_are_lines pm_are_lines an_are_lines cd_are_lines ct_are_lines), sl_are_lines⟩)
    (c_are_lines : codeIn K cd_are_lines "are_lines" = true)
    (k_are_lines : keepIn K (.ref a_are_lines) = true)
    (f_Shelf_files : findIn K (.ref a_Shelf) "files" = some (some (.ref p_Shelf_files)))
    (g_Shelf_files : specialIn K (.ref p_Shelf_files) "__get__" = some (some (.builtin "property.__get__")))
    (t_Shelf_files : takesIn K (.ref p_Shelf_files) = some true)
    (r_Shelf_files_ : recIn K p_Shelf_files "property" = some (.ref a_Shelf_files :: r_Shelf_files))
    (l_Shelf_files : K.lookup a_Shelf_files = some ⟨oc_Shelf_files, od_Shelf_files, .func (fnOf "files" "Shelf.files" (defArgs (inClass (top 35) 1)) (defBody (inClass (top 35) 1)) (defScope (inClass (top 35) 1)) .none kV_Shelf_files dc_Shelf_files pm_Shelf_files an_Shelf_files cd_Shelf_files ct_Shelf_files), sl_Shelf_files⟩)
    (c_Shelf_files : codeIn K cd_Shelf_files "Shelf.files" = true)
    (k_Shelf_files : keepIn K (.ref a_Shelf_files) = true)
    (n_law_files_behind : nsIn K mainGlobals "_law_files_behind" = some (some (.ref a_law_files_behind)))
    (l_law_files_behind : K.lookup a_law_files_behind = some ⟨oc_law_files_behind, od_law_files_behind, .func (fnOf "_law_files_behind" "_law_files_behind" (defArgs (top 49)) (defBody (top 49)) (defScope (top 49)) .none kV_law_files_behind dc_law_files_behind pm_law_files_behind an_law_files_behind cd_law_files_behind ct_law_files_behind), sl_law_files_behind⟩)
    (c_law_files_behind : codeIn K cd_law_files_behind "_law_files_behind" = true)
    (k_law_files_behind : keepIn K (.ref a_law_files_behind) = true)
    (n_law_of : nsIn K mainGlobals "_law_of" = some (some (.ref a_law_of)))
    (l_law_of : K.lookup a_law_of = some ⟨oc_law_of, od_law_of, .func (fnOf "_law_of" "_law_of" (defArgs (top 41)) (defBody (top 41)) (defScope (top 41)) .none kV_law_of dc_law_of pm_law_of an_law_of cd_law_of ct_law_of), sl_law_of⟩)
    (c_law_of : codeIn K cd_law_of "_law_of" = true)
    (k_law_of : keepIn K (.ref a_law_of) = true)
    (n_is_file : nsIn K mainGlobals "is_file" = some (some (.ref a_is_file)))
    (l_is_file : K.lookup a_is_file = some ⟨oc_is_file, od_is_file, .func (fnOf "is_file" "is_file" (defArgs (top 27)) (defBody (top 27)) (defScope (top 27)) .none kV_is_file dc_is_file pm_is_file an_is_file cd_is_file ct_is_file), sl_is_file⟩)
    (c_is_file : codeIn K cd_is_file "is_file" = true)
    (k_is_file : keepIn K (.ref a_is_file) = true)
    (n_is_deed : nsIn K mainGlobals "is_deed" = some (some (.ref a_is_deed)))
    (l_is_deed : K.lookup a_is_deed = some ⟨oc_is_deed, od_is_deed, .func (fnOf "is_deed" "is_deed" (defArgs (top 29)) (defBody (top 29)) (defScope (top 29)) .none kV_is_deed dc_is_deed pm_is_deed an_is_deed cd_is_deed ct_is_deed), sl_is_deed⟩)
    (c_is_deed : codeIn K cd_is_deed "is_deed" = true)
    (k_is_deed : keepIn K (.ref a_is_deed) = true)
    (n_law_line : nsIn K mainGlobals "_law_line" = some (some (.ref a_law_line)))
    (l_law_line : K.lookup a_law_line = some ⟨oc_law_line, od_law_line, .func (fnOf "_law_line" "_law_line" (defArgs (top 44)) (defBody (top 44)) (defScope (top 44)) .none kV_law_line dc_law_line pm_law_line an_law_line cd_law_line ct_law_line), sl_law_line⟩)
    (c_law_line : codeIn K cd_law_line "_law_line" = true)
    (k_law_line : keepIn K (.ref a_law_line) = true)
    (n_law_names : nsIn K mainGlobals "_law_names" = some (some (.ref a_law_names)))
    (l_law_names : K.lookup a_law_names = some ⟨oc_law_names, od_law_names, .func (fnOf "_law_names" "_law_names" (defArgs (top 43)) (defBody (top 43)) (defScope (top 43)) .none kV_law_names dc_law_names pm_law_names an_law_names cd_law_names ct_law_names), sl_law_names⟩)
    (c_law_names : codeIn K cd_law_names "_law_names" = true)
    (k_law_names : keepIn K (.ref a_law_names) = true)
    (n_are_files : nsIn K mainGlobals "are_files" = some (some (.ref a_are_files)))
    (l_are_files : K.lookup a_are_files = some ⟨oc_are_files, od_are_files, .func (fnOf "are_files" "are_files" (defArgs (top 28)) (defBody (top 28)) (defScope (top 28)) .none kV_are_files dc_are_files pm_are_files an_are_files cd_are_files ct_are_files), sl_are_files⟩)
    (c_are_files : codeIn K cd_are_files "are_files" = true)
    (k_are_files : keepIn K (.ref a_are_files) = true)
    (f_Shelf_read : findIn K (.ref a_Shelf) "read" = some (some (.ref a_Shelf_read)))
    (i_Shelf_read : isFn K (.ref a_Shelf_read) = true)
    (l_Shelf_read : K.lookup a_Shelf_read = some ⟨oc_Shelf_read, od_Shelf_read, .func (fnOf "read" "Shelf.read" (defArgs (inClass (top 35) 3)) (defBody (inClass (top 35) 3)) (defScope (inClass (top 35) 3)) .none kV_Shelf_read dc_Shelf_read pm_Shelf_read an_Shelf_read cd_Shelf_read ct_Shelf_read), sl_Shelf_read⟩)
    (c_Shelf_read : codeIn K cd_Shelf_read "Shelf.read" = true)
    (k_Shelf_read : keepIn K (.ref a_Shelf_read) = true)
    (n_law_shelf_deeds : nsIn K mainGlobals "_law_shelf_deeds" = some (some (.ref a_law_shelf_deeds)))
    (l_law_shelf_deeds : K.lookup a_law_shelf_deeds = some ⟨oc_law_shelf_deeds, od_law_shelf_deeds, .func (fnOf "_law_shelf_deeds" "_law_shelf_deeds" (defArgs (top 47)) (defBody (top 47)) (defScope (top 47)) .none kV_law_shelf_deeds dc_law_shelf_deeds pm_law_shelf_deeds an_law_shelf_deeds cd_law_shelf_deeds ct_law_shelf_deeds), sl_law_shelf_deeds⟩)
    (c_law_shelf_deeds : codeIn K cd_law_shelf_deeds "_law_shelf_deeds" = true)
    (k_law_shelf_deeds : keepIn K (.ref a_law_shelf_deeds) = true)
    (f_Shelf_done : findIn K (.ref a_Shelf) "done" = some (some (.ref a_Shelf_done)))
    (i_Shelf_done : isFn K (.ref a_Shelf_done) = true)
    (l_Shelf_done : K.lookup a_Shelf_done = some ⟨oc_Shelf_done, od_Shelf_done, .func (fnOf "done" "Shelf.done" (defArgs (inClass (top 35) 4)) (defBody (inClass (top 35) 4)) (defScope (inClass (top 35) 4)) .none kV_Shelf_done dc_Shelf_done pm_Shelf_done an_Shelf_done cd_Shelf_done ct_Shelf_done), sl_Shelf_done⟩)
    (c_Shelf_done : codeIn K cd_Shelf_done "Shelf.done" = true)
    (k_Shelf_done : keepIn K (.ref a_Shelf_done) = true)
    (n_law_files : nsIn K mainGlobals "_law_files" = some (some (.ref a_law_files)))
    (l_law_files : K.lookup a_law_files = some ⟨oc_law_files, od_law_files, .func (fnOf "_law_files" "_law_files" (defArgs (top 45)) (defBody (top 45)) (defScope (top 45)) .none kV_law_files dc_law_files pm_law_files an_law_files cd_law_files ct_law_files), sl_law_files⟩)
    (c_law_files : codeIn K cd_law_files "_law_files" = true)
    (k_law_files : keepIn K (.ref a_law_files) = true)
    (n_check_files : nsIn K mainGlobals "check_files" = some (some (.ref a_check_files)))
    (l_check_files : K.lookup a_check_files = some ⟨oc_check_files, od_check_files, .func (fnOf "check_files" "check_files" (defArgs (top 30)) (defBody (top 30)) (defScope (top 30)) .none kV_check_files dc_check_files pm_check_files an_check_files cd_check_files ct_check_files), sl_check_files⟩)
    (c_check_files : codeIn K cd_check_files "check_files" = true)
    (k_check_files : keepIn K (.ref a_check_files) = true)
    (n_law_stands_right : nsIn K mainGlobals "_law_stands_right" = some (some (.ref a_law_stands_right)))
    (l_law_stands_right : K.lookup a_law_stands_right = some ⟨oc_law_stands_right, od_law_stands_right, .func (fnOf "_law_stands_right" "_law_stands_right" (defArgs (top 51)) (defBody (top 51)) (defScope (top 51)) .none kV_law_stands_right dc_law_stands_right pm_law_stands_right an_law_stands_right cd_law_stands_right ct_law_stands_right), sl_law_stands_right⟩)
    (c_law_stands_right : codeIn K cd_law_stands_right "_law_stands_right" = true)
    (k_law_stands_right : keepIn K (.ref a_law_stands_right) = true)
    (f_Shelf_sync : findIn K (.ref a_Shelf) "sync" = some (some (.ref a_Shelf_sync)))
    (i_Shelf_sync : isFn K (.ref a_Shelf_sync) = true)
    (l_Shelf_sync : K.lookup a_Shelf_sync = some ⟨oc_Shelf_sync, od_Shelf_sync, .func (fnOf "sync" "Shelf.sync" (defArgs (inClass (top 35) 7)) (defBody (inClass (top 35) 7)) (defScope (inClass (top 35) 7)) .none kV_Shelf_sync dc_Shelf_sync pm_Shelf_sync an_Shelf_sync cd_Shelf_sync ct_Shelf_sync), sl_Shelf_sync⟩)
    (c_Shelf_sync : codeIn K cd_Shelf_sync "Shelf.sync" = true)
    (k_Shelf_sync : keepIn K (.ref a_Shelf_sync) = true)
    (f_Shelf_lay : findIn K (.ref a_Shelf) "lay" = some (some (.ref a_Shelf_lay)))
    (i_Shelf_lay : isFn K (.ref a_Shelf_lay) = true)
    (l_Shelf_lay : K.lookup a_Shelf_lay = some ⟨oc_Shelf_lay, od_Shelf_lay, .func (fnOf "lay" "Shelf.lay" (defArgs (inClass (top 35) 6)) (defBody (inClass (top 35) 6)) (defScope (inClass (top 35) 6)) .none kV_Shelf_lay dc_Shelf_lay pm_Shelf_lay an_Shelf_lay cd_Shelf_lay ct_Shelf_lay), sl_Shelf_lay⟩)
    (c_Shelf_lay : codeIn K cd_Shelf_lay "Shelf.lay" = true)
    (k_Shelf_lay : keepIn K (.ref a_Shelf_lay) = true)
    (f_Shelf_add : findIn K (.ref a_Shelf) "add" = some (some (.ref a_Shelf_add)))
    (i_Shelf_add : isFn K (.ref a_Shelf_add) = true)
    (l_Shelf_add : K.lookup a_Shelf_add = some ⟨oc_Shelf_add, od_Shelf_add, .func (fnOf "add" "Shelf.add" (defArgs (inClass (top 35) 5)) (defBody (inClass (top 35) 5)) (defScope (inClass (top 35) 5)) .none kV_Shelf_add dc_Shelf_add pm_Shelf_add an_Shelf_add cd_Shelf_add ct_Shelf_add), sl_Shelf_add⟩)
    (c_Shelf_add : codeIn K cd_Shelf_add "Shelf.add" = true)
    (k_Shelf_add : keepIn K (.ref a_Shelf_add) = true)
    (n_law_are_values_told : nsIn K mainGlobals "_law_are_values_told" = some (some (.ref a_law_are_values_told)))
    (l_law_are_values_told : K.lookup a_law_are_values_told = some ⟨oc_law_are_values_told, od_law_are_values_told, .func (fnOf "_law_are_values_told" "_law_are_values_told" (defArgs (top 52)) (defBody (top 52)) (defScope (top 52)) .none kV_law_are_values_told dc_law_are_values_told pm_law_are_values_told an_law_are_values_told cd_law_are_values_told ct_law_are_values_told), sl_law_are_values_told⟩)
    (c_law_are_values_told : codeIn K cd_law_are_values_told "_law_are_values_told" = true)
    (k_law_are_values_told : keepIn K (.ref a_law_are_values_told) = true)
    (f_Shelf___init__ : findIn K (.ref a_Shelf) "__init__" = some (some (.ref a_Shelf___init__)))
    (i_Shelf___init__ : isFn K (.ref a_Shelf___init__) = true)
    (l_Shelf___init__ : K.lookup a_Shelf___init__ = some ⟨oc_Shelf___init__, od_Shelf___init__, .func (fnOf "__init__" "Shelf.__init__" (defArgs (inClass (top 35) 0)) (defBody (inClass (top 35) 0)) (defScope (inClass (top 35) 0)) .none kV_Shelf___init__ dc_Shelf___init__ pm_Shelf___init__ an_Shelf___init__ cd_Shelf___init__ ct_Shelf___init__), sl_Shelf___init__⟩)
    (c_Shelf___init__ : codeIn K cd_Shelf___init__ "Shelf.__init__" = true)
    (k_Shelf___init__ : keepIn K (.ref a_Shelf___init__) = true)
    (mk_Shelf : makesIn K a_Shelf = true)
    (kc_Shelf : keepIn K (.ref a_Shelf) = true)
    (f_Cut___init__ : findIn K (.ref a_Cut) "__init__" = some (some (.ref a_Cut___init__)))
    (i_Cut___init__ : isFn K (.ref a_Cut___init__) = true)
    (l_Cut___init__ : K.lookup a_Cut___init__ = some ⟨oc_Cut___init__, od_Cut___init__, .func (fnOf "__init__" "Cut.__init__" (defArgs (inClass (top 36) 0)) (defBody (inClass (top 36) 0)) (defScope (inClass (top 36) 0)) .none kV_Cut___init__ dc_Cut___init__ pm_Cut___init__ an_Cut___init__ cd_Cut___init__ ct_Cut___init__), sl_Cut___init__⟩)
    (c_Cut___init__ : codeIn K cd_Cut___init__ "Cut.__init__" = true)
    (k_Cut___init__ : keepIn K (.ref a_Cut___init__) = true)
    (mk_Cut : makesIn K a_Cut = true)
    (kc_Cut : keepIn K (.ref a_Cut) = true)
    (n_law_is_done_right : nsIn K mainGlobals "_law_is_done_right" = some (some (.ref a_law_is_done_right)))
    (l_law_is_done_right : K.lookup a_law_is_done_right = some ⟨oc_law_is_done_right, od_law_is_done_right, .func (fnOf "_law_is_done_right" "_law_is_done_right" (defArgs (top 50)) (defBody (top 50)) (defScope (top 50)) .none kV_law_is_done_right dc_law_is_done_right pm_law_is_done_right an_law_is_done_right cd_law_is_done_right ct_law_is_done_right), sl_law_is_done_right⟩)
    (c_law_is_done_right : codeIn K cd_law_is_done_right "_law_is_done_right" = true)
    (k_law_is_done_right : keepIn K (.ref a_law_is_done_right) = true)
    (n_done_deeds : nsIn K mainGlobals "done_deeds" = some (some (.ref a_done_deeds)))
    (l_done_deeds : K.lookup a_done_deeds = some ⟨oc_done_deeds, od_done_deeds, .func (fnOf "done_deeds" "done_deeds" (defArgs (top 37)) (defBody (top 37)) (defScope (top 37)) .none kV_done_deeds dc_done_deeds pm_done_deeds an_done_deeds cd_done_deeds ct_done_deeds), sl_done_deeds⟩)
    (c_done_deeds : codeIn K cd_done_deeds "done_deeds" = true)
    (k_done_deeds : keepIn K (.ref a_done_deeds) = true)
    (f_Shelf_copy : findIn K (.ref a_Shelf) "copy" = some (some (.ref a_Shelf_copy)))
    (i_Shelf_copy : isFn K (.ref a_Shelf_copy) = true)
    (l_Shelf_copy : K.lookup a_Shelf_copy = some ⟨oc_Shelf_copy, od_Shelf_copy, .func (fnOf "copy" "Shelf.copy" (defArgs (inClass (top 35) 8)) (defBody (inClass (top 35) 8)) (defScope (inClass (top 35) 8)) .none kV_Shelf_copy dc_Shelf_copy pm_Shelf_copy an_Shelf_copy cd_Shelf_copy ct_Shelf_copy), sl_Shelf_copy⟩)
    (c_Shelf_copy : codeIn K cd_Shelf_copy "Shelf.copy" = true)
    (k_Shelf_copy : keepIn K (.ref a_Shelf_copy) = true)
    (n_law_right : nsIn K mainGlobals "_law_right" = some (some (.ref a_law_right)))
    (l_law_right : K.lookup a_law_right = some ⟨oc_law_right, od_law_right, .func (fnOf "_law_right" "_law_right" (defArgs (top 53)) (defBody (top 53)) (defScope (top 53)) .none kV_law_right dc_law_right pm_law_right an_law_right cd_law_right ct_law_right), sl_law_right⟩)
    (c_law_right : codeIn K cd_law_right "_law_right" = true)
    (k_law_right : keepIn K (.ref a_law_right) = true)
    (n_law : nsIn K mainGlobals "law" = some (some (.ref a_law)))
    (l_law : K.lookup a_law = some ⟨oc_law, od_law, .func (fnOf "law" "law" (defArgs (top 54)) (defBody (top 54)) (defScope (top 54)) .none kV_law dc_law pm_law an_law cd_law ct_law), sl_law⟩)
    (c_law : codeIn K cd_law "law" = true)
    (k_law : keepIn K (.ref a_law) = true)
    (g_LETTERS : nsIn K mainGlobals "LETTERS" = some (some (.str "abcdefghijklmnopqrstuvwxyz" t_LETTERS)))
    (g_MOST_LETTERS : nsIn K mainGlobals "MOST_LETTERS" = some (some (.int 8 t_MOST_LETTERS)))
    (g_MOST_FILES : nsIn K mainGlobals "MOST_FILES" = some (some (.int 40 t_MOST_FILES)))
    (g_MOST_LINES : nsIn K mainGlobals "MOST_LINES" = some (some (.int 20000 t_MOST_LINES)))
    (g_MOST_SIGNS : nsIn K mainGlobals "MOST_SIGNS" = some (some (.int 200 t_MOST_SIGNS)))
    (g_MOST_DEEDS : nsIn K mainGlobals "MOST_DEEDS" = some (some (.int 50000 t_MOST_DEEDS)))
    (g_ADD : nsIn K mainGlobals "ADD" = some (some (.str "add" t_ADD)))
    (g_LAY : nsIn K mainGlobals "LAY" = some (some (.str "lay" t_LAY)))
    (g_SYNC : nsIn K mainGlobals "SYNC" = some (some (.str "sync" t_SYNC)))
    (g_PAIR : nsIn K mainGlobals "PAIR" = some (some (.int 2 t_PAIR)))
    (g_DEED_PARTS : nsIn K mainGlobals "DEED_PARTS" = some (some (.int 3 t_DEED_PARTS)))
    (n_ValueError : nsIn K mainGlobals "ValueError" = some none)
    (n_abs : nsIn K mainGlobals "abs" = some none)
    (n_all : nsIn K mainGlobals "all" = some none)
    (n_dict : nsIn K mainGlobals "dict" = some none)
    (n_enumerate : nsIn K mainGlobals "enumerate" = some none)
    (n_int : nsIn K mainGlobals "int" = some none)
    (n_isinstance : nsIn K mainGlobals "isinstance" = some none)
    (n_len : nsIn K mainGlobals "len" = some none)
    (n_list : nsIn K mainGlobals "list" = some none)
    (n_max : nsIn K mainGlobals "max" = some none)
    (n_min : nsIn K mainGlobals "min" = some none)
    (n_range : nsIn K mainGlobals "range" = some none)
    (n_repr : nsIn K mainGlobals "repr" = some none)
    (n_sorted : nsIn K mainGlobals "sorted" = some none)
    (n_str : nsIn K mainGlobals "str" = some none)
    (n_sum : nsIn K mainGlobals "sum" = some none)
    (n_tuple : nsIn K mainGlobals "tuple" = some none)
    (n_zip : nsIn K mainGlobals "zip" = some none) : Tx K mg where
  a_Cut := a_Cut
  m_Cut := mg_of X G n_Cut
  c_Cut := ⟨pg_Cut, hd_Cut, po_Cut, sa_Cut⟩
  na_Cut_own_known := na_Cut_own_known
  na_Cut_own_now := na_Cut_own_now
  na_Cut_own_since := na_Cut_own_since
  na_Cut_own_sure := na_Cut_own_sure
  a_Shelf := a_Shelf
  m_Shelf := mg_of X G n_Shelf
  c_Shelf := ⟨pg_Shelf, hd_Shelf, po_Shelf, sa_Shelf⟩
  na_Shelf_own_files := na_Shelf_own_files
  na_Shelf_own_log := na_Shelf_own_log
  a_lists_of := a_lists_of
  d_lists_of := fnOf "lists_of" "lists_of" (defArgs (top 32)) (defBody (top 32)) (defScope (top 32)) .none kV_lists_of dc_lists_of pm_lists_of an_lists_of cd_lists_of ct_lists_of
  F_lists_of := fun_mk (st := (top 32)) l_lists_of c_lists_of k_lists_of
  m_lists_of := mg_of X G n_lists_of
  a_is_name := a_is_name
  d_is_name := fnOf "is_name" "is_name" (defArgs (top 12)) (defBody (top 12)) (defScope (top 12)) .none kV_is_name dc_is_name pm_is_name an_is_name cd_is_name ct_is_name
  F_is_name := fun_mk (st := (top 12)) l_is_name c_is_name k_is_name
  m_is_name := mg_of X G n_is_name
  a_is_line := a_is_line
  d_is_line := fnOf "is_line" "is_line" (defArgs (top 24)) (defBody (top 24)) (defScope (top 24)) .none kV_is_line dc_is_line pm_is_line an_is_line cd_is_line ct_is_line
  F_is_line := fun_mk (st := (top 24)) l_is_line c_is_line k_is_line
  m_is_line := mg_of X G n_is_line
  a_has_room := a_has_room
  d_has_room := fnOf "has_room" "has_room" (defArgs (top 33)) (defBody (top 33)) (defScope (top 33)) .none kV_has_room dc_has_room pm_has_room an_has_room cd_has_room ct_has_room
  F_has_room := fun_mk (st := (top 33)) l_has_room c_has_room k_has_room
  m_has_room := mg_of X G n_has_room
  a_files_of := a_files_of
  d_files_of := fnOf "files_of" "files_of" (defArgs (top 31)) (defBody (top 31)) (defScope (top 31)) .none kV_files_of dc_files_of pm_files_of an_files_of cd_files_of ct_files_of
  F_files_of := fun_mk (st := (top 31)) l_files_of c_files_of k_files_of
  m_files_of := mg_of X G n_files_of
  a_do_deed := a_do_deed
  d_do_deed := fnOf "do_deed" "do_deed" (defArgs (top 34)) (defBody (top 34)) (defScope (top 34)) .none kV_do_deed dc_do_deed pm_do_deed an_do_deed cd_do_deed ct_do_deed
  F_do_deed := fun_mk (st := (top 34)) l_do_deed c_do_deed k_do_deed
  m_do_deed := mg_of X G n_do_deed
  a_law_take := a_law_take
  d_law_take := fnOf "_law_take" "_law_take" (defArgs (top 40)) (defBody (top 40)) (defScope (top 40)) .none kV_law_take dc_law_take pm_law_take an_law_take cd_law_take ct_law_take
  F_law_take := fun_mk (st := (top 40)) l_law_take c_law_take k_law_take
  m_law_take := mg_of X G n_law_take
  a_Shelf_log := a_Shelf_log
  d_Shelf_log := fnOf "log" "Shelf.log" (defArgs (inClass (top 35) 2)) (defBody (inClass (top 35) 2)) (defScope (inClass (top 35) 2)) .none kV_Shelf_log dc_Shelf_log pm_Shelf_log an_Shelf_log cd_Shelf_log ct_Shelf_log
  F_Shelf_log := fun_mk (st := (inClass (top 35) 2)) l_Shelf_log c_Shelf_log k_Shelf_log
  p_Shelf_log := p_Shelf_log
  pr_Shelf_log := ⟨f_Shelf_log, g_Shelf_log, t_Shelf_log, ⟨r_Shelf_log, r_Shelf_log_⟩⟩
  a_law_deed_done := a_law_deed_done
  d_law_deed_done := fnOf "_law_deed_done" "_law_deed_done" (defArgs (top 48)) (defBody (top 48)) (defScope (top 48)) .none kV_law_deed_done dc_law_deed_done pm_law_deed_done an_law_deed_done cd_law_deed_done ct_law_deed_done
  F_law_deed_done := fun_mk (st := (top 48)) l_law_deed_done c_law_deed_done k_law_deed_done
  m_law_deed_done := mg_of X G n_law_deed_done
  a_law_file_tuple := a_law_file_tuple
  d_law_file_tuple := fnOf "_law_file_tuple" "_law_file_tuple" (defArgs (top 46)) (defBody (top 46)) (defScope (top 46)) .none kV_law_file_tuple dc_law_file_tuple pm_law_file_tuple an_law_file_tuple cd_law_file_tuple ct_law_file_tuple
  F_law_file_tuple := fun_mk (st := (top 46)) l_law_file_tuple c_law_file_tuple k_law_file_tuple
  m_law_file_tuple := mg_of X G n_law_file_tuple
  a_law_pot := a_law_pot
  d_law_pot := fnOf "_law_pot" "_law_pot" (defArgs (top 39)) (defBody (top 39)) (defScope (top 39)) .none kV_law_pot dc_law_pot pm_law_pot an_law_pot cd_law_pot ct_law_pot
  F_law_pot := fun_mk (st := (top 39)) l_law_pot c_law_pot k_law_pot
  m_law_pot := mg_of X G n_law_pot
  a_law_cells := a_law_cells
  d_law_cells := fnOf "_law_cells" "_law_cells" (defArgs (top 42)) (defBody (top 42)) (defScope (top 42)) .none kV_law_cells dc_law_cells pm_law_cells an_law_cells cd_law_cells ct_law_cells
  F_law_cells := fun_mk (st := (top 42)) l_law_cells c_law_cells k_law_cells
  m_law_cells := mg_of X G n_law_cells
  a_is_kept_line := a_is_kept_line
  d_is_kept_line := fnOf "is_kept_line" "is_kept_line" (defArgs (top 26)) (defBody (top 26)) (defScope (top 26)) .none kV_is_kept_line dc_is_kept_line pm_is_kept_line an_is_kept_line cd_is_kept_line ct_is_kept_line
  F_is_kept_line := fun_mk (st := (top 26)) l_is_kept_line c_is_kept_line k_is_kept_line
  m_is_kept_line := mg_of X G n_is_kept_line
  a_are_lines := a_are_lines
  d_are_lines := fnOf "are_lines" "are_lines" (defArgs (top 25)) (defBody (top 25)) (defScope (top 25)) .none kV_are_lines dc_are_lines pm_are_lines an_are_lines cd_are_lines ct_are_lines
  F_are_lines := fun_mk (st := (top 25)) l_are_lines c_are_lines k_are_lines
  m_are_lines := mg_of X G n_are_lines
  a_Shelf_files := a_Shelf_files
  d_Shelf_files := fnOf "files" "Shelf.files" (defArgs (inClass (top 35) 1)) (defBody (inClass (top 35) 1)) (defScope (inClass (top 35) 1)) .none kV_Shelf_files dc_Shelf_files pm_Shelf_files an_Shelf_files cd_Shelf_files ct_Shelf_files
  F_Shelf_files := fun_mk (st := (inClass (top 35) 1)) l_Shelf_files c_Shelf_files k_Shelf_files
  p_Shelf_files := p_Shelf_files
  pr_Shelf_files := ⟨f_Shelf_files, g_Shelf_files, t_Shelf_files, ⟨r_Shelf_files, r_Shelf_files_⟩⟩
  a_law_files_behind := a_law_files_behind
  d_law_files_behind := fnOf "_law_files_behind" "_law_files_behind" (defArgs (top 49)) (defBody (top 49)) (defScope (top 49)) .none kV_law_files_behind dc_law_files_behind pm_law_files_behind an_law_files_behind cd_law_files_behind ct_law_files_behind
  F_law_files_behind := fun_mk (st := (top 49)) l_law_files_behind c_law_files_behind k_law_files_behind
  m_law_files_behind := mg_of X G n_law_files_behind
  a_law_of := a_law_of
  d_law_of := fnOf "_law_of" "_law_of" (defArgs (top 41)) (defBody (top 41)) (defScope (top 41)) .none kV_law_of dc_law_of pm_law_of an_law_of cd_law_of ct_law_of
  F_law_of := fun_mk (st := (top 41)) l_law_of c_law_of k_law_of
  m_law_of := mg_of X G n_law_of
  a_is_file := a_is_file
  d_is_file := fnOf "is_file" "is_file" (defArgs (top 27)) (defBody (top 27)) (defScope (top 27)) .none kV_is_file dc_is_file pm_is_file an_is_file cd_is_file ct_is_file
  F_is_file := fun_mk (st := (top 27)) l_is_file c_is_file k_is_file
  m_is_file := mg_of X G n_is_file
  a_is_deed := a_is_deed
  d_is_deed := fnOf "is_deed" "is_deed" (defArgs (top 29)) (defBody (top 29)) (defScope (top 29)) .none kV_is_deed dc_is_deed pm_is_deed an_is_deed cd_is_deed ct_is_deed
  F_is_deed := fun_mk (st := (top 29)) l_is_deed c_is_deed k_is_deed
  m_is_deed := mg_of X G n_is_deed
  a_law_line := a_law_line
  d_law_line := fnOf "_law_line" "_law_line" (defArgs (top 44)) (defBody (top 44)) (defScope (top 44)) .none kV_law_line dc_law_line pm_law_line an_law_line cd_law_line ct_law_line
  F_law_line := fun_mk (st := (top 44)) l_law_line c_law_line k_law_line
  m_law_line := mg_of X G n_law_line
  a_law_names := a_law_names
  d_law_names := fnOf "_law_names" "_law_names" (defArgs (top 43)) (defBody (top 43)) (defScope (top 43)) .none kV_law_names dc_law_names pm_law_names an_law_names cd_law_names ct_law_names
  F_law_names := fun_mk (st := (top 43)) l_law_names c_law_names k_law_names
  m_law_names := mg_of X G n_law_names
  a_are_files := a_are_files
  d_are_files := fnOf "are_files" "are_files" (defArgs (top 28)) (defBody (top 28)) (defScope (top 28)) .none kV_are_files dc_are_files pm_are_files an_are_files cd_are_files ct_are_files
  F_are_files := fun_mk (st := (top 28)) l_are_files c_are_files k_are_files
  m_are_files := mg_of X G n_are_files
  a_Shelf_read := a_Shelf_read
  d_Shelf_read := fnOf "read" "Shelf.read" (defArgs (inClass (top 35) 3)) (defBody (inClass (top 35) 3)) (defScope (inClass (top 35) 3)) .none kV_Shelf_read dc_Shelf_read pm_Shelf_read an_Shelf_read cd_Shelf_read ct_Shelf_read
  F_Shelf_read := fun_mk (st := (inClass (top 35) 3)) l_Shelf_read c_Shelf_read k_Shelf_read
  me_Shelf_read := ⟨f_Shelf_read, i_Shelf_read, k_Shelf_read⟩
  a_law_shelf_deeds := a_law_shelf_deeds
  d_law_shelf_deeds := fnOf "_law_shelf_deeds" "_law_shelf_deeds" (defArgs (top 47)) (defBody (top 47)) (defScope (top 47)) .none kV_law_shelf_deeds dc_law_shelf_deeds pm_law_shelf_deeds an_law_shelf_deeds cd_law_shelf_deeds ct_law_shelf_deeds
  F_law_shelf_deeds := fun_mk (st := (top 47)) l_law_shelf_deeds c_law_shelf_deeds k_law_shelf_deeds
  m_law_shelf_deeds := mg_of X G n_law_shelf_deeds
  a_Shelf_done := a_Shelf_done
  d_Shelf_done := fnOf "done" "Shelf.done" (defArgs (inClass (top 35) 4)) (defBody (inClass (top 35) 4)) (defScope (inClass (top 35) 4)) .none kV_Shelf_done dc_Shelf_done pm_Shelf_done an_Shelf_done cd_Shelf_done ct_Shelf_done
  F_Shelf_done := fun_mk (st := (inClass (top 35) 4)) l_Shelf_done c_Shelf_done k_Shelf_done
  me_Shelf_done := ⟨f_Shelf_done, i_Shelf_done, k_Shelf_done⟩
  a_law_files := a_law_files
  d_law_files := fnOf "_law_files" "_law_files" (defArgs (top 45)) (defBody (top 45)) (defScope (top 45)) .none kV_law_files dc_law_files pm_law_files an_law_files cd_law_files ct_law_files
  F_law_files := fun_mk (st := (top 45)) l_law_files c_law_files k_law_files
  m_law_files := mg_of X G n_law_files
  a_check_files := a_check_files
  d_check_files := fnOf "check_files" "check_files" (defArgs (top 30)) (defBody (top 30)) (defScope (top 30)) .none kV_check_files dc_check_files pm_check_files an_check_files cd_check_files ct_check_files
  F_check_files := fun_mk (st := (top 30)) l_check_files c_check_files k_check_files
  m_check_files := mg_of X G n_check_files
  a_law_stands_right := a_law_stands_right
  d_law_stands_right := fnOf "_law_stands_right" "_law_stands_right" (defArgs (top 51)) (defBody (top 51)) (defScope (top 51)) .none kV_law_stands_right dc_law_stands_right pm_law_stands_right an_law_stands_right cd_law_stands_right ct_law_stands_right
  F_law_stands_right := fun_mk (st := (top 51)) l_law_stands_right c_law_stands_right k_law_stands_right
  m_law_stands_right := mg_of X G n_law_stands_right
  a_Shelf_sync := a_Shelf_sync
  d_Shelf_sync := fnOf "sync" "Shelf.sync" (defArgs (inClass (top 35) 7)) (defBody (inClass (top 35) 7)) (defScope (inClass (top 35) 7)) .none kV_Shelf_sync dc_Shelf_sync pm_Shelf_sync an_Shelf_sync cd_Shelf_sync ct_Shelf_sync
  F_Shelf_sync := fun_mk (st := (inClass (top 35) 7)) l_Shelf_sync c_Shelf_sync k_Shelf_sync
  me_Shelf_sync := ⟨f_Shelf_sync, i_Shelf_sync, k_Shelf_sync⟩
  a_Shelf_lay := a_Shelf_lay
  d_Shelf_lay := fnOf "lay" "Shelf.lay" (defArgs (inClass (top 35) 6)) (defBody (inClass (top 35) 6)) (defScope (inClass (top 35) 6)) .none kV_Shelf_lay dc_Shelf_lay pm_Shelf_lay an_Shelf_lay cd_Shelf_lay ct_Shelf_lay
  F_Shelf_lay := fun_mk (st := (inClass (top 35) 6)) l_Shelf_lay c_Shelf_lay k_Shelf_lay
  me_Shelf_lay := ⟨f_Shelf_lay, i_Shelf_lay, k_Shelf_lay⟩
  a_Shelf_add := a_Shelf_add
  d_Shelf_add := fnOf "add" "Shelf.add" (defArgs (inClass (top 35) 5)) (defBody (inClass (top 35) 5)) (defScope (inClass (top 35) 5)) .none kV_Shelf_add dc_Shelf_add pm_Shelf_add an_Shelf_add cd_Shelf_add ct_Shelf_add
  F_Shelf_add := fun_mk (st := (inClass (top 35) 5)) l_Shelf_add c_Shelf_add k_Shelf_add
  me_Shelf_add := ⟨f_Shelf_add, i_Shelf_add, k_Shelf_add⟩
  a_law_are_values_told := a_law_are_values_told
  d_law_are_values_told := fnOf "_law_are_values_told" "_law_are_values_told" (defArgs (top 52)) (defBody (top 52)) (defScope (top 52)) .none kV_law_are_values_told dc_law_are_values_told pm_law_are_values_told an_law_are_values_told cd_law_are_values_told ct_law_are_values_told
  F_law_are_values_told := fun_mk (st := (top 52)) l_law_are_values_told c_law_are_values_told k_law_are_values_told
  m_law_are_values_told := mg_of X G n_law_are_values_told
  a_Shelf___init__ := a_Shelf___init__
  d_Shelf___init__ := fnOf "__init__" "Shelf.__init__" (defArgs (inClass (top 35) 0)) (defBody (inClass (top 35) 0)) (defScope (inClass (top 35) 0)) .none kV_Shelf___init__ dc_Shelf___init__ pm_Shelf___init__ an_Shelf___init__ cd_Shelf___init__ ct_Shelf___init__
  F_Shelf___init__ := fun_mk (st := (inClass (top 35) 0)) l_Shelf___init__ c_Shelf___init__ k_Shelf___init__
  mk_Shelf := ⟨mk_Shelf, f_Shelf___init__, i_Shelf___init__, kc_Shelf⟩
  a_Cut___init__ := a_Cut___init__
  d_Cut___init__ := fnOf "__init__" "Cut.__init__" (defArgs (inClass (top 36) 0)) (defBody (inClass (top 36) 0)) (defScope (inClass (top 36) 0)) .none kV_Cut___init__ dc_Cut___init__ pm_Cut___init__ an_Cut___init__ cd_Cut___init__ ct_Cut___init__
  F_Cut___init__ := fun_mk (st := (inClass (top 36) 0)) l_Cut___init__ c_Cut___init__ k_Cut___init__
  mk_Cut := ⟨mk_Cut, f_Cut___init__, i_Cut___init__, kc_Cut⟩
  a_law_is_done_right := a_law_is_done_right
  d_law_is_done_right := fnOf "_law_is_done_right" "_law_is_done_right" (defArgs (top 50)) (defBody (top 50)) (defScope (top 50)) .none kV_law_is_done_right dc_law_is_done_right pm_law_is_done_right an_law_is_done_right cd_law_is_done_right ct_law_is_done_right
  F_law_is_done_right := fun_mk (st := (top 50)) l_law_is_done_right c_law_is_done_right k_law_is_done_right
  m_law_is_done_right := mg_of X G n_law_is_done_right
  a_done_deeds := a_done_deeds
  d_done_deeds := fnOf "done_deeds" "done_deeds" (defArgs (top 37)) (defBody (top 37)) (defScope (top 37)) .none kV_done_deeds dc_done_deeds pm_done_deeds an_done_deeds cd_done_deeds ct_done_deeds
  F_done_deeds := fun_mk (st := (top 37)) l_done_deeds c_done_deeds k_done_deeds
  m_done_deeds := mg_of X G n_done_deeds
  a_Shelf_copy := a_Shelf_copy
  d_Shelf_copy := fnOf "copy" "Shelf.copy" (defArgs (inClass (top 35) 8)) (defBody (inClass (top 35) 8)) (defScope (inClass (top 35) 8)) .none kV_Shelf_copy dc_Shelf_copy pm_Shelf_copy an_Shelf_copy cd_Shelf_copy ct_Shelf_copy
  F_Shelf_copy := fun_mk (st := (inClass (top 35) 8)) l_Shelf_copy c_Shelf_copy k_Shelf_copy
  me_Shelf_copy := ⟨f_Shelf_copy, i_Shelf_copy, k_Shelf_copy⟩
  a_law_right := a_law_right
  d_law_right := fnOf "_law_right" "_law_right" (defArgs (top 53)) (defBody (top 53)) (defScope (top 53)) .none kV_law_right dc_law_right pm_law_right an_law_right cd_law_right ct_law_right
  F_law_right := fun_mk (st := (top 53)) l_law_right c_law_right k_law_right
  m_law_right := mg_of X G n_law_right
  a_law := a_law
  d_law := fnOf "law" "law" (defArgs (top 54)) (defBody (top 54)) (defScope (top 54)) .none kV_law dc_law pm_law an_law cd_law ct_law
  F_law := fun_mk (st := (top 54)) l_law c_law k_law
  m_law := mg_of X G n_law
  t_LETTERS := t_LETTERS
  g_LETTERS := mg_of X G g_LETTERS
  t_MOST_LETTERS := t_MOST_LETTERS
  g_MOST_LETTERS := mg_of X G g_MOST_LETTERS
  t_MOST_FILES := t_MOST_FILES
  g_MOST_FILES := mg_of X G g_MOST_FILES
  t_MOST_LINES := t_MOST_LINES
  g_MOST_LINES := mg_of X G g_MOST_LINES
  t_MOST_SIGNS := t_MOST_SIGNS
  g_MOST_SIGNS := mg_of X G g_MOST_SIGNS
  t_MOST_DEEDS := t_MOST_DEEDS
  g_MOST_DEEDS := mg_of X G g_MOST_DEEDS
  t_ADD := t_ADD
  g_ADD := mg_of X G g_ADD
  t_LAY := t_LAY
  g_LAY := mg_of X G g_LAY
  t_SYNC := t_SYNC
  g_SYNC := mg_of X G g_SYNC
  t_PAIR := t_PAIR
  g_PAIR := mg_of X G g_PAIR
  t_DEED_PARTS := t_DEED_PARTS
  g_DEED_PARTS := mg_of X G g_DEED_PARTS
  n_ValueError := mg_none_of X G n_ValueError
  n_abs := mg_none_of X G n_abs
  n_all := mg_none_of X G n_all
  n_dict := mg_none_of X G n_dict
  n_enumerate := mg_none_of X G n_enumerate
  n_int := mg_none_of X G n_int
  n_isinstance := mg_none_of X G n_isinstance
  n_len := mg_none_of X G n_len
  n_list := mg_none_of X G n_list
  n_max := mg_none_of X G n_max
  n_min := mg_none_of X G n_min
  n_range := mg_none_of X G n_range
  n_repr := mg_none_of X G n_repr
  n_sorted := mg_none_of X G n_sorted
  n_str := mg_none_of X G n_str
  n_sum := mg_none_of X G n_sum
  n_tuple := mg_none_of X G n_tuple
  n_zip := mg_none_of X G n_zip
section
variable {P : Program} {w : World} {K : Frag} {mg : Str → Option Value} {base : Heap}
/-! ### words -/
def inW (v : V) (b c : Int) : Bool := match v with
  | .int a => decide (b ≤ a ∧ a ≤ c)
  | _ => false
def isI (v : V) : Bool := match v with
  | .int _ => true
  | _ => false
/-- a number or a truth value -/
def Nb (v : V) : Prop := (∃ a, v = .int a) ∨ ∃ b, v = .bl b
theorem isi_bl {b : Bool} {H : Hp} {Q : VK} (k : Q (.bl true) H) : rIsi K [.bl b, .ty "int"] H Q := ⟨_, _, _, _, true, rfl, .ty "int", .base (.bl b), kit_ty (by decide +kernel), k⟩
theorem isi_blB {b : Bool} {H : Hp} {Q : VK} (k : Q (.bl true) H) : rIsi K [.bl b, .ty "bool"] H Q := ⟨_, _, _, _, true, rfl, .ty "bool", .base (.bl b), kit_ty (by decide +kernel), k⟩
/-- no number -/
structure NI (K : Frag) (H : Hp) (v : V) : Prop where
  i : isI v = false
  w : ∀ b c, inW v b c = false
  k : ∀ Q : VK, Q (.bl false) H → rIsi K [v, .ty "int"] H Q
/-- a value of which is asked whether it is a number -/
def Nc (K : Frag) (H : Hp) (v : V) : Prop := Nb v ∨ NI K H v
def sp_is_integer (K : Frag) : Sp := fun vs H Q E => vs.length = 1 ∧ ∃ v, vs = [v] ∧ Nc K H v ∧ Q (.bl (isI v)) H
def sp_is_within (K : Frag) : Sp := fun vs H Q E => vs.length = 3 ∧ ∃ v, ∃ b c : Int, vs = [v, .int b, .int c] ∧ Nc K H v ∧ Q (.bl (inW v b c)) H
/-! ### draws -/
/-- the pot: n draws were made at most -/
def potO (a b c : Int) : HO := .lst [.int a, .int b, .int c]
structure PotOk (n : Nat) (a b c : Int) : Prop where
  a0 : 0 ≤ a
  a1 : a.natAbs < 2 ^ 1000
  b0 : 0 ≤ b
  b1 : b < 2 ^ 61
  c0 : 0 ≤ c
  c1 : c ≤ n
theorem pot_div {n : Nat} {a b c u : Int} (o : PotOk n a b c) (u0 : 0 < u) : PotOk (n + 1) (a / u) b c := by
  obtain ⟨a0, a1, b0, b1, c0, c1⟩ := o
  have h1 : 0 ≤ a / u := Int.ediv_nonneg a0 (by omega)
  have h2 : a / u ≤ a := Int.ediv_le_self _ a0
  exact ⟨h1, by omega, b0, b1, c0, by omega⟩
def sp_law_take (K : Frag) : Sp := fun vs H Q E => vs.length = 2 ∧ ∃ (F : List (Addr × HO)) (G : List Ft) (i : Nat) (p : Addr) (n : Nat) (u a b c : Int), vs = [.ref p, .int u] ∧ Sy K F G H ∧ F[i]? = some (p, potO a b c) ∧ PotOk n a b c ∧ n < 1000000 ∧ 0 < u ∧ u < 2 ^ 60 ∧
  ∀ (r a' b' c' : Int) (H' : Hp), 0 ≤ r → r < u → PotOk (n + 1) a' b' c' → Sy K (F.set i (p, potO a' b' c')) G H' → Q (.int r) H'
abbrev names_law_take : List Str := ["pot", "upto", "digit", "prime", "blend"]
theorem sc_law_take : FnScope names_law_take ["pot", "upto"] (defScope (top 40)) := ⟨rfl, rfl, rfl, by decide +kernel, rfl, by decide +kernel, by decide +kernel⟩
set_option maxHeartbeats 4000000 in
theorem ok_law_take (T : Tx K mg) : FG P w K mg base CX0 1 T.a_law_take T.d_law_take ["pot", "upto"] (sp_law_take K) := by
  refine OB.Fun.fg T.F_law_take sc_law_take (fun vs H Q E h => h.1) (fun cdv A out s H vs Q E g h => ?_)
  obtain ⟨_, F, G, i, p, n, u, a, b, c, rfl, S, hF, ok, hn, u0, u1, k⟩ := h
  refine ⟨_, (pss_cons (ps_if (pt_cmpR op_gt (pe_ix (ix_UK (K := K) rfl) (pv 0) pe_int (fun _ _ => rfl)) pe_int (nomark _)) (pss_cons (ps_set (i := 2) sc_law_take.nd rfl (by first | exact Or.inl rfl | exact Or.inr rfl) (pe_op op_mod (pe_callTy c_int (by rfl) T.n_int (by decide +kernel) (pa_cons (pe_ix (ix_UK (K := K) rfl) (pv 0) pe_int (fun _ _ => rfl)) pa_nil)) (pv 1)))
      (pss_cons (ps_asg (pe_op op_fdivW (pe_ix (ix_UK (K := K) rfl) (pv 0) pe_int (fun _ _ => rfl)) (pv 1)) (pg_sub (pv 0) pe_int set_list))
      (pss_one (ps_ret (pv 2))))) pss_nil)
      (pss_cons (ps_asg (pe_op op_add (pe_ix (ix_UK (K := K) rfl) (pv 0) pe_int (fun _ _ => rfl)) pe_int) (pg_sub (pv 0) pe_int set_list))
      (pss_cons (ps_set (i := 3) sc_law_take.nd rfl (by first | exact Or.inl rfl | exact Or.inr rfl) (pe_ix (ix_UK (K := K) rfl) (pe_lst (pa_cons pe_int (pa_cons pe_int (pa_cons pe_int (pa_cons pe_int (pa_cons pe_int pa_nil)))))) (pe_op op_mod (pe_callTy c_int (by rfl) T.n_int (by decide +kernel) (pa_cons (pe_ix (ix_UK (K := K) rfl) (pv 0) pe_int (fun _ _ => rfl)) pa_nil)) pe_int) (fun _ _ => rfl)))
      (pss_cons (ps_set (i := 4) sc_law_take.nd rfl (by first | exact Or.inl rfl | exact Or.inr rfl) (pe_op op_mod (pe_callTy c_int (by rfl) T.n_int (by decide +kernel) (pa_cons (pe_op op_powX (pe_callTy c_int (by rfl) T.n_int (by decide +kernel) (pa_cons (pe_op op_add (pe_op op_add (pe_ix (ix_UK (K := K) rfl) (pv 0) pe_int (fun _ _ => rfl)) (pe_op op_mul (pe_op op_mul pe_int (pe_ix (ix_UK (K := K) rfl) (pv 0) pe_int (fun _ _ => rfl))) (pe_ix (ix_UK (K := K) rfl) (pv 0) pe_int (fun _ _ => rfl)))) pe_int) pa_nil)) pe_int) pa_nil)) (pv 3)))
      (pss_cons (ps_set (i := 4) sc_law_take.nd rfl (by first | exact Or.inl rfl | exact Or.inr rfl) (pe_op op_mod (pe_callTy c_int (by rfl) T.n_int (by decide +kernel) (pa_cons (pe_op op_mul (pv 4) (pe_op op_add (pe_op op_mod (pe_callTy c_int (by rfl) T.n_int (by decide +kernel) (pa_cons (pv 4) pa_nil)) pe_int) (pe_op op_mul pe_int (pe_ix (ix_UK (K := K) rfl) (pv 0) pe_int (fun _ _ => rfl))))) pa_nil)) pe_int))
      (pss_one (ps_ret (pe_op op_mod (pe_callTy c_int (by rfl) T.n_int (by decide +kernel) (pa_cons (pe_op op_fdivW (pv 4) pe_int) pa_nil)) (pv 1))))))))), ?_⟩
  refine g_start (σ := [some _, some _, none, none, none]) rfl ?_
  repeat walk_at "ob1"
  refine g_iteD (fun h1 => ?_) (fun h1 => ?_)
  · repeat walk_at "ob1"
    refine k (a % u) (a / u) b c _ ?_ ?_ ?_ (by assumption)
    · exact Int.emod_nonneg _ (by omega)
    · exact Int.emod_lt_of_pos _ u0
    · exact pot_div ok u0
  · obtain ⟨a0, a1, b0, b1, c0, c1⟩ := ok
    repeat walk_at "ob1"
    obtain ⟨pr, hm, hp⟩ := atI_ints (ns := [2147483647, 2147483629, 2147483587, 2147483579, 2147483563]) (i := (c + 1) % 5) (by omega) (by show _ < (5 : Int); omega)
    have hpr : 0 < pr ∧ pr < 2147483648 := (show ∀ n ∈ ([2147483647, 2147483629, 2147483587, 2147483579, 2147483563] : List Int), 0 < n ∧ n < 2147483648 by decide) pr hm
    refine g_ixUL (by walk_at "obl") hp ?_
    repeat walk_at "ob1"
    have hs : (c + 1) * (c + 1) ≤ 1000000 * 1000000 := Int.mul_le_mul (by omega) (by omega) (by omega) (by decide)
    have hs0 : 0 ≤ (c + 1) * (c + 1) := Int.mul_nonneg (by omega) (by omega)
    have hx : 99133 * (c + 1) * (c + 1) = 99133 * ((c + 1) * (c + 1)) := Int.mul_assoc ..
    refine g_I (cpow_ok (a := 64) (by omega) (by decide) (by decide)) ?_
    repeat walk_at "ob1"
    refine k _ a b (c + 1) _ ?_ ?_ ⟨a0, a1, b0, b1, by omega, by omega⟩ (Sy.less (by assumption))
    · exact Int.emod_nonneg _ (by omega)
    · exact Int.emod_lt_of_pos _ u0
theorem use_take {F : List (Addr × HO)} {G : List Ft} {H : Hp} {Q : VK} {E : XK} {i n : Nat} {p : Addr} {u a b c : Int} (S : Sy K F G H) (hF : F[i]? = some (p, potO a b c)) (ok : PotOk n a b c) (hn : n < 1000000) (u0 : 0 < u) (u1 : u < 2 ^ 60)
    (k : ∀ (r a' b' c' : Int) (H' : Hp), 0 ≤ r → r < u → PotOk (n + 1) a' b' c' → Sy K (F.set i (p, potO a' b' c')) G H' → (F.set i (p, potO a' b' c'))[i]? = some (p, potO a' b' c') → Q (.int r) H') : sp_law_take K [.ref p, .int u] H Q E :=
  ⟨rfl, F, G, i, p, n, u, a, b, c, rfl, S, hF, ok, hn, u0, u1, fun r a' b' c' H' h1 h2 h3 h4 => k r a' b' c' H' h1 h2 h3 h4 (List.getElem?_set_self (List.getElem?_eq_some_iff.mp hF).1)⟩
theorem use_is_integer {a : Int} {H : Hp} {Q : VK} {E : XK} (k : Q (.bl true) H) : sp_is_integer K [.int a] H Q E := ⟨rfl, .int a, rfl, .inl (.inl ⟨a, rfl⟩), k⟩
theorem use_is_within {a b c : Int} {H : Hp} {Q : VK} {E : XK} (k : Q (.bl (decide (b ≤ a ∧ a ≤ c))) H) : sp_is_within K [.int a, .int b, .int c] H Q E := ⟨rfl, .int a, b, c, rfl, .inl (.inl ⟨a, rfl⟩), k⟩
local macro_rules | `(tactic| walk_at "ob") => `(tactic| first
  | walk_at "ob1"
  | refine use_is_integer ?_
  | refine use_is_within ?_
  | with_reducible refine g_lstRg ?_
  | with_reducible refine g_rg1 ?_
  | with_reducible refine g_rg2 ?_
  | with_reducible refine g_tTru ?_
  | ((with_reducible refine' g_truL ?obh ?_); (case obh => walk_at "obl"))
  | ((with_reducible refine' g_ixUT ?obh ?obi ?_); (case obh => walk_at "obt"); (case obi => rfl))
  | with_reducible refine g_forZ ?_
  | with_reducible refine g_forR2 ?_
  | with_reducible refine g_forE ?_
  | with_reducible refine g_lcZ ?_)
theorem PotOk.mono {n m : Nat} {a b c : Int} (o : PotOk n a b c) (h : n ≤ m) : PotOk m a b c := ⟨o.a0, o.a1, o.b0, o.b1, o.c0, by have := o.c1; omega⟩
/-- what a draw leaves -/
def PotK (K : Frag) (F : List (Addr × HO)) (G : List Ft) (i : Nat) (p : Addr) (n : Nat) (R : Hp → Prop) : Prop :=
  ∀ (a' b' c' : Int) (H' : Hp), PotOk n a' b' c' → Sy K (F.set i (p, potO a' b' c')) G H' → (F.set i (p, potO a' b' c'))[i]? = some (p, potO a' b' c') → R H'
def sp_law_of (K : Frag) : Sp := fun vs H Q E => vs.length = 2 ∧ ∃ (p : Addr) (y : V), vs = [.ref p, y] ∧ ((∃ (F : List (Addr × HO)) (G : List Ft) (i j : Nat) (q : Addr) (n : Nat) (xs : List V) (a b c : Int), y = .ref q ∧ Sy K F G H ∧ F[i]? = some (p, potO a b c) ∧ F[j]? = some (q, .lst xs) ∧ i ≠ j ∧ PotOk n a b c ∧ n < 1000000 ∧ 0 < xs.length ∧ xs.length < 2000000 ∧
  ∀ r ∈ xs, PotK K F G i p (n + 1) (Q r)) ∨ ∃ (F : List (Addr × HO)) (G : List Ft) (i : Nat) (l : List Nat) (n : Nat) (a b c : Int), y = .str (tx l) ∧ Sy K F G H ∧ F[i]? = some (p, potO a b c) ∧ PotOk n a b c ∧ n < 1000000 ∧ 0 < l.length ∧ l.length < 1000 ∧
  ∀ z ∈ l, PotK K F G i p (n + 1) (Q (.str (tx [z]))))
abbrev names_law_of : List Str := ["pot", "some"]
theorem sc_law_of : FnScope names_law_of ["pot", "some"] (defScope (top 41)) := ⟨rfl, rfl, rfl, by decide +kernel, rfl, by decide +kernel, by decide +kernel⟩
set_option maxHeartbeats 4000000 in
theorem ok_law_of (T : Tx K mg) : FG P w K mg base CX0 2 T.a_law_of T.d_law_of ["pot", "some"] (sp_law_of K) := by
  refine OB.Fun.fg T.F_law_of sc_law_of (fun vs H Q E h => h.1) (fun cdv A out s H vs Q E g h => ?_)
  obtain ⟨_, p, y, rfl, h⟩ := h
  refine ⟨_, (pss_one (ps_ret (pe_ix (ix_UK (K := K) rfl) (pv 1) (pe_cg (ok_law_take T) (g.mono (by decide : 1 ≤ 1)) (by rfl) T.m_law_take T.F_law_take.kp (OB.Fun.bd T.F_law_take (ps := ["pot", "upto"]) (n := 2) (ks := []) (ix := [0, 1]) (fun _ _ _ _ _ _ us ws h1 h2 => match us, ws, h1, h2 with | [_, _], [], _, _ => rfl)) pass0 (pa_cons (pv 0) (pa_cons (pe_callB (toK (r := OB.rLenV) (K := K) rfl c_lenV) (by rfl) T.n_len PySem.boot_len (pa_cons (pv 1) pa_nil)) pa_nil)) pk_nil) (fun _ _ => rfl)))), ?_⟩
  refine g_start (σ := [some _, some _]) rfl ?_
  rcases h with ⟨F, G, i, j, q, n, xs, a, b, c, rfl, S, hF, hj, hij, ok, hn, l0, l1, k⟩ | ⟨F, G, i, l, n, a, b, c, rfl, S, hF, ok, hn, l0, l1, k⟩
  · have hij' : ∀ x, (F.set i x)[j]? = some (q, .lst xs) := fun x => by rw [List.getElem?_set_ne hij]; exact hj
    repeat walk_at "ob"
    refine g_lenVL (SqL.of (S.at j hj)) ?_
    repeat walk_at "ob"
    refine use_take S hF ok hn (by omega) (by omega) fun r a' b' c' H' h1 h2 o2 S2 hF2 => ?_
    have hl : r.toNat < xs.length := by omega
    refine g_ixUL (v := xs[r.toNat]) (SqL.of (S2.at j (hij' _))) (atI_nn h1 (List.getElem?_eq_getElem hl)) ?_
    repeat walk_at "ob"
    exact k _ (List.getElem_mem hl) a' b' c' H' o2 S2 hF2
  · repeat walk_at "ob"
    refine g_lenVS (l := l) (by omega) ?_
    repeat walk_at "ob"
    refine use_take S hF ok hn (by omega) (by omega) fun r a' b' c' H' h1 h2 o2 S2 hF2 => ?_
    have hl : r.toNat < l.length := by omega
    refine g_ixS (c := l[r.toNat]) (atI_nn h1 (List.getElem?_eq_getElem hl)) (by omega) ?_
    repeat walk_at "ob"
    exact k _ (List.getElem_mem hl) a' b' c' H' o2 S2 hF2
theorem pot_less {F : List (Addr × HO)} {G : List Ft} {H : Hp} {i : Nat} {x : Addr × HO} {y z : Addr × HO} (S : Sy K ((x :: F.set i y).set (i + 1) z) G H) : Sy K (F.set i z) G H := by
  have S5 : Sy K (x :: (F.set i y).set i z) G H := S
  have S6 := S5.less
  rw [List.set_set] at S6
  exact S6
theorem set_at {F : List (Addr × HO)} {i : Nat} {x y : Addr × HO} (h : F[i]? = some x) : (F.set i y)[i]? = some y := List.getElem?_set_self (List.getElem?_eq_some_iff.mp h).1
theorem PotK.use {F : List (Addr × HO)} {G : List Ft} {H : Hp} {i n : Nat} {p : Addr} {R : Hp → Prop} {x : Addr × HO} {a b c : Int} (k : PotK K F G i p n R) (hF : F[i]? = some x) (o : PotOk n a b c) (S : Sy K (F.set i (p, potO a b c)) G H) : R H := k a b c H o S (set_at hF)
theorem use_take2 {F : List (Addr × HO)} {G : List Ft} {H : Hp} {Q : VK} {E : XK} {i n : Nat} {p : Addr} {u a b c : Int} {x : Addr × HO} (S : Sy K (F.set i (p, potO a b c)) G H) (hF : F[i]? = some x) (ok : PotOk n a b c) (hn : n < 1000000) (u0 : 0 < u) (u1 : u < 2 ^ 60)
    (k : ∀ (r a' b' c' : Int) (H' : Hp), 0 ≤ r → r < u → PotOk (n + 1) a' b' c' → Sy K (F.set i (p, potO a' b' c')) G H' → Q (.int r) H') : sp_law_take K [.ref p, .int u] H Q E :=
  use_take S (set_at hF) ok hn u0 u1 fun r a' b' c' H' h1 h2 o S' _ => k r a' b' c' H' h1 h2 o (by rw [List.set_set] at S'; exact S')
/-- behind a list that was just made: it falls away -/
theorem use_of2 {F : List (Addr × HO)} {G : List Ft} {H : Hp} {Q : VK} {E : XK} {i n : Nat} {p q : Addr} {ns : List Int} {vs : List V} {a b c : Int} {x : Addr × HO} (S : Sy K ((q, .lst vs) :: F.set i (p, potO a b c)) G H) (e : vs = ns.map V.int) (hF : F[i]? = some x) (ok : PotOk n a b c) (hn : n < 1000000) (l0 : Nat.ble 1 ns.length = true) (l1 : Nat.ble ns.length 99 = true)
    (k : ∀ r ∈ ns, ∀ (a' b' c' : Int) (H' : Hp), PotOk (n + 1) a' b' c' → Sy K (F.set i (p, potO a' b' c')) G H' → Q (.int r) H') : sp_law_of K [.ref p, .ref q] H Q E := by
  subst e
  have l3 := Nat.le_of_ble_eq_true l0
  have l4 := Nat.le_of_ble_eq_true l1
  refine ⟨rfl, _, _, rfl, .inl ⟨_, G, i + 1, 0, q, n, ns.map V.int, a, b, c, rfl, S, set_at hF, rfl, by omega, ok, hn, by rw [List.length_map]; omega, by rw [List.length_map]; omega, fun r hr a' b' c' H' o S' _ => ?_⟩⟩
  obtain ⟨m, hm, rfl⟩ := List.mem_map.mp hr
  exact k m hm a' b' c' H' o (pot_less S')
theorem use_of {F : List (Addr × HO)} {G : List Ft} {H : Hp} {Q : VK} {E : XK} {i j n : Nat} {p q : Addr} {ns : List Int} {a b c : Int} (S : Sy K F G H) (hF : F[i]? = some (p, potO a b c)) (hj : F[j]? = some (q, .lst (ns.map V.int))) (hij : i ≠ j) (ok : PotOk n a b c) (hn : n < 1000000) (l0 : 0 < ns.length) (l1 : ns.length < 100)
    (k : ∀ r ∈ ns, PotK K F G i p (n + 1) (Q (.int r))) : sp_law_of K [.ref p, .ref q] H Q E := ⟨rfl, _, _, rfl, .inl ⟨F, G, i, j, q, n, ns.map V.int, a, b, c, rfl, S, hF, hj, hij, ok, hn, by rw [List.length_map]; exact l0, by rw [List.length_map]; omega, fun r hr => by
  obtain ⟨m, hm, rfl⟩ := List.mem_map.mp hr
  exact k m hm⟩⟩
theorem pot_under {F : List (Addr × HO)} {G : List Ft} {H : Hp} {i : Nat} {x y z : Addr × HO} (S : Sy K ((x :: F.set i y).set (i + 1) z) G H) : Sy K (x :: F.set i z) G H := by
  have S5 : Sy K (x :: (F.set i y).set i z) G H := S
  rw [List.set_set] at S5
  exact S5
theorem pot_under2 {F : List (Addr × HO)} {G : List Ft} {H : Hp} {i : Nat} {x y u z : Addr × HO} (S : Sy K ((x :: y :: F.set i u).set (i + 2) z) G H) : Sy K (x :: y :: F.set i z) G H := by
  have S5 : Sy K (x :: y :: (F.set i u).set i z) G H := S
  rw [List.set_set] at S5
  exact S5
theorem all_true {n : Nat} : ((List.replicate n true).all id) = true := List.all_eq_true.mpr fun b hb => (List.mem_replicate.mp hb).2
theorem trues {H : Hp} {vs : List V} {n : Nat} (h : DpAll K H vs (List.replicate n (.bool true))) : vs = (List.replicate n true).map V.bl := by
  rw [dps_scal h fun d hd => by rw [(List.mem_replicate.mp hd).2]; rfl, List.map_replicate, List.map_replicate]
  rfl
theorem ints_imm (l : List Int) : immAll (l.map PyData.int) = true := immAll_of fun x hx => by
  obtain ⟨s, _, rfl⟩ := List.mem_map.mp hx
  rfl
theorem dps_intsV {H : Hp} {vs : List V} {ns : List Int} (h : DpAll K H vs (ns.map PyData.int)) : vs = ns.map V.int := by
  rw [dps_scal h fun d hd => by
    obtain ⟨s, _, rfl⟩ := List.mem_map.mp hd
    rfl, List.map_map]
  rfl
theorem sqt_ints {H : Hp} {p : Addr} {es : List Int} (h : L2.Dp K H (.ref p) (.tuple (es.map .int))) : SqT K H p (es.map V.int) := by
  have q := sqt_scal h fun d hd => by
    obtain ⟨s, _, rfl⟩ := List.mem_map.mp hd
    rfl
  rw [List.map_map] at q
  exact q
theorem dat_ints {H : Hp} {p : Addr} {es : List Int} (h : L2.Dp K H (.ref p) (.tuple (es.map .int))) : (Ft.dat [.ref p] [.tuple (es.map .int)]).ok K H := ⟨dps_one h, by show (imm (.tuple (es.map .int)) && true) = true; rw [Bool.and_true]; exact ints_imm es⟩
theorem cut_tail (xs : List V) : cutV xs (some 1) none = xs.drop 1 := by
  unfold cutV
  cases xs with
  | nil => rfl
  | cons x xs =>
    have e1 : HT.sIx (x :: xs).length 0 (some 1) = 1 := by
      unfold HT.sIx
      simp
    have e2 : HT.sIx (x :: xs).length (x :: xs).length none = (x :: xs).length := rfl
    rw [e1, e2]
    exact List.take_of_length_le (by rw [List.length_drop]; omega)
theorem g_slA {F : List (Addr × HO)} {G : List Ft} {H : Hp} {Q : VK} {l : Addr} {vs : List V} (S : Sy K F G H) (h : SqT K H l vs) (k : ∀ p H', Sy K F (.tq p (vs.drop 1) :: G) H' → Q (.ref p) H') : rSlU K (.ref l) (some 1) none H Q := by
  refine .inl ⟨l, vs, rfl, h, fun z => ?_, fun _ p hp => ?_⟩
  · refine k l H (S.add (.tq l (vs.drop 1)) ?_)
    have e : vs.drop 1 = vs := by
      rw [← cut_tail]
      unfold cutV
      rw [z.1, z.2, List.drop_zero, Nat.sub_zero, List.take_length]
    rw [e]
    exact h
  · rw [cut_tail]
    exact k p _ ((S.over hp).add (.tq p _) (.inl (.inl upd_same)))
theorem g_tupC {tl : TE} {σ : L2.St} {H : Hp} {D : Ends} {g : TG} {tb : TS} (k : tl σ H fun x H1 => tFor (iSeq K (tC x)) g tb D σ H1) : tFor (iSeq K tl) g tb D σ H := k
theorem g_lcE2 {σ : L2.St} {H : Hp} {Q : VK} {g : TG} {tl te : TE} {tt : TT} {own : List Nat} (k : tl σ H fun x H1 => tLc (iSeq K (tC x)) g tt te own σ H1 Q) : tLc (iSeq K tl) g tt te own σ H Q := k
theorem small_ints {l : List Int} {n : Nat} (h : ∀ x ∈ l, x.natAbs < 10 ^ 60) (hl : l.length ≤ n) : Small (63 * n + 10) 1 (.tuple (l.map .int)) := by
  have q : SmallL ((61 + 2) * (l.map PyData.int).length) 0 (l.map PyData.int) := SmallL.all fun x hx => by
    obtain ⟨s, hs, rfl⟩ := List.mem_map.mp hx
    exact Small.int (h s hs)
  rw [List.length_map] at q
  exact (Small.tup q).mono (by omega) (by decide)
theorem g_slL {F : List (Addr × HO)} {G : List Ft} {H : Hp} {Q : VK} {l : Addr} {vs : List V} {lo hi : Option Int} (S : Sy K F G H) (h : SqL K H l vs) (k : ∀ p H', Sy K ((p, .lst (cutV vs lo hi)) :: F) G H' → Q (.ref p) H') : rSlU K (.ref l) lo hi H Q :=
  .inr ⟨l, vs, rfl, h, fun p hp => k p _ (S.push hp)⟩
theorem cut_ints (ns : List Int) (lo hi : Option Int) : ∃ ms : List Int, cutV (ns.map V.int) lo hi = ms.map V.int :=
  ⟨(ns.drop (HT.sIx (ns.map V.int).length 0 lo)).take (HT.sIx (ns.map V.int).length (ns.map V.int).length hi - HT.sIx (ns.map V.int).length 0 lo), by
    unfold cutV
    rw [List.map_take, List.map_drop]⟩
theorem big_ok : (((10 : Int) ^ Int.toNat 60) ^ Int.toNat 5).natAbs < 2 ^ 1000 := by decide +kernel
theorem own_ok (x : Int) (t : Bool) : 0 ≤ x % ((10 ^ Int.toNat 60) ^ Int.toNat 5) * (if t = true then 1 else 0) ∧ (x % ((10 ^ Int.toNat 60) ^ Int.toNat 5) * (if t = true then 1 else 0)).natAbs < 2 ^ 1000 := by
  have h0 : (0 : Int) < (10 ^ Int.toNat 60) ^ Int.toNat 5 := by decide +kernel
  have h1 := Int.emod_nonneg x (Int.ne_of_gt h0)
  have h2 := Int.emod_lt_of_pos x h0
  have h3 := big_ok
  generalize ((10 : Int) ^ Int.toNat 60) ^ Int.toNat 5 = m at *
  cases t with
  | true =>
    rw [if_pos rfl, Int.mul_one]
    exact ⟨h1, by omega⟩
  | false =>
    rw [if_neg (by decide), Int.mul_zero]
    exact ⟨Int.le_refl _, by decide⟩
def sp_law_pot (K : Frag) : Sp := fun vs H Q E => vs.length = 2 ∧ ∃ (F : List (Addr × HO)) (G : List Ft) (a : Addr) (ns : List Int) (i : Int), vs = [.ref a, .int i] ∧ Sy K F (.sq a (ns.map V.int) :: G) H ∧ ns.length ≤ 63 ∧ 0 ≤ i ∧ i ≤ 2 ∧
  ∀ (x y z : Int) (p : Addr) H', PotOk 0 x y z → Sy K ((p, potO x y z) :: F) (.sq a (ns.map V.int) :: G) H' → Q (.ref p) H'
abbrev names_law_pot : List Str := ["script", "place", "cell", "own", "small"]
theorem sc_law_pot : FnScope names_law_pot ["script", "place"] (defScope (top 39)) := ⟨rfl, rfl, rfl, by decide +kernel, rfl, by decide +kernel, by decide +kernel⟩
set_option maxHeartbeats 4000000 in
theorem ok_law_pot (T : Tx K mg) : FG P w K mg base CX0 1 T.a_law_pot T.d_law_pot ["script", "place"] (sp_law_pot K) := by
  refine OB.Fun.fg T.F_law_pot sc_law_pot (fun vs H Q E h => h.1) (fun cdv A out s H vs Q E g h => ?_)
  obtain ⟨_, F, G, a, ns, i, rfl, S, hn, i0, i1, k⟩ := h
  refine ⟨_, (pss_cons (ps_set (i := 2) sc_law_pot.nd rfl (by first | exact Or.inl rfl | exact Or.inr rfl) (pe_ifExp (pt_cmpR op_lt (pv 1) (pe_callB (toK (r := OB.rLen) (K := K) rfl c_len) (by rfl) T.n_len PySem.boot_len (pa_cons (pv 0) pa_nil)) (nomark _)) (pe_ix (ix_UK (K := K) rfl) (pv 0) (pv 1) (fun _ _ => rfl)) (pe_op op_add (pe_op op_add (pe_op op_mod (pe_callB (toK (r := rSum) (K := K) rfl (cr_sum rfl)) (by rfl) T.n_sum (by decide +kernel) (pa_cons (pe_slice (sl_UK (K := K) rfl) (pv 0) po_none (po_some pe_int)) pa_nil)) pe_int) (pe_op op_mul pe_int (pv 1))) pe_int)))
      (pss_cons (ps_set (i := 3) sc_law_pot.nd rfl (by first | exact Or.inl rfl | exact Or.inr rfl) (pe_op op_mul (pe_op op_mod (pe_callTy c_int (by rfl) T.n_int (by decide +kernel) (pa_cons (pe_callB c_abs (by rfl) T.n_abs (by decide +kernel) (pa_cons (pv 2) pa_nil)) pa_nil)) (pe_op op_powX (pe_op op_powX pe_int pe_int) pe_int)) (pe_callTy c_int (by rfl) T.n_int (by decide +kernel) (pa_cons (pe_cmpR op_ge (pe_callB c_abs (by rfl) T.n_abs (by decide +kernel) (pa_cons (pv 2) pa_nil)) (pe_op op_powX pe_int pe_int) (nomark _)) pa_nil))))
      (pss_cons (ps_set (i := 4) sc_law_pot.nd rfl (by first | exact Or.inl rfl | exact Or.inr rfl) (pe_op op_mod (pe_callTy c_int (by rfl) T.n_int (by decide +kernel) (pa_cons (pv 2) pa_nil)) pe_int))
      (pss_one (ps_ret (pe_lst (pa_cons (pv 3) (pa_cons (pe_op op_mod (pe_callTy c_int (by rfl) T.n_int (by decide +kernel) (pa_cons (pe_op op_add (pe_op op_add (pe_op op_mul (pv 4) pe_int) (pe_op op_mul (pe_op op_mul pe_int (pv 1)) (pv 1))) pe_int) pa_nil)) pe_int) (pa_cons pe_int pa_nil))))))))), ?_⟩
  refine g_start (σ := [some _, some _, none, none, none]) rfl ?_
  have hl : (((ns.map V.int).length : Nat) : Int) = ns.length := by rw [List.length_map]
  repeat walk_at "ob"
  refine g_iteD (fun h1 => ?_) (fun h1 => ?_)
  · obtain ⟨c, _, hc⟩ := atI_ints (ns := ns) i0 (by omega)
    repeat walk_at "ob"
    refine g_ixUL (by walk_at "obl") hc ?_
    repeat walk_at "ob"
    refine g_I (show (0 : Int) < _ by decide) ?_
    repeat walk_at "ob"
    rename_i q H2 _ S2
    obtain ⟨w1, w2⟩ := own_ok (if c < 0 then -c else c) (decide ((10 : Int) ^ Int.toNat 18 ≤ (if c < 0 then -c else c)))
    exact k _ _ _ q H2 ⟨w1, w2, by omega, by omega, Int.le_refl _, Int.le_refl _⟩ S2
  · repeat walk_at "ob"
    refine g_slL S (by walk_at "obl") fun l H1 S1 => ?_
    obtain ⟨ms, hms⟩ := cut_ints ns none (some 1)
    rw [hms] at S1
    repeat walk_at "ob"
    refine g_sum (ns := ms) (by walk_at "obl") ?_
    repeat walk_at "ob"
    have S3 := S1.less
    clear S1 S
    generalize ms.sum % 1000003 + 1613 * i + 1033 = c
    refine g_I (show (0 : Int) < _ by decide) ?_
    repeat walk_at "ob"
    rename_i q H2 _ S2
    obtain ⟨w1, w2⟩ := own_ok (if c < 0 then -c else c) (decide ((10 : Int) ^ Int.toNat 18 ≤ (if c < 0 then -c else c)))
    exact k _ _ _ q H2 ⟨w1, w2, by omega, by omega, Int.le_refl _, Int.le_refl _⟩ S2
def sp_law_cells (K : Frag) : Sp := fun vs H Q E => vs.length = 2 ∧ ∃ (F : List (Addr × HO)) (G : List Ft) (a : Addr) (ns : List Int) (c : Int), vs = [.ref a, .int c] ∧ Sy K F (.sq a (ns.map V.int) :: G) H ∧ ns.length ≤ 63 ∧ 1 ≤ c ∧ c ≤ 3 ∧
  ∀ (ms : List Int) (p : Addr) H', (∀ m ∈ ms, 0 ≤ m ∧ m ≤ 2) → ms.length ≤ 3 → Sy K ((p, .lst (ms.map V.int)) :: F) (.sq a (ns.map V.int) :: G) H' → Q (.ref p) H'
abbrev names_law_cells : List Str := ["script", "most"]
theorem sc_law_cells : FnScope names_law_cells ["script", "most"] (defScope (top 42)) := ⟨rfl, rfl, rfl, by decide +kernel, rfl, by decide +kernel, by decide +kernel⟩
set_option maxHeartbeats 4000000 in
theorem ok_law_cells (T : Tx K mg) : FG P w K mg base CX0 1 T.a_law_cells T.d_law_cells ["script", "most"] (sp_law_cells K) := by
  refine OB.Fun.fg T.F_law_cells sc_law_cells (fun vs H Q E h => h.1) (fun cdv A out s H vs Q E g h => ?_)
  obtain ⟨_, F, G, a, ns, c, rfl, S, hn, c1, c2, k⟩ := h
  refine ⟨_, (pss_one (ps_ret (pe_listRg rfl (by rfl) T.n_list (prg_1 (by rfl) T.n_range (pe_callB (c_max rfl) (by rfl) T.n_max (by decide +kernel) (pa_cons pe_int (pa_cons (pe_callB (c_min rfl) (by rfl) T.n_min (by decide +kernel) (pa_cons (pv 1) (pa_cons (pe_callB (toK (r := OB.rLen) (K := K) rfl c_len) (by rfl) T.n_len PySem.boot_len (pa_cons (pv 0) pa_nil)) pa_nil))) pa_nil))))))), ?_⟩
  refine g_start (σ := [some _, some _]) rfl ?_
  have hl : (((ns.map V.int).length : Nat) : Int) = ns.length := by rw [List.length_map]
  repeat walk_at "ob"
  generalize hm : (if (if ((ns.map V.int).length : Int) < c then ((ns.map V.int).length : Int) else c) > 1 then (if ((ns.map V.int).length : Int) < c then ((ns.map V.int).length : Int) else c) else 1) = M
  have hM : 0 ≤ M ∧ M ≤ 3 := by
    subst hm
    constructor <;> (repeat' split) <;> omega
  refine g_newRg S ⟨by omega, by omega, by omega, by omega, by omega⟩ fun p H1 S1 => ?_
  rw [rgV0] at S1
  refine k _ p H1 (fun m hm => ?_) (by rw [List.length_map, List.length_range]; omega) S1
  obtain ⟨j, hj, rfl⟩ := List.mem_map.mp hm
  have := List.mem_range.mp hj
  omega
/-- the pot stands, n draws were made at most -/
def Pot (K : Frag) (F : List (Addr × HO)) (G : List Ft) (p : Addr) (n : Nat) (H : Hp) : Prop := ∃ a b c, PotOk n a b c ∧ Sy K ((p, potO a b c) :: F) G H
theorem Pot.sub {F : List (Addr × HO)} {G G' : List Ft} {p : Addr} {n m : Nat} {H : Hp} (h : Pot K F G p n H) (hn : n ≤ m) (f : ∀ H F, Sy K F G H → Sy K F G' H) : Pot K F G' p m H := by
  obtain ⟨a, b, c, o, S⟩ := h
  exact ⟨a, b, c, o.mono hn, f _ _ S⟩
theorem Pot.mono {F : List (Addr × HO)} {G : List Ft} {p : Addr} {n m : Nat} {H : Hp} (h : Pot K F G p n H) (hn : n ≤ m) : Pot K F G p m H := h.sub hn fun _ _ S => S
theorem Pot.less {F : List (Addr × HO)} {G : List Ft} {p : Addr} {n : Nat} {H : Hp} {x : Addr × HO} (h : Pot K (x :: F) G p n H) : Pot K F G p n H := by
  obtain ⟨a, b, c, o, S⟩ := h
  exact ⟨a, b, c, o, S.swap.less⟩
theorem use_takeP {F : List (Addr × HO)} {G : List Ft} {H : Hp} {Q : VK} {E : XK} {n : Nat} {p : Addr} {u : Int} (h : Pot K F G p n H) (hn : n < 1000000) (u0 : 0 < u) (u1 : u < 2 ^ 60) (k : ∀ (r : Int) (H' : Hp), 0 ≤ r → r < u → Pot K F G p (n + 1) H' → Q (.int r) H') : sp_law_take K [.ref p, .int u] H Q E := by
  obtain ⟨a, b, c, o, S⟩ := h
  exact use_take (i := 0) S rfl o hn u0 u1 fun r a' b' c' H' h1 h2 o' S' _ => k r H' h1 h2 ⟨a', b', c', o', S'⟩
/-- one of a list -/
theorem use_ofP {F : List (Addr × HO)} {G : List Ft} {H : Hp} {Q : VK} {E : XK} {n : Nat} {p q : Addr} {xs : List V} (h : Pot K ((q, .lst xs) :: F) G p n H) (hn : n < 1000000) (l0 : 0 < xs.length) (l1 : xs.length < 2000000) (k : ∀ r ∈ xs, ∀ H', Pot K ((q, .lst xs) :: F) G p (n + 1) H' → Q r H') : sp_law_of K [.ref p, .ref q] H Q E := by
  obtain ⟨a, b, c, o, S⟩ := h
  exact ⟨rfl, _, _, rfl, .inl ⟨_, G, 0, 1, q, n, xs, a, b, c, rfl, S, rfl, rfl, by decide, o, hn, l0, l1, fun r hr a' b' c' H' o' S' _ => k r hr H' ⟨a', b', c', o', S'⟩⟩⟩
/-- one sign of a text -/
theorem use_ofS {F : List (Addr × HO)} {G : List Ft} {H : Hp} {Q : VK} {E : XK} {n : Nat} {p : Addr} {l : List Nat} (h : Pot K F G p n H) (hn : n < 1000000) (l0 : 0 < l.length) (l1 : l.length < 1000) (k : ∀ z ∈ l, ∀ H', Pot K F G p (n + 1) H' → Q (.str (tx [z])) H') : sp_law_of K [.ref p, .str (tx l)] H Q E := by
  obtain ⟨a, b, c, o, S⟩ := h
  exact ⟨rfl, _, _, rfl, .inr ⟨_, G, 0, l, n, a, b, c, rfl, S, rfl, o, hn, l0, l1, fun r hr a' b' c' H' o' S' _ => k r hr H' ⟨a', b', c', o', S'⟩⟩⟩
end
end LAW

set_option Elab.async false
set_option linter.all false
set_option maxRecDepth 100000
namespace LAW
open PySem PySem.Spec PyProof.Rows L2 PySem.W OB
/-! ### values of which is asked what they are -/
inductive Av where
  | str (l : List Nat)
  | int (i : Int)
  | non
  | lst
  | dct
  | tup (xs : List Av)
mutual
def avOf : PyData → Av
  | .int i => .int i
  | .str s => .str s.cps.toList
  | .tuple xs => .tup (avsOf xs)
  | _ => .non
def avsOf : List PyData → List Av
  | [] => []
  | d :: ds => avOf d :: avsOf ds
end
mutual
def okD : PyData → Bool
  | .int _ => true
  | .str s => decide (s.cps.toList.length ≤ 1000)
  | .tuple xs => okDs xs
  | .none => true
  | _ => false
def okDs : List PyData → Bool
  | [] => true
  | d :: ds => okD d && okDs ds
end
theorem avsOf_map : ∀ ds : List PyData, avsOf ds = ds.map avOf
  | [] => rfl
  | d :: ds => by rw [avsOf, avsOf_map ds]; rfl
theorem okDs_all : ∀ {ds : List PyData}, okDs ds = true → ∀ d ∈ ds, okD d = true
  | [], _, _, h => nomatch h
  | d :: ds, h, e, he => by
    have h2 : (okD d && okDs ds) = true := h
    rw [Bool.and_eq_true] at h2
    rcases List.mem_cons.mp he with rfl | he
    · exact h2.1
    · exact okDs_all h2.2 e he
theorem okDs_of : ∀ {ds : List PyData}, (∀ d ∈ ds, okD d = true) → okDs ds = true
  | [], _ => rfl
  | d :: ds, h => by
    show (okD d && okDs ds) = true
    rw [h d (List.mem_cons_self ..), okDs_of fun e he => h e (List.mem_cons_of_mem _ he)]
    rfl
mutual
inductive AvS (F : List (Addr × HO)) (G : List Ft) : V → Av → Prop
  | str {l : List Nat} (h : l.length ≤ 1000) : AvS F G (.str (tx l)) (.str l)
  | int {i : Int} : AvS F G (.int i) (.int i)
  | non : AvS F G .non .non
  | lst {p : Addr} {xs : List V} (h : (p, HO.lst xs) ∈ F) : AvS F G (.ref p) .lst
  | dct {p : Addr} {kvs : List (Key × V)} (h : (p, HO.dK kvs) ∈ F) : AvS F G (.ref p) .dct
  | tup {p : Addr} {vs : List V} {xs : List Av} (h : Ft.tq p vs ∈ G) (h2 : AvsS F G vs xs) : AvS F G (.ref p) (.tup xs)
  | dat {vs : List V} {ds : List PyData} {i : Nat} {v : V} {d : PyData} (h : Ft.dat vs ds ∈ G) (hv : vs[i]? = some v) (hd : ds[i]? = some d) (ok : okD d = true) : AvS F G v (avOf d)
inductive AvsS (F : List (Addr × HO)) (G : List Ft) : List V → List Av → Prop
  | nil : AvsS F G [] []
  | cons {v : V} {a : Av} {vs : List V} {as : List Av} (h : AvS F G v a) (h2 : AvsS F G vs as) : AvsS F G (v :: vs) (a :: as)
end
mutual
theorem AvS.mono {F F' : List (Addr × HO)} {G G' : List Ft} (hF : ∀ q ∈ F, q ∈ F') (hG : ∀ g ∈ G, g ∈ G') : ∀ {v : V} {a : Av}, AvS F G v a → AvS F' G' v a
  | _, _, .str h => .str h
  | _, _, .int => .int
  | _, _, .non => .non
  | _, _, .lst h => .lst (hF _ h)
  | _, _, .dct h => .dct (hF _ h)
  | _, _, .tup h h2 => .tup (hG _ h) (AvsS.mono hF hG h2)
  | _, _, .dat h hv hd ok => .dat (hG _ h) hv hd ok
theorem AvsS.mono {F F' : List (Addr × HO)} {G G' : List Ft} (hF : ∀ q ∈ F, q ∈ F') (hG : ∀ g ∈ G, g ∈ G') : ∀ {v : List V} {a : List Av}, AvsS F G v a → AvsS F' G' v a
  | _, _, .nil => .nil
  | _, _, .cons h h2 => .cons (AvS.mono hF hG h) (AvsS.mono hF hG h2)
end
theorem AvsS.len {F : List (Addr × HO)} {G : List Ft} : ∀ {vs : List V} {as : List Av}, AvsS F G vs as → vs.length = as.length
  | _, _, .nil => rfl
  | _, _, .cons _ h => by rw [List.length_cons, List.length_cons, AvsS.len h]
theorem AvsS.get {F : List (Addr × HO)} {G : List Ft} : ∀ {vs : List V} {as : List Av} {i : Nat} {v : V}, AvsS F G vs as → vs[i]? = some v → ∃ a, as[i]? = some a ∧ AvS F G v a
  | _, _, 0, _, .cons h _, e => by
    cases e
    exact ⟨_, rfl, h⟩
  | _, _, i + 1, _, .cons _ h, e => AvsS.get (i := i) h e
theorem avs_dat {F : List (Addr × HO)} {G : List Ft} {xs : List V} {es : List PyData} (h : Ft.dat xs es ∈ G) (hl : xs.length = es.length) (ok : okDs es = true) : AvsS F G xs (es.map avOf) := by
  have key : ∀ (ys : List V) (fs : List PyData) (k : Nat), xs.drop k = ys → es.drop k = fs → AvsS F G ys (fs.map avOf) := by
    intro ys
    induction ys with
    | nil =>
      intro fs k h1 h2
      have : fs = [] := by
        have e1 := congrArg List.length h1
        have e2 := congrArg List.length h2
        rw [List.length_drop] at e1 e2
        rw [hl, e2] at e1
        exact List.length_eq_zero_iff.mp e1
      rw [this]
      exact .nil
    | cons y ys ih =>
      intro fs k h1 h2
      cases fs with
      | nil =>
        have e1 := congrArg List.length h1
        have e2 := congrArg List.length h2
        rw [List.length_drop] at e1 e2
        rw [hl, e2] at e1
        cases e1
      | cons f fs =>
        have g1 : xs[k]? = some y := by
          have := congrArg (fun l : List V => l[0]?) h1
          rw [List.getElem?_drop] at this
          exact this
        have g2 : es[k]? = some f := by
          have := congrArg (fun l : List PyData => l[0]?) h2
          rw [List.getElem?_drop] at this
          exact this
        refine .cons (.dat h g1 g2 (okDs_all ok f (List.mem_of_getElem? g2))) (ih fs (k + 1) ?_ ?_)
        · rw [← List.drop_drop, h1]
          rfl
        · rw [← List.drop_drop, h2]
          rfl
  exact key xs es 0 rfl rfl
section
variable {K : Frag} {F : List (Addr × HO)} {G : List Ft} {H : Hp} {v : V}
theorem AvS.strE {l : List Nat} (S : Sy K F G H) (h : AvS F G v (.str l)) : v = .str (tx l) ∧ l.length ≤ 1000 := by
  generalize e : Av.str l = a at h
  cases h with
  | str h => cases e; exact ⟨rfl, h⟩
  | @dat vs ds i _ d h hv hd ok =>
    obtain ⟨hd2, _⟩ := S.ft _ h
    obtain ⟨d2, e1, e2⟩ := dps_get hd2 hv
    rw [hd] at e1
    cases e1
    cases d <;> simp [avOf] at e
    rename_i s
    subst e
    rw [dp_str e2, tx_of]
    exact ⟨rfl, of_decide_eq_true ok⟩
  | _ => cases e
theorem AvS.intE {i : Int} (S : Sy K F G H) (h : AvS F G v (.int i)) : v = .int i := by
  generalize e : Av.int i = a at h
  cases h with
  | int => cases e; rfl
  | @dat vs ds i _ d h hv hd ok =>
    obtain ⟨hd2, _⟩ := S.ft _ h
    obtain ⟨d2, e1, e2⟩ := dps_get hd2 hv
    rw [hd] at e1
    cases e1
    cases d <;> simp [avOf] at e
    subst e
    exact dp_int e2
  | _ => cases e
theorem AvS.nonE (S : Sy K F G H) (h : AvS F G v .non) : v = .non := by
  generalize e : Av.non = a at h
  cases h with
  | non => rfl
  | @dat vs ds i _ d h hv hd ok =>
    obtain ⟨hd2, _⟩ := S.ft _ h
    obtain ⟨d2, e1, e2⟩ := dps_get hd2 hv
    rw [hd] at e1
    cases e1
    cases d with
    | none => cases e2; rfl
    | bool b => exact absurd ok (by simp [okD])
    | list xs => exact absurd ok (by simp [okD])
    | dict xs => exact absurd ok (by simp [okD])
    | _ => simp [avOf] at e
  | _ => cases e
theorem AvS.lstE (S : Sy K F G H) (h : AvS F G v .lst) : ∃ p xs, v = .ref p ∧ (p, HO.lst xs) ∈ F := by
  generalize e : Av.lst = a at h
  cases h with
  | lst h => exact ⟨_, _, rfl, h⟩
  | @dat vs ds i _ d h hv hd ok =>
    cases d <;> simp [avOf] at e
  | _ => cases e
theorem AvS.dctE (S : Sy K F G H) (h : AvS F G v .dct) : ∃ p kvs, v = .ref p ∧ (p, HO.dK kvs) ∈ F := by
  generalize e : Av.dct = a at h
  cases h with
  | dct h => exact ⟨_, _, rfl, h⟩
  | @dat vs ds i _ d h hv hd ok =>
    cases d <;> simp [avOf] at e
  | _ => cases e
/-- a tuple and what it holds -/
theorem AvS.tupE {as : List Av} (S : Sy K F G H) (h : AvS F G v (.tup as)) : ∃ p vs L, v = .ref p ∧ Sy K F (L ++ G) H ∧ Ft.tq p vs ∈ L ++ G ∧ AvsS F (L ++ G) vs as := by
  generalize e : Av.tup as = a at h
  cases h with
  | tup h h2 =>
    cases e
    exact ⟨_, _, [], rfl, S, h, h2⟩
  | @dat vs ds i _ d h hv hd ok =>
    obtain ⟨hd2, hi⟩ := S.ft _ h
    obtain ⟨d2, e1, e2⟩ := dps_get hd2 hv
    have hd3 := hd
    rw [hd] at e1
    cases e1
    cases d <;> simp [avOf] at e
    rename_i es
    subst e
    have hm : immAll es = true := immAll_mem hi _ (List.mem_of_getElem? hd3)
    obtain ⟨p, xs, rfl, S2⟩ := S.opn e2 hm
    refine ⟨p, xs, [.tq p xs, .dat xs es], rfl, S2, List.mem_cons_self .., ?_⟩
    rw [avsOf_map]
    exact avs_dat (List.mem_cons_of_mem _ (List.mem_cons_self ..)) (dps_length (S2.dps 1 rfl)) ok
  | _ => cases e
/-! what they are not -/
def IsiF (K : Frag) (H : Hp) (v : V) (T : String) : Prop := ∀ Q : VK, Q (.bl false) H → rIsi K [v, .ty T] H Q
def IsiT (K : Frag) (H : Hp) (v : V) (T : String) : Prop := ∀ Q : VK, Q (.bl true) H → rIsi K [v, .ty T] H Q
theorem AvS.tupT {as : List Av} (S : Sy K F G H) (h : AvS F G v (.tup as)) : IsiT K H v "tuple" := by
  obtain ⟨p, vs, L, rfl, S2, h2, _⟩ := h.tupE S
  exact fun Q k => isi_tup (S2.ft _ h2) k
theorem isi_tupS {l : Addr} {xs : List V} (h : SqT K H l xs) : IsiF K H (.ref l) "str" := fun Q k => by
  refine ⟨_, _, .type "tuple", _, false, rfl, .ty "str", ?_, kit_ty (by decide +kernel), k⟩
  rcases h with (h | ⟨o, h⟩) | ⟨o, its, n, e, c, _⟩
  · exact .base (.tup h)
  · exact .fTuple h
  · exact .kTuple e c
theorem AvS.tupS {as : List Av} (S : Sy K F G H) (h : AvS F G v (.tup as)) : IsiF K H v "str" := by
  obtain ⟨p, vs, L, rfl, S2, h2, _⟩ := h.tupE S
  exact isi_tupS (S2.ft _ h2)
theorem AvS.strS {l : List Nat} (S : Sy K F G H) (h : AvS F G v (.str l)) : IsiT K H v "str" := by
  obtain ⟨rfl, _⟩ := h.strE S
  exact fun Q k => ⟨_, _, _, _, true, rfl, .ty "str", .base (.str _), kit_ty (by decide +kernel), k⟩
theorem AvS.strT {l : List Nat} (S : Sy K F G H) (h : AvS F G v (.str l)) : IsiF K H v "tuple" := by
  obtain ⟨rfl, _⟩ := h.strE S
  exact fun Q k => ⟨_, _, _, _, false, rfl, .ty "tuple", .base (.str _), kit_ty (by decide +kernel), k⟩
/-- neither a text nor a tuple -/
def noK : Av → Bool
  | .str _ => false
  | .tup _ => false
  | _ => true
theorem AvS.noS {a : Av} (S : Sy K F G H) (h : AvS F G v a) (hn : noK a = true) : IsiF K H v "str" := by
  cases a with
  | str _ => cases hn
  | tup _ => cases hn
  | int i =>
    rw [h.intE S]
    exact fun Q k => ⟨_, _, _, _, false, rfl, .ty "str", .base (.int _), kit_ty (by decide +kernel), k⟩
  | non =>
    rw [h.nonE S]
    exact fun Q k => ⟨_, _, _, _, false, rfl, .ty "str", .base .non, kit_ty (by decide +kernel), k⟩
  | lst =>
    obtain ⟨p, xs, rfl, hp⟩ := h.lstE S
    exact fun Q k => ⟨_, _, _, _, false, rfl, .ty "str", .base (.lst (S.st _ hp)), kit_ty (by decide +kernel), k⟩
  | dct =>
    obtain ⟨p, xs, rfl, hp⟩ := h.dctE S
    exact fun Q k => ⟨_, _, _, _, false, rfl, .ty "str", .base (.dK (S.st _ hp)), kit_ty (by decide +kernel), k⟩
theorem AvS.noT {a : Av} (S : Sy K F G H) (h : AvS F G v a) (hn : noK a = true) : IsiF K H v "tuple" := by
  cases a with
  | str _ => cases hn
  | tup _ => cases hn
  | int i =>
    rw [h.intE S]
    exact fun Q k => ⟨_, _, _, _, false, rfl, .ty "tuple", .base (.int _), kit_ty (by decide +kernel), k⟩
  | non =>
    rw [h.nonE S]
    exact fun Q k => ⟨_, _, _, _, false, rfl, .ty "tuple", .base .non, kit_ty (by decide +kernel), k⟩
  | lst =>
    obtain ⟨p, xs, rfl, hp⟩ := h.lstE S
    exact fun Q k => ⟨_, _, _, _, false, rfl, .ty "tuple", .base (.lst (S.st _ hp)), kit_ty (by decide +kernel), k⟩
  | dct =>
    obtain ⟨p, xs, rfl, hp⟩ := h.dctE S
    exact fun Q k => ⟨_, _, _, _, false, rfl, .ty "tuple", .base (.dK (S.st _ hp)), kit_ty (by decide +kernel), k⟩
end
section
variable {K : Frag} {F : List (Addr × HO)} {G : List Ft} {H : Hp} {v : V}
theorem AvS.notS {a : Av} (S : Sy K F G H) (h : AvS F G v a) (hn : ∀ l, a ≠ .str l) : IsiF K H v "str" := by
  cases a with
  | str l => exact absurd rfl (hn l)
  | tup _ => exact h.tupS S
  | int _ => exact h.noS S rfl
  | non => exact h.noS S rfl
  | lst => exact h.noS S rfl
  | dct => exact h.noS S rfl
theorem AvS.notT {a : Av} (S : Sy K F G H) (h : AvS F G v a) (hn : ∀ l, a ≠ .tup l) : IsiF K H v "tuple" := by
  cases a with
  | tup l => exact absurd rfl (hn l)
  | str _ => exact h.strT S
  | int _ => exact h.noT S rfl
  | non => exact h.noT S rfl
  | lst => exact h.noT S rfl
  | dct => exact h.noT S rfl
theorem bls {vs : List V} {bs : List Bool} (h : DpAll K H vs (bs.map PyData.bool)) : vs = bs.map V.bl := by
  rw [dps_scal h fun d hd => by
    obtain ⟨s, _, rfl⟩ := List.mem_map.mp hd
    rfl, List.map_map]
  rfl
end
/-! ### names, lines, files, deeds -/
def nmB (l : List Nat) : Bool := decide (1 ≤ l.length ∧ l.length ≤ 8) && l.all fun c => decide (97 ≤ c ∧ c ≤ 122)
def isNameA : Av → Bool
  | .str l => nmB l
  | _ => false
def lnB (l : List Nat) : Bool := decide (1 ≤ l.length ∧ l.length ≤ 200) && (Txt.isascii (tx l) && Txt.isprintable (tx l))
def isLineA : Av → Bool
  | .str l => lnB l
  | _ => false
def areLinesA : Av → Bool
  | .tup xs => decide (xs.length ≤ 20000) && xs.all isLineA
  | _ => false
def isKeptA : Av → Bool
  | .str l => l.isEmpty || lnB l
  | _ => false
def isFileA : Av → Bool
  | .tup [a, .tup xs] => isNameA a && (decide (xs.length ≤ 20000) && xs.all isKeptA)
  | _ => false
def nmOf : Av → List Nat
  | .tup (.str l :: _) => l
  | _ => []
def upA : List Av → Bool
  | a :: b :: r => decide (nmOf a < nmOf b) && upA (b :: r)
  | _ => true
def areFilesA : Av → Bool
  | .tup xs => decide (xs.length ≤ 40) && (xs.all isFileA && upA xs)
  | _ => false
end LAW

set_option Elab.async false
set_option linter.all false
set_option maxRecDepth 100000
namespace LAW
open PySem PySem.Spec PyProof.Rows L2 PySem.W OB
local macro_rules | `(tactic| walk_at "obc") => `(tactic| first
  | exact Or.inl ⟨by omega, by omega⟩
  | exact Or.inr ⟨by omega, by omega⟩
  | exact cdiv_ok (by omega) (by omega)
  | (show (0 : Int) < _; omega)
  | exact ⟨by omega, by decide⟩
  | exact ⟨by decide, by decide⟩)
local macro_rules | `(tactic| walk_at "obat") => `(tactic| first
  | exact Sy.at (by assumption) 0 rfl | exact Sy.at (by assumption) 1 rfl | exact Sy.at (by assumption) 2 rfl | exact Sy.at (by assumption) 3 rfl
  | exact Sy.at (by assumption) 4 rfl | exact Sy.at (by assumption) 5 rfl | exact Sy.at (by assumption) 6 rfl | exact Sy.at (by assumption) _ (by assumption) | exact Sy.at (by assumption) (_ + 1) (by assumption) | exact Sy.at (by assumption) (_ + 2) (by assumption))
local macro_rules | `(tactic| walk_at "obt") => `(tactic| first
  | exact Sy.tqs (by assumption) 0 rfl | exact Sy.tqs (by assumption) 1 rfl | exact Sy.tqs (by assumption) 2 rfl | exact Sy.tqs (by assumption) 3 rfl | exact Sy.tqs (by assumption) 4 rfl | exact Sy.tqs (by assumption) 5 rfl
  | exact Sy.tqs (by assumption) 6 rfl | exact Sy.tqs (by assumption) 7 rfl | assumption)
local macro_rules | `(tactic| walk_at "obl") => `(tactic| first
  | exact SqL.of (by walk_at "obat")
  | exact Sy.sq (by assumption) 0 rfl | exact Sy.sq (by assumption) 1 rfl | exact Sy.sq (by assumption) 2 rfl | exact Sy.sq (by assumption) 3 rfl | exact Sy.sq (by assumption) _ (by assumption))
local macro_rules | `(tactic| walk_at "obd") => `(tactic| first
  | exact Dp.int _ | exact Dp.bl _ | exact Dp.str _ | exact Dp.non
  | exact Sy.dp (by assumption) 0 rfl | exact Sy.dp (by assumption) 1 rfl | exact Sy.dp (by assumption) 2 rfl | exact Sy.dp (by assumption) 3 rfl
  | exact Sy.dp (by assumption) 4 rfl | exact Sy.dp (by assumption) 5 rfl | exact Sy.dp (by assumption) 6 rfl | exact Sy.dp (by assumption) 7 rfl
  | exact Sy.dp (by assumption) 8 rfl | exact Sy.dp (by assumption) 9 rfl | exact Sy.dp (by assumption) _ (by assumption) | assumption)
local macro_rules | `(tactic| walk_at "obds") => `(tactic| first
  | exact DpAll.nil
  | (refine' DpAll.cons ?ob1 ?ob2; (case ob1 => walk_at "obd"); (case ob2 => walk_at "obds"))
  | exact Sy.dps (by assumption) 0 rfl | exact Sy.dps (by assumption) 1 rfl | exact Sy.dps (by assumption) 2 rfl | exact Sy.dps (by assumption) 3 rfl | assumption)
local macro_rules | `(tactic| walk_at "obsc") => `(tactic| first
  | exact ScL.nil
  | ((first | refine' ScL.int ?obz | refine' ScL.str ?obz | refine' ScL.bl ?obz | refine' ScL.non ?obz); (case obz => walk_at "obsc")))
local macro_rules | `(tactic| walk_at "ob1") => `(tactic| first
  | ((with_reducible refine' g_var ?obh ?_); (case obh => rfl))
  | with_reducible refine g_c ?_
  | with_reducible refine g_nx ?_
  | with_reducible refine g_rt ?_
  | with_reducible refine g_bk ?_
  | with_reducible refine g_ct ?_
  | with_reducible refine g_op ?_
  | with_reducible refine g_I0 ?_
  | with_reducible refine g_test ?_
  | with_reducible refine g_bl ?_
  | with_reducible refine g_blx ?_
  | with_reducible refine g_B ?_
  | with_reducible refine g_seq ?_
  | with_reducible refine g_asg ?_
  | with_reducible refine g_name ?_
  | with_reducible refine g_ifS ?_
  | with_reducible refine g_ret ?_
  | with_reducible refine g_cb ?_
  | with_reducible refine g_cons ?_
  | with_reducible refine g_nil ?_
  | with_reducible refine g_int ?_
  | with_reducible refine g_intB ?_
  | with_reducible refine g_abs ?_
  | with_reducible refine g_max ?_
  | with_reducible refine g_min ?_
  | with_reducible refine g_un ?_
  | with_reducible refine g_U ?_
  | with_reducible refine g_eqI ?_
  | with_reducible refine g_neI ?_
  | with_reducible refine g_eqS ?_
  | with_reducible refine g_neS ?_
  | with_reducible refine g_tt ?_
  | with_reducible refine g_ff ?_
  | with_reducible refine g_next ?_
  | with_reducible refine g_drop ?_
  | with_reducible refine g_if ?_
  | with_reducible refine g_andV ?_
  | with_reducible refine g_orV ?_
  | with_reducible refine g_notV ?_
  | with_reducible refine g_and ?_
  | with_reducible refine g_or ?_
  | with_reducible refine g_not ?_
  | with_reducible refine g_yes ?_
  | with_reducible refine g_chain ?_
  | with_reducible refine g_cg ?_
  | with_reducible refine g_mg ?_
  | with_reducible refine g_kg ?_
  | with_reducible refine g_pg ?_
  | ((with_reducible refine' g_call ?obh ?obj ?_); (case obh => rfl); (case obj => rfl))
  | with_reducible refine g_par ?_
  | with_reducible refine g_par2 ?_
  | with_reducible refine g_par3 ?_
  | with_reducible refine g_par33 ?_
  | with_reducible refine g_gnil ?_
  | with_reducible refine g_gcons ?_
  | with_reducible refine g_gsub ?_
  | with_reducible refine g_ipI ?_
  | with_reducible refine g_rAdd ?_
  | with_reducible refine g_rSub ?_
  | ((with_reducible refine' g_aug ?obh ?_); (case obh => rfl))
  | with_reducible refine g_tup ?_
  | with_reducible refine g_lst ?_
  | with_reducible refine g_bm ?_
  | with_reducible refine g_bm0 ?_
  | with_reducible refine g_sl ?_
  | with_reducible refine g_nopart ?_
  | with_reducible refine g_part ?_
  | with_reducible refine g_pint ?_
  | with_reducible refine isi_int ?_
  | with_reducible refine isi_intB ?_
  | ((with_reducible refine' g_I ?obh ?_); (case obh => walk_at "obc"))
  | ((with_reducible refine' g_tyl ?obh ?_); (case obh => walk_at "obl"))
  | ((with_reducible refine' g_lenL ?obh ?_); (case obh => walk_at "obl"))
  | with_reducible refine g_ne ?_
  | ((with_reducible refine' g_neN' ?obh ?_); (case obh => rfl))
  | with_reducible refine g_ntt ?_
  | with_reducible refine g_nff ?_
  | with_reducible refine g_star ?_
  | with_reducible refine g_att ?_
  | with_reducible refine g_sfld ?_
  | with_reducible refine g_faug ?_
  | with_reducible refine g_fld ?_
  | ((with_reducible refine' g_nF ?obh ?_); (case obh => omega))
  | ((with_reducible refine' g_nT ?obh ?_); (case obh => omega))
  | ((with_reducible refine' g_TD ?obh ?_); (case obh => omega))
  | ((with_reducible refine' g_FD ?obh ?_); (case obh => omega))
  | ((with_reducible refine' g_ixUL ?obh ?obi ?_); (case obh => walk_at "obl"); (case obi => exact atI_nn (by omega) (by rfl)))
  | ((with_reducible refine' g_setLS ?obs ?obh ?obi ?_); (case obs => assumption); (case obh => assumption); (case obi => rfl); intro _ _ _)
  | ((with_reducible refine' g_newT ?obs ?obh ?obi ?obj ?_); (case obs => assumption); (case obh => walk_at "obds"); (case obi => rfl); (case obj => exact Nat.le_of_ble_eq_true rfl); intro _ _ _ _)
  | ((with_reducible refine' g_newL ?obs ?obj ?_); (case obs => assumption); (case obj => exact Nat.le_of_ble_eq_true rfl); intro _ _ _ _)
  | ((with_reducible refine' isi_tup ?obh ?_); (case obh => walk_at "obt"))
  | ((with_reducible refine' g_lenT ?obh ?_); (case obh => walk_at "obt"))
  | ((with_reducible refine' g_unpT ?obh ?obi ?_); (case obh => walk_at "obt"); (case obi => rfl))
  | ((with_reducible refine' g_divmod ?obs ?obh ?_); (case obs => assumption); (case obh => exact cdivp_ok (by omega) (by omega) (by omega)); intro _ _ _ _)
  | ((with_reducible refine' g_unpD ?obh ?obi ?obj ?_); (case obh => walk_at "obd"); (case obi => walk_at "obsc"); (case obj => rfl))
  | with_reducible refine g_att ?_)
local macro_rules | `(tactic| walk_at "ob") => `(tactic| first
  | walk_at "ob1"
  | refine use_is_integer ?_
  | refine use_is_within ?_
  | with_reducible refine g_lstRg ?_
  | with_reducible refine g_rg1 ?_
  | with_reducible refine g_rg2 ?_
  | with_reducible refine g_tTru ?_
  | ((with_reducible refine' g_truL ?obh ?_); (case obh => walk_at "obl"))
  | ((with_reducible refine' g_ixUT ?obh ?obi ?_); (case obh => walk_at "obt"); (case obi => rfl))
  | with_reducible refine g_forZ ?_
  | with_reducible refine g_forR2 ?_
  | with_reducible refine g_forE ?_
  | with_reducible refine g_lcZ ?_)
section
variable {P : Program} {w : World} {K : Frag} {mg : Str → Option Value} {base : Heap}
theorem letters_eq : ("abcdefghijklmnopqrstuvwxyz" : Str).cps.toList = List.range' 97 26 := by decide +kernel
theorem in_letters (c : Nat) : decide (c ∈ ("abcdefghijklmnopqrstuvwxyz" : Str).cps.toList) = decide (97 ≤ c ∧ c ≤ 122) := by
  rw [decide_eq_decide, letters_eq, List.mem_range'_1]
  omega
def sp_is_name (K : Frag) : Sp := fun vs H Q E => vs.length = 1 ∧ ∃ (F : List (Addr × HO)) (G : List Ft) (v : V) (a : Av), vs = [v] ∧ Sy K F G H ∧ AvS F G v a ∧ ∀ H', Sy K F G H' → Q (.bl (isNameA a)) H'
abbrev names_is_name : List Str := ["value", "letter"]
theorem sc_is_name : FnScope names_is_name ["value"] (defScope (top 12)) := ⟨rfl, rfl, rfl, by decide +kernel, rfl, by decide +kernel, by decide +kernel⟩
set_option maxHeartbeats 4000000 in
theorem ok_is_name (T : Tx K mg) : FG P w K mg base CX0 1 T.a_is_name T.d_is_name ["value"] (sp_is_name K) := by
  refine OB.Fun.fg T.F_is_name sc_is_name (fun vs H Q E h => h.1) (fun cdv A out s H vs Q E g h => ?_)
  obtain ⟨_, F, G, v, a, rfl, S, hv, k⟩ := h
  refine ⟨_, (pss_cons (ps_if (PW.pt (pw_or (pt_not (pt_val (pe_callB (toK (r := rIsi) (K := K) rfl call_isi) (by rfl) T.n_isinstance (by decide +kernel) (pa_cons (pv 0) (pa_cons (pe_bltn (v := .ty "str") (by rfl) T.n_str (by decide +kernel) rfl) pa_nil))))) (pw_or1 (pt_not (pt_chain op_le op_le pe_int (pe_callB c_lenS (by rfl) T.n_len PySem.boot_len (pa_cons (pv 0) pa_nil)) (pe_glob (v := .int 8) (by rfl) T.g_MOST_LETTERS ⟨_, rfl⟩)))))) (pss_one (ps_ret pe_bl)) pss_nil)
      (pss_one (ps_ret (pe_callB (toK (r := rAll) (K := K) rfl (cr_all rfl)) (by rfl) T.n_all (by decide +kernel) (pa_cons (pe_lc (own := [("letter", 1)]) (tt := tYes) rfl sc_is_name.nd (pi_str (pv 0)) (blkOk_by (N := names_is_name) (sc := defScope (top 12)) (own := [("letter", 1)]) (by decide +kernel)) (fun _ _ _ _ _ => (pg_name (i := 1) sc_is_name.nd rfl (by first | exact Or.inl rfl | exact Or.inr rfl))) (fun _ _ _ _ _ => pts_nil) (fun _ _ _ _ _ => (pe_cmpR op_inS (pv 1) (pe_glob (v := .str "abcdefghijklmnopqrstuvwxyz") (by rfl) T.g_LETTERS ⟨_, rfl⟩) (by rfl)))) pa_nil))))), ?_⟩
  refine g_start (σ := [some _, none]) rfl ?_
  by_cases hs : ∃ l, a = .str l
  · obtain ⟨l, rfl⟩ := hs
    have hT := hv.strS S
    obtain ⟨rfl, hl⟩ := hv.strE S
    have kF : ¬ (1 ≤ l.length ∧ l.length ≤ 8) → isNameA (.str l) = false := fun h => by
      show (decide (1 ≤ l.length ∧ l.length ≤ 8) && _) = false
      rw [decide_eq_false h]
      rfl
    by_cases c1 : 1 ≤ l.length
    · by_cases c2 : l.length ≤ 8
      · repeat walk_at "ob"
        refine hT _ ?_
        repeat walk_at "ob"
        refine g_lnS (l := l) (by omega) ?_
        repeat walk_at "ob"
        refine g_lcStr (l := l) (fun i F' ds => F' = F ∧ ds = ((l.take i).map fun c => decide (97 ≤ c ∧ c ≤ 122)).map PyData.bool) S (fun Q' q => by repeat walk_at "ob"; exact q) ⟨rfl, rfl⟩ (fun i F' ds hi => by
          rw [hi.2, List.length_map, List.length_map, List.length_take]
          omega) ?_ ?_
        · intro i c hc Dp H2 F2 vs ds QE QR hi S3 kE kR
          obtain ⟨rfl, rfl⟩ := hi
          repeat walk_at "ob"
          refine ⟨rfl, ?_⟩
          repeat walk_at "ob"
          refine ⟨c, _, rfl, rfl, ?_⟩
          rw [in_letters c]
          refine kE _ (.bool (decide (97 ≤ c ∧ c ≤ 122))) _ _ ⟨rfl, ?_⟩ (S3.fact (dps_one (L2.Dp.bl _)) rfl)
          rw [List.take_add_one, hc, List.map_append, List.map_append]
          rfl
        · rintro Dp H2 F2 vs ds hD ⟨rfl, rfl⟩ S3
          rw [List.take_length] at S3
          have hv := bls (S3.dps 0 rfl)
          subst hv
          repeat walk_at "ob"
          refine g_all (by walk_at "obl") ?_
          have e : ((l.map fun c => decide (97 ≤ c ∧ c ≤ 122)).all id) = isNameA (.str l) := by
            show _ = (decide (1 ≤ l.length ∧ l.length ≤ 8) && _)
            rw [decide_eq_true ⟨c1, c2⟩, Bool.true_and, List.all_map]
            rfl
          rw [e]
          exact k _ S3.drop.less
      · repeat walk_at "ob"
        refine hT _ ?_
        repeat walk_at "ob"
        refine g_lnS (l := l) (by omega) ?_
        repeat walk_at "ob"
        exact kF (fun h => c2 h.2) ▸ k _ S
    · repeat walk_at "ob"
      refine hT _ ?_
      repeat walk_at "ob"
      refine g_lnS (l := l) (by omega) ?_
      repeat walk_at "ob"
      exact kF (fun h => c1 h.1) ▸ k _ S
  · have hF := hv.notS S fun l e => hs ⟨l, e⟩
    repeat walk_at "ob"
    refine hF _ ?_
    repeat walk_at "ob"
    have e : isNameA a = false := by
      cases a with
      | str l => exact absurd ⟨l, rfl⟩ hs
      | _ => rfl
    exact e ▸ k _ S
theorem use_is_name {F : List (Addr × HO)} {G : List Ft} {H : Hp} {Q : VK} {E : XK} {v : V} {a : Av} (S : Sy K F G H) (h : AvS F G v a) (k : ∀ H', Sy K F G H' → Q (.bl (isNameA a)) H') : sp_is_name K [v] H Q E := ⟨rfl, F, G, v, a, rfl, S, h, k⟩
theorem g_tys {R : Prop} {H : Hp} {z : Str} (k : R) : tyV K "str" (.str z) H ∧ R := ⟨rfl, k⟩
def sp_is_line (K : Frag) : Sp := fun vs H Q E => vs.length = 1 ∧ ∃ (F : List (Addr × HO)) (G : List Ft) (v : V) (a : Av), vs = [v] ∧ Sy K F G H ∧ AvS F G v a ∧ ∀ H', Sy K F G H' → Q (.bl (isLineA a)) H'
abbrev names_is_line : List Str := ["value"]
theorem sc_is_line : FnScope names_is_line ["value"] (defScope (top 24)) := ⟨rfl, rfl, rfl, by decide +kernel, rfl, by decide +kernel, by decide +kernel⟩
set_option maxHeartbeats 4000000 in
theorem ok_is_line (T : Tx K mg) : FG P w K mg base CX0 1 T.a_is_line T.d_is_line ["value"] (sp_is_line K) := by
  refine OB.Fun.fg T.F_is_line sc_is_line (fun vs H Q E h => h.1) (fun cdv A out s H vs Q E g h => ?_)
  obtain ⟨_, F, G, v, a, rfl, S, hv, k⟩ := h
  refine ⟨_, (pss_cons (ps_if (PW.pt (pw_or (pt_not (pt_val (pe_callB (toK (r := rIsi) (K := K) rfl call_isi) (by rfl) T.n_isinstance (by decide +kernel) (pa_cons (pv 0) (pa_cons (pe_bltn (v := .ty "str") (by rfl) T.n_str (by decide +kernel) rfl) pa_nil))))) (pw_or1 (pt_not (pt_chain op_le op_le pe_int (pe_callB c_lenS (by rfl) T.n_len PySem.boot_len (pa_cons (pv 0) pa_nil)) (pe_glob (v := .int 200) (by rfl) T.g_MOST_SIGNS ⟨_, rfl⟩)))))) (pss_one (ps_ret pe_bl)) pss_nil)
      (pss_one (ps_ret (pe_and (pe_bm0 PySem.F.plainAttrs_str PySem.F.slot_str_isascii PySem.F.type_str_isascii mt_isascii (pv 0)) (pe_one (pe_bm0 PySem.F.plainAttrs_str PySem.F.slot_str_isprintable PySem.F.type_str_isprintable mt_isprintable (pv 0))))))), ?_⟩
  refine g_start (σ := [some _]) rfl ?_
  by_cases hs : ∃ l, a = .str l
  · obtain ⟨l, rfl⟩ := hs
    have hT := hv.strS S
    obtain ⟨rfl, hl⟩ := hv.strE S
    have kF : ¬ (1 ≤ l.length ∧ l.length ≤ 200) → isLineA (.str l) = false := fun h => by
      show (decide (1 ≤ l.length ∧ l.length ≤ 200) && _) = false
      rw [decide_eq_false h]
      rfl
    by_cases c1 : 1 ≤ l.length
    · by_cases c2 : l.length ≤ 200
      · have e : isLineA (.str l) = (Txt.isascii (tx l) && Txt.isprintable (tx l)) := by
          show (decide (1 ≤ l.length ∧ l.length ≤ 200) && _) = _
          rw [decide_eq_true ⟨c1, c2⟩, Bool.true_and]
        rw [e] at k
        repeat walk_at "ob"
        refine hT _ ?_
        repeat walk_at "ob"
        refine g_lnS (l := l) (by omega) ?_
        repeat walk_at "ob"
        refine g_tys ⟨tx l, rfl, rfl, trivial, ?_⟩
        cases ha : Txt.isascii (tx l) with
        | false =>
          rw [ha] at k
          repeat walk_at "ob"
          exact k _ S
        | true =>
          rw [ha] at k
          repeat walk_at "ob"
          refine g_tys ⟨tx l, rfl, rfl, trivial, ?_⟩
          exact k _ S
      · repeat walk_at "ob"
        refine hT _ ?_
        repeat walk_at "ob"
        refine g_lnS (l := l) (by omega) ?_
        repeat walk_at "ob"
        exact kF (fun h => c2 h.2) ▸ k _ S
    · repeat walk_at "ob"
      refine hT _ ?_
      repeat walk_at "ob"
      refine g_lnS (l := l) (by omega) ?_
      repeat walk_at "ob"
      exact kF (fun h => c1 h.1) ▸ k _ S
  · have hF := hv.notS S fun l e => hs ⟨l, e⟩
    repeat walk_at "ob"
    refine hF _ ?_
    repeat walk_at "ob"
    have e : isLineA a = false := by
      cases a with
      | str l => exact absurd ⟨l, rfl⟩ hs
      | _ => rfl
    exact e ▸ k _ S
theorem use_is_line {F : List (Addr × HO)} {G : List Ft} {H : Hp} {Q : VK} {E : XK} {v : V} {a : Av} (S : Sy K F G H) (h : AvS F G v a) (k : ∀ H', Sy K F G H' → Q (.bl (isLineA a)) H') : sp_is_line K [v] H Q E := ⟨rfl, F, G, v, a, rfl, S, h, k⟩
def sp_are_lines (K : Frag) : Sp := fun vs H Q E => vs.length = 1 ∧ ∃ (F : List (Addr × HO)) (G : List Ft) (v : V) (a : Av), vs = [v] ∧ Sy K F G H ∧ AvS F G v a ∧ (∀ as, a = .tup as → as.length ≤ 1000) ∧ ∀ H', Sy K F G H' → Q (.bl (areLinesA a)) H'
abbrev names_are_lines : List Str := ["value", "line"]
theorem sc_are_lines : FnScope names_are_lines ["value"] (defScope (top 25)) := ⟨rfl, rfl, rfl, by decide +kernel, rfl, by decide +kernel, by decide +kernel⟩
set_option maxHeartbeats 4000000 in
theorem ok_are_lines (T : Tx K mg) : FG P w K mg base CX0 2 T.a_are_lines T.d_are_lines ["value"] (sp_are_lines K) := by
  refine OB.Fun.fg T.F_are_lines sc_are_lines (fun vs H Q E h => h.1) (fun cdv A out s H vs Q E g h => ?_)
  obtain ⟨_, F, G, v, a, rfl, S, hv, hm, k⟩ := h
  refine ⟨_, (pss_one (ps_ret (pe_and (pe_callB (toK (r := rIsi) (K := K) rfl call_isi) (by rfl) T.n_isinstance (by decide +kernel) (pa_cons (pv 0) (pa_cons (pe_bltn (v := .ty "tuple") (by rfl) T.n_tuple (by decide +kernel) rfl) pa_nil))) (pe_and (pe_cmpR op_le (pe_callB (toK (r := OB.rLen) (K := K) rfl c_len) (by rfl) T.n_len PySem.boot_len (pa_cons (pv 0) pa_nil)) (pe_glob (v := .int 20000) (by rfl) T.g_MOST_LINES ⟨_, rfl⟩) (nomark _)) (pe_one (pe_callB (toK (r := rAll) (K := K) rfl (cr_all rfl)) (by rfl) T.n_all (by decide +kernel) (pa_cons (pe_lc (own := [("line", 1)]) (tt := tYes) rfl sc_are_lines.nd (pi_seq (pv 0)) (blkOk_by (N := names_are_lines) (sc := defScope (top 25)) (own := [("line", 1)]) (by decide +kernel)) (fun _ _ _ _ _ => (pg_name (i := 1) sc_are_lines.nd rfl (by first | exact Or.inl rfl | exact Or.inr rfl))) (fun _ _ _ _ _ => pts_nil) (fun _ _ _ _ _ => (pe_cg (ok_is_line T) (g.mono (by decide : 1 ≤ 1)) (by rfl) T.m_is_line T.F_is_line.kp (OB.Fun.bd T.F_is_line (ps := ["value"]) (n := 1) (ks := []) (ix := [0]) (fun _ _ _ _ _ _ us ws h1 h2 => match us, ws, h1, h2 with | [_], [], _, _ => rfl)) pass0 (pa_cons (pv 1) pa_nil) pk_nil))) pa_nil))))))), ?_⟩
  refine g_start (σ := [some _, none]) rfl ?_
  by_cases hs : ∃ l, a = .tup l
  · obtain ⟨as, rfl⟩ := hs
    have hT := hv.tupT S
    obtain ⟨p, vs, L, rfl, S2, h2, ha⟩ := hv.tupE S
    have hl := ha.len
    have hml := hm as rfl
    have e : areLinesA (.tup as) = as.all isLineA := by
      show (decide (as.length ≤ 20000) && _) = _
      rw [decide_eq_true (by omega), Bool.true_and]
    rw [e] at k
    repeat walk_at "ob"
    refine hT _ ?_
    repeat walk_at "ob"
    refine g_lenT (S2.ft _ h2) ?_
    repeat walk_at "ob"
    refine g_lcS (a := p) (xs := vs) false (fun i F' ds => F' = F ∧ ds = ((as.take i).map isLineA).map PyData.bool) S2 (fun Q' q => by repeat walk_at "ob"; exact q) ⟨rfl, rfl⟩ (fun i F' ds H' hi S3 => S3.ft _ h2) (fun i F' ds hi => by
      rw [hi.2, List.length_map, List.length_map, List.length_take]
      omega) ?_ ?_
    · intro i x hx Dp H2 F2 us ds QE QR hi S3 kE kR
      obtain ⟨rfl, rfl⟩ := hi
      obtain ⟨a0, ha0, hax⟩ := ha.get hx
      repeat walk_at "ob"
      refine ⟨rfl, ?_⟩
      repeat walk_at "ob"
      refine use_is_line S3 (hax.mono (fun q hq => List.mem_cons_of_mem _ hq) (fun g hg => List.mem_cons_of_mem _ hg)) fun H3 S4 => ?_
      refine kE _ (.bool (isLineA a0)) _ _ ⟨rfl, ?_⟩ (S4.fact (dps_one (L2.Dp.bl _)) rfl)
      rw [List.take_add_one, ha0, List.map_append, List.map_append]
      rfl
    · rintro Dp H2 F2 us ds hD ⟨rfl, rfl⟩ S3
      rw [hl, List.take_length] at S3
      have hv := bls (S3.dps 0 rfl)
      subst hv
      repeat walk_at "ob"
      refine g_all (by walk_at "obl") ?_
      rw [List.all_map]
      exact k _ (S3.drop.less.facts fun g hg => List.mem_append_right _ hg)
  · have hF := hv.notT S fun l e => hs ⟨l, e⟩
    repeat walk_at "ob"
    refine hF _ ?_
    repeat walk_at "ob"
    have e : areLinesA a = false := by
      cases a with
      | tup l => exact absurd ⟨l, rfl⟩ hs
      | _ => rfl
    exact e ▸ k _ S
theorem use_are_lines {F : List (Addr × HO)} {G : List Ft} {H : Hp} {Q : VK} {E : XK} {v : V} {a : Av} (S : Sy K F G H) (h : AvS F G v a) (hm : ∀ as, a = .tup as → as.length ≤ 1000) (k : ∀ H', Sy K F G H' → Q (.bl (areLinesA a)) H') : sp_are_lines K [v] H Q E := ⟨rfl, F, G, v, a, rfl, S, h, hm, k⟩
theorem tx_nil {l : List Nat} : decide (tx l = Str.ofString "") = l.isEmpty := by
  cases l with
  | nil => exact decide_eq_true rfl
  | cons c l =>
    refine decide_eq_false fun h => ?_
    have h2 : (tx (c :: l)).cps.toList = (Str.ofString "").cps.toList := by rw [h]
    exact nomatch (show c :: l = [] from h2)
def sp_is_kept_line (K : Frag) : Sp := fun vs H Q E => vs.length = 1 ∧ ∃ (F : List (Addr × HO)) (G : List Ft) (v : V) (a : Av), vs = [v] ∧ Sy K F G H ∧ AvS F G v a ∧ ∀ H', Sy K F G H' → Q (.bl (isKeptA a)) H'
abbrev names_is_kept_line : List Str := ["value"]
theorem sc_is_kept_line : FnScope names_is_kept_line ["value"] (defScope (top 26)) := ⟨rfl, rfl, rfl, by decide +kernel, rfl, by decide +kernel, by decide +kernel⟩
set_option maxHeartbeats 4000000 in
theorem ok_is_kept_line (T : Tx K mg) : FG P w K mg base CX0 2 T.a_is_kept_line T.d_is_kept_line ["value"] (sp_is_kept_line K) := by
  refine OB.Fun.fg T.F_is_kept_line sc_is_kept_line (fun vs H Q E h => h.1) (fun cdv A out s H vs Q E g h => ?_)
  obtain ⟨_, F, G, v, a, rfl, S, hv, k⟩ := h
  refine ⟨_, (pss_one (ps_ret (pe_or (pe_and (pe_callB (toK (r := rIsi) (K := K) rfl call_isi) (by rfl) T.n_isinstance (by decide +kernel) (pa_cons (pv 0) (pa_cons (pe_bltn (v := .ty "str") (by rfl) T.n_str (by decide +kernel) rfl) pa_nil))) (pe_one (pe_cmpR op_eq (pv 0) pe_str (nomark _)))) (pe_one (pe_cg (ok_is_line T) (g.mono (by decide : 1 ≤ 1)) (by rfl) T.m_is_line T.F_is_line.kp (OB.Fun.bd T.F_is_line (ps := ["value"]) (n := 1) (ks := []) (ix := [0]) (fun _ _ _ _ _ _ us ws h1 h2 => match us, ws, h1, h2 with | [_], [], _, _ => rfl)) pass0 (pa_cons (pv 0) pa_nil) pk_nil))))), ?_⟩
  refine g_start (σ := [some _]) rfl ?_
  by_cases hs : ∃ l, a = .str l
  · obtain ⟨l, rfl⟩ := hs
    have hT := hv.strS S
    obtain ⟨rfl, hl⟩ := hv.strE S
    repeat walk_at "ob"
    refine hT _ ?_
    repeat walk_at "ob"
    rw [tx_nil]
    have k : ∀ H', Sy K F G H' → Q (.bl (l.isEmpty || lnB l)) H' := k
    cases he : l.isEmpty with
    | true =>
      rw [he] at k
      repeat walk_at "ob"
      exact k _ S
    | false =>
      rw [he] at k
      repeat walk_at "ob"
      refine use_is_line S hv fun H3 S4 => ?_
      exact k _ S4
  · have hF := hv.notS S fun l e => hs ⟨l, e⟩
    repeat walk_at "ob"
    refine hF _ ?_
    repeat walk_at "ob"
    refine use_is_line S hv fun H3 S4 => ?_
    have e : isLineA a = isKeptA a := by
      cases a with
      | str l => exact absurd ⟨l, rfl⟩ hs
      | _ => rfl
    exact e ▸ k _ S4
theorem use_is_kept {F : List (Addr × HO)} {G : List Ft} {H : Hp} {Q : VK} {E : XK} {v : V} {a : Av} (S : Sy K F G H) (h : AvS F G v a) (k : ∀ H', Sy K F G H' → Q (.bl (isKeptA a)) H') : sp_is_kept_line K [v] H Q E := ⟨rfl, F, G, v, a, rfl, S, h, k⟩
end
end LAW

set_option Elab.async false
set_option linter.all false
set_option maxRecDepth 100000
namespace LAW
open PySem PySem.Spec PyProof.Rows L2 PySem.W OB
local macro_rules | `(tactic| walk_at "obc") => `(tactic| first
  | exact Or.inl ⟨by omega, by omega⟩
  | exact Or.inr ⟨by omega, by omega⟩
  | exact cdiv_ok (by omega) (by omega)
  | (show (0 : Int) < _; omega)
  | exact ⟨by omega, by decide⟩
  | exact ⟨by decide, by decide⟩)
local macro_rules | `(tactic| walk_at "obat") => `(tactic| first
  | exact Sy.at (by assumption) 0 rfl | exact Sy.at (by assumption) 1 rfl | exact Sy.at (by assumption) 2 rfl | exact Sy.at (by assumption) 3 rfl
  | exact Sy.at (by assumption) 4 rfl | exact Sy.at (by assumption) 5 rfl | exact Sy.at (by assumption) 6 rfl | exact Sy.at (by assumption) _ (by assumption) | exact Sy.at (by assumption) (_ + 1) (by assumption) | exact Sy.at (by assumption) (_ + 2) (by assumption))
local macro_rules | `(tactic| walk_at "obt") => `(tactic| first
  | exact Sy.tqs (by assumption) 0 rfl | exact Sy.tqs (by assumption) 1 rfl | exact Sy.tqs (by assumption) 2 rfl | exact Sy.tqs (by assumption) 3 rfl | exact Sy.tqs (by assumption) 4 rfl | exact Sy.tqs (by assumption) 5 rfl
  | exact Sy.tqs (by assumption) 6 rfl | exact Sy.tqs (by assumption) 7 rfl | assumption)
local macro_rules | `(tactic| walk_at "obl") => `(tactic| first
  | exact SqL.of (by walk_at "obat")
  | exact Sy.sq (by assumption) 0 rfl | exact Sy.sq (by assumption) 1 rfl | exact Sy.sq (by assumption) 2 rfl | exact Sy.sq (by assumption) 3 rfl | exact Sy.sq (by assumption) _ (by assumption))
local macro_rules | `(tactic| walk_at "obd") => `(tactic| first
  | exact Dp.int _ | exact Dp.bl _ | exact Dp.str _ | exact Dp.non
  | exact Sy.dp (by assumption) 0 rfl | exact Sy.dp (by assumption) 1 rfl | exact Sy.dp (by assumption) 2 rfl | exact Sy.dp (by assumption) 3 rfl
  | exact Sy.dp (by assumption) 4 rfl | exact Sy.dp (by assumption) 5 rfl | exact Sy.dp (by assumption) 6 rfl | exact Sy.dp (by assumption) 7 rfl
  | exact Sy.dp (by assumption) 8 rfl | exact Sy.dp (by assumption) 9 rfl | exact Sy.dp (by assumption) _ (by assumption) | assumption)
local macro_rules | `(tactic| walk_at "obds") => `(tactic| first
  | exact DpAll.nil
  | (refine' DpAll.cons ?ob1 ?ob2; (case ob1 => walk_at "obd"); (case ob2 => walk_at "obds"))
  | exact Sy.dps (by assumption) 0 rfl | exact Sy.dps (by assumption) 1 rfl | exact Sy.dps (by assumption) 2 rfl | exact Sy.dps (by assumption) 3 rfl | assumption)
local macro_rules | `(tactic| walk_at "obsc") => `(tactic| first
  | exact ScL.nil
  | ((first | refine' ScL.int ?obz | refine' ScL.str ?obz | refine' ScL.bl ?obz | refine' ScL.non ?obz); (case obz => walk_at "obsc")))
local macro_rules | `(tactic| walk_at "ob1") => `(tactic| first
  | ((with_reducible refine' g_var ?obh ?_); (case obh => rfl))
  | with_reducible refine g_c ?_
  | with_reducible refine g_nx ?_
  | with_reducible refine g_rt ?_
  | with_reducible refine g_bk ?_
  | with_reducible refine g_ct ?_
  | with_reducible refine g_op ?_
  | with_reducible refine g_I0 ?_
  | with_reducible refine g_test ?_
  | with_reducible refine g_bl ?_
  | with_reducible refine g_blx ?_
  | with_reducible refine g_B ?_
  | with_reducible refine g_seq ?_
  | with_reducible refine g_asg ?_
  | with_reducible refine g_name ?_
  | with_reducible refine g_ifS ?_
  | with_reducible refine g_ret ?_
  | with_reducible refine g_cb ?_
  | with_reducible refine g_cons ?_
  | with_reducible refine g_nil ?_
  | with_reducible refine g_int ?_
  | with_reducible refine g_intB ?_
  | with_reducible refine g_abs ?_
  | with_reducible refine g_max ?_
  | with_reducible refine g_min ?_
  | with_reducible refine g_un ?_
  | with_reducible refine g_U ?_
  | with_reducible refine g_eqI ?_
  | with_reducible refine g_neI ?_
  | with_reducible refine g_eqS ?_
  | with_reducible refine g_neS ?_
  | with_reducible refine g_tt ?_
  | with_reducible refine g_ff ?_
  | with_reducible refine g_next ?_
  | with_reducible refine g_drop ?_
  | with_reducible refine g_if ?_
  | with_reducible refine g_andV ?_
  | with_reducible refine g_orV ?_
  | with_reducible refine g_notV ?_
  | with_reducible refine g_and ?_
  | with_reducible refine g_or ?_
  | with_reducible refine g_not ?_
  | with_reducible refine g_yes ?_
  | with_reducible refine g_chain ?_
  | with_reducible refine g_cg ?_
  | with_reducible refine g_mg ?_
  | with_reducible refine g_kg ?_
  | with_reducible refine g_pg ?_
  | ((with_reducible refine' g_call ?obh ?obj ?_); (case obh => rfl); (case obj => rfl))
  | with_reducible refine g_par ?_
  | with_reducible refine g_par2 ?_
  | with_reducible refine g_par3 ?_
  | with_reducible refine g_par33 ?_
  | with_reducible refine g_gnil ?_
  | with_reducible refine g_gcons ?_
  | with_reducible refine g_gsub ?_
  | with_reducible refine g_ipI ?_
  | with_reducible refine g_rAdd ?_
  | with_reducible refine g_rSub ?_
  | ((with_reducible refine' g_aug ?obh ?_); (case obh => rfl))
  | with_reducible refine g_tup ?_
  | with_reducible refine g_lst ?_
  | with_reducible refine g_bm ?_
  | with_reducible refine g_bm0 ?_
  | with_reducible refine g_sl ?_
  | with_reducible refine g_nopart ?_
  | with_reducible refine g_part ?_
  | with_reducible refine g_pint ?_
  | with_reducible refine isi_int ?_
  | with_reducible refine isi_intB ?_
  | ((with_reducible refine' g_I ?obh ?_); (case obh => walk_at "obc"))
  | ((with_reducible refine' g_tyl ?obh ?_); (case obh => walk_at "obl"))
  | ((with_reducible refine' g_lenL ?obh ?_); (case obh => walk_at "obl"))
  | with_reducible refine g_ne ?_
  | ((with_reducible refine' g_neN' ?obh ?_); (case obh => rfl))
  | with_reducible refine g_ntt ?_
  | with_reducible refine g_nff ?_
  | with_reducible refine g_star ?_
  | with_reducible refine g_att ?_
  | with_reducible refine g_sfld ?_
  | with_reducible refine g_faug ?_
  | with_reducible refine g_fld ?_
  | ((with_reducible refine' g_nF ?obh ?_); (case obh => omega))
  | ((with_reducible refine' g_nT ?obh ?_); (case obh => omega))
  | ((with_reducible refine' g_TD ?obh ?_); (case obh => omega))
  | ((with_reducible refine' g_FD ?obh ?_); (case obh => omega))
  | ((with_reducible refine' g_ixUL ?obh ?obi ?_); (case obh => walk_at "obl"); (case obi => exact atI_nn (by omega) (by rfl)))
  | ((with_reducible refine' g_setLS ?obs ?obh ?obi ?_); (case obs => assumption); (case obh => assumption); (case obi => rfl); intro _ _ _)
  | ((with_reducible refine' g_newT ?obs ?obh ?obi ?obj ?_); (case obs => assumption); (case obh => walk_at "obds"); (case obi => rfl); (case obj => exact Nat.le_of_ble_eq_true rfl); intro _ _ _ _)
  | ((with_reducible refine' g_newL ?obs ?obj ?_); (case obs => assumption); (case obj => exact Nat.le_of_ble_eq_true rfl); intro _ _ _ _)
  | ((with_reducible refine' isi_tup ?obh ?_); (case obh => walk_at "obt"))
  | ((with_reducible refine' g_lenT ?obh ?_); (case obh => walk_at "obt"))
  | ((with_reducible refine' g_unpT ?obh ?obi ?_); (case obh => walk_at "obt"); (case obi => rfl))
  | ((with_reducible refine' g_divmod ?obs ?obh ?_); (case obs => assumption); (case obh => exact cdivp_ok (by omega) (by omega) (by omega)); intro _ _ _ _)
  | ((with_reducible refine' g_unpD ?obh ?obi ?obj ?_); (case obh => walk_at "obd"); (case obi => walk_at "obsc"); (case obj => rfl))
  | with_reducible refine g_att ?_)
local macro_rules | `(tactic| walk_at "ob") => `(tactic| first
  | walk_at "ob1"
  | refine use_is_integer ?_
  | refine use_is_within ?_
  | with_reducible refine g_lstRg ?_
  | with_reducible refine g_rg1 ?_
  | with_reducible refine g_rg2 ?_
  | with_reducible refine g_tTru ?_
  | ((with_reducible refine' g_truL ?obh ?_); (case obh => walk_at "obl"))
  | ((with_reducible refine' g_ixUT ?obh ?obi ?_); (case obh => walk_at "obt"); (case obi => rfl))
  | with_reducible refine g_forZ ?_
  | with_reducible refine g_forR2 ?_
  | with_reducible refine g_forE ?_
  | with_reducible refine g_lcZ ?_)
section
variable {P : Program} {w : World} {K : Frag} {mg : Str → Option Value} {base : Heap}
def sp_is_file (K : Frag) : Sp := fun vs H Q E => vs.length = 1 ∧ ∃ (F : List (Addr × HO)) (G : List Ft) (v : V) (a : Av), vs = [v] ∧ Sy K F G H ∧ AvS F G v a ∧ (∀ x ys, a = .tup [x, .tup ys] → ys.length ≤ 1000) ∧ ∀ H', Sy K F G H' → Q (.bl (isFileA a)) H'
abbrev names_is_file : List Str := ["value", "lines", "line"]
theorem sc_is_file : FnScope names_is_file ["value"] (defScope (top 27)) := ⟨rfl, rfl, rfl, by decide +kernel, rfl, by decide +kernel, by decide +kernel⟩
set_option maxHeartbeats 4000000 in
theorem ok_is_file (T : Tx K mg) : FG P w K mg base CX0 3 T.a_is_file T.d_is_file ["value"] (sp_is_file K) := by
  refine OB.Fun.fg T.F_is_file sc_is_file (fun vs H Q E h => h.1) (fun cdv A out s H vs Q E g h => ?_)
  obtain ⟨_, F, G, v, a, rfl, S, hv, hm, k⟩ := h
  refine ⟨_, (pss_cons (ps_if (PW.pt (pw_or (pt_not (pt_val (pe_callB (toK (r := rIsi) (K := K) rfl call_isi) (by rfl) T.n_isinstance (by decide +kernel) (pa_cons (pv 0) (pa_cons (pe_bltn (v := .ty "tuple") (by rfl) T.n_tuple (by decide +kernel) rfl) pa_nil))))) (pw_or (pt_cmpR op_ne (pe_callB (toK (r := OB.rLen) (K := K) rfl c_len) (by rfl) T.n_len PySem.boot_len (pa_cons (pv 0) pa_nil)) (pe_glob (v := .int 2) (by rfl) T.g_PAIR ⟨_, rfl⟩) (nomark _)) (pw_or1 (pt_not (pt_val (pe_cg (ok_is_name T) (g.mono (by decide : 1 ≤ 2)) (by rfl) T.m_is_name T.F_is_name.kp (OB.Fun.bd T.F_is_name (ps := ["value"]) (n := 1) (ks := []) (ix := [0]) (fun _ _ _ _ _ _ us ws h1 h2 => match us, ws, h1, h2 with | [_], [], _, _ => rfl)) pass0 (pa_cons (pe_ix (ix_UK (K := K) rfl) (pv 0) pe_int (fun _ _ => rfl)) pa_nil) pk_nil))))))) (pss_one (ps_ret pe_bl)) pss_nil)
      (pss_cons (ps_set (i := 1) sc_is_file.nd rfl (by first | exact Or.inl rfl | exact Or.inr rfl) (pe_ix (ix_UK (K := K) rfl) (pv 0) pe_int (fun _ _ => rfl)))
      (pss_one (ps_ret (pe_and (pe_callB (toK (r := rIsi) (K := K) rfl call_isi) (by rfl) T.n_isinstance (by decide +kernel) (pa_cons (pv 1) (pa_cons (pe_bltn (v := .ty "tuple") (by rfl) T.n_tuple (by decide +kernel) rfl) pa_nil))) (pe_and (pe_cmpR op_le (pe_callB (toK (r := OB.rLen) (K := K) rfl c_len) (by rfl) T.n_len PySem.boot_len (pa_cons (pv 1) pa_nil)) (pe_glob (v := .int 20000) (by rfl) T.g_MOST_LINES ⟨_, rfl⟩) (nomark _)) (pe_one (pe_callB (toK (r := rAll) (K := K) rfl (cr_all rfl)) (by rfl) T.n_all (by decide +kernel) (pa_cons (pe_lc (own := [("line", 2)]) (tt := tYes) rfl sc_is_file.nd (pi_seq (pv 1)) (blkOk_by (N := names_is_file) (sc := defScope (top 27)) (own := [("line", 2)]) (by decide +kernel)) (fun _ _ _ _ _ => (pg_name (i := 2) sc_is_file.nd rfl (by first | exact Or.inl rfl | exact Or.inr rfl))) (fun _ _ _ _ _ => pts_nil) (fun _ _ _ _ _ => (pe_cg (ok_is_kept_line T) (g.mono (by decide : 2 ≤ 2)) (by rfl) T.m_is_kept_line T.F_is_kept_line.kp (OB.Fun.bd T.F_is_kept_line (ps := ["value"]) (n := 1) (ks := []) (ix := [0]) (fun _ _ _ _ _ _ us ws h1 h2 => match us, ws, h1, h2 with | [_], [], _, _ => rfl)) pass0 (pa_cons (pv 2) pa_nil) pk_nil))) pa_nil))))))))), ?_⟩
  refine g_start (σ := [some _, none, none]) rfl ?_
  by_cases hs : ∃ l, a = .tup l
  · obtain ⟨as, rfl⟩ := hs
    have hT := hv.tupT S
    obtain ⟨p, vs, L, rfl, S2, h2, ha⟩ := hv.tupE S
    have hl := ha.len
    have back : ∀ H', Sy K F (L ++ G) H' → Sy K F G H' := fun H' S' => S'.facts fun g hg => List.mem_append_right _ hg
    by_cases h2l : as.length = 2
    · match as, vs, ha, hm, hl, k, h2 with
      | [x, y], [vx, vy], .cons hx (.cons hy .nil), hm, hl, k, h2 =>
      clear hl h2l S hT hv
      repeat walk_at "ob"
      refine isi_tup (S2.ft _ h2) ?_
      repeat walk_at "ob"
      refine g_lenT (S2.ft _ h2) ?_
      repeat walk_at "ob"
      refine g_ixUT (S2.ft _ h2) (v := vx) (atI_nn (by decide) rfl) ?_
      repeat walk_at "ob"
      refine use_is_name S2 hx fun H3 S3 => ?_
      cases hn : isNameA x with
      | false =>
        have e : isFileA (.tup [x, y]) = false := by
          cases y <;> first | rfl | (show (isNameA x && _) = false; rw [hn]; rfl)
        rw [e] at k
        repeat walk_at "ob"
        exact k _ (back _ S3)
      | true =>
        repeat walk_at "ob"
        refine g_ixUT (S3.ft _ h2) (v := vy) (atI_nn (by decide) rfl) ?_
        repeat walk_at "ob"
        by_cases hs : ∃ l, y = .tup l
        · obtain ⟨ys, rfl⟩ := hs
          obtain ⟨p2, vs2, Lb, rfl, S4, h4, ha4⟩ := hy.tupE S3
          have hl4 := ha4.len
          have hml := hm x ys rfl
          have e : isFileA (.tup [x, .tup ys]) = ys.all isKeptA := by
            show (isNameA x && (decide (ys.length ≤ 20000) && _)) = _
            rw [hn, decide_eq_true (by omega), Bool.true_and, Bool.true_and]
          rw [e] at k
          refine isi_tup (S4.ft _ h4) ?_
          repeat walk_at "ob"
          refine g_lenT (S4.ft _ h4) ?_
          repeat walk_at "ob"
          refine g_lcS (a := p2) (xs := vs2) false (fun i F' ds => F' = F ∧ ds = ((ys.take i).map isKeptA).map PyData.bool) S4 (fun Q' q => by repeat walk_at "ob"; exact q) ⟨rfl, rfl⟩ (fun i F' ds H' hi S3 => S3.ft _ h4) (fun i F' ds hi => by
            rw [hi.2, List.length_map, List.length_map, List.length_take]
            omega) ?_ ?_
          · intro i x0 hx0 Dp H2 F2 us ds QE QR hi S3 kE kR
            obtain ⟨rfl, rfl⟩ := hi
            obtain ⟨a0, ha0, hax⟩ := ha4.get hx0
            repeat walk_at "ob"
            refine ⟨rfl, ?_⟩
            repeat walk_at "ob"
            refine use_is_kept S3 (hax.mono (fun q hq => List.mem_cons_of_mem _ hq) (fun g hg => List.mem_cons_of_mem _ hg)) fun H3 S4 => ?_
            refine kE _ (.bool (isKeptA a0)) _ _ ⟨rfl, ?_⟩ (S4.fact (dps_one (L2.Dp.bl _)) rfl)
            rw [List.take_add_one, ha0, List.map_append, List.map_append]
            rfl
          · rintro Dp H2 F2 us ds hD ⟨rfl, rfl⟩ S5
            rw [hl4, List.take_length] at S5
            have hv := bls (S5.dps 0 rfl)
            subst hv
            repeat walk_at "ob"
            refine g_all (by walk_at "obl") ?_
            rw [List.all_map]
            exact k _ (back _ (S5.drop.less.facts fun g hg => List.mem_append_right _ hg))
        · have hF := hy.notT S3 fun l e => hs ⟨l, e⟩
          refine hF _ ?_
          repeat walk_at "ob"
          have e : isFileA (.tup [x, y]) = false := by
            cases y with
            | tup l => exact absurd ⟨l, rfl⟩ hs
            | _ => rfl
          rw [e] at k
          exact k _ (back _ S3)
    · have e : isFileA (.tup as) = false := by
        match as with
        | [] => rfl
        | [_] => rfl
        | [_, _] => exact absurd rfl h2l
        | _ :: b :: _ :: _ => cases b <;> rfl
      rw [e] at k
      repeat walk_at "ob"
      refine hT _ ?_
      repeat walk_at "ob"
      refine g_lenT (S2.ft _ h2) ?_
      repeat walk_at "ob"
      exact k _ S
  · have hF := hv.notT S fun l e => hs ⟨l, e⟩
    repeat walk_at "ob"
    refine hF _ ?_
    repeat walk_at "ob"
    have e : isFileA a = false := by
      cases a with
      | tup l => exact absurd ⟨l, rfl⟩ hs
      | _ => rfl
    exact e ▸ k _ S
theorem use_is_file {F : List (Addr × HO)} {G : List Ft} {H : Hp} {Q : VK} {E : XK} {v : V} {a : Av} (S : Sy K F G H) (h : AvS F G v a) (hm : ∀ x ys, a = .tup [x, .tup ys] → ys.length ≤ 1000) (k : ∀ H', Sy K F G H' → Q (.bl (isFileA a)) H') : sp_is_file K [v] H Q E := ⟨rfl, F, G, v, a, rfl, S, h, hm, k⟩
theorem file_open {a : Av} (h : isFileA a = true) : ∃ l ys, a = .tup [.str l, .tup ys] := by
  unfold isFileA at h
  split at h
  · rename_i a xs
    rw [Bool.and_eq_true] at h
    cases a with
    | str l => exact ⟨l, xs, rfl⟩
    | _ => exact absurd h.1 (fun z => nomatch (show false = true from z))
  · cases h
theorem upA_eq : ∀ as : List Av, upA as = (as.zip (as.drop 1)).all fun p => decide (nmOf p.1 < nmOf p.2)
  | [] => rfl
  | [a] => rfl
  | a :: b :: r => by
    show (decide (nmOf a < nmOf b) && upA (b :: r)) = (((a, b) :: (b :: r).zip r).all _)
    rw [upA_eq (b :: r)]
    rfl
def sp_are_files (K : Frag) : Sp := fun vs H Q E => vs.length = 1 ∧ ∃ (F : List (Addr × HO)) (G : List Ft) (v : V) (a : Av), vs = [v] ∧ Sy K F G H ∧ AvS F G v a ∧ (∀ as, a = .tup as → as.length ≤ 1000 ∧ ∀ b ∈ as, ∀ x ys, b = .tup [x, .tup ys] → ys.length ≤ 1000) ∧ ∀ H', Sy K F G H' → Q (.bl (areFilesA a)) H'
abbrev names_are_files : List Str := ["value", "one", "other"]
theorem sc_are_files : FnScope names_are_files ["value"] (defScope (top 28)) := ⟨rfl, rfl, rfl, by decide +kernel, rfl, by decide +kernel, by decide +kernel⟩
set_option maxHeartbeats 4000000 in
theorem ok_are_files (T : Tx K mg) : FG P w K mg base CX0 4 T.a_are_files T.d_are_files ["value"] (sp_are_files K) := by
  refine OB.Fun.fg T.F_are_files sc_are_files (fun vs H Q E h => h.1) (fun cdv A out s H vs Q E g h => ?_)
  obtain ⟨_, F, G, v, a, rfl, S, hv, hm, k⟩ := h
  refine ⟨_, (pss_cons (ps_if (PW.pt (pw_or (pt_not (pt_val (pe_callB (toK (r := rIsi) (K := K) rfl call_isi) (by rfl) T.n_isinstance (by decide +kernel) (pa_cons (pv 0) (pa_cons (pe_bltn (v := .ty "tuple") (by rfl) T.n_tuple (by decide +kernel) rfl) pa_nil))))) (pw_or (pt_cmpR op_gt (pe_callB (toK (r := OB.rLen) (K := K) rfl c_len) (by rfl) T.n_len PySem.boot_len (pa_cons (pv 0) pa_nil)) (pe_glob (v := .int 40) (by rfl) T.g_MOST_FILES ⟨_, rfl⟩) (nomark _)) (pw_or1 (pt_not (pt_val (pe_callB (toK (r := rAll) (K := K) rfl (cr_all rfl)) (by rfl) T.n_all (by decide +kernel) (pa_cons (pe_lc (own := [("one", 1)]) (tt := tYes) rfl sc_are_files.nd (pi_seq (pv 0)) (blkOk_by (N := names_are_files) (sc := defScope (top 28)) (own := [("one", 1)]) (by decide +kernel)) (fun _ _ _ _ _ => (pg_name (i := 1) sc_are_files.nd rfl (by first | exact Or.inl rfl | exact Or.inr rfl))) (fun _ _ _ _ _ => pts_nil) (fun _ _ _ _ _ => (pe_cg (ok_is_file T) (g.mono (by decide : 3 ≤ 3)) (by rfl) T.m_is_file T.F_is_file.kp (OB.Fun.bd T.F_is_file (ps := ["value"]) (n := 1) (ks := []) (ix := [0]) (fun _ _ _ _ _ _ us ws h1 h2 => match us, ws, h1, h2 with | [_], [], _, _ => rfl)) pass0 (pa_cons (pv 1) pa_nil) pk_nil))) pa_nil)))))))) (pss_one (ps_ret pe_bl)) pss_nil)
      (pss_one (ps_ret (pe_callB (toK (r := rAll) (K := K) rfl (cr_all rfl)) (by rfl) T.n_all (by decide +kernel) (pa_cons (pe_lc (own := [("one", 1), ("other", 2)]) (tt := tYes) rfl sc_are_files.nd (pi_zipK (by rfl) T.n_zip (pa_cons (pv 0) (pa_cons (pe_slice (sl_UK (K := K) rfl) (pv 0) (po_some pe_int) po_none) pa_nil))) (blkOk_by (N := names_are_files) (sc := defScope (top 28)) (own := [("one", 1), ("other", 2)]) (by decide +kernel)) (fun _ _ _ _ _ => (pg_tupK (K := K) rfl (n := 2) rfl (pgs_cons (pg_name (i := 1) sc_are_files.nd rfl (by first | exact Or.inl rfl | exact Or.inr rfl)) (pgs_cons (pg_name (i := 2) sc_are_files.nd rfl (by first | exact Or.inl rfl | exact Or.inr rfl)) pgs_nil)))) (fun _ _ _ _ _ => pts_nil) (fun _ _ _ _ _ => (pe_cmpR op_lt_str (pe_ix (ix_UK (K := K) rfl) (pv 1) pe_int (fun _ _ => rfl)) (pe_ix (ix_UK (K := K) rfl) (pv 2) pe_int (fun _ _ => rfl)) (nomark _)))) pa_nil))))), ?_⟩
  refine g_start (σ := [some _, none, none]) rfl ?_
  by_cases hs : ∃ l, a = .tup l
  · obtain ⟨as, rfl⟩ := hs
    have hT := hv.tupT S
    obtain ⟨p, vs, L, rfl, S2, h2, ha⟩ := hv.tupE S
    have hl := ha.len
    obtain ⟨hm1, hm2⟩ := hm as rfl
    have back : ∀ H', Sy K F (L ++ G) H' → Sy K F G H' := fun H' S' => S'.facts fun g hg => List.mem_append_right _ hg
    by_cases h40 : as.length ≤ 40
    · repeat walk_at "ob"
      refine hT _ ?_
      repeat walk_at "ob"
      refine g_lenT (S2.ft _ h2) ?_
      repeat walk_at "ob"
      refine g_lcS (a := p) (xs := vs) false (fun i F' ds => F' = F ∧ ds = ((as.take i).map isFileA).map PyData.bool) S2 (fun Q' q => by repeat walk_at "ob"; exact q) ⟨rfl, rfl⟩ (fun i F' ds H' hi S3 => S3.ft _ h2) (fun i F' ds hi => by
        rw [hi.2, List.length_map, List.length_map, List.length_take]
        omega) ?_ ?_
      · intro i x hx Dp H2 F2 us ds QE QR hi S3 kE kR
        obtain ⟨rfl, rfl⟩ := hi
        obtain ⟨a0, ha0, hax⟩ := ha.get hx
        repeat walk_at "ob"
        refine ⟨rfl, ?_⟩
        repeat walk_at "ob"
        refine use_is_file S3 (hax.mono (fun q hq => List.mem_cons_of_mem _ hq) (fun g hg => List.mem_cons_of_mem _ hg)) (hm2 a0 (List.mem_of_getElem? ha0)) fun H3 S4 => ?_
        refine kE _ (.bool (isFileA a0)) _ _ ⟨rfl, ?_⟩ (S4.fact (dps_one (L2.Dp.bl _)) rfl)
        rw [List.take_add_one, ha0, List.map_append, List.map_append]
        rfl
      rintro Dp H2 F2 us ds hD ⟨rfl, rfl⟩ S3
      rw [hl, List.take_length] at S3
      have hv := bls (S3.dps 0 rfl)
      subst hv
      repeat walk_at "ob"
      refine g_all (by walk_at "obl") ?_
      rw [List.all_map, show (as.all (id ∘ isFileA)) = as.all isFileA from rfl]
      have S4 := S3.drop.less
      have e : areFilesA (.tup as) = (as.all isFileA && upA as) := by
        show (decide (as.length ≤ 40) && _) = _
        rw [decide_eq_true h40, Bool.true_and]
      rw [e] at k
      clear S3
      cases hall : as.all isFileA with
      | false =>
        rw [hall] at k
        repeat walk_at "ob"
        exact k _ (back _ S4)
      | true =>
        rw [hall, Bool.true_and, upA_eq] at k
        have hop : ∀ a ∈ as, ∃ l ys, a = .tup [.str l, .tup ys] := fun a h => file_open (List.all_eq_true.mp hall a h)
        repeat walk_at "ob"
        refine g_slA S4 (S4.ft _ h2) fun p2 H5 S5 => ?_
        repeat walk_at "ob"
        refine ziplc_of (k := false) (l := false) (xs := vs) (ys := vs.drop 1) (fun i F' ds => F' = F2 ∧ ds = (((as.zip (as.drop 1)).take i).map fun p => decide (nmOf p.1 < nmOf p.2)).map PyData.bool) S5 ⟨rfl, rfl⟩
          (fun i F' ds H' hi S3 => ⟨S3.ft _ (List.mem_cons_of_mem _ h2), S3.tqs 0 rfl⟩) (fun i F' ds hi => by
            rw [hi.2, List.length_map, List.length_map, List.length_take, List.length_zip]
            omega) ?_ ?_
        · intro i x y hx hy Da T H6 F6 us2 ds QE QR hi hT6 S6 kE kR
          obtain ⟨rfl, rfl⟩ := hi
          rw [List.getElem?_drop] at hy
          obtain ⟨ax, hax, hvx⟩ := ha.get hx
          obtain ⟨ay, hay, hvy⟩ := ha.get hy
          obtain ⟨lx, yx, rfl⟩ := hop ax (List.mem_of_getElem? hax)
          obtain ⟨ly, yy, rfl⟩ := hop ay (List.mem_of_getElem? hay)
          refine g_pair S6 hT6 fun H7 S7 => ?_
          repeat walk_at "ob"
          refine ⟨rfl, ?_⟩
          obtain ⟨px, vx, Lx, rfl, S8, hx2, hvsx⟩ := AvS.tupE S7 (hvx.mono (fun q hq => List.mem_cons_of_mem _ hq) fun g hg => List.mem_cons_of_mem _ (List.mem_cons_of_mem _ (List.mem_cons_of_mem _ hg)))
          obtain ⟨py, vy, Ly, rfl, S9, hy2, hvsy⟩ := AvS.tupE S7 (hvy.mono (fun q hq => List.mem_cons_of_mem _ hq) fun g hg => List.mem_cons_of_mem _ (List.mem_cons_of_mem _ (List.mem_cons_of_mem _ hg)))
          match vx, vy, hvsx, hvsy, hx2, hy2 with
          | v0 :: _, w0 :: _, .cons hv0 _, .cons hw0 _, hx2, hy2 =>
          obtain ⟨rfl, _⟩ := hv0.strE S8
          obtain ⟨rfl, _⟩ := hw0.strE S9
          repeat walk_at "ob"
          refine g_ixUT (S8.ft _ hx2) (v := .str (tx lx)) (atI_nn (by decide) rfl) ?_
          repeat walk_at "ob"
          refine g_ixUT (S9.ft _ hy2) (v := .str (tx ly)) (atI_nn (by decide) rfl) ?_
          repeat walk_at "ob"
          refine ⟨_, _, rfl, rfl, ?_⟩
          refine kE _ (.bool (decide (lx < ly))) _ _ ⟨rfl, ?_⟩ (S7.drop.fact (dps_one (L2.Dp.bl _)) rfl)
          have hz : (as.zip (as.drop 1))[i]? = some (.tup [.str lx, .tup yx], .tup [.str ly, .tup yy]) := by
            rw [List.getElem?_zip_eq_some]
            exact ⟨hax, by rw [List.getElem?_drop]; exact hay⟩
          rw [List.take_add_one, hz, List.map_append, List.map_append]
          rfl
        · rintro Dd H6 F6 us2 ds hD6 ⟨rfl, rfl⟩ S6
          rw [List.take_of_length_le (by rw [List.length_zip, List.length_drop, List.length_drop, hl]; exact Nat.le_refl _)] at S6
          have hv := bls (S6.dps 0 rfl)
          subst hv
          repeat walk_at "ob"
          refine g_all (by walk_at "obl") ?_
          rw [List.all_map]
          exact k _ (back _ S6.less.drop.drop)
    · have e : areFilesA (.tup as) = false := by
        show (decide (as.length ≤ 40) && _) = _
        rw [decide_eq_false h40]
        rfl
      rw [e] at k
      repeat walk_at "ob"
      refine hT _ ?_
      repeat walk_at "ob"
      refine g_lenT (S2.ft _ h2) ?_
      repeat walk_at "ob"
      exact k _ S
  · have hF := hv.notT S fun l e => hs ⟨l, e⟩
    repeat walk_at "ob"
    refine hF _ ?_
    repeat walk_at "ob"
    have e : areFilesA a = false := by
      cases a with
      | tup l => exact absurd ⟨l, rfl⟩ hs
      | _ => rfl
    exact e ▸ k _ S
theorem use_are_files {F : List (Addr × HO)} {G : List Ft} {H : Hp} {Q : VK} {E : XK} {v : V} {a : Av} (S : Sy K F G H) (h : AvS F G v a) (hm : ∀ as, a = .tup as → as.length ≤ 1000 ∧ ∀ b ∈ as, ∀ x ys, b = .tup [x, .tup ys] → ys.length ≤ 1000) (k : ∀ H', Sy K F G H' → Q (.bl (areFilesA a)) H') : sp_are_files K [v] H Q E := ⟨rfl, F, G, v, a, rfl, S, h, hm, k⟩
def sp_check_files (K : Frag) : Sp := fun vs H Q E => vs.length = 1 ∧ ∃ (F : List (Addr × HO)) (G : List Ft) (v : V) (a : Av), vs = [v] ∧ Sy K F G H ∧ AvS F G v a ∧ (∀ as, a = .tup as → as.length ≤ 1000 ∧ ∀ b ∈ as, ∀ x ys, b = .tup [x, .tup ys] → ys.length ≤ 1000) ∧ areFilesA a = true ∧ ∀ H', Sy K F G H' → Q .non H'
abbrev names_check_files : List Str := ["files"]
theorem sc_check_files : FnScope names_check_files ["files"] (defScope (top 30)) := ⟨rfl, rfl, rfl, by decide +kernel, rfl, by decide +kernel, by decide +kernel⟩
set_option maxHeartbeats 4000000 in
theorem ok_check_files (T : Tx K mg) : FG P w K mg base CX0 5 T.a_check_files T.d_check_files ["files"] (sp_check_files K) := by
  refine OB.Fun.fg T.F_check_files sc_check_files (fun vs H Q E h => h.1) (fun cdv A out s H vs Q E g h => ?_)
  obtain ⟨_, F, G, v, a, rfl, S, hv, hm, ht, k⟩ := h
  refine ⟨_, (pss_one (ps_if (pt_not (pt_val (pe_cg (ok_are_files T) (g.mono (by decide : 4 ≤ 4)) (by rfl) T.m_are_files T.F_are_files.kp (OB.Fun.bd T.F_are_files (ps := ["value"]) (n := 1) (ks := []) (ix := [0]) (fun _ _ _ _ _ _ us ws h1 h2 => match us, ws, h1, h2 with | [_], [], _, _ => rfl)) pass0 (pa_cons (pv 0) pa_nil) pk_nil))) (pss_one ps_never) pss_nil)), ?_⟩
  refine g_start (σ := [some _]) rfl ?_
  repeat walk_at "ob"
  refine use_are_files S hv hm fun H2 S2 => ?_
  rw [ht]
  repeat walk_at "ob"
  exact k _ S2
/-! deeds -/
def isSyncA : List Av → Bool
  | [.str w] => decide (tx w = Str.ofString "sync")
  | _ => false
def isDeedA : Av → Bool
  | .tup [.str w] => decide (tx w = Str.ofString "sync")
  | .tup [.str w, n, x] => isNameA n && (decide (tx w = Str.ofString "add") && isLineA x || decide (tx w = Str.ofString "lay") && areLinesA x)
  | _ => false
def sp_is_deed (K : Frag) : Sp := fun vs H Q E => vs.length = 1 ∧ ∃ (F : List (Addr × HO)) (G : List Ft) (v : V) (a : Av) (d : PyData), vs = [v] ∧ Sy K F G H ∧ AvS F G v a ∧ (∀ H', Sy K F G H' → L2.Dp K H' v d) ∧ SeqAt.shaped d = true ∧ (∀ as, a = .tup as → PyData.eqv d (.tuple []) = as.isEmpty ∧ (as.length < 3 → PyData.eqv d (.tuple [.str "sync"]) = isSyncA as) ∧ ∀ x y zs, as = [x, y, .tup zs] → zs.length ≤ 1000) ∧ ∀ H', Sy K F G H' → Q (.bl (isDeedA a)) H'
abbrev names_is_deed : List Str := ["value"]
theorem sc_is_deed : FnScope names_is_deed ["value"] (defScope (top 29)) := ⟨rfl, rfl, rfl, by decide +kernel, rfl, by decide +kernel, by decide +kernel⟩
set_option maxHeartbeats 4000000 in
theorem ok_is_deed (T : Tx K mg) : FG P w K mg base CX0 3 T.a_is_deed T.d_is_deed ["value"] (sp_is_deed K) := by
  refine OB.Fun.fg T.F_is_deed sc_is_deed (fun vs H Q E h => h.1) (fun cdv A out s H vs Q E g h => ?_)
  obtain ⟨_, F, G, v, a, d, rfl, S, hv, hd, hs1, hm, k⟩ := h
  refine ⟨_, (pss_cons (ps_if (PW.pt (pw_or (pt_not (pt_val (pe_callB (toK (r := rIsi) (K := K) rfl call_isi) (by rfl) T.n_isinstance (by decide +kernel) (pa_cons (pv 0) (pa_cons (pe_bltn (v := .ty "tuple") (by rfl) T.n_tuple (by decide +kernel) rfl) pa_nil))))) (pw_or (pt_cmpR (op_eqD g.hu64) (pv 0) (pe_tup pa_nil) (nomark _)) (pw_or1 (pt_not (pt_val (pe_callB (toK (r := rIsi) (K := K) rfl call_isi) (by rfl) T.n_isinstance (by decide +kernel) (pa_cons (pe_ix (ix_UK (K := K) rfl) (pv 0) pe_int (fun _ _ => rfl)) (pa_cons (pe_bltn (v := .ty "str") (by rfl) T.n_str (by decide +kernel) rfl) pa_nil))))))))) (pss_one (ps_ret pe_bl)) pss_nil)
      (pss_cons (ps_if (pt_cmpR op_lt (pe_callB (toK (r := OB.rLen) (K := K) rfl c_len) (by rfl) T.n_len PySem.boot_len (pa_cons (pv 0) pa_nil)) (pe_glob (v := .int 3) (by rfl) T.g_DEED_PARTS ⟨_, rfl⟩) (nomark _)) (pss_one (ps_ret (pe_cmpR (op_eqD g.hu64) (pv 0) (pe_tup (pa_cons (pe_glob (v := .str "sync") (by rfl) T.g_SYNC ⟨_, rfl⟩) pa_nil)) (nomark _)))) pss_nil)
      (pss_cons (ps_if (PW.pt (pw_or (pt_cmpR op_gt (pe_callB (toK (r := OB.rLen) (K := K) rfl c_len) (by rfl) T.n_len PySem.boot_len (pa_cons (pv 0) pa_nil)) (pe_glob (v := .int 3) (by rfl) T.g_DEED_PARTS ⟨_, rfl⟩) (nomark _)) (pw_or1 (pt_not (pt_val (pe_cg (ok_is_name T) (g.mono (by decide : 1 ≤ 2)) (by rfl) T.m_is_name T.F_is_name.kp (OB.Fun.bd T.F_is_name (ps := ["value"]) (n := 1) (ks := []) (ix := [0]) (fun _ _ _ _ _ _ us ws h1 h2 => match us, ws, h1, h2 with | [_], [], _, _ => rfl)) pass0 (pa_cons (pe_ix (ix_UK (K := K) rfl) (pv 0) pe_int (fun _ _ => rfl)) pa_nil) pk_nil)))))) (pss_one (ps_ret pe_bl)) pss_nil)
      (pss_one (ps_ret (pe_or (pe_and (pe_cmpR op_eq (pe_ix (ix_UK (K := K) rfl) (pv 0) pe_int (fun _ _ => rfl)) (pe_glob (v := .str "add") (by rfl) T.g_ADD ⟨_, rfl⟩) (nomark _)) (pe_one (pe_cg (ok_is_line T) (g.mono (by decide : 1 ≤ 2)) (by rfl) T.m_is_line T.F_is_line.kp (OB.Fun.bd T.F_is_line (ps := ["value"]) (n := 1) (ks := []) (ix := [0]) (fun _ _ _ _ _ _ us ws h1 h2 => match us, ws, h1, h2 with | [_], [], _, _ => rfl)) pass0 (pa_cons (pe_ix (ix_UK (K := K) rfl) (pv 0) (pe_un un_neg pe_int) (fun _ _ => rfl)) pa_nil) pk_nil))) (pe_one (pe_and (pe_cmpR op_eq (pe_ix (ix_UK (K := K) rfl) (pv 0) pe_int (fun _ _ => rfl)) (pe_glob (v := .str "lay") (by rfl) T.g_LAY ⟨_, rfl⟩) (nomark _)) (pe_one (pe_cg (ok_are_lines T) (g.mono (by decide : 2 ≤ 2)) (by rfl) T.m_are_lines T.F_are_lines.kp (OB.Fun.bd T.F_are_lines (ps := ["value"]) (n := 1) (ks := []) (ix := [0]) (fun _ _ _ _ _ _ us ws h1 h2 => match us, ws, h1, h2 with | [_], [], _, _ => rfl)) pass0 (pa_cons (pe_ix (ix_UK (K := K) rfl) (pv 0) (pe_un un_neg pe_int) (fun _ _ => rfl)) pa_nil) pk_nil)))))))))), ?_⟩
  refine g_start (σ := [some _]) rfl ?_
  by_cases hs : ∃ l, a = .tup l
  · obtain ⟨as, rfl⟩ := hs
    have hT := hv.tupT S
    obtain ⟨hm1, hm2, hm3⟩ := hm as rfl
    repeat walk_at "ob"
    refine hT _ ?_
    repeat walk_at "ob"
    rename_i T0 H2 _ S2
    refine g_eqD (hd _ S2.drop) (S2.dp 0 rfl) hs1 rfl ?_
    rw [hm1]
    have S3 := S2.drop
    clear S2 hT
    match as, hv, hm2, hm3, k with
    | [], hv, hm2, hm3, k =>
      repeat walk_at "ob"
      exact k _ S3
    | w0 :: r, hv, hm2, hm3, k =>
      obtain ⟨p, vs, L, rfl, S4, h4, ha⟩ := hv.tupE S3
      have hl := ha.len
      have back : ∀ H', Sy K F (L ++ G) H' → Sy K F G H' := fun H' S' => S'.facts fun g hg => List.mem_append_right _ hg
      match vs, ha, hl, h4 with
      | v0 :: vr, .cons hv0 har, hl, h4 =>
      clear S3 hl hm1
      repeat walk_at "ob"
      refine g_F rfl ?_
      repeat walk_at "ob"
      refine g_ixUT (S4.ft _ h4) (v := v0) (atI_nn (by decide) rfl) ?_
      repeat walk_at "ob"
      by_cases hs : ∃ l, w0 = .str l
      · obtain ⟨w1, rfl⟩ := hs
        refine hv0.strS S4 _ ?_
        obtain ⟨rfl, hw1⟩ := hv0.strE S4
        repeat walk_at "ob"
        refine g_lenT (S4.ft _ h4) ?_
        match r, vr, har, hm2, hm3, k, h4, hv with
        | [], [], .nil, hm2, hm3, k, h4, hv =>
          rw [show [V.str (tx w1)].length = 1 from rfl]
          repeat walk_at "ob"
          rename_i T5 H5 _ S5
          refine g_eqD (hd _ (back _ S5.drop)) (S5.dp 0 rfl) hs1 (by decide +kernel) ?_
          rw [hm2 (by show 1 < 3; decide)]
          exact k _ (back _ S5.drop)
        | [b], [vb], .cons hb .nil, hm2, hm3, k, h4, hv =>
          rw [show [V.str (tx w1), vb].length = 2 from rfl]
          repeat walk_at "ob"
          rename_i T5 H5 _ S5
          refine g_eqD (hd _ (back _ S5.drop)) (S5.dp 0 rfl) hs1 (by decide +kernel) ?_
          rw [hm2 (by show 2 < 3; decide)]
          exact k _ (back _ S5.drop)
        | [n, x], [vn, vx], .cons hn (.cons hx .nil), hm2, hm3, k, h4, hv =>
          rw [show [V.str (tx w1), vn, vx].length = 3 from rfl]
          repeat walk_at "ob"
          refine g_lenT (S4.ft _ h4) ?_
          rw [show [V.str (tx w1), vn, vx].length = 3 from rfl]
          repeat walk_at "ob"
          refine g_ixUT (S4.ft _ h4) (v := vn) (atI_nn (by decide) rfl) ?_
          repeat walk_at "ob"
          refine use_is_name S4 hn fun H5 S5 => ?_
          have k : ∀ H', Sy K F G H' → Q (.bl (isNameA n && (decide (tx w1 = Str.ofString "add") && isLineA x || decide (tx w1 = Str.ofString "lay") && areLinesA x))) H' := k
          cases hnn : isNameA n with
          | false =>
            rw [hnn] at k
            repeat walk_at "ob"
            exact k _ (back _ S5)
          | true =>
            rw [hnn, Bool.true_and] at k
            repeat walk_at "ob"
            refine g_ixUT (S5.ft _ h4) (v := .str (tx w1)) (atI_nn (by decide) rfl) ?_
            have at2 : atI [V.str (tx w1), vn, vx] (-1) = some vx := atI_last (xs := [V.str (tx w1), vn])
            repeat walk_at "ob"
            by_cases c1 : tx w1 = Str.ofString "add"
            · rw [decide_eq_true c1] at k ⊢
              repeat walk_at "ob"
              refine g_ixUT (S5.ft _ h4) at2 ?_
              repeat walk_at "ob"
              refine use_is_line S5 hx fun H6 S6 => ?_
              have ne : decide (tx w1 = Str.ofString "lay") = false := by
                rw [c1]
                decide +kernel
              rw [ne] at k
              cases hlx : isLineA x with
              | true =>
                rw [hlx] at k
                repeat walk_at "ob"
                exact k _ (back _ S6)
              | false =>
                rw [hlx] at k
                repeat walk_at "ob"
                refine g_ixUT (S6.ft _ h4) (v := .str (tx w1)) (atI_nn (by decide) rfl) ?_
                repeat walk_at "ob"
                rw [ne]
                repeat walk_at "ob"
                exact k _ (back _ S6)
            · rw [decide_eq_false c1] at k ⊢
              repeat walk_at "ob"
              refine g_ixUT (S5.ft _ h4) (v := .str (tx w1)) (atI_nn (by decide) rfl) ?_
              repeat walk_at "ob"
              cases c2 : decide (tx w1 = Str.ofString "lay") with
              | false =>
                rw [c2] at k
                repeat walk_at "ob"
                exact k _ (back _ S5)
              | true =>
                rw [c2] at k
                repeat walk_at "ob"
                refine g_ixUT (S5.ft _ h4) at2 ?_
                repeat walk_at "ob"
                refine use_are_lines S5 hx (fun zs e => hm3 (.str w1) n zs (by rw [e])) fun H6 S6 => ?_
                exact k _ (back _ S6)
        | n :: x :: y :: r, vn :: vx :: vy :: vr, .cons _ (.cons _ (.cons _ hr)), hm2, hm3, k, h4, hv =>
          have hlr := hr.len
          have e : isDeedA (.tup (.str w1 :: n :: x :: y :: r)) = false := rfl
          rw [e] at k
          have hll : (V.str (tx w1) :: vn :: vx :: vy :: vr).length = vr.length + 4 := rfl
          rw [hll]
          repeat walk_at "ob"
          refine g_lenT (S4.ft _ h4) ?_
          rw [hll]
          repeat walk_at "ob"
          exact k _ (back _ S4)
      · have hF := hv0.notS S4 fun l e => hs ⟨l, e⟩
        refine hF _ ?_
        repeat walk_at "ob"
        have e : isDeedA (.tup (w0 :: r)) = false := by
          cases w0 with
          | str l => exact absurd ⟨l, rfl⟩ hs
          | _ => match r with
            | [] => rfl
            | [_] => rfl
            | [_, _] => rfl
            | _ :: _ :: _ :: _ => rfl
        rw [e] at k
        exact k _ (back _ S4)
  · have hF := hv.notT S fun l e => hs ⟨l, e⟩
    repeat walk_at "ob"
    refine hF _ ?_
    repeat walk_at "ob"
    have e : isDeedA a = false := by
      cases a with
      | tup l => exact absurd ⟨l, rfl⟩ hs
      | _ => rfl
    exact e ▸ k _ S
end
end LAW

set_option Elab.async false
set_option linter.all false
set_option maxRecDepth 100000
namespace LAW
open PySem PySem.Spec PyProof.Rows L2 PySem.W OB
local macro_rules | `(tactic| walk_at "obc") => `(tactic| first
  | exact Or.inl ⟨by omega, by omega⟩
  | exact Or.inr ⟨by omega, by omega⟩
  | exact cdiv_ok (by omega) (by omega)
  | (show (0 : Int) < _; omega)
  | exact ⟨by omega, by decide⟩
  | exact ⟨by decide, by decide⟩)
local macro_rules | `(tactic| walk_at "obat") => `(tactic| first
  | exact Sy.at (by assumption) 0 rfl | exact Sy.at (by assumption) 1 rfl | exact Sy.at (by assumption) 2 rfl | exact Sy.at (by assumption) 3 rfl
  | exact Sy.at (by assumption) 4 rfl | exact Sy.at (by assumption) 5 rfl | exact Sy.at (by assumption) 6 rfl | exact Sy.at (by assumption) _ (by assumption) | exact Sy.at (by assumption) (_ + 1) (by assumption) | exact Sy.at (by assumption) (_ + 2) (by assumption))
local macro_rules | `(tactic| walk_at "obt") => `(tactic| first
  | exact Sy.tqs (by assumption) 0 rfl | exact Sy.tqs (by assumption) 1 rfl | exact Sy.tqs (by assumption) 2 rfl | exact Sy.tqs (by assumption) 3 rfl | exact Sy.tqs (by assumption) 4 rfl | exact Sy.tqs (by assumption) 5 rfl
  | exact Sy.tqs (by assumption) 6 rfl | exact Sy.tqs (by assumption) 7 rfl | assumption)
local macro_rules | `(tactic| walk_at "obl") => `(tactic| first
  | exact SqL.of (by walk_at "obat")
  | exact Sy.sq (by assumption) 0 rfl | exact Sy.sq (by assumption) 1 rfl | exact Sy.sq (by assumption) 2 rfl | exact Sy.sq (by assumption) 3 rfl | exact Sy.sq (by assumption) _ (by assumption))
local macro_rules | `(tactic| walk_at "obd") => `(tactic| first
  | exact Dp.int _ | exact Dp.bl _ | exact Dp.str _ | exact Dp.non
  | exact Sy.dp (by assumption) 0 rfl | exact Sy.dp (by assumption) 1 rfl | exact Sy.dp (by assumption) 2 rfl | exact Sy.dp (by assumption) 3 rfl
  | exact Sy.dp (by assumption) 4 rfl | exact Sy.dp (by assumption) 5 rfl | exact Sy.dp (by assumption) 6 rfl | exact Sy.dp (by assumption) 7 rfl
  | exact Sy.dp (by assumption) 8 rfl | exact Sy.dp (by assumption) 9 rfl | exact Sy.dp (by assumption) _ (by assumption) | assumption)
local macro_rules | `(tactic| walk_at "obds") => `(tactic| first
  | exact DpAll.nil
  | (refine' DpAll.cons ?ob1 ?ob2; (case ob1 => walk_at "obd"); (case ob2 => walk_at "obds"))
  | exact Sy.dps (by assumption) 0 rfl | exact Sy.dps (by assumption) 1 rfl | exact Sy.dps (by assumption) 2 rfl | exact Sy.dps (by assumption) 3 rfl | assumption)
local macro_rules | `(tactic| walk_at "obsc") => `(tactic| first
  | exact ScL.nil
  | ((first | refine' ScL.int ?obz | refine' ScL.str ?obz | refine' ScL.bl ?obz | refine' ScL.non ?obz); (case obz => walk_at "obsc")))
local macro_rules | `(tactic| walk_at "ob1") => `(tactic| first
  | ((with_reducible refine' g_var ?obh ?_); (case obh => rfl))
  | with_reducible refine g_c ?_
  | with_reducible refine g_nx ?_
  | with_reducible refine g_rt ?_
  | with_reducible refine g_bk ?_
  | with_reducible refine g_ct ?_
  | with_reducible refine g_op ?_
  | with_reducible refine g_I0 ?_
  | with_reducible refine g_test ?_
  | with_reducible refine g_bl ?_
  | with_reducible refine g_blx ?_
  | with_reducible refine g_B ?_
  | with_reducible refine g_seq ?_
  | with_reducible refine g_asg ?_
  | with_reducible refine g_name ?_
  | with_reducible refine g_ifS ?_
  | with_reducible refine g_ret ?_
  | with_reducible refine g_cb ?_
  | with_reducible refine g_cons ?_
  | with_reducible refine g_nil ?_
  | with_reducible refine g_int ?_
  | with_reducible refine g_intB ?_
  | with_reducible refine g_abs ?_
  | with_reducible refine g_max ?_
  | with_reducible refine g_min ?_
  | with_reducible refine g_un ?_
  | with_reducible refine g_U ?_
  | with_reducible refine g_eqI ?_
  | with_reducible refine g_neI ?_
  | with_reducible refine g_eqS ?_
  | with_reducible refine g_neS ?_
  | with_reducible refine g_tt ?_
  | with_reducible refine g_ff ?_
  | with_reducible refine g_next ?_
  | with_reducible refine g_drop ?_
  | with_reducible refine g_if ?_
  | with_reducible refine g_andV ?_
  | with_reducible refine g_orV ?_
  | with_reducible refine g_notV ?_
  | with_reducible refine g_and ?_
  | with_reducible refine g_or ?_
  | with_reducible refine g_not ?_
  | with_reducible refine g_yes ?_
  | with_reducible refine g_chain ?_
  | with_reducible refine g_cg ?_
  | with_reducible refine g_mg ?_
  | with_reducible refine g_kg ?_
  | with_reducible refine g_pg ?_
  | ((with_reducible refine' g_call ?obh ?obj ?_); (case obh => rfl); (case obj => rfl))
  | with_reducible refine g_par ?_
  | with_reducible refine g_par2 ?_
  | with_reducible refine g_par3 ?_
  | with_reducible refine g_par33 ?_
  | with_reducible refine g_gnil ?_
  | with_reducible refine g_gcons ?_
  | with_reducible refine g_gsub ?_
  | with_reducible refine g_ipI ?_
  | with_reducible refine g_rAdd ?_
  | with_reducible refine g_rSub ?_
  | ((with_reducible refine' g_aug ?obh ?_); (case obh => rfl))
  | with_reducible refine g_tup ?_
  | with_reducible refine g_lst ?_
  | with_reducible refine g_bm ?_
  | with_reducible refine g_bm0 ?_
  | with_reducible refine g_sl ?_
  | with_reducible refine g_nopart ?_
  | with_reducible refine g_part ?_
  | with_reducible refine g_pint ?_
  | with_reducible refine isi_int ?_
  | with_reducible refine isi_intB ?_
  | ((with_reducible refine' g_I ?obh ?_); (case obh => walk_at "obc"))
  | ((with_reducible refine' g_tyl ?obh ?_); (case obh => walk_at "obl"))
  | ((with_reducible refine' g_lenL ?obh ?_); (case obh => walk_at "obl"))
  | with_reducible refine g_ne ?_
  | ((with_reducible refine' g_neN' ?obh ?_); (case obh => rfl))
  | with_reducible refine g_ntt ?_
  | with_reducible refine g_nff ?_
  | with_reducible refine g_star ?_
  | with_reducible refine g_att ?_
  | with_reducible refine g_sfld ?_
  | with_reducible refine g_faug ?_
  | with_reducible refine g_fld ?_
  | ((with_reducible refine' g_nF ?obh ?_); (case obh => omega))
  | ((with_reducible refine' g_nT ?obh ?_); (case obh => omega))
  | ((with_reducible refine' g_TD ?obh ?_); (case obh => omega))
  | ((with_reducible refine' g_FD ?obh ?_); (case obh => omega))
  | ((with_reducible refine' g_ixUL ?obh ?obi ?_); (case obh => walk_at "obl"); (case obi => exact atI_nn (by omega) (by rfl)))
  | ((with_reducible refine' g_setLS ?obs ?obh ?obi ?_); (case obs => assumption); (case obh => assumption); (case obi => rfl); intro _ _ _)
  | ((with_reducible refine' g_newT ?obs ?obh ?obi ?obj ?_); (case obs => assumption); (case obh => walk_at "obds"); (case obi => rfl); (case obj => exact Nat.le_of_ble_eq_true rfl); intro _ _ _ _)
  | ((with_reducible refine' g_newL ?obs ?obj ?_); (case obs => assumption); (case obj => exact Nat.le_of_ble_eq_true rfl); intro _ _ _ _)
  | ((with_reducible refine' isi_tup ?obh ?_); (case obh => walk_at "obt"))
  | ((with_reducible refine' g_lenT ?obh ?_); (case obh => walk_at "obt"))
  | ((with_reducible refine' g_unpT ?obh ?obi ?_); (case obh => walk_at "obt"); (case obi => rfl))
  | ((with_reducible refine' g_divmod ?obs ?obh ?_); (case obs => assumption); (case obh => exact cdivp_ok (by omega) (by omega) (by omega)); intro _ _ _ _)
  | ((with_reducible refine' g_unpD ?obh ?obi ?obj ?_); (case obh => walk_at "obd"); (case obi => walk_at "obsc"); (case obj => rfl))
  | with_reducible refine g_att ?_)
local macro_rules | `(tactic| walk_at "ob") => `(tactic| first
  | walk_at "ob1"
  | refine use_is_integer ?_
  | refine use_is_within ?_
  | with_reducible refine g_lstRg ?_
  | with_reducible refine g_rg1 ?_
  | with_reducible refine g_rg2 ?_
  | with_reducible refine g_tTru ?_
  | ((with_reducible refine' g_truL ?obh ?_); (case obh => walk_at "obl"))
  | ((with_reducible refine' g_ixUT ?obh ?obi ?_); (case obh => walk_at "obt"); (case obi => rfl))
  | with_reducible refine g_forZ ?_
  | with_reducible refine g_forR2 ?_
  | with_reducible refine g_forE ?_
  | with_reducible refine g_lcZ ?_)
/-! ### files, plainly -/
abbrev Fl : Type := List (Str × List Str)
def lnsOf (fs : Fl) (n : Str) : List Str := ((fs.find? fun f => decide (f.1 = n)).map (·.2)).getD []
def RowsOf (rs : List FRow) (fs : Fl) : Prop := rs.map (fun r => (r.1, r.2.2)) = fs.map fun f => (f.1, f.2.map V.str)
def srtF (fs : Fl) (ys : List Str) : Fl := ys.map fun n => (n, lnsOf fs n)
def fileD (f : Str × List Str) : PyData := .tuple [.str f.1, .tuple (f.2.map PyData.str)]
def filesT (fs : Fl) : PyData := .tuple (fs.map fileD)
theorem RowsOf.names {rs : List FRow} {fs : Fl} (h : RowsOf rs fs) : rs.map (·.1) = fs.map (·.1) := by
  have := congrArg (fun l : List (Str × List V) => l.map (·.1)) h
  rw [List.map_map, List.map_map] at this
  exact this
theorem RowsOf.len {rs : List FRow} {fs : Fl} (h : RowsOf rs fs) : rs.length = fs.length := by
  have := congrArg List.length h
  rwa [List.length_map, List.length_map] at this
theorem RowsOf.row : ∀ {rs : List FRow} {fs : Fl} {n : Str} {r : FRow}, RowsOf rs fs → frOf rs n = some r → r.2.2 = (lnsOf fs n).map V.str
  | [], _, _, _, _, h => by cases h
  | r0 :: rs, [], _, _, h, _ => by cases h
  | r0 :: rs, f :: fs, n, r, h, hr => by
    obtain ⟨h1, h2⟩ := List.cons.inj (show (r0.1, r0.2.2) :: rs.map (fun r => (r.1, r.2.2)) = (f.1, f.2.map V.str) :: fs.map (fun f => (f.1, f.2.map V.str)) from h)
    obtain ⟨e1, e2⟩ := Prod.mk.inj h1
    unfold frOf at hr
    unfold lnsOf
    rw [List.find?_cons] at hr ⊢
    rw [← e1]
    by_cases c : r0.1 = n
    · rw [decide_eq_true c] at hr ⊢
      cases hr
      exact e2
    · rw [decide_eq_false c] at hr ⊢
      exact RowsOf.row (rs := rs) (fs := fs) h2 hr
theorem frOf_mem : ∀ {rs : List FRow} {n : Str}, n ∈ rs.map (·.1) → ∃ r, frOf rs n = some r
  | [], _, h => nomatch h
  | r0 :: rs, n, h => by
    unfold frOf
    rw [List.find?_cons]
    by_cases c : r0.1 = n
    · rw [decide_eq_true c]
      exact ⟨_, rfl⟩
    · rw [decide_eq_false c]
      rcases List.mem_cons.mp h with e | h
      · exact absurd e.symm c
      · exact frOf_mem h
theorem strs_imm (l : List Str) : immAll (l.map PyData.str) = true := immAll_of fun x hx => by
  obtain ⟨s, _, rfl⟩ := List.mem_map.mp hx
  rfl
theorem fileD_imm (f : Str × List Str) : imm (fileD f) = true := by
  show (true && (immAll (f.2.map PyData.str) && true)) = true
  rw [strs_imm]
  rfl
theorem files_imm (fs : Fl) : immAll (fs.map fileD) = true := immAll_of fun x hx => by
  obtain ⟨s, _, rfl⟩ := List.mem_map.mp hx
  exact fileD_imm s
section
variable {P : Program} {w : World} {K : Frag} {mg : Str → Option Value} {base : Heap}
theorem dps_strs {H : Hp} : ∀ l : List Str, DpAll K H (l.map V.str) (l.map PyData.str)
  | [] => .nil
  | _ :: l => .cons (.str _) (dps_strs l)
theorem dps_strsV {H : Hp} : ∀ {l : List Str} {vs : List V}, DpAll K H vs (l.map PyData.str) → vs = l.map V.str
  | [], _, h => by cases h; rfl
  | m :: ms, _, h => by
    cases h with
    | cons h1 h2 => rw [dps_strsV h2, dp_str h1]; rfl
def sp_files_of (K : Frag) : Sp := fun vs H Q E => vs.length = 1 ∧ ∃ (F : List (Addr × HO)) (G : List Ft) (d : Addr) (rs : List FRow) (fs : Fl), vs = [.ref d] ∧ Sy K F G H ∧ (∀ H', Sy K F G H' → FLat H' d rs) ∧ RowsOf rs fs ∧ rs.length < 64 ∧ (∀ r ∈ rs, r.2.2.length ≤ 1000) ∧
  ∀ t ys (o : Obj) xs H', IsSrt (fs.map (·.1)) ys → o.dict = none → Sy K ((t, .frz o (.tup xs)) :: F) (.dat [.ref t] [filesT (srtF fs ys)] :: .dat xs ((srtF fs ys).map fileD) :: G) H' → Q (.ref t) H'
abbrev names_files_of : List Str := ["known", "name"]
theorem sc_files_of : FnScope names_files_of ["known"] (defScope (top 31)) := ⟨rfl, rfl, rfl, by decide +kernel, rfl, by decide +kernel, by decide +kernel⟩
set_option maxHeartbeats 4000000 in
theorem ok_files_of (T : Tx K mg) : FG P w K mg base CX0 1 T.a_files_of T.d_files_of ["known"] (sp_files_of K) := by
  refine OB.Fun.fg T.F_files_of sc_files_of (fun vs H Q E h => h.1) (fun cdv A out s H vs Q E g h => ?_)
  obtain ⟨_, F, G, d, rs, fs, rfl, S, hF, hR, hl, hll, k⟩ := h
  refine ⟨_, (pss_one (ps_ret (pe_callTy (toK (r := OB.rTupleF) (K := K) rfl c_tupleF) (by rfl) T.n_tuple (by decide +kernel) (pa_cons (pe_lc (own := [("name", 1)]) (tt := tYes) rfl sc_files_of.nd (pi_seq (pe_callB (call_sortedD rfl) (by rfl) T.n_sorted (by decide +kernel) (pa_cons (pv 0) pa_nil))) (blkOk_by (N := names_files_of) (sc := defScope (top 31)) (own := [("name", 1)]) (by decide +kernel)) (fun _ _ _ _ _ => (pg_name (i := 1) sc_files_of.nd rfl (by first | exact Or.inl rfl | exact Or.inr rfl))) (fun _ _ _ _ _ => pts_nil) (fun _ _ _ _ _ => (pe_tup (pa_cons (pv 1) (pa_cons (pe_callTy (toK (r := rTuple) (K := K) rfl c_tuple) (by rfl) T.n_tuple (by decide +kernel) (pa_cons (pe_dget g.hu1 (pv 0) (pv 1) (fun _ _ => rfl)) pa_nil)) pa_nil))))) pa_nil)))), ?_⟩
  refine g_start (σ := [some _, none]) rfl ?_
  have hn : (kvO rs).map (·.1) = (fs.map (·.1)).map Sum.inr := by
    rw [← hR.names, List.map_map]
    unfold kvO
    rw [List.map_map]
    rfl
  repeat walk_at "ob"
  refine g_lcE2 ?_
  repeat walk_at "ob"
  refine ⟨d, kvO rs, fs.map (·.1), rfl, (hF _ S).1, hn, by rw [List.length_map, ← hR.len]; exact hl, fun ys p hp hs hp0 => ?_⟩
  have S1 := S.push (o := .lst (ys.map V.str)) hp0
  generalize upd H p (.lst (ys.map V.str)) = H1 at S1 ⊢
  have hyl : ys.length < 64 := by rw [hp.length_eq, List.length_map, ← hR.len]; exact hl
  have hdn : (yn : Str) → yn ∈ ys → ∃ r, frOf rs yn = some r := fun yn hy => frOf_mem (by rw [hR.names]; exact hp.mem_iff.mp hy)
  repeat walk_at "ob"
  refine g_lcS (a := p) (xs := ys.map V.str) true (fun j F' ds => F' = (p, .lst (ys.map V.str)) :: F ∧ ds = (srtF fs (ys.take j)).map fileD ∧ j ≤ ys.length) S1 (fun Q' q => by repeat walk_at "ob"; exact q) ⟨rfl, rfl, Nat.zero_le _⟩ (fun j F' ds H' hi S3 => SqL.of ((hi.1 ▸ S3).at 0 rfl)) (fun j F' ds hi => by
    rw [hi.2.1, List.length_map]
    unfold srtF
    rw [List.length_map, List.length_take]
    omega) ?_ ?_
  · intro j x hx Dp H2 F2 us ds QE QR hj S3 kE kR
    obtain ⟨rfl, rfl, hj2⟩ := hj
    rw [List.getElem?_map] at hx
    obtain ⟨yn, hyn, rfl⟩ := Option.map_eq_some_iff.mp hx
    have hj3 := (List.getElem?_eq_some_iff.mp hyn).1
    obtain ⟨r, hr⟩ := hdn yn (List.mem_of_getElem? hyn)
    have hrl := hll r (frOf_some hr).1
    have hr2 := hR.row hr
    have f2 := hF _ (S3.less.less.drop)
    have hrow := f2.row hr
    repeat walk_at "ob"
    refine ⟨rfl, ?_⟩
    repeat ((fail_if_success (with_reducible refine atNewT ?_)); walk_at "ob")
    refine g_tDGet ?_
    repeat walk_at "ob"
    refine g_dgetS (v := .ref r.2.1) f2.1 (by rw [valV_kvO, hr]; rfl) ?_
    repeat walk_at "ob"
    refine g_tup0 S3 (SqL.of hrow) (ds := (lnsOf fs yn).map PyData.str) (by rw [hr2]; exact dps_strs _) (strs_imm _) fun t2 H3 _ S4 => ?_
    repeat ((fail_if_success (with_reducible refine atNewT ?_)); walk_at "ob")
    refine g_newT (ds := [.str yn, .tuple ((lnsOf fs yn).map PyData.str)]) S4 (.cons (.str _) (.cons (S4.dp 0 rfl) .nil)) (by show (true && (immAll ((lnsOf fs yn).map PyData.str) && true)) = true; rw [strs_imm]; rfl) (Nat.le_of_ble_eq_true rfl) fun t3 H4 _ S5 => ?_
    refine kE _ (fileD (yn, lnsOf fs yn)) _ _ ⟨rfl, ?_, hj3⟩ S5.drop2
    rw [List.take_add_one, hyn]
    unfold srtF
    rw [List.map_append, List.map_append]
    rfl
  · rintro Dp H2 F2 us ds hD ⟨rfl, rfl, _⟩ S3
    rw [show (ys.map V.str).length = ys.length from List.length_map .., List.take_length] at S3
    repeat walk_at "ob"
    refine g_tup0F S3 (SqL.of (S3.at 0 rfl)) (S3.dps 0 rfl) (S3.dpi 0 rfl) fun t2 o H3 ho S4 => ?_
    exact k t2 ys o us H3 ⟨hp, hs⟩ ho S4.swap.less.swap.less
theorem use_files_of {F : List (Addr × HO)} {G : List Ft} {H : Hp} {Q : VK} {E : XK} {d : Addr} {rs : List FRow} {fs : Fl} (S : Sy K F G H) (hF : ∀ H', Sy K F G H' → FLat H' d rs) (hR : RowsOf rs fs) (hl : rs.length < 64) (hll : ∀ r ∈ rs, r.2.2.length ≤ 1000)
    (k : ∀ t ys H', IsSrt (fs.map (·.1)) ys → Sy K F (.dat [.ref t] [filesT (srtF fs ys)] :: G) H' → Q (.ref t) H') : sp_files_of K [.ref d] H Q E := ⟨rfl, F, G, d, rs, fs, rfl, S, hF, hR, hl, hll, fun t ys _ _ H' hs _ S' => k t ys H' hs S'.less.drop2⟩
theorem putR_new {rs : List FRow} {n : Str} {p : Addr} {vs : List V} (h : n ∉ rs.map (·.1)) : putR rs n p vs = rs ++ [(n, p, vs)] := by
  unfold putR
  rw [if_neg]
  intro z
  obtain ⟨r, hr, e⟩ := List.any_eq_true.mp z
  exact h (List.mem_map.mpr ⟨r, hr, of_decide_eq_true e⟩)
theorem perm_new {rs : List FRow} {n : Str} {p d : Addr} {vs : List V} {o : HO} {F : List (Addr × HO)} : ((p, HO.lst vs) :: (d, o) :: (fL rs ++ F)).Perm ((d, o) :: (fL (rs ++ [(n, p, vs)]) ++ F)) := by
  have e : fL (rs ++ [(n, p, vs)]) ++ F = fL rs ++ ((p, HO.lst vs) :: F) := by
    unfold fL
    rw [List.map_append, List.append_assoc]
    rfl
  rw [e]
  exact (List.Perm.swap _ _ _).trans (List.Perm.cons _ List.perm_middle.symm)
def sp_lists_of (K : Frag) : Sp := fun vs H Q E => vs.length = 1 ∧ ∃ (F : List (Addr × HO)) (G : List Ft) (t : Addr) (fs : Fl), vs = [.ref t] ∧ Sy K F (.dat [.ref t] [filesT fs] :: G) H ∧ (fs.map (·.1)).Nodup ∧ fs.length ≤ 1000 ∧
  ∀ d rs H', RowsOf rs fs → Sy K (fB d rs ++ F) (.dat [.ref t] [filesT fs] :: G) H' → Q (.ref d) H'
abbrev names_lists_of : List Str := ["files", "name", "lines"]
theorem sc_lists_of : FnScope names_lists_of ["files"] (defScope (top 32)) := ⟨rfl, rfl, rfl, by decide +kernel, rfl, by decide +kernel, by decide +kernel⟩
set_option maxHeartbeats 4000000 in
theorem ok_lists_of (T : Tx K mg) : FG P w K mg base CX0 1 T.a_lists_of T.d_lists_of ["files"] (sp_lists_of K) := by
  refine OB.Fun.fg T.F_lists_of sc_lists_of (fun vs H Q E h => h.1) (fun cdv A out s H vs Q E g h => ?_)
  obtain ⟨_, F, G, t, fs, rfl, S, nd, hl, k⟩ := h
  refine ⟨_, (pss_one (ps_ret (pe_dc (own := [("name", 1), ("lines", 2)]) (tt := tYes) rfl sc_lists_of.nd (pi_seq (pv 0)) (blkOk_by (N := names_lists_of) (sc := defScope (top 32)) (own := [("name", 1), ("lines", 2)]) (by decide +kernel)) (fun _ _ _ _ _ => (pg_tupK (K := K) rfl (n := 2) rfl (pgs_cons (pg_name (i := 1) sc_lists_of.nd rfl (by first | exact Or.inl rfl | exact Or.inr rfl)) (pgs_cons (pg_name (i := 2) sc_lists_of.nd rfl (by first | exact Or.inl rfl | exact Or.inr rfl)) pgs_nil)))) (fun _ _ _ _ _ => pts_nil) (fun _ _ _ _ _ => (pv 1)) (fun _ _ _ _ _ => (pe_callTy (toK (r := rList) (K := K) rfl c_list) (by rfl) T.n_list (by decide +kernel) (pa_cons (pv 2) pa_nil)))))), ?_⟩
  refine g_start (σ := [some _, none, none]) rfl ?_
  obtain ⟨a, xs, e, S0⟩ := S.opn (S.dp 0 rfl) (files_imm fs)
  cases e
  have hxl := dps_length (S0.dps 1 rfl)
  rw [List.length_map] at hxl
  repeat walk_at "ob"
  refine g_dcV (a := t) (xs := xs) (fun j F' kvs => ∃ rs, RowsOf rs (fs.take j) ∧ F' = fL rs ++ F ∧ kvs = kvO rs ∧ j ≤ fs.length) S0 (fun Q' q => by repeat walk_at "ob"; exact q) ⟨[], rfl, rfl, rfl, Nat.zero_le _⟩ (fun j F' kvs ⟨rs, h1, _, h3, h4⟩ => by
    rw [h3, kvO_len, h1.len, List.length_take]
    omega) ?_ ?_
  · rintro j x hx Da H2 F2 kvs QE QR ⟨rs, hR, rfl, rfl, hj⟩ S3 kE kR
    obtain ⟨f, hf, hfd⟩ := dps_map (S3.dps 1 rfl) hx
    obtain ⟨p, ys, rfl, hp, hys⟩ := dp_tuple hfd
    cases hys with
    | cons h1 hys =>
    cases hys with
    | cons h2 hys =>
    cases hys
    have e1 := dp_str h1
    subst e1
    obtain ⟨q, zs, rfl, hq, hz⟩ := dp_tuple h2
    have e2 := dps_strsV hz
    subst e2
    have hj3 := (List.getElem?_eq_some_iff.mp hf).1
    have hnew : f.1 ∉ rs.map (·.1) := by
      rw [hR.names]
      intro z
      rw [List.map_take] at z
      obtain ⟨i, hi⟩ := List.mem_iff_getElem?.mp z
      have hij : i < j := by
        have := (List.getElem?_eq_some_iff.mp hi).1
        rw [List.length_take] at this
        omega
      rw [List.getElem?_take_of_lt hij] at hi
      have hf2 : (fs.map (·.1))[j]? = some f.1 := by rw [List.getElem?_map, hf]; rfl
      obtain ⟨l1, e1⟩ := List.getElem?_eq_some_iff.mp hi
      obtain ⟨l2, e2⟩ := List.getElem?_eq_some_iff.mp hf2
      exact List.pairwise_iff_getElem.mp nd i j l1 l2 hij (e1.trans e2.symm)
    repeat walk_at "ob"
    refine ⟨rfl, ?_⟩
    repeat walk_at "ob"
    refine ⟨q, _, rfl, .inr hq, fun p2 hp2 => ?_⟩
    have S4 := S3.push (o := .lst (f.2.map V.str)) hp2
    refine kE (.inr f.1) (.ref p2) _ _ ⟨rs ++ [(f.1, p2, f.2.map V.str)], ?_, rfl, ?_, hj3⟩ ?_
    · unfold RowsOf at hR ⊢
      rw [List.map_append, hR, List.take_add_one, hf, List.map_append]
      rfl
    · rw [← kvO_put, putR_new hnew]
    · exact S4.perm perm_new.symm
  · rintro Da H2 F2 kvs hD ⟨rs, hR, rfl, rfl, _⟩ S3
    rw [hxl, List.take_length] at hR
    exact k Da rs H2 hR S3.drop.drop
theorem use_lists_of {F : List (Addr × HO)} {G : List Ft} {H : Hp} {Q : VK} {E : XK} {t : Addr} {fs : Fl} (S : Sy K F (.dat [.ref t] [filesT fs] :: G) H) (nd : (fs.map (·.1)).Nodup) (hl : fs.length ≤ 1000)
    (k : ∀ d rs H', RowsOf rs fs → Sy K (fB d rs ++ F) (.dat [.ref t] [filesT fs] :: G) H' → Q (.ref d) H') : sp_lists_of K [.ref t] H Q E := ⟨rfl, F, G, t, fs, rfl, S, nd, hl, k⟩
end
end LAW

set_option Elab.async false
set_option linter.all false
set_option maxRecDepth 100000
namespace LAW
open PySem PySem.Spec PyProof.Rows L2 PySem.W OB
local macro_rules | `(tactic| walk_at "obc") => `(tactic| first
  | exact Or.inl ⟨by omega, by omega⟩
  | exact Or.inr ⟨by omega, by omega⟩
  | exact cdiv_ok (by omega) (by omega)
  | (show (0 : Int) < _; omega)
  | exact ⟨by omega, by decide⟩
  | exact ⟨by decide, by decide⟩)
local macro_rules | `(tactic| walk_at "obat") => `(tactic| first
  | exact Sy.at (by assumption) 0 rfl | exact Sy.at (by assumption) 1 rfl | exact Sy.at (by assumption) 2 rfl | exact Sy.at (by assumption) 3 rfl
  | exact Sy.at (by assumption) 4 rfl | exact Sy.at (by assumption) 5 rfl | exact Sy.at (by assumption) 6 rfl | exact Sy.at (by assumption) _ (by assumption) | exact Sy.at (by assumption) (_ + 1) (by assumption) | exact Sy.at (by assumption) (_ + 2) (by assumption))
local macro_rules | `(tactic| walk_at "obt") => `(tactic| first
  | exact Sy.tqs (by assumption) 0 rfl | exact Sy.tqs (by assumption) 1 rfl | exact Sy.tqs (by assumption) 2 rfl | exact Sy.tqs (by assumption) 3 rfl | exact Sy.tqs (by assumption) 4 rfl | exact Sy.tqs (by assumption) 5 rfl
  | exact Sy.tqs (by assumption) 6 rfl | exact Sy.tqs (by assumption) 7 rfl | assumption)
local macro_rules | `(tactic| walk_at "obl") => `(tactic| first
  | exact SqL.of (by walk_at "obat")
  | exact Sy.sq (by assumption) 0 rfl | exact Sy.sq (by assumption) 1 rfl | exact Sy.sq (by assumption) 2 rfl | exact Sy.sq (by assumption) 3 rfl | exact Sy.sq (by assumption) _ (by assumption))
local macro_rules | `(tactic| walk_at "obd") => `(tactic| first
  | exact Dp.int _ | exact Dp.bl _ | exact Dp.str _ | exact Dp.non
  | exact Sy.dp (by assumption) 0 rfl | exact Sy.dp (by assumption) 1 rfl | exact Sy.dp (by assumption) 2 rfl | exact Sy.dp (by assumption) 3 rfl
  | exact Sy.dp (by assumption) 4 rfl | exact Sy.dp (by assumption) 5 rfl | exact Sy.dp (by assumption) 6 rfl | exact Sy.dp (by assumption) 7 rfl
  | exact Sy.dp (by assumption) 8 rfl | exact Sy.dp (by assumption) 9 rfl | exact Sy.dp (by assumption) _ (by assumption) | assumption)
local macro_rules | `(tactic| walk_at "obds") => `(tactic| first
  | exact DpAll.nil
  | (refine' DpAll.cons ?ob1 ?ob2; (case ob1 => walk_at "obd"); (case ob2 => walk_at "obds"))
  | exact Sy.dps (by assumption) 0 rfl | exact Sy.dps (by assumption) 1 rfl | exact Sy.dps (by assumption) 2 rfl | exact Sy.dps (by assumption) 3 rfl | assumption)
local macro_rules | `(tactic| walk_at "obsc") => `(tactic| first
  | exact ScL.nil
  | ((first | refine' ScL.int ?obz | refine' ScL.str ?obz | refine' ScL.bl ?obz | refine' ScL.non ?obz); (case obz => walk_at "obsc")))
local macro_rules | `(tactic| walk_at "ob1") => `(tactic| first
  | ((with_reducible refine' g_var ?obh ?_); (case obh => rfl))
  | with_reducible refine g_c ?_
  | with_reducible refine g_nx ?_
  | with_reducible refine g_rt ?_
  | with_reducible refine g_bk ?_
  | with_reducible refine g_ct ?_
  | with_reducible refine g_op ?_
  | with_reducible refine g_I0 ?_
  | with_reducible refine g_test ?_
  | with_reducible refine g_bl ?_
  | with_reducible refine g_blx ?_
  | with_reducible refine g_B ?_
  | with_reducible refine g_seq ?_
  | with_reducible refine g_asg ?_
  | with_reducible refine g_name ?_
  | with_reducible refine g_ifS ?_
  | with_reducible refine g_ret ?_
  | with_reducible refine g_cb ?_
  | with_reducible refine g_cons ?_
  | with_reducible refine g_nil ?_
  | with_reducible refine g_int ?_
  | with_reducible refine g_intB ?_
  | with_reducible refine g_abs ?_
  | with_reducible refine g_max ?_
  | with_reducible refine g_min ?_
  | with_reducible refine g_un ?_
  | with_reducible refine g_U ?_
  | with_reducible refine g_eqI ?_
  | with_reducible refine g_neI ?_
  | with_reducible refine g_eqS ?_
  | with_reducible refine g_neS ?_
  | with_reducible refine g_tt ?_
  | with_reducible refine g_ff ?_
  | with_reducible refine g_next ?_
  | with_reducible refine g_drop ?_
  | with_reducible refine g_if ?_
  | with_reducible refine g_andV ?_
  | with_reducible refine g_orV ?_
  | with_reducible refine g_notV ?_
  | with_reducible refine g_and ?_
  | with_reducible refine g_or ?_
  | with_reducible refine g_not ?_
  | with_reducible refine g_yes ?_
  | with_reducible refine g_chain ?_
  | with_reducible refine g_cg ?_
  | with_reducible refine g_mg ?_
  | with_reducible refine g_kg ?_
  | with_reducible refine g_pg ?_
  | ((with_reducible refine' g_call ?obh ?obj ?_); (case obh => rfl); (case obj => rfl))
  | with_reducible refine g_par ?_
  | with_reducible refine g_par2 ?_
  | with_reducible refine g_par3 ?_
  | with_reducible refine g_par33 ?_
  | with_reducible refine g_gnil ?_
  | with_reducible refine g_gcons ?_
  | with_reducible refine g_gsub ?_
  | with_reducible refine g_ipI ?_
  | with_reducible refine g_rAdd ?_
  | with_reducible refine g_rSub ?_
  | ((with_reducible refine' g_aug ?obh ?_); (case obh => rfl))
  | with_reducible refine g_tup ?_
  | with_reducible refine g_lst ?_
  | with_reducible refine g_bm ?_
  | with_reducible refine g_bm0 ?_
  | with_reducible refine g_sl ?_
  | with_reducible refine g_nopart ?_
  | with_reducible refine g_part ?_
  | with_reducible refine g_pint ?_
  | with_reducible refine isi_int ?_
  | with_reducible refine isi_intB ?_
  | ((with_reducible refine' g_I ?obh ?_); (case obh => walk_at "obc"))
  | ((with_reducible refine' g_tyl ?obh ?_); (case obh => walk_at "obl"))
  | ((with_reducible refine' g_lenL ?obh ?_); (case obh => walk_at "obl"))
  | with_reducible refine g_ne ?_
  | ((with_reducible refine' g_neN' ?obh ?_); (case obh => rfl))
  | with_reducible refine g_ntt ?_
  | with_reducible refine g_nff ?_
  | with_reducible refine g_star ?_
  | with_reducible refine g_att ?_
  | with_reducible refine g_sfld ?_
  | with_reducible refine g_faug ?_
  | with_reducible refine g_fld ?_
  | ((with_reducible refine' g_nF ?obh ?_); (case obh => omega))
  | ((with_reducible refine' g_nT ?obh ?_); (case obh => omega))
  | ((with_reducible refine' g_TD ?obh ?_); (case obh => omega))
  | ((with_reducible refine' g_FD ?obh ?_); (case obh => omega))
  | ((with_reducible refine' g_ixUL ?obh ?obi ?_); (case obh => walk_at "obl"); (case obi => exact atI_nn (by omega) (by rfl)))
  | ((with_reducible refine' g_setLS ?obs ?obh ?obi ?_); (case obs => assumption); (case obh => assumption); (case obi => rfl); intro _ _ _)
  | ((with_reducible refine' g_newT ?obs ?obh ?obi ?obj ?_); (case obs => assumption); (case obh => walk_at "obds"); (case obi => rfl); (case obj => exact Nat.le_of_ble_eq_true rfl); intro _ _ _ _)
  | ((with_reducible refine' g_newL ?obs ?obj ?_); (case obs => assumption); (case obj => exact Nat.le_of_ble_eq_true rfl); intro _ _ _ _)
  | ((with_reducible refine' isi_tup ?obh ?_); (case obh => walk_at "obt"))
  | ((with_reducible refine' g_lenT ?obh ?_); (case obh => walk_at "obt"))
  | ((with_reducible refine' g_unpT ?obh ?obi ?_); (case obh => walk_at "obt"); (case obi => rfl))
  | ((with_reducible refine' g_divmod ?obs ?obh ?_); (case obs => assumption); (case obh => exact cdivp_ok (by omega) (by omega) (by omega)); intro _ _ _ _)
  | ((with_reducible refine' g_unpD ?obh ?obi ?obj ?_); (case obh => walk_at "obd"); (case obi => walk_at "obsc"); (case obj => rfl))
  | with_reducible refine g_att ?_)
local macro_rules | `(tactic| walk_at "ob") => `(tactic| first
  | walk_at "ob1"
  | refine use_is_integer ?_
  | refine use_is_within ?_
  | with_reducible refine g_lstRg ?_
  | with_reducible refine g_rg1 ?_
  | with_reducible refine g_rg2 ?_
  | with_reducible refine g_tTru ?_
  | ((with_reducible refine' g_truL ?obh ?_); (case obh => walk_at "obl"))
  | ((with_reducible refine' g_ixUT ?obh ?obi ?_); (case obh => walk_at "obt"); (case obi => rfl))
  | with_reducible refine g_forZ ?_
  | with_reducible refine g_forR2 ?_
  | with_reducible refine g_forE ?_
  | with_reducible refine g_lcZ ?_)
/-! ### deeds, plainly -/
inductive Dd where
  | add (n l : Str)
  | lay (n : Str) (ls : List Str)
  | syn
  deriving DecidableEq
def Dd.d : Dd → PyData
  | .add n l => .tuple [.str "add", .str n, .str l]
  | .lay n ls => .tuple [.str "lay", .str n, .tuple (ls.map PyData.str)]
  | .syn => .tuple [.str "sync"]
def hasF (fs : Fl) (n : Str) : Bool := fs.any fun f => decide (f.1 = n)
def putF (fs : Fl) (n : Str) (ls : List Str) : Fl := if hasF fs n = true then fs.map fun f => if f.1 = n then (f.1, ls) else f else fs ++ [(n, ls)]
def doF (fs : Fl) : Dd → Fl
  | .add n l => putF fs n (lnsOf fs n ++ [l])
  | .lay n ls => putF fs n ls
  | .syn => fs
theorem hasF_mem {fs : Fl} {n : Str} : hasF fs n = true ↔ n ∈ fs.map (·.1) := by
  unfold hasF
  rw [List.any_eq_true, List.mem_map]
  constructor
  · rintro ⟨r, hr, h⟩
    exact ⟨r, hr, of_decide_eq_true h⟩
  · rintro ⟨r, hr, h⟩
    exact ⟨r, hr, decide_eq_true h⟩
theorem putF_names (fs : Fl) (n : Str) (ls : List Str) : (putF fs n ls).map (·.1) = if n ∈ fs.map (·.1) then fs.map (·.1) else fs.map (·.1) ++ [n] := by
  unfold putF
  by_cases h : hasF fs n = true
  · rw [if_pos h, if_pos (hasF_mem.mp h), List.map_map]
    refine List.map_congr_left fun f _ => ?_
    show (if f.1 = n then (f.1, ls) else f).1 = f.1
    by_cases c : f.1 = n
    · rw [if_pos c]
    · rw [if_neg c]
  · rw [if_neg h, if_neg (fun z => h (hasF_mem.mpr z)), List.map_append]
    rfl
theorem putF_nodup {fs : Fl} {n : Str} {ls : List Str} (h : (fs.map (·.1)).Nodup) : ((putF fs n ls).map (·.1)).Nodup := by
  rw [putF_names]
  by_cases c : n ∈ fs.map (·.1)
  · rw [if_pos c]
    exact h
  · rw [if_neg c, List.nodup_append]
    exact ⟨h, List.nodup_cons.mpr ⟨fun h => (nomatch h), .nil⟩, fun a ha b hb e => c (by rw [← show b = n from List.mem_singleton.mp hb, ← e]; exact ha)⟩
theorem RowsOf.has {rs : List FRow} {fs : Fl} (h : RowsOf rs fs) (n : Str) : (rs.any fun r => decide (r.1 = n)) = hasF fs n := by
  have e : ∀ (l : List FRow), (l.any fun r => decide (r.1 = n)) = ((l.map (·.1)).any fun m => decide (m = n)) := fun l => by rw [List.any_map]; rfl
  have e2 : hasF fs n = ((fs.map (·.1)).any fun m => decide (m = n)) := by unfold hasF; rw [List.any_map]; rfl
  rw [e, e2, h.names]
theorem RowsOf.put {rs : List FRow} {fs : Fl} (h : RowsOf rs fs) (n : Str) (p : Addr) (ls : List Str) : RowsOf (putR rs n p (ls.map V.str)) (putF fs n ls) := by
  unfold RowsOf putR putF
  rw [h.has n]
  by_cases c : hasF fs n = true
  · rw [if_pos c, if_pos c]
    have key : ∀ (rs : List FRow) (fs : Fl), RowsOf rs fs → (rs.map fun r => if r.1 = n then (r.1, p, ls.map V.str) else r).map (fun r => (r.1, r.2.2)) = (fs.map fun f => if f.1 = n then (f.1, ls) else f).map fun f => (f.1, f.2.map V.str) := by
      intro rs
      induction rs with
      | nil =>
        intro fs h
        cases fs with
        | nil => rfl
        | cons f fs => cases h
      | cons r rs ih =>
        intro fs h
        cases fs with
        | nil => cases h
        | cons f fs =>
          obtain ⟨h1, h2⟩ := List.cons.inj (show (r.1, r.2.2) :: rs.map (fun r => (r.1, r.2.2)) = (f.1, f.2.map V.str) :: fs.map (fun f => (f.1, f.2.map V.str)) from h)
          obtain ⟨e1, e2⟩ := Prod.mk.inj h1
          rw [List.map_cons, List.map_cons, List.map_cons, List.map_cons, ih fs h2]
          congr 1
          rw [← e1]
          by_cases c : r.1 = n
          · rw [if_pos c, if_pos c]
          · rw [if_neg c, if_neg c]
            show (r.1, r.2.2) = (f.1, f.2.map V.str)
            rw [e1, e2]
    exact key rs fs h
  · rw [if_neg c, if_neg c, List.map_append, List.map_append, h]
    rfl
theorem RowsOf.set {rs : List FRow} {fs : Fl} {n : Str} {r : FRow} {j : Nat} (h : RowsOf rs fs) (nd : (rs.map (·.1)).Nodup) (hj : rs[j]? = some r) (hn : r.1 = n) (ls : List Str) : RowsOf (rs.set j (r.1, r.2.1, ls.map V.str)) (putF fs n ls) := by
  have c : hasF fs n = true := by
    rw [hasF_mem, ← h.names]
    exact List.mem_map.mpr ⟨r, List.mem_of_getElem? hj, hn⟩
  have hp := h.put n r.2.1 ls
  unfold RowsOf at hp ⊢
  rw [← hp]
  unfold putR
  rw [h.has n, if_pos c]
  congr 1
  refine List.ext_getElem? fun i => ?_
  have hjl := (List.getElem?_eq_some_iff.mp hj).1
  by_cases hij : j = i
  · subst hij
    rw [List.getElem?_set_self hjl, List.getElem?_map, hj]
    show some (r.1, r.2.1, ls.map V.str) = some (if r.1 = n then (r.1, r.2.1, ls.map V.str) else r)
    rw [if_pos hn]
  · rw [List.getElem?_set_ne hij, List.getElem?_map]
    cases hi : rs[i]? with
    | none => rfl
    | some q =>
      show some q = some (if q.1 = n then (q.1, r.2.1, ls.map V.str) else q)
      have hil := (List.getElem?_eq_some_iff.mp hi).1
      rw [if_neg]
      intro hq
      have g1 : (rs.map (·.1))[i]? = some n := by rw [List.getElem?_map, hi, ← hq]; rfl
      have g2 : (rs.map (·.1))[j]? = some n := by rw [List.getElem?_map, hj, ← hn]; rfl
      obtain ⟨l1, e1⟩ := List.getElem?_eq_some_iff.mp g1
      obtain ⟨l2, e2⟩ := List.getElem?_eq_some_iff.mp g2
      have pw := List.pairwise_iff_getElem.mp nd
      rcases Nat.lt_or_gt_of_ne hij with z | z
      · exact pw j i l2 l1 z (e2.trans e1.symm)
      · exact pw i j l1 l2 z (e1.trans e2.symm)
theorem lnsOf_none {rs : List FRow} {fs : Fl} {n : Str} (h : RowsOf rs fs) (hn : frOf rs n = none) : lnsOf fs n = [] ∧ n ∉ rs.map (·.1) := by
  have h1 : n ∉ rs.map (·.1) := fun z => by
    obtain ⟨r, hr, e⟩ := List.mem_map.mp z
    exact frOf_none hn r hr e
  refine ⟨?_, h1⟩
  have h2 : fs.find? (fun f => decide (f.1 = n)) = none := by
    rw [List.find?_eq_none]
    intro f hf e
    exact h1 (by rw [h.names]; exact List.mem_map.mpr ⟨f, hf, of_decide_eq_true e⟩)
  unfold lnsOf
  rw [h2]
  rfl
section
variable {P : Program} {w : World} {K : Frag} {mg : Str → Option Value} {base : Heap}
/-- what a deed's tuple holds -/
def Dd.vs (K : Frag) (H : Hp) : Dd → List V → Prop
  | .add n l, xs => xs = [.str "add", .str n, .str l]
  | .lay n ls, xs => ∃ q, xs = [.str "lay", .str n, .ref q] ∧ SqT K H q (ls.map V.str)
  | .syn, xs => xs = [.str "sync"]
theorem Dd.opn {H : Hp} {v : V} {e : Dd} (h : L2.Dp K H v e.d) : ∃ p xs, v = .ref p ∧ SqT K H p xs ∧ e.vs K H xs := by
  cases e with
  | add n l =>
    obtain ⟨p, xs, rfl, hp, hx⟩ := dp_tuple h
    refine ⟨p, xs, rfl, hp, ?_⟩
    exact dps_strsV (l := ["add", n, l]) hx
  | lay n ls =>
    obtain ⟨p, xs, rfl, hp, hx⟩ := dp_tuple h
    refine ⟨p, xs, rfl, hp, ?_⟩
    cases hx with
    | cons h1 hx =>
    cases hx with
    | cons h2 hx =>
    cases hx with
    | cons h3 hx =>
    cases hx
    have e1 := dp_str h1
    have e2 := dp_str h2
    subst e1 e2
    obtain ⟨q, zs, rfl, hq, hz⟩ := dp_tuple h3
    have := dps_strsV hz
    subst this
    exact ⟨q, rfl, hq⟩
  | syn =>
    obtain ⟨p, xs, rfl, hp, hx⟩ := dp_tuple h
    refine ⟨p, xs, rfl, hp, ?_⟩
    exact dps_strsV (l := ["sync"]) hx
def sp_has_room (K : Frag) : Sp := fun vs H Q E => vs.length = 2 ∧ ∃ (F : List (Addr × HO)) (G : List Ft) (d : Addr) (rs : List FRow) (v : V) (e : Dd), vs = [.ref d, v] ∧ Sy K (fB d rs ++ F) (.dat [v] [e.d] :: G) H ∧ rs.length < 40 ∧ (∀ r ∈ rs, r.2.2.length < 20000) ∧
  ∀ H', Sy K (fB d rs ++ F) (.dat [v] [e.d] :: G) H' → Q (.bl true) H'
abbrev names_has_room : List Str := ["known", "deed", "lines"]
theorem sc_has_room : FnScope names_has_room ["known", "deed"] (defScope (top 33)) := ⟨rfl, rfl, rfl, by decide +kernel, rfl, by decide +kernel, by decide +kernel⟩
set_option maxHeartbeats 4000000 in
theorem ok_has_room (T : Tx K mg) : FG P w K mg base CX0 1 T.a_has_room T.d_has_room ["known", "deed"] (sp_has_room K) := by
  refine OB.Fun.fg T.F_has_room sc_has_room (fun vs H Q E h => h.1) (fun cdv A out s H vs Q E g h => ?_)
  obtain ⟨_, F, G, d, rs, v, e, rfl, S, hl, hll, k⟩ := h
  refine ⟨_, (pss_cons (ps_if (pt_cmpR op_eq (pe_ix (ix_UK (K := K) rfl) (pv 1) pe_int (fun _ _ => rfl)) (pe_glob (v := .str "sync") (by rfl) T.g_SYNC ⟨_, rfl⟩) (nomark _)) (pss_one (ps_ret pe_bl)) pss_nil)
      (pss_cons (ps_set (i := 2) sc_has_room.nd rfl (by first | exact Or.inl rfl | exact Or.inr rfl) (pe_bm PySem.F.plainAttrs_dict PySem.F.slot_dict_get PySem.F.type_dict_get (mt_get1 g.hu1) (pv 0) (pa_cons (pe_ix (ix_UK (K := K) rfl) (pv 1) pe_int (fun _ _ => rfl)) pa_nil)))
      (pss_cons (ps_if (pt_cmpR op_isN (pv 2) pe_non (nomark _)) (pss_one (ps_ret (pe_cmpR op_lt (pe_callB call_lenD (by rfl) T.n_len PySem.boot_len (pa_cons (pv 0) pa_nil)) (pe_glob (v := .int 40) (by rfl) T.g_MOST_FILES ⟨_, rfl⟩) (nomark _)))) pss_nil)
      (pss_one (ps_ret (pe_or (pe_cmpR op_eq (pe_ix (ix_UK (K := K) rfl) (pv 1) pe_int (fun _ _ => rfl)) (pe_glob (v := .str "lay") (by rfl) T.g_LAY ⟨_, rfl⟩) (nomark _)) (pe_one (pe_cmpR op_lt (pe_callB (toK (r := OB.rLen) (K := K) rfl c_len) (by rfl) T.n_len PySem.boot_len (pa_cons (pv 2) pa_nil)) (pe_glob (v := .int 20000) (by rfl) T.g_MOST_LINES ⟨_, rfl⟩) (nomark _))))))))), ?_⟩
  refine g_start (σ := [some _, some _, none]) rfl ?_
  obtain ⟨p, xs, rfl, hp, hx⟩ := Dd.opn (S.dp 0 rfl)
  have f := FLat.of S
  have hd : H d = some (.dK (kvO rs)) := S.at 0 rfl
  have hkl := kvO_len rs
  by_cases hsy : e = .syn
  · subst hsy
    have hx : xs = [.str "sync"] := hx
    subst hx
    repeat walk_at "ob"
    refine g_T (by decide +kernel) ?_
    repeat walk_at "ob"
    exact k _ S
  obtain ⟨w0, n, y, rfl, hw⟩ : ∃ w0 n y, xs = [.str w0, .str n, y] ∧ (w0 = "add" ∨ w0 = "lay") := by
    cases e with
    | add n l => exact ⟨_, _, _, hx, .inl rfl⟩
    | lay n ls =>
      obtain ⟨q, hx, _⟩ := hx
      exact ⟨_, _, _, hx, .inr rfl⟩
    | syn => exact absurd rfl hsy
  clear hx hsy
  repeat walk_at "ob"
  refine g_F (by rcases hw with rfl | rfl <;> decide +kernel) ?_
  repeat walk_at "ob"
  refine g_tyd hd ?_
  repeat walk_at "ob"
  refine g_get1S f.1 ?_
  rw [valV_kvO]
  cases hr : frOf rs n with
  | none =>
    repeat walk_at "ob"
    refine ⟨rfl, ?_⟩
    rw [decide_eq_true (show (Option.map (fun r : FRow => V.ref r.2.1) none).getD .non = .non from rfl)]
    repeat walk_at "ob"
    refine ⟨d, kvO rs, rfl, hd, ?_⟩
    repeat walk_at "ob"
    rw [decide_eq_true (by omega)]
    exact k _ S
  | some r =>
    repeat walk_at "ob"
    refine ⟨rfl, ?_⟩
    rw [decide_eq_false (show ¬ (Option.map (fun r : FRow => V.ref r.2.1) (some r)).getD .non = .non from fun h => nomatch h)]
    have hrl := hll r (frOf_some hr).1
    repeat walk_at "ob"
    rcases hw with rfl | rfl
    · refine g_F (by decide +kernel) ?_
      repeat walk_at "ob"
      refine g_lenL (SqL.of (f.row hr)) ?_
      repeat walk_at "ob"
      rw [decide_eq_true (by omega)]
      exact k _ S
    · refine g_T (by decide +kernel) ?_
      exact k _ S
theorem use_has_room {F : List (Addr × HO)} {G : List Ft} {H : Hp} {Q : VK} {E : XK} {d : Addr} {rs : List FRow} {v : V} {e : Dd} (S : Sy K (fB d rs ++ F) (.dat [v] [e.d] :: G) H) (hl : rs.length < 40) (hll : ∀ r ∈ rs, r.2.2.length < 20000)
    (k : ∀ H', Sy K (fB d rs ++ F) (.dat [v] [e.d] :: G) H' → Q (.bl true) H') : sp_has_room K [.ref d, v] H Q E := ⟨rfl, F, G, d, rs, v, e, rfl, S, hl, hll, k⟩
theorem set_names {rs : List FRow} {j : Nat} {r : FRow} {vs : List V} (hj : rs[j]? = some r) : (rs.set j (r.1, r.2.1, vs)).map (·.1) = rs.map (·.1) := by
  refine List.ext_getElem? fun i => ?_
  rw [List.getElem?_map, List.getElem?_map]
  have hjl := (List.getElem?_eq_some_iff.mp hj).1
  by_cases hij : j = i
  · subst hij
    rw [List.getElem?_set_self hjl, hj]
    rfl
  · rw [List.getElem?_set_ne hij]
def sp_do_deed (K : Frag) : Sp := fun vs H Q E => vs.length = 2 ∧ ∃ (F : List (Addr × HO)) (G : List Ft) (d : Addr) (rs : List FRow) (fs : Fl) (v : V) (e : Dd), vs = [.ref d, v] ∧ Sy K (fB d rs ++ F) (.dat [v] [e.d] :: G) H ∧ RowsOf rs fs ∧ (rs.map (·.1)).Nodup ∧ rs.length < 1000 ∧ (∀ r ∈ rs, r.2.2.length < 50000) ∧
  ∀ rs' H', RowsOf rs' (doF fs e) → (rs'.map (·.1)).Nodup → Sy K (fB d rs' ++ F) (.dat [v] [e.d] :: G) H' → Q .non H'
abbrev names_do_deed : List Str := ["known", "deed"]
theorem sc_do_deed : FnScope names_do_deed ["known", "deed"] (defScope (top 34)) := ⟨rfl, rfl, rfl, by decide +kernel, rfl, by decide +kernel, by decide +kernel⟩
set_option maxHeartbeats 4000000 in
theorem ok_do_deed (T : Tx K mg) : FG P w K mg base CX0 1 T.a_do_deed T.d_do_deed ["known", "deed"] (sp_do_deed K) := by
  refine OB.Fun.fg T.F_do_deed sc_do_deed (fun vs H Q E h => h.1) (fun cdv A out s H vs Q E g h => ?_)
  obtain ⟨_, F, G, d, rs, fs, v, e, rfl, S, hR, nd, hl, hll, k⟩ := h
  refine ⟨_, (pss_one (ps_if (pt_cmpR op_eq (pe_ix (ix_UK (K := K) rfl) (pv 1) pe_int (fun _ _ => rfl)) (pe_glob (v := .str "add") (by rfl) T.g_ADD ⟨_, rfl⟩) (nomark _)) (pss_one (ps_expr (pe_bm PySem.F.plainAttrs_list PySem.F.slot_list_append PySem.F.type_list_append mt_append (pe_bm PySem.F.plainAttrs_dict PySem.F.slot_dict_setdefault PySem.F.type_dict_setdefault (mt_setdK g.hu1) (pv 0) (pa_cons (pe_ix (ix_UK (K := K) rfl) (pv 1) pe_int (fun _ _ => rfl)) (pa_cons (pe_lst pa_nil) pa_nil))) (pa_cons (pe_ix (ix_UK (K := K) rfl) (pv 1) (pe_un un_neg pe_int) (fun _ _ => rfl)) pa_nil)))) (pss_one (ps_if (pt_cmpR op_eq (pe_ix (ix_UK (K := K) rfl) (pv 1) pe_int (fun _ _ => rfl)) (pe_glob (v := .str "lay") (by rfl) T.g_LAY ⟨_, rfl⟩) (nomark _)) (pss_one (ps_asg (pe_callTy (toK (r := rList) (K := K) rfl c_list) (by rfl) T.n_list (by decide +kernel) (pa_cons (pe_ix (ix_UK (K := K) rfl) (pv 1) (pe_un un_neg pe_int) (fun _ _ => rfl)) pa_nil)) (pg_sub (pv 0) (pe_ix (ix_UK (K := K) rfl) (pv 1) pe_int (fun _ _ => rfl)) (set_dict g.hu1)))) pss_nil)))), ?_⟩
  refine g_start (σ := [some _, some _]) rfl ?_
  obtain ⟨p, xs, rfl, hp, hx⟩ := Dd.opn (S.dp 0 rfl)
  have f := FLat.of S
  have hd : H d = some (.dK (kvO rs)) := S.at 0 rfl
  have hkl := kvO_len rs
  cases e with
  | syn =>
    have hx : xs = [.str "sync"] := hx
    subst hx
    repeat walk_at "ob"
    refine g_F (by decide +kernel) ?_
    repeat walk_at "ob"
    refine g_F (by decide +kernel) ?_
    repeat walk_at "ob"
    exact k rs _ hR nd S
  | add n l =>
    have hx : xs = [.str "add", .str n, .str l] := hx
    subst hx
    have at2 : atI [V.str "add", .str n, .str l] (-1) = some (.str l) := atI_last (xs := [V.str "add", .str n])
    repeat walk_at "ob"
    refine g_T (by decide +kernel) ?_
    repeat walk_at "ob"
    refine g_tyd hd ?_
    have S1 := S.add (.tq p [.str "add", .str n, .str l]) hp
    clear S
    repeat walk_at "ob"
    rename_i z H2 _ S2
    refine g_setdS S2 (i := 1) rfl (by omega) (fun v hv => ?_) fun H3 hn S3 => ?_
    · rw [valV_kvO] at hv
      obtain ⟨r, hr, rfl⟩ := Option.map_eq_some_iff.mp hv
      obtain ⟨hrm, hrn⟩ := frOf_some hr
      obtain ⟨j, hj⟩ := List.mem_iff_getElem?.mp hrm
      have hrl := hll r hrm
      have hrow := (FLat.of S2.less).row hr
      repeat walk_at "ob"
      refine g_tyl (SqL.of hrow) ?_
      repeat walk_at "ob"
      refine g_appS S2 (f := j + 2) (by show (fB d rs ++ F)[j + 1]? = _; exact fB_at hj) (by omega) fun H4 S4 => ?_
      have S5 : Sy K ((z, .lst []) :: (fB d rs ++ F).set (j + 1) (r.2.1, .lst (r.2.2 ++ [.str l]))) _ H4 := S4
      rw [fB_set hj] at S5
      have e2 : r.2.2 ++ [V.str l] = (lnsOf fs n ++ [l]).map V.str := by rw [List.map_append, ← hR.row hr]; rfl
      rw [e2] at S5
      repeat walk_at "ob"
      exact k _ _ (hR.set nd hj hrn _) (by rw [set_names hj]; exact nd) S5.less.drop
    · have hn2 : frOf rs n = none := by
        rw [valV_kvO] at hn
        exact Option.map_eq_none_iff.mp hn
      obtain ⟨hl0, hnm⟩ := lnsOf_none hR hn2
      have S4 : Sy K ((z, .lst []) :: (d, .dK (kvO rs ++ [(.inr n, .ref z)])) :: (fL rs ++ F)) _ H3 := S3
      repeat walk_at "ob"
      refine g_appS S4 (f := 0) rfl (Nat.succ_pos _) fun H5 S5 => ?_
      have S6 : Sy K ((z, .lst [.str l]) :: (d, .dK (kvO rs ++ [(.inr n, .ref z)])) :: (fL rs ++ F)) _ H5 := S5
      have S7 := S6.perm (perm_new (n := n)).symm
      have e2 : kvO rs ++ [((.inr n : Key), V.ref z)] = kvO (rs ++ [(n, z, [.str l])]) := by unfold kvO; rw [List.map_append]; rfl
      rw [e2] at S7
      repeat walk_at "ob"
      refine k (rs ++ [(n, z, [V.str l])]) _ ?_ ?_ S7.drop
      · have := hR.put n z [l]
        show RowsOf _ (putF fs n (lnsOf fs n ++ [l]))
        rw [hl0]
        rw [putR_new hnm] at this
        exact this
      · have := putR_nodup (n := n) (p := z) (vs := [.str l]) nd
        rw [putR_new hnm] at this
        exact this
  | lay n ls =>
    obtain ⟨q, hx, hq⟩ := hx
    subst hx
    have at2 : atI [V.str "lay", .str n, .ref q] (-1) = some (.ref q) := atI_last (xs := [V.str "lay", .str n])
    repeat walk_at "ob"
    refine g_F (by decide +kernel) ?_
    repeat walk_at "ob"
    refine g_T (by decide +kernel) ?_
    repeat walk_at "ob"
    have S1 := (S.add (.tq q (ls.map V.str)) hq).add (.tq p [.str "lay", .str n, .ref q]) hp
    clear S
    refine ⟨q, _, rfl, .inr hq, fun z hz => ?_⟩
    have S2 := S1.push (o := .lst (ls.map V.str)) hz
    generalize upd H z (.lst (ls.map V.str)) = H2 at S2 ⊢
    repeat walk_at "ob"
    refine ⟨d, _, rfl, .inl ⟨kvO rs, .inr n, S2.at 1 rfl, rfl, by rw [kvO_len]; exact Nat.lt_of_lt_of_le hl (by decide), rfl⟩, ?_⟩
    repeat walk_at "ob"
    exact k _ _ (hR.put n z ls) (putR_nodup nd) (S2.putR nd).drop.drop
theorem use_do_deed {F : List (Addr × HO)} {G : List Ft} {H : Hp} {Q : VK} {E : XK} {d : Addr} {rs : List FRow} {fs : Fl} {v : V} {e : Dd} (S : Sy K (fB d rs ++ F) (.dat [v] [e.d] :: G) H) (hR : RowsOf rs fs) (nd : (rs.map (·.1)).Nodup) (hl : rs.length < 1000) (hll : ∀ r ∈ rs, r.2.2.length < 50000)
    (k : ∀ rs' H', RowsOf rs' (doF fs e) → (rs'.map (·.1)).Nodup → Sy K (fB d rs' ++ F) (.dat [v] [e.d] :: G) H' → Q .non H') : sp_do_deed K [.ref d, v] H Q E := ⟨rfl, F, G, d, rs, fs, v, e, rfl, S, hR, nd, hl, hll, k⟩
end
end LAW

set_option Elab.async false
set_option linter.all false
set_option maxRecDepth 100000
namespace LAW
open PySem PySem.Spec PyProof.Rows L2 PySem.W OB
local macro_rules | `(tactic| walk_at "obc") => `(tactic| first
  | exact Or.inl ⟨by omega, by omega⟩
  | exact Or.inr ⟨by omega, by omega⟩
  | exact cdiv_ok (by omega) (by omega)
  | (show (0 : Int) < _; omega)
  | exact ⟨by omega, by decide⟩
  | exact ⟨by decide, by decide⟩)
local macro_rules | `(tactic| walk_at "obat") => `(tactic| first
  | exact Sy.at (by assumption) 0 rfl | exact Sy.at (by assumption) 1 rfl | exact Sy.at (by assumption) 2 rfl | exact Sy.at (by assumption) 3 rfl
  | exact Sy.at (by assumption) 4 rfl | exact Sy.at (by assumption) 5 rfl | exact Sy.at (by assumption) 6 rfl | exact Sy.at (by assumption) _ (by assumption) | exact Sy.at (by assumption) (_ + 1) (by assumption) | exact Sy.at (by assumption) (_ + 2) (by assumption))
local macro_rules | `(tactic| walk_at "obt") => `(tactic| first
  | exact Sy.tqs (by assumption) 0 rfl | exact Sy.tqs (by assumption) 1 rfl | exact Sy.tqs (by assumption) 2 rfl | exact Sy.tqs (by assumption) 3 rfl | exact Sy.tqs (by assumption) 4 rfl | exact Sy.tqs (by assumption) 5 rfl
  | exact Sy.tqs (by assumption) 6 rfl | exact Sy.tqs (by assumption) 7 rfl | assumption)
local macro_rules | `(tactic| walk_at "obl") => `(tactic| first
  | exact SqL.of (by walk_at "obat")
  | exact Sy.sq (by assumption) 0 rfl | exact Sy.sq (by assumption) 1 rfl | exact Sy.sq (by assumption) 2 rfl | exact Sy.sq (by assumption) 3 rfl | exact Sy.sq (by assumption) _ (by assumption))
local macro_rules | `(tactic| walk_at "obd") => `(tactic| first
  | exact Dp.int _ | exact Dp.bl _ | exact Dp.str _ | exact Dp.non
  | exact Sy.dp (by assumption) 0 rfl | exact Sy.dp (by assumption) 1 rfl | exact Sy.dp (by assumption) 2 rfl | exact Sy.dp (by assumption) 3 rfl
  | exact Sy.dp (by assumption) 4 rfl | exact Sy.dp (by assumption) 5 rfl | exact Sy.dp (by assumption) 6 rfl | exact Sy.dp (by assumption) 7 rfl
  | exact Sy.dp (by assumption) 8 rfl | exact Sy.dp (by assumption) 9 rfl | exact Sy.dp (by assumption) _ (by assumption) | assumption)
local macro_rules | `(tactic| walk_at "obds") => `(tactic| first
  | exact DpAll.nil
  | (refine' DpAll.cons ?ob1 ?ob2; (case ob1 => walk_at "obd"); (case ob2 => walk_at "obds"))
  | exact Sy.dps (by assumption) 0 rfl | exact Sy.dps (by assumption) 1 rfl | exact Sy.dps (by assumption) 2 rfl | exact Sy.dps (by assumption) 3 rfl | assumption)
local macro_rules | `(tactic| walk_at "obsc") => `(tactic| first
  | exact ScL.nil
  | ((first | refine' ScL.int ?obz | refine' ScL.str ?obz | refine' ScL.bl ?obz | refine' ScL.non ?obz); (case obz => walk_at "obsc")))
local macro_rules | `(tactic| walk_at "ob1") => `(tactic| first
  | ((with_reducible refine' g_var ?obh ?_); (case obh => rfl))
  | with_reducible refine g_c ?_
  | with_reducible refine g_nx ?_
  | with_reducible refine g_rt ?_
  | with_reducible refine g_bk ?_
  | with_reducible refine g_ct ?_
  | with_reducible refine g_op ?_
  | with_reducible refine g_I0 ?_
  | with_reducible refine g_test ?_
  | with_reducible refine g_bl ?_
  | with_reducible refine g_blx ?_
  | with_reducible refine g_B ?_
  | with_reducible refine g_seq ?_
  | with_reducible refine g_asg ?_
  | with_reducible refine g_name ?_
  | with_reducible refine g_ifS ?_
  | with_reducible refine g_ret ?_
  | with_reducible refine g_cb ?_
  | with_reducible refine g_cons ?_
  | with_reducible refine g_nil ?_
  | with_reducible refine g_int ?_
  | with_reducible refine g_intB ?_
  | with_reducible refine g_abs ?_
  | with_reducible refine g_max ?_
  | with_reducible refine g_min ?_
  | with_reducible refine g_un ?_
  | with_reducible refine g_U ?_
  | with_reducible refine g_eqI ?_
  | with_reducible refine g_neI ?_
  | with_reducible refine g_eqS ?_
  | with_reducible refine g_neS ?_
  | with_reducible refine g_tt ?_
  | with_reducible refine g_ff ?_
  | with_reducible refine g_next ?_
  | with_reducible refine g_drop ?_
  | with_reducible refine g_if ?_
  | with_reducible refine g_andV ?_
  | with_reducible refine g_orV ?_
  | with_reducible refine g_notV ?_
  | with_reducible refine g_and ?_
  | with_reducible refine g_or ?_
  | with_reducible refine g_not ?_
  | with_reducible refine g_yes ?_
  | with_reducible refine g_chain ?_
  | with_reducible refine g_cg ?_
  | with_reducible refine g_mg ?_
  | with_reducible refine g_kg ?_
  | with_reducible refine g_pg ?_
  | ((with_reducible refine' g_call ?obh ?obj ?_); (case obh => rfl); (case obj => rfl))
  | with_reducible refine g_par ?_
  | with_reducible refine g_par2 ?_
  | with_reducible refine g_par3 ?_
  | with_reducible refine g_par33 ?_
  | with_reducible refine g_gnil ?_
  | with_reducible refine g_gcons ?_
  | with_reducible refine g_gsub ?_
  | with_reducible refine g_ipI ?_
  | with_reducible refine g_rAdd ?_
  | with_reducible refine g_rSub ?_
  | ((with_reducible refine' g_aug ?obh ?_); (case obh => rfl))
  | with_reducible refine g_tup ?_
  | with_reducible refine g_lst ?_
  | with_reducible refine g_bm ?_
  | with_reducible refine g_bm0 ?_
  | with_reducible refine g_sl ?_
  | with_reducible refine g_nopart ?_
  | with_reducible refine g_part ?_
  | with_reducible refine g_pint ?_
  | with_reducible refine isi_int ?_
  | with_reducible refine isi_intB ?_
  | ((with_reducible refine' g_I ?obh ?_); (case obh => walk_at "obc"))
  | ((with_reducible refine' g_tyl ?obh ?_); (case obh => walk_at "obl"))
  | ((with_reducible refine' g_lenL ?obh ?_); (case obh => walk_at "obl"))
  | with_reducible refine g_ne ?_
  | ((with_reducible refine' g_neN' ?obh ?_); (case obh => rfl))
  | with_reducible refine g_ntt ?_
  | with_reducible refine g_nff ?_
  | with_reducible refine g_star ?_
  | with_reducible refine g_att ?_
  | with_reducible refine g_sfld ?_
  | with_reducible refine g_faug ?_
  | with_reducible refine g_fld ?_
  | ((with_reducible refine' g_nF ?obh ?_); (case obh => omega))
  | ((with_reducible refine' g_nT ?obh ?_); (case obh => omega))
  | ((with_reducible refine' g_TD ?obh ?_); (case obh => omega))
  | ((with_reducible refine' g_FD ?obh ?_); (case obh => omega))
  | ((with_reducible refine' g_ixUL ?obh ?obi ?_); (case obh => walk_at "obl"); (case obi => exact atI_nn (by omega) (by rfl)))
  | ((with_reducible refine' g_setLS ?obs ?obh ?obi ?_); (case obs => assumption); (case obh => assumption); (case obi => rfl); intro _ _ _)
  | ((with_reducible refine' g_newT ?obs ?obh ?obi ?obj ?_); (case obs => assumption); (case obh => walk_at "obds"); (case obi => rfl); (case obj => exact Nat.le_of_ble_eq_true rfl); intro _ _ _ _)
  | ((with_reducible refine' g_newL ?obs ?obj ?_); (case obs => assumption); (case obj => exact Nat.le_of_ble_eq_true rfl); intro _ _ _ _)
  | ((with_reducible refine' isi_tup ?obh ?_); (case obh => walk_at "obt"))
  | ((with_reducible refine' g_lenT ?obh ?_); (case obh => walk_at "obt"))
  | ((with_reducible refine' g_unpT ?obh ?obi ?_); (case obh => walk_at "obt"); (case obi => rfl))
  | ((with_reducible refine' g_divmod ?obs ?obh ?_); (case obs => assumption); (case obh => exact cdivp_ok (by omega) (by omega) (by omega)); intro _ _ _ _)
  | ((with_reducible refine' g_unpD ?obh ?obi ?obj ?_); (case obh => walk_at "obd"); (case obi => walk_at "obsc"); (case obj => rfl))
  | with_reducible refine g_att ?_)
local macro_rules | `(tactic| walk_at "ob") => `(tactic| first
  | walk_at "ob1"
  | refine use_is_integer ?_
  | refine use_is_within ?_
  | with_reducible refine g_lstRg ?_
  | with_reducible refine g_rg1 ?_
  | with_reducible refine g_rg2 ?_
  | with_reducible refine g_tTru ?_
  | ((with_reducible refine' g_truL ?obh ?_); (case obh => walk_at "obl"))
  | ((with_reducible refine' g_ixUT ?obh ?obi ?_); (case obh => walk_at "obt"); (case obi => rfl))
  | with_reducible refine g_forZ ?_
  | with_reducible refine g_forR2 ?_
  | with_reducible refine g_forE ?_
  | with_reducible refine g_lcZ ?_)
/-! ### shelves -/
structure ShC (K : Frag) (C : Addr) : Prop where
  c : Cls K C
  n1 : NoAttr K C "own_files"
  n2 : NoAttr K C "own_log"
theorem Tx.shC {K : Frag} {mg : Str → Option Value} (T : Tx K mg) : ShC K T.a_Shelf := ⟨T.c_Shelf, T.na_Shelf_own_files, T.na_Shelf_own_log⟩
def shO (C dx d l : Addr) : HO := .ins C dx [("own_files", .ref d), ("own_log", .ref l)]
/-- a shelf, its log, its files -/
def shB (s C dx d l : Addr) (lv : List V) (rs : List FRow) : List (Addr × HO) := (s, shO C dx d l) :: (l, .lst lv) :: fB d rs
local macro_rules | `(tactic| walk_at "ob") => `(tactic| first
  | ((with_reducible refine' g_fldS ?obh ?obc ?obn ?obe ?_); (case obh => walk_at "obat"); (case obc => exact ShC.c (by assumption)); (case obn => first | exact ShC.n1 (by assumption) | exact ShC.n2 (by assumption)); (case obe => rfl)))
def NmOk (n : Str) : Prop := nmB n.cps.toList = true
def LnOk (l : Str) : Prop := lnB l.cps.toList = true
/-- files that may be given to a shelf, in any sequence -/
structure FlOk (fs : Fl) : Prop where
  nd : (fs.map (·.1)).Nodup
  nm : ∀ f ∈ fs, NmOk f.1
  ln : ∀ f ∈ fs, f.2.length ≤ 1000 ∧ ∀ l ∈ f.2, LnOk l
theorem lnB_len {l : List Nat} (h : lnB l = true) : 1 ≤ l.length ∧ l.length ≤ 200 := by
  unfold lnB at h
  rw [Bool.and_eq_true] at h
  exact of_decide_eq_true h.1
theorem nmB_len {l : List Nat} (h : nmB l = true) : 1 ≤ l.length ∧ l.length ≤ 8 := by
  unfold nmB at h
  rw [Bool.and_eq_true] at h
  exact of_decide_eq_true h.1
theorem okD_file {f : Str × List Str} (h1 : NmOk f.1) (h2 : ∀ l ∈ f.2, LnOk l) : okD (fileD f) = true := by
  show (decide (f.1.cps.toList.length ≤ 1000) && (okDs (f.2.map PyData.str) && true)) = true
  have := nmB_len h1
  rw [decide_eq_true (by omega), okDs_of fun d hd => by
    obtain ⟨l, hl, rfl⟩ := List.mem_map.mp hd
    have := lnB_len (h2 l hl)
    exact decide_eq_true (by omega)]
  rfl
theorem okD_files {fs : Fl} (h : FlOk fs) : okD (filesT fs) = true := okDs_of fun d hd => by
  obtain ⟨f, hf, rfl⟩ := List.mem_map.mp hd
  exact okD_file (h.nm f hf) (h.ln f hf).2
theorem avOf_file (f : Str × List Str) : avOf (fileD f) = .tup [.str f.1.cps.toList, .tup (f.2.map fun l => .str l.cps.toList)] := by
  show Av.tup (avsOf [.str f.1, .tuple (f.2.map PyData.str)]) = _
  rw [avsOf_map]
  show Av.tup [.str f.1.cps.toList, .tup (avsOf (f.2.map PyData.str))] = _
  rw [avsOf_map, List.map_map]
  rfl
theorem avOf_files (fs : Fl) : avOf (filesT fs) = .tup (fs.map fun f => avOf (fileD f)) := by
  show Av.tup (avsOf (fs.map fileD)) = _
  rw [avsOf_map, List.map_map]
  rfl
theorem isFile_ok {f : Str × List Str} (h1 : NmOk f.1) (h2 : f.2.length ≤ 1000 ∧ ∀ l ∈ f.2, LnOk l) : isFileA (avOf (fileD f)) = true := by
  rw [avOf_file]
  show (nmB f.1.cps.toList && (decide ((f.2.map fun l => Av.str l.cps.toList).length ≤ 20000) && (f.2.map fun l => Av.str l.cps.toList).all isKeptA)) = true
  rw [show nmB f.1.cps.toList = true from h1, decide_eq_true (by rw [List.length_map]; omega), List.all_map, List.all_eq_true.mpr fun l hl => by
    show (l.cps.toList.isEmpty || lnB l.cps.toList) = true
    rw [show lnB l.cps.toList = true from h2.2 l hl, Bool.or_true]]
  rfl
def AscF (fs : Fl) : Prop := (fs.map fun f => f.1.cps.toList).Pairwise (· < ·)
theorem upA_ok : ∀ {fs : Fl}, AscF fs → upA (fs.map fun f => avOf (fileD f)) = true
  | [], _ => rfl
  | [f], _ => rfl
  | f :: g :: fs, h => by
    have h1 := List.pairwise_cons.mp h
    have ih := upA_ok (fs := g :: fs) h1.2
    show (decide (nmOf (avOf (fileD f)) < nmOf (avOf (fileD g))) && upA ((g :: fs).map fun f => avOf (fileD f))) = true
    rw [ih, Bool.and_true, avOf_file, avOf_file]
    exact decide_eq_true (h1.1 _ (List.mem_cons_self ..))
theorem areFiles_ok {fs : Fl} (h : FlOk fs) (ha : AscF fs) (hl : fs.length ≤ 40) : areFilesA (avOf (filesT fs)) = true := by
  rw [avOf_files]
  show (decide ((fs.map fun f => avOf (fileD f)).length ≤ 40) && ((fs.map fun f => avOf (fileD f)).all isFileA && upA (fs.map fun f => avOf (fileD f)))) = true
  rw [decide_eq_true (by rw [List.length_map]; exact hl), upA_ok ha, List.all_map, show (fs.all (isFileA ∘ fun f => avOf (fileD f))) = true from List.all_eq_true.mpr fun f hf => isFile_ok (h.nm f hf) (h.ln f hf)]
  rfl
theorem files_lens {fs : Fl} (h : FlOk fs) (hl : fs.length ≤ 40) : ∀ as, avOf (filesT fs) = .tup as → as.length ≤ 1000 ∧ ∀ b ∈ as, ∀ x ys, b = .tup [x, .tup ys] → ys.length ≤ 1000 := fun as e => by
  rw [avOf_files] at e
  cases e
  refine ⟨by rw [List.length_map]; omega, fun b hb x ys e => ?_⟩
  obtain ⟨f, hf, rfl⟩ := List.mem_map.mp hb
  rw [avOf_file] at e
  cases e
  rw [List.length_map]
  exact (h.ln f hf).1
section
variable {P : Program} {w : World} {K : Frag} {mg : Str → Option Value} {base : Heap}
def sp_Shelf___init__ (K : Frag) : Sp := fun vs H Q E => vs.length = 2 ∧ ∃ (F : List (Addr × HO)) (G : List Ft) (s C dx t : Addr) (fs : Fl), vs = [.ref s, .ref t] ∧ Sy K ((s, .ins C dx []) :: F) (.dat [.ref t] [filesT fs] :: G) H ∧ ShC K C ∧ FlOk fs ∧ AscF fs ∧ fs.length ≤ 40 ∧
  ∀ d l rs H', RowsOf rs fs → Sy K (shB s C dx d l [] rs ++ F) (.dat [.ref t] [filesT fs] :: G) H' → Q .non H'
abbrev names_Shelf___init__ : List Str := ["self", "files"]
theorem sc_Shelf___init__ : FnScope names_Shelf___init__ ["self", "files"] (defScope (inClass (top 35) 0)) := ⟨rfl, rfl, rfl, by decide +kernel, rfl, by decide +kernel, by decide +kernel⟩
set_option maxHeartbeats 4000000 in
theorem ok_Shelf___init__ (T : Tx K mg) : FG P w K mg base CX0 6 T.a_Shelf___init__ T.d_Shelf___init__ ["self", "files"] (sp_Shelf___init__ K) := by
  refine OB.Fun.fg T.F_Shelf___init__ sc_Shelf___init__ (fun vs H Q E h => h.1) (fun cdv A out s H vs Q E g h => ?_)
  obtain ⟨_, F, G, s', C, dx, t, fs, rfl, S, hc, ok, ha, hl, k⟩ := h
  refine ⟨_, (pss_cons (ps_expr (pe_cg (ok_check_files T) (g.mono (by decide : 5 ≤ 5)) (by rfl) T.m_check_files T.F_check_files.kp (OB.Fun.bd T.F_check_files (ps := ["files"]) (n := 1) (ks := []) (ix := [0]) (fun _ _ _ _ _ _ us ws h1 h2 => match us, ws, h1, h2 with | [_], [], _, _ => rfl)) pass0 (pa_cons (pv 1) pa_nil) pk_nil))
      (pss_one (ps_asg (pe_tup (pa_cons (pe_cg (ok_lists_of T) (g.mono (by decide : 1 ≤ 5)) (by rfl) T.m_lists_of T.F_lists_of.kp (OB.Fun.bd T.F_lists_of (ps := ["files"]) (n := 1) (ks := []) (ix := [0]) (fun _ _ _ _ _ _ us ws h1 h2 => match us, ws, h1, h2 with | [_], [], _, _ => rfl)) pass0 (pa_cons (pv 1) pa_nil) pk_nil) (pa_cons (pe_lst pa_nil) pa_nil))) (pg_tupK (K := K) rfl (n := 2) rfl (pgs_cons (pg_att (pv 0)) (pgs_cons (pg_att (pv 0)) pgs_nil)))))), ?_⟩
  refine g_start (σ := [some _, some _]) rfl ?_
  repeat walk_at "ob"
  refine ⟨rfl, _, _, _, _, rfl, S, .dat (i := 0) (List.mem_cons_self ..) rfl rfl (okD_files ok), files_lens ok hl, areFiles_ok ok ha hl, fun H1 S1 => ?_⟩
  clear S
  repeat walk_at "ob"
  refine use_lists_of S1 ok.nd (by omega) fun d rs H2 hR S2 => ?_
  repeat walk_at "ob"
  rename_i l0 H3 _ S3
  have S4 : Sy K ((s', .ins C dx []) :: (l0, .lst []) :: (fB d rs ++ F)) (.dat [.ref t] [filesT fs] :: G) H3 := S3.perm ((List.Perm.swap ..).trans (List.Perm.cons _ List.perm_middle.symm))
  clear S1 S2 S3
  refine g_newTq S4 (Nat.le_of_ble_eq_true rfl) fun u H4 _ S5 => ?_
  repeat walk_at "ob"
  refine g_attS S5 (i := 0) rfl hc.c hc.n1 (Nat.le_of_ble_eq_true rfl) fun H5 S6 _ => ?_
  repeat walk_at "ob"
  refine g_attS S6 (i := 0) rfl hc.c hc.n2 (Nat.le_of_ble_eq_true rfl) fun H6 S7 _ => ?_
  repeat walk_at "ob"
  exact k d l0 rs H6 hR S7.drop
/-- what is read of a file -/
def rdD (fs : Fl) (n : Str) : PyData := if hasF fs n = true then .tuple ((lnsOf fs n).map PyData.str) else .none
structure ShW (rs : List FRow) (fs : Fl) : Prop where
  R : RowsOf rs fs
  nd : (rs.map (·.1)).Nodup
  hl : rs.length < 40
  ll : ∀ r ∈ rs, r.2.2.length ≤ 1000
def sp_Shelf_files (K : Frag) : Sp := fun vs H Q E => vs.length = 1 ∧ ∃ (F : List (Addr × HO)) (G : List Ft) (s C dx d l : Addr) (lv : List V) (rs : List FRow) (fs : Fl), vs = [.ref s] ∧ Sy K (shB s C dx d l lv rs ++ F) G H ∧ ShC K C ∧ ShW rs fs ∧
  ∀ t ys H', IsSrt (fs.map (·.1)) ys → Sy K (shB s C dx d l lv rs ++ F) (.dat [.ref t] [filesT (srtF fs ys)] :: G) H' → Q (.ref t) H'
abbrev names_Shelf_files : List Str := ["self"]
theorem sc_Shelf_files : FnScope names_Shelf_files ["self"] (defScope (inClass (top 35) 1)) := ⟨rfl, rfl, rfl, by decide +kernel, rfl, by decide +kernel, by decide +kernel⟩
set_option maxHeartbeats 4000000 in
theorem ok_Shelf_files (T : Tx K mg) : FG P w K mg base CX0 2 T.a_Shelf_files T.d_Shelf_files ["self"] (sp_Shelf_files K) := by
  refine OB.Fun.fg T.F_Shelf_files sc_Shelf_files (fun vs H Q E h => h.1) (fun cdv A out s H vs Q E g h => ?_)
  obtain ⟨_, F, G, s', C, dx, d, l, lv, rs, fs, rfl, S, hc, ⟨hR, nd, hl, hll⟩, k⟩ := h
  refine ⟨_, (pss_one (ps_ret (pe_cg (ok_files_of T) (g.mono (by decide : 1 ≤ 1)) (by rfl) T.m_files_of T.F_files_of.kp (OB.Fun.bd T.F_files_of (ps := ["known"]) (n := 1) (ks := []) (ix := [0]) (fun _ _ _ _ _ _ us ws h1 h2 => match us, ws, h1, h2 with | [_], [], _, _ => rfl)) pass0 (pa_cons (pe_fld (pv 0) rfl) pa_nil) pk_nil))), ?_⟩
  refine g_start (σ := [some _]) rfl ?_
  repeat walk_at "ob"
  refine use_files_of S (fun H' S' => FLat.of (F := F) S'.less.less) hR (by omega) hll fun t ys H' hs S2 => ?_
  exact k t ys H' hs S2
def sp_Shelf_log (K : Frag) : Sp := fun vs H Q E => vs.length = 1 ∧ ∃ (F : List (Addr × HO)) (G : List Ft) (s C dx d l : Addr) (lv : List V) (rs : List FRow) (es : List Dd), vs = [.ref s] ∧ Sy K (shB s C dx d l lv rs ++ F) (.dat lv (es.map Dd.d) :: G) H ∧ ShC K C ∧
  ∀ t H', Sy K (shB s C dx d l lv rs ++ F) (.dat [.ref t] [.tuple (es.map Dd.d)] :: .dat lv (es.map Dd.d) :: G) H' → Q (.ref t) H'
abbrev names_Shelf_log : List Str := ["self"]
theorem sc_Shelf_log : FnScope names_Shelf_log ["self"] (defScope (inClass (top 35) 2)) := ⟨rfl, rfl, rfl, by decide +kernel, rfl, by decide +kernel, by decide +kernel⟩
set_option maxHeartbeats 4000000 in
theorem ok_Shelf_log (T : Tx K mg) : FG P w K mg base CX0 1 T.a_Shelf_log T.d_Shelf_log ["self"] (sp_Shelf_log K) := by
  refine OB.Fun.fg T.F_Shelf_log sc_Shelf_log (fun vs H Q E h => h.1) (fun cdv A out s H vs Q E g h => ?_)
  obtain ⟨_, F, G, s', C, dx, d, l, lv, rs, es, rfl, S, hc, k⟩ := h
  refine ⟨_, (pss_one (ps_ret (pe_callTy (toK (r := rTuple) (K := K) rfl c_tuple) (by rfl) T.n_tuple (by decide +kernel) (pa_cons (pe_fld (pv 0) rfl) pa_nil)))), ?_⟩
  refine g_start (σ := [some _]) rfl ?_
  repeat walk_at "ob"
  refine g_tup0 S (SqL.of (S.at 1 rfl)) (S.dps 0 rfl) (S.dpi 0 rfl) fun t2 H3 _ S4 => ?_
  exact k t2 H3 S4
def sp_Shelf_read (K : Frag) : Sp := fun vs H Q E => vs.length = 2 ∧ ∃ (F : List (Addr × HO)) (G : List Ft) (s C dx d l : Addr) (lv : List V) (rs : List FRow) (fs : Fl) (n : Str), vs = [.ref s, .str n] ∧ Sy K (shB s C dx d l lv rs ++ F) G H ∧ ShC K C ∧ ShW rs fs ∧ NmOk n ∧
  ∀ v H', Sy K (shB s C dx d l lv rs ++ F) (.dat [v] [rdD fs n] :: G) H' → Q v H'
abbrev names_Shelf_read : List Str := ["self", "file"]
theorem sc_Shelf_read : FnScope names_Shelf_read ["self", "file"] (defScope (inClass (top 35) 3)) := ⟨rfl, rfl, rfl, by decide +kernel, rfl, by decide +kernel, by decide +kernel⟩
set_option maxHeartbeats 4000000 in
theorem ok_Shelf_read (T : Tx K mg) : FG P w K mg base CX0 4 T.a_Shelf_read T.d_Shelf_read ["self", "file"] (sp_Shelf_read K) := by
  refine OB.Fun.fg T.F_Shelf_read sc_Shelf_read (fun vs H Q E h => h.1) (fun cdv A out s H vs Q E g h => ?_)
  obtain ⟨_, F, G, s', C, dx, d, l, lv, rs, fs, n, rfl, S, hc, ⟨hR, nd, hl, hll⟩, hn, k⟩ := h
  refine ⟨_, (pss_cons (ps_if (pt_not (pt_val (pe_cg (ok_is_name T) (g.mono (by decide : 1 ≤ 3)) (by rfl) T.m_is_name T.F_is_name.kp (OB.Fun.bd T.F_is_name (ps := ["value"]) (n := 1) (ks := []) (ix := [0]) (fun _ _ _ _ _ _ us ws h1 h2 => match us, ws, h1, h2 with | [_], [], _, _ => rfl)) pass0 (pa_cons (pv 1) pa_nil) pk_nil))) (pss_one ps_never) pss_nil)
      (pss_one (ps_ret (pe_ifExp (pt_cmp (pc_din g.hu1 (pv 1) (pe_fld (pv 0) rfl)) (by rfl)) (pe_callTy (toK (r := rTuple) (K := K) rfl c_tuple) (by rfl) T.n_tuple (by decide +kernel) (pa_cons (pe_dget g.hu1 (pe_fld (pv 0) rfl) (pv 1) (fun _ _ => rfl)) pa_nil)) pe_non)))), ?_⟩
  refine g_start (σ := [some _, some _]) rfl ?_
  have hnl := nmB_len hn
  repeat walk_at "ob"
  refine use_is_name S (a := .str n.cps.toList) (by have := AvS.str (F := shB s' C dx d l lv rs ++ F) (G := G) (l := n.cps.toList) (by omega); rw [tx_of] at this; exact this) fun H2 S2 => ?_
  rw [show isNameA (.str n.cps.toList) = true from hn]
  clear S
  have f : FLat H2 d rs := FLat.of (F := F) S2.less.less
  repeat walk_at "ob"
  refine g_din ?_
  repeat walk_at "ob"
  refine g_dinS f.1 ?_
  rw [valV_kvO]
  cases hr : frOf rs n with
  | none =>
    have h0 : hasF fs n = false := by
      have := (lnsOf_none hR hr).2
      rw [hR.names] at this
      rw [← Bool.not_eq_true, hasF_mem]
      exact this
    repeat walk_at "ob"
    refine g_F rfl ?_
    repeat walk_at "ob"
    refine k _ H2 (S2.fact (dps_one ?_) ?_)
    · unfold rdD
      rw [h0]
      exact .non
    · unfold rdD
      rw [h0]
      rfl
  | some r =>
    have h0 : hasF fs n = true := by
      rw [hasF_mem, ← hR.names]
      exact List.mem_map.mpr ⟨r, (frOf_some hr).1, (frOf_some hr).2⟩
    repeat walk_at "ob"
    refine g_T rfl ?_
    repeat walk_at "ob"
    refine g_tDGet ?_
    repeat walk_at "ob"
    refine g_dgetS (v := .ref r.2.1) f.1 (by rw [valV_kvO, hr]; rfl) ?_
    repeat walk_at "ob"
    refine g_tup0 S2 (SqL.of (f.row hr)) (ds := (lnsOf fs n).map PyData.str) (by rw [hR.row hr]; exact dps_strs _) (strs_imm _) fun t2 H3 _ S4 => ?_
    refine k _ H3 ?_
    unfold rdD
    rw [h0]
    exact S4
theorem doF_len {fs : Fl} (e : Dd) : (doF fs e).length ≤ fs.length + 1 := by
  have key : ∀ n ls, (putF fs n ls).length ≤ fs.length + 1 := fun n ls => by
    unfold putF
    split
    · rw [List.length_map]; omega
    · rw [List.length_append]; exact Nat.le_refl _
  cases e with
  | add n l => exact key _ _
  | lay n ls => exact key _ _
  | syn => exact Nat.le_succ _
def sp_Shelf_done (K : Frag) : Sp := fun vs H Q E => vs.length = 2 ∧ ∃ (F : List (Addr × HO)) (G : List Ft) (s C dx d l : Addr) (lv : List V) (rs : List FRow) (fs : Fl) (v : V) (es : List Dd) (e : Dd), vs = [.ref s, v] ∧ Sy K (shB s C dx d l lv rs ++ F) (.dat [v] [e.d] :: .dat lv (es.map Dd.d) :: G) H ∧ ShC K C ∧ ShW rs fs ∧ es.length ≤ 1000 ∧
  ∀ rs' H', RowsOf rs' (doF fs e) → (rs'.map (·.1)).Nodup → Sy K (shB s C dx d l (lv ++ [v]) rs' ++ F) (.dat (lv ++ [v]) ((es ++ [e]).map Dd.d) :: G) H' → Q .non H'
abbrev names_Shelf_done : List Str := ["self", "deed"]
theorem sc_Shelf_done : FnScope names_Shelf_done ["self", "deed"] (defScope (inClass (top 35) 4)) := ⟨rfl, rfl, rfl, by decide +kernel, rfl, by decide +kernel, by decide +kernel⟩
set_option maxHeartbeats 4000000 in
theorem ok_Shelf_done (T : Tx K mg) : FG P w K mg base CX0 4 T.a_Shelf_done T.d_Shelf_done ["self", "deed"] (sp_Shelf_done K) := by
  refine OB.Fun.fg T.F_Shelf_done sc_Shelf_done (fun vs H Q E h => h.1) (fun cdv A out s H vs Q E g h => ?_)
  obtain ⟨_, F, G, s', C, dx, d, l, lv, rs, fs, v, es, e, rfl, S, hc, ⟨hR, nd, hl, hll⟩, hel, k⟩ := h
  refine ⟨_, (pss_cons (ps_if (pt_not (pt_val (pe_cg (ok_has_room T) (g.mono (by decide : 1 ≤ 3)) (by rfl) T.m_has_room T.F_has_room.kp (OB.Fun.bd T.F_has_room (ps := ["known", "deed"]) (n := 2) (ks := []) (ix := [0, 1]) (fun _ _ _ _ _ _ us ws h1 h2 => match us, ws, h1, h2 with | [_, _], [], _, _ => rfl)) pass0 (pa_cons (pe_fld (pv 0) rfl) (pa_cons (pv 1) pa_nil)) pk_nil))) (pss_one ps_never) pss_nil)
      (pss_cons (ps_expr (pe_cg (ok_do_deed T) (g.mono (by decide : 1 ≤ 3)) (by rfl) T.m_do_deed T.F_do_deed.kp (OB.Fun.bd T.F_do_deed (ps := ["known", "deed"]) (n := 2) (ks := []) (ix := [0, 1]) (fun _ _ _ _ _ _ us ws h1 h2 => match us, ws, h1, h2 with | [_, _], [], _, _ => rfl)) pass0 (pa_cons (pe_fld (pv 0) rfl) (pa_cons (pv 1) pa_nil)) pk_nil))
      (pss_one (ps_expr (pe_bm PySem.F.plainAttrs_list PySem.F.slot_list_append PySem.F.type_list_append mt_append (pe_fld (pv 0) rfl) (pa_cons (pv 1) pa_nil)))))), ?_⟩
  refine g_start (σ := [some _, some _]) rfl ?_
  have hlv := dps_length (S.dps 1 rfl)
  rw [List.length_map] at hlv
  have toB : ∀ {rs : List FRow} {G' : List Ft} {H' : Hp} {lv : List V}, Sy K (shB s' C dx d l lv rs ++ F) G' H' → Sy K (fB d rs ++ ((s', shO C dx d l) :: (l, .lst lv) :: F)) G' H' := fun S' => S'.perm (by
    show (fB d _ ++ ([(s', shO C dx d l), (l, .lst _)] ++ F)).Perm ([(s', shO C dx d l), (l, .lst _)] ++ (fB d _ ++ F))
    rw [← List.append_assoc, ← List.append_assoc]
    exact List.Perm.append_right _ List.perm_append_comm)
  have toS : ∀ {rs : List FRow} {G' : List Ft} {H' : Hp} {lv : List V}, Sy K (fB d rs ++ ((s', shO C dx d l) :: (l, .lst lv) :: F)) G' H' → Sy K (shB s' C dx d l lv rs ++ F) G' H' := fun S' => S'.perm (by
    show ([(s', shO C dx d l), (l, .lst _)] ++ (fB d _ ++ F)).Perm (fB d _ ++ ([(s', shO C dx d l), (l, .lst _)] ++ F))
    rw [← List.append_assoc, ← List.append_assoc]
    exact List.Perm.append_right _ List.perm_append_comm)
  repeat walk_at "ob"
  refine use_has_room (toB S) hl (fun r hr => by have := hll r hr; omega) fun H2 S2 => ?_
  have S3 := toS S2
  clear S S2
  repeat walk_at "ob"
  refine use_do_deed (toB S3) hR nd (by omega) (fun r hr => by have := hll r hr; omega) fun rs' H3 hR' nd' S4 => ?_
  have S5 := toS S4
  clear S3 S4
  repeat walk_at "ob"
  refine g_appS S5 (f := 1) rfl (by omega) fun H4 S6 => ?_
  have S7 : Sy K (shB s' C dx d l (lv ++ [v]) rs' ++ F) (.dat [v] [e.d] :: .dat lv (es.map Dd.d) :: G) H4 := S6
  repeat walk_at "ob"
  refine k rs' H4 hR' nd' ?_
  have S8 := S7.fact (dps_append (S7.dps 1 rfl) (S7.dps 0 rfl)) (by rw [immAll_append, S7.dpi 1 rfl, S7.dpi 0 rfl]; rfl)
  rw [show (es ++ [e]).map Dd.d = es.map Dd.d ++ [e.d] by rw [List.map_append]; rfl]
  exact S8.drop2.drop2
end
end LAW

set_option Elab.async false
set_option linter.all false
set_option maxRecDepth 100000
namespace LAW
open PySem PySem.Spec PyProof.Rows L2 PySem.W OB
local macro_rules | `(tactic| walk_at "obc") => `(tactic| first
  | exact Or.inl ⟨by omega, by omega⟩
  | exact Or.inr ⟨by omega, by omega⟩
  | exact cdiv_ok (by omega) (by omega)
  | (show (0 : Int) < _; omega)
  | exact ⟨by omega, by decide⟩
  | exact ⟨by decide, by decide⟩)
local macro_rules | `(tactic| walk_at "obat") => `(tactic| first
  | exact Sy.at (by assumption) 0 rfl | exact Sy.at (by assumption) 1 rfl | exact Sy.at (by assumption) 2 rfl | exact Sy.at (by assumption) 3 rfl
  | exact Sy.at (by assumption) 4 rfl | exact Sy.at (by assumption) 5 rfl | exact Sy.at (by assumption) 6 rfl | exact Sy.at (by assumption) _ (by assumption) | exact Sy.at (by assumption) (_ + 1) (by assumption) | exact Sy.at (by assumption) (_ + 2) (by assumption))
local macro_rules | `(tactic| walk_at "obt") => `(tactic| first
  | exact Sy.tqs (by assumption) 0 rfl | exact Sy.tqs (by assumption) 1 rfl | exact Sy.tqs (by assumption) 2 rfl | exact Sy.tqs (by assumption) 3 rfl | exact Sy.tqs (by assumption) 4 rfl | exact Sy.tqs (by assumption) 5 rfl
  | exact Sy.tqs (by assumption) 6 rfl | exact Sy.tqs (by assumption) 7 rfl | assumption)
local macro_rules | `(tactic| walk_at "obl") => `(tactic| first
  | exact SqL.of (by walk_at "obat")
  | exact Sy.sq (by assumption) 0 rfl | exact Sy.sq (by assumption) 1 rfl | exact Sy.sq (by assumption) 2 rfl | exact Sy.sq (by assumption) 3 rfl | exact Sy.sq (by assumption) _ (by assumption))
local macro_rules | `(tactic| walk_at "obd") => `(tactic| first
  | exact Dp.int _ | exact Dp.bl _ | exact Dp.str _ | exact Dp.non
  | exact Sy.dp (by assumption) 0 rfl | exact Sy.dp (by assumption) 1 rfl | exact Sy.dp (by assumption) 2 rfl | exact Sy.dp (by assumption) 3 rfl
  | exact Sy.dp (by assumption) 4 rfl | exact Sy.dp (by assumption) 5 rfl | exact Sy.dp (by assumption) 6 rfl | exact Sy.dp (by assumption) 7 rfl
  | exact Sy.dp (by assumption) 8 rfl | exact Sy.dp (by assumption) 9 rfl | exact Sy.dp (by assumption) _ (by assumption) | assumption)
local macro_rules | `(tactic| walk_at "obds") => `(tactic| first
  | exact DpAll.nil
  | (refine' DpAll.cons ?ob1 ?ob2; (case ob1 => walk_at "obd"); (case ob2 => walk_at "obds"))
  | exact Sy.dps (by assumption) 0 rfl | exact Sy.dps (by assumption) 1 rfl | exact Sy.dps (by assumption) 2 rfl | exact Sy.dps (by assumption) 3 rfl | assumption)
local macro_rules | `(tactic| walk_at "obsc") => `(tactic| first
  | exact ScL.nil
  | ((first | refine' ScL.int ?obz | refine' ScL.str ?obz | refine' ScL.bl ?obz | refine' ScL.non ?obz); (case obz => walk_at "obsc")))
local macro_rules | `(tactic| walk_at "ob1") => `(tactic| first
  | ((with_reducible refine' g_var ?obh ?_); (case obh => rfl))
  | with_reducible refine g_c ?_
  | with_reducible refine g_nx ?_
  | with_reducible refine g_rt ?_
  | with_reducible refine g_bk ?_
  | with_reducible refine g_ct ?_
  | with_reducible refine g_op ?_
  | with_reducible refine g_I0 ?_
  | with_reducible refine g_test ?_
  | with_reducible refine g_bl ?_
  | with_reducible refine g_blx ?_
  | with_reducible refine g_B ?_
  | with_reducible refine g_seq ?_
  | with_reducible refine g_asg ?_
  | with_reducible refine g_name ?_
  | with_reducible refine g_ifS ?_
  | with_reducible refine g_ret ?_
  | with_reducible refine g_cb ?_
  | with_reducible refine g_cons ?_
  | with_reducible refine g_nil ?_
  | with_reducible refine g_int ?_
  | with_reducible refine g_intB ?_
  | with_reducible refine g_abs ?_
  | with_reducible refine g_max ?_
  | with_reducible refine g_min ?_
  | with_reducible refine g_un ?_
  | with_reducible refine g_U ?_
  | with_reducible refine g_eqI ?_
  | with_reducible refine g_neI ?_
  | with_reducible refine g_eqS ?_
  | with_reducible refine g_neS ?_
  | with_reducible refine g_tt ?_
  | with_reducible refine g_ff ?_
  | with_reducible refine g_next ?_
  | with_reducible refine g_drop ?_
  | with_reducible refine g_if ?_
  | with_reducible refine g_andV ?_
  | with_reducible refine g_orV ?_
  | with_reducible refine g_notV ?_
  | with_reducible refine g_and ?_
  | with_reducible refine g_or ?_
  | with_reducible refine g_not ?_
  | with_reducible refine g_yes ?_
  | with_reducible refine g_chain ?_
  | with_reducible refine g_cg ?_
  | with_reducible refine g_mg ?_
  | with_reducible refine g_kg ?_
  | with_reducible refine g_pg ?_
  | ((with_reducible refine' g_call ?obh ?obj ?_); (case obh => rfl); (case obj => rfl))
  | with_reducible refine g_par ?_
  | with_reducible refine g_par2 ?_
  | with_reducible refine g_par3 ?_
  | with_reducible refine g_par33 ?_
  | with_reducible refine g_gnil ?_
  | with_reducible refine g_gcons ?_
  | with_reducible refine g_gsub ?_
  | with_reducible refine g_ipI ?_
  | with_reducible refine g_rAdd ?_
  | with_reducible refine g_rSub ?_
  | ((with_reducible refine' g_aug ?obh ?_); (case obh => rfl))
  | with_reducible refine g_tup ?_
  | with_reducible refine g_lst ?_
  | with_reducible refine g_bm ?_
  | with_reducible refine g_bm0 ?_
  | with_reducible refine g_sl ?_
  | with_reducible refine g_nopart ?_
  | with_reducible refine g_part ?_
  | with_reducible refine g_pint ?_
  | with_reducible refine isi_int ?_
  | with_reducible refine isi_intB ?_
  | ((with_reducible refine' g_I ?obh ?_); (case obh => walk_at "obc"))
  | ((with_reducible refine' g_tyl ?obh ?_); (case obh => walk_at "obl"))
  | ((with_reducible refine' g_lenL ?obh ?_); (case obh => walk_at "obl"))
  | with_reducible refine g_ne ?_
  | ((with_reducible refine' g_neN' ?obh ?_); (case obh => rfl))
  | with_reducible refine g_ntt ?_
  | with_reducible refine g_nff ?_
  | with_reducible refine g_star ?_
  | with_reducible refine g_att ?_
  | with_reducible refine g_sfld ?_
  | with_reducible refine g_faug ?_
  | with_reducible refine g_fld ?_
  | ((with_reducible refine' g_nF ?obh ?_); (case obh => omega))
  | ((with_reducible refine' g_nT ?obh ?_); (case obh => omega))
  | ((with_reducible refine' g_TD ?obh ?_); (case obh => omega))
  | ((with_reducible refine' g_FD ?obh ?_); (case obh => omega))
  | ((with_reducible refine' g_ixUL ?obh ?obi ?_); (case obh => walk_at "obl"); (case obi => exact atI_nn (by omega) (by rfl)))
  | ((with_reducible refine' g_setLS ?obs ?obh ?obi ?_); (case obs => assumption); (case obh => assumption); (case obi => rfl); intro _ _ _)
  | ((with_reducible refine' g_newT ?obs ?obh ?obi ?obj ?_); (case obs => assumption); (case obh => walk_at "obds"); (case obi => rfl); (case obj => exact Nat.le_of_ble_eq_true rfl); intro _ _ _ _)
  | ((with_reducible refine' g_newL ?obs ?obj ?_); (case obs => assumption); (case obj => exact Nat.le_of_ble_eq_true rfl); intro _ _ _ _)
  | ((with_reducible refine' isi_tup ?obh ?_); (case obh => walk_at "obt"))
  | ((with_reducible refine' g_lenT ?obh ?_); (case obh => walk_at "obt"))
  | ((with_reducible refine' g_unpT ?obh ?obi ?_); (case obh => walk_at "obt"); (case obi => rfl))
  | ((with_reducible refine' g_divmod ?obs ?obh ?_); (case obs => assumption); (case obh => exact cdivp_ok (by omega) (by omega) (by omega)); intro _ _ _ _)
  | ((with_reducible refine' g_unpD ?obh ?obi ?obj ?_); (case obh => walk_at "obd"); (case obi => walk_at "obsc"); (case obj => rfl))
  | with_reducible refine g_att ?_)
local macro_rules | `(tactic| walk_at "ob") => `(tactic| first
  | walk_at "ob1"
  | refine use_is_integer ?_
  | refine use_is_within ?_
  | with_reducible refine g_lstRg ?_
  | with_reducible refine g_rg1 ?_
  | with_reducible refine g_rg2 ?_
  | with_reducible refine g_tTru ?_
  | ((with_reducible refine' g_truL ?obh ?_); (case obh => walk_at "obl"))
  | ((with_reducible refine' g_ixUT ?obh ?obi ?_); (case obh => walk_at "obt"); (case obi => rfl))
  | with_reducible refine g_forZ ?_
  | with_reducible refine g_forR2 ?_
  | with_reducible refine g_forE ?_
  | with_reducible refine g_lcZ ?_)
local macro_rules | `(tactic| walk_at "ob") => `(tactic| first
  | ((with_reducible refine' g_fldS ?obh ?obc ?obn ?obe ?_); (case obh => walk_at "obat"); (case obc => exact ShC.c (by assumption)); (case obn => first | exact ShC.n1 (by assumption) | exact ShC.n2 (by assumption)); (case obe => rfl)))
theorem RowsOf.mem {rs : List FRow} {fs : Fl} (h : RowsOf rs fs) {r : FRow} (hr : r ∈ rs) : ∃ f ∈ fs, r.1 = f.1 ∧ r.2.2 = f.2.map V.str := by
  have : (r.1, r.2.2) ∈ rs.map fun r => (r.1, r.2.2) := List.mem_map.mpr ⟨r, hr, rfl⟩
  rw [h] at this
  obtain ⟨f, hf, e⟩ := List.mem_map.mp this
  obtain ⟨e1, e2⟩ := Prod.mk.inj e
  exact ⟨f, hf, e1.symm, e2.symm⟩
theorem ShW.of {rs : List FRow} {fs : Fl} (R : RowsOf rs fs) (nd : (fs.map (·.1)).Nodup) (hl : fs.length < 40) (ll : ∀ f ∈ fs, f.2.length ≤ 1000) : ShW rs fs := ⟨R, by rw [R.names]; exact nd, by rw [R.len]; exact hl, fun r hr => by
  obtain ⟨f, hf, _, e⟩ := R.mem hr
  rw [e, List.length_map]
  exact ll f hf⟩
theorem avs_str {F : List (Addr × HO)} {G : List Ft} {n : Str} (h : n.cps.toList.length ≤ 1000) : AvS F G (.str n) (.str n.cps.toList) := by
  have := AvS.str (F := F) (G := G) (l := n.cps.toList) h
  rw [tx_of] at this
  exact this
section
variable {P : Program} {w : World} {K : Frag} {mg : Str → Option Value} {base : Heap}
def sp_Shelf_add (K : Frag) (C : Addr) : Sp := fun vs H Q E => vs.length = 3 ∧ ∃ (F : List (Addr × HO)) (G : List Ft) (s dx d l : Addr) (lv : List V) (rs : List FRow) (fs : Fl) (es : List Dd) (n z : Str), vs = [.ref s, .str n, .str z] ∧ Sy K (shB s C dx d l lv rs ++ F) (.dat lv (es.map Dd.d) :: G) H ∧ ShC K C ∧ ShW rs fs ∧ es.length ≤ 1000 ∧ NmOk n ∧ LnOk z ∧
  ∀ rs' v H', RowsOf rs' (doF fs (.add n z)) → (rs'.map (·.1)).Nodup → Sy K (shB s C dx d l (lv ++ [v]) rs' ++ F) (.dat (lv ++ [v]) ((es ++ [Dd.add n z]).map Dd.d) :: G) H' → Q .non H'
abbrev names_Shelf_add : List Str := ["self", "file", "line"]
theorem sc_Shelf_add : FnScope names_Shelf_add ["self", "file", "line"] (defScope (inClass (top 35) 5)) := ⟨rfl, rfl, rfl, by decide +kernel, rfl, by decide +kernel, by decide +kernel⟩
set_option maxHeartbeats 4000000 in
theorem ok_Shelf_add (T : Tx K mg) : FG P w K mg base CX0 5 T.a_Shelf_add T.d_Shelf_add ["self", "file", "line"] (sp_Shelf_add K T.a_Shelf) := by
  refine OB.Fun.fg T.F_Shelf_add sc_Shelf_add (fun vs H Q E h => h.1) (fun cdv A out s H vs Q E g h => ?_)
  obtain ⟨_, F, G, s', dx, d, l, lv, rs, fs, es, n, z, rfl, S, hc, hw, hel, hn, hz, k⟩ := h
  refine ⟨_, (pss_cons (ps_if (pt_not (pt_val (pe_cg (ok_is_name T) (g.mono (by decide : 1 ≤ 4)) (by rfl) T.m_is_name T.F_is_name.kp (OB.Fun.bd T.F_is_name (ps := ["value"]) (n := 1) (ks := []) (ix := [0]) (fun _ _ _ _ _ _ us ws h1 h2 => match us, ws, h1, h2 with | [_], [], _, _ => rfl)) pass0 (pa_cons (pv 1) pa_nil) pk_nil))) (pss_one ps_never) pss_nil)
      (pss_cons (ps_if (pt_not (pt_val (pe_cg (ok_is_line T) (g.mono (by decide : 1 ≤ 4)) (by rfl) T.m_is_line T.F_is_line.kp (OB.Fun.bd T.F_is_line (ps := ["value"]) (n := 1) (ks := []) (ix := [0]) (fun _ _ _ _ _ _ us ws h1 h2 => match us, ws, h1, h2 with | [_], [], _, _ => rfl)) pass0 (pa_cons (pv 2) pa_nil) pk_nil))) (pss_one ps_never) pss_nil)
      (pss_one (ps_expr (pe_mg (pv 0) T.c_Shelf T.me_Shelf_done (ok_Shelf_done T) (g.mono (by decide : 4 ≤ 4)) (OB.Fun.bd T.F_Shelf_done (ps := ["self", "deed"]) (n := 2) (ks := []) (ix := [0, 1]) (fun _ _ _ _ _ _ us ws h1 h2 => match us, ws, h1, h2 with | [_, _], [], _, _ => rfl)) pass0 (pa_cons (pe_tup (pa_cons (pe_glob (v := .str "add") (by rfl) T.g_ADD ⟨_, rfl⟩) (pa_cons (pv 1) (pa_cons (pv 2) pa_nil)))) pa_nil) pk_nil))))), ?_⟩
  refine g_start (σ := [some _, some _, some _]) rfl ?_
  have hnl := nmB_len hn
  have hzl := lnB_len hz
  repeat walk_at "ob"
  refine use_is_name S (avs_str (by omega)) fun H2 S2 => ?_
  rw [show isNameA (.str n.cps.toList) = true from hn]
  clear S
  repeat walk_at "ob"
  refine use_is_line S2 (avs_str (by omega)) fun H3 S3 => ?_
  rw [show isLineA (.str z.cps.toList) = true from hz]
  clear S2
  repeat walk_at "ob"
  refine ⟨s', _, _, rfl, S3.at 0 rfl, rfl, ?_⟩
  repeat walk_at "ob"
  rename_i t H4 _ S4
  refine ⟨rfl, F, G, s', _, dx, d, l, lv, rs, fs, .ref t, es, .add n z, rfl, S4, hc, hw, hel, fun rs' H5 hR' nd' S5 => ?_⟩
  repeat walk_at "ob"
  exact k rs' _ H5 hR' nd' S5
def sp_Shelf_lay (K : Frag) (C : Addr) : Sp := fun vs H Q E => vs.length = 3 ∧ ∃ (F : List (Addr × HO)) (G : List Ft) (s dx d l : Addr) (lv : List V) (rs : List FRow) (fs : Fl) (es : List Dd) (n : Str) (zs : List Str) (x : V), vs = [.ref s, .str n, x] ∧ Sy K (shB s C dx d l lv rs ++ F) (.dat [x] [.tuple (zs.map PyData.str)] :: .dat lv (es.map Dd.d) :: G) H ∧ ShC K C ∧ ShW rs fs ∧ es.length ≤ 1000 ∧ NmOk n ∧ (∀ z ∈ zs, LnOk z) ∧ zs.length ≤ 1000 ∧
  ∀ rs' v H', RowsOf rs' (doF fs (.lay n zs)) → (rs'.map (·.1)).Nodup → Sy K (shB s C dx d l (lv ++ [v]) rs' ++ F) (.dat (lv ++ [v]) ((es ++ [Dd.lay n zs]).map Dd.d) :: G) H' → Q .non H'
abbrev names_Shelf_lay : List Str := ["self", "file", "lines"]
theorem sc_Shelf_lay : FnScope names_Shelf_lay ["self", "file", "lines"] (defScope (inClass (top 35) 6)) := ⟨rfl, rfl, rfl, by decide +kernel, rfl, by decide +kernel, by decide +kernel⟩
set_option maxHeartbeats 4000000 in
theorem ok_Shelf_lay (T : Tx K mg) : FG P w K mg base CX0 5 T.a_Shelf_lay T.d_Shelf_lay ["self", "file", "lines"] (sp_Shelf_lay K T.a_Shelf) := by
  refine OB.Fun.fg T.F_Shelf_lay sc_Shelf_lay (fun vs H Q E h => h.1) (fun cdv A out s H vs Q E g h => ?_)
  obtain ⟨_, F, G, s', dx, d, l, lv, rs, fs, es, n, zs, x, rfl, S, hc, hw, hel, hn, hz, hzl, k⟩ := h
  refine ⟨_, (pss_cons (ps_if (pt_not (pt_val (pe_cg (ok_is_name T) (g.mono (by decide : 1 ≤ 4)) (by rfl) T.m_is_name T.F_is_name.kp (OB.Fun.bd T.F_is_name (ps := ["value"]) (n := 1) (ks := []) (ix := [0]) (fun _ _ _ _ _ _ us ws h1 h2 => match us, ws, h1, h2 with | [_], [], _, _ => rfl)) pass0 (pa_cons (pv 1) pa_nil) pk_nil))) (pss_one ps_never) pss_nil)
      (pss_cons (ps_if (pt_not (pt_val (pe_cg (ok_are_lines T) (g.mono (by decide : 2 ≤ 4)) (by rfl) T.m_are_lines T.F_are_lines.kp (OB.Fun.bd T.F_are_lines (ps := ["value"]) (n := 1) (ks := []) (ix := [0]) (fun _ _ _ _ _ _ us ws h1 h2 => match us, ws, h1, h2 with | [_], [], _, _ => rfl)) pass0 (pa_cons (pv 2) pa_nil) pk_nil))) (pss_one ps_never) pss_nil)
      (pss_one (ps_expr (pe_mg (pv 0) T.c_Shelf T.me_Shelf_done (ok_Shelf_done T) (g.mono (by decide : 4 ≤ 4)) (OB.Fun.bd T.F_Shelf_done (ps := ["self", "deed"]) (n := 2) (ks := []) (ix := [0, 1]) (fun _ _ _ _ _ _ us ws h1 h2 => match us, ws, h1, h2 with | [_, _], [], _, _ => rfl)) pass0 (pa_cons (pe_tup (pa_cons (pe_glob (v := .str "lay") (by rfl) T.g_LAY ⟨_, rfl⟩) (pa_cons (pv 1) (pa_cons (pv 2) pa_nil)))) pa_nil) pk_nil))))), ?_⟩
  refine g_start (σ := [some _, some _, some _]) rfl ?_
  have hnl := nmB_len hn
  have okl : okD (.tuple (zs.map PyData.str)) = true := okDs_of fun d hd => by
    obtain ⟨l, hl, rfl⟩ := List.mem_map.mp hd
    have := lnB_len (hz l hl)
    exact decide_eq_true (by omega)
  have av : avOf (.tuple (zs.map PyData.str)) = .tup (zs.map fun l => .str l.cps.toList) := by
    show Av.tup (avsOf (zs.map PyData.str)) = _
    rw [avsOf_map, List.map_map]
    rfl
  have al : areLinesA (avOf (.tuple (zs.map PyData.str))) = true := by
    rw [av]
    show (decide ((zs.map fun l => Av.str l.cps.toList).length ≤ 20000) && (zs.map fun l => Av.str l.cps.toList).all isLineA) = true
    rw [decide_eq_true (by rw [List.length_map]; omega), List.all_map, show (zs.all (isLineA ∘ fun l => Av.str l.cps.toList)) = true from List.all_eq_true.mpr fun l hl => hz l hl]
    rfl
  repeat walk_at "ob"
  refine use_is_name S (avs_str (by omega)) fun H2 S2 => ?_
  rw [show isNameA (.str n.cps.toList) = true from hn]
  clear S
  repeat walk_at "ob"
  refine use_are_lines S2 (.dat (i := 0) (List.mem_cons_self ..) rfl rfl okl) (fun as e => by
    rw [av] at e
    cases e
    rw [List.length_map]
    exact hzl) fun H3 S3 => ?_
  rw [al]
  clear S2
  repeat walk_at "ob"
  refine ⟨s', _, _, rfl, S3.at 0 rfl, rfl, ?_⟩
  repeat ((fail_if_success (with_reducible refine atNewT ?_)); walk_at "ob")
  refine g_newT (ds := [.str "lay", .str n, .tuple (zs.map PyData.str)]) S3 (.cons (.str _) (.cons (.str _) (.cons (S3.dp 0 rfl) .nil))) (by show (true && (true && (immAll (zs.map PyData.str) && true))) = true; rw [strs_imm]; rfl) (Nat.le_of_ble_eq_true rfl) fun t H4 _ S4 => ?_
  repeat walk_at "ob"
  refine ⟨rfl, F, G, s', _, dx, d, l, lv, rs, fs, .ref t, es, .lay n zs, rfl, S4.drop2, hc, hw, hel, fun rs' H5 hR' nd' S5 => ?_⟩
  repeat walk_at "ob"
  exact k rs' _ H5 hR' nd' S5
def sp_Shelf_sync (K : Frag) (C : Addr) : Sp := fun vs H Q E => vs.length = 1 ∧ ∃ (F : List (Addr × HO)) (G : List Ft) (s dx d l : Addr) (lv : List V) (rs : List FRow) (fs : Fl) (es : List Dd), vs = [.ref s] ∧ Sy K (shB s C dx d l lv rs ++ F) (.dat lv (es.map Dd.d) :: G) H ∧ ShC K C ∧ ShW rs fs ∧ es.length ≤ 1000 ∧
  ∀ rs' v H', RowsOf rs' (doF fs .syn) → (rs'.map (·.1)).Nodup → Sy K (shB s C dx d l (lv ++ [v]) rs' ++ F) (.dat (lv ++ [v]) ((es ++ [Dd.syn]).map Dd.d) :: G) H' → Q .non H'
abbrev names_Shelf_sync : List Str := ["self"]
theorem sc_Shelf_sync : FnScope names_Shelf_sync ["self"] (defScope (inClass (top 35) 7)) := ⟨rfl, rfl, rfl, by decide +kernel, rfl, by decide +kernel, by decide +kernel⟩
set_option maxHeartbeats 4000000 in
theorem ok_Shelf_sync (T : Tx K mg) : FG P w K mg base CX0 5 T.a_Shelf_sync T.d_Shelf_sync ["self"] (sp_Shelf_sync K T.a_Shelf) := by
  refine OB.Fun.fg T.F_Shelf_sync sc_Shelf_sync (fun vs H Q E h => h.1) (fun cdv A out s H vs Q E g h => ?_)
  obtain ⟨_, F, G, s', dx, d, l, lv, rs, fs, es, rfl, S, hc, hw, hel, k⟩ := h
  refine ⟨_, (pss_one (ps_expr (pe_mg (pv 0) T.c_Shelf T.me_Shelf_done (ok_Shelf_done T) (g.mono (by decide : 4 ≤ 4)) (OB.Fun.bd T.F_Shelf_done (ps := ["self", "deed"]) (n := 2) (ks := []) (ix := [0, 1]) (fun _ _ _ _ _ _ us ws h1 h2 => match us, ws, h1, h2 with | [_, _], [], _, _ => rfl)) pass0 (pa_cons (pe_tup (pa_cons (pe_glob (v := .str "sync") (by rfl) T.g_SYNC ⟨_, rfl⟩) pa_nil)) pa_nil) pk_nil))), ?_⟩
  refine g_start (σ := [some _]) rfl ?_
  repeat walk_at "ob"
  refine ⟨s', _, _, rfl, S.at 0 rfl, rfl, ?_⟩
  repeat walk_at "ob"
  rename_i t H4 _ S4
  refine ⟨rfl, F, G, s', _, dx, d, l, lv, rs, fs, .ref t, es, .syn, rfl, S4, hc, hw, hel, fun rs' H5 hR' nd' S5 => ?_⟩
  repeat walk_at "ob"
  exact k rs' _ H5 hR' nd' S5
end
end LAW

set_option Elab.async false
set_option linter.all false
set_option maxRecDepth 100000
namespace LAW
open PySem PySem.Spec PyProof.Rows L2 PySem.W OB
local macro_rules | `(tactic| walk_at "obc") => `(tactic| first
  | exact Or.inl ⟨by omega, by omega⟩
  | exact Or.inr ⟨by omega, by omega⟩
  | exact cdiv_ok (by omega) (by omega)
  | (show (0 : Int) < _; omega)
  | exact ⟨by omega, by decide⟩
  | exact ⟨by decide, by decide⟩)
local macro_rules | `(tactic| walk_at "obat") => `(tactic| first
  | exact Sy.at (by assumption) 0 rfl | exact Sy.at (by assumption) 1 rfl | exact Sy.at (by assumption) 2 rfl | exact Sy.at (by assumption) 3 rfl
  | exact Sy.at (by assumption) 4 rfl | exact Sy.at (by assumption) 5 rfl | exact Sy.at (by assumption) 6 rfl | exact Sy.at (by assumption) _ (by assumption) | exact Sy.at (by assumption) (_ + 1) (by assumption) | exact Sy.at (by assumption) (_ + 2) (by assumption))
local macro_rules | `(tactic| walk_at "obt") => `(tactic| first
  | exact Sy.tqs (by assumption) 0 rfl | exact Sy.tqs (by assumption) 1 rfl | exact Sy.tqs (by assumption) 2 rfl | exact Sy.tqs (by assumption) 3 rfl | exact Sy.tqs (by assumption) 4 rfl | exact Sy.tqs (by assumption) 5 rfl
  | exact Sy.tqs (by assumption) 6 rfl | exact Sy.tqs (by assumption) 7 rfl | assumption)
local macro_rules | `(tactic| walk_at "obl") => `(tactic| first
  | exact SqL.of (by walk_at "obat")
  | exact Sy.sq (by assumption) 0 rfl | exact Sy.sq (by assumption) 1 rfl | exact Sy.sq (by assumption) 2 rfl | exact Sy.sq (by assumption) 3 rfl | exact Sy.sq (by assumption) _ (by assumption))
local macro_rules | `(tactic| walk_at "obd") => `(tactic| first
  | exact Dp.int _ | exact Dp.bl _ | exact Dp.str _ | exact Dp.non
  | exact Sy.dp (by assumption) 0 rfl | exact Sy.dp (by assumption) 1 rfl | exact Sy.dp (by assumption) 2 rfl | exact Sy.dp (by assumption) 3 rfl
  | exact Sy.dp (by assumption) 4 rfl | exact Sy.dp (by assumption) 5 rfl | exact Sy.dp (by assumption) 6 rfl | exact Sy.dp (by assumption) 7 rfl
  | exact Sy.dp (by assumption) 8 rfl | exact Sy.dp (by assumption) 9 rfl | exact Sy.dp (by assumption) _ (by assumption) | assumption)
local macro_rules | `(tactic| walk_at "obds") => `(tactic| first
  | exact DpAll.nil
  | (refine' DpAll.cons ?ob1 ?ob2; (case ob1 => walk_at "obd"); (case ob2 => walk_at "obds"))
  | exact Sy.dps (by assumption) 0 rfl | exact Sy.dps (by assumption) 1 rfl | exact Sy.dps (by assumption) 2 rfl | exact Sy.dps (by assumption) 3 rfl | assumption)
local macro_rules | `(tactic| walk_at "obsc") => `(tactic| first
  | exact ScL.nil
  | ((first | refine' ScL.int ?obz | refine' ScL.str ?obz | refine' ScL.bl ?obz | refine' ScL.non ?obz); (case obz => walk_at "obsc")))
local macro_rules | `(tactic| walk_at "ob1") => `(tactic| first
  | ((with_reducible refine' g_var ?obh ?_); (case obh => rfl))
  | with_reducible refine g_c ?_
  | with_reducible refine g_nx ?_
  | with_reducible refine g_rt ?_
  | with_reducible refine g_bk ?_
  | with_reducible refine g_ct ?_
  | with_reducible refine g_op ?_
  | with_reducible refine g_I0 ?_
  | with_reducible refine g_test ?_
  | with_reducible refine g_bl ?_
  | with_reducible refine g_blx ?_
  | with_reducible refine g_B ?_
  | with_reducible refine g_seq ?_
  | with_reducible refine g_asg ?_
  | with_reducible refine g_name ?_
  | with_reducible refine g_ifS ?_
  | with_reducible refine g_ret ?_
  | with_reducible refine g_cb ?_
  | with_reducible refine g_cons ?_
  | with_reducible refine g_nil ?_
  | with_reducible refine g_int ?_
  | with_reducible refine g_intB ?_
  | with_reducible refine g_abs ?_
  | with_reducible refine g_max ?_
  | with_reducible refine g_min ?_
  | with_reducible refine g_un ?_
  | with_reducible refine g_U ?_
  | with_reducible refine g_eqI ?_
  | with_reducible refine g_neI ?_
  | with_reducible refine g_eqS ?_
  | with_reducible refine g_neS ?_
  | with_reducible refine g_tt ?_
  | with_reducible refine g_ff ?_
  | with_reducible refine g_next ?_
  | with_reducible refine g_drop ?_
  | with_reducible refine g_if ?_
  | with_reducible refine g_andV ?_
  | with_reducible refine g_orV ?_
  | with_reducible refine g_notV ?_
  | with_reducible refine g_and ?_
  | with_reducible refine g_or ?_
  | with_reducible refine g_not ?_
  | with_reducible refine g_yes ?_
  | with_reducible refine g_chain ?_
  | with_reducible refine g_cg ?_
  | with_reducible refine g_mg ?_
  | with_reducible refine g_kg ?_
  | with_reducible refine g_pg ?_
  | ((with_reducible refine' g_call ?obh ?obj ?_); (case obh => rfl); (case obj => rfl))
  | with_reducible refine g_par ?_
  | with_reducible refine g_par2 ?_
  | with_reducible refine g_par3 ?_
  | with_reducible refine g_par33 ?_
  | with_reducible refine g_gnil ?_
  | with_reducible refine g_gcons ?_
  | with_reducible refine g_gsub ?_
  | with_reducible refine g_ipI ?_
  | with_reducible refine g_rAdd ?_
  | with_reducible refine g_rSub ?_
  | ((with_reducible refine' g_aug ?obh ?_); (case obh => rfl))
  | with_reducible refine g_tup ?_
  | with_reducible refine g_lst ?_
  | with_reducible refine g_bm ?_
  | with_reducible refine g_bm0 ?_
  | with_reducible refine g_sl ?_
  | with_reducible refine g_nopart ?_
  | with_reducible refine g_part ?_
  | with_reducible refine g_pint ?_
  | with_reducible refine isi_int ?_
  | with_reducible refine isi_intB ?_
  | ((with_reducible refine' g_I ?obh ?_); (case obh => walk_at "obc"))
  | ((with_reducible refine' g_tyl ?obh ?_); (case obh => walk_at "obl"))
  | ((with_reducible refine' g_lenL ?obh ?_); (case obh => walk_at "obl"))
  | with_reducible refine g_ne ?_
  | ((with_reducible refine' g_neN' ?obh ?_); (case obh => rfl))
  | with_reducible refine g_ntt ?_
  | with_reducible refine g_nff ?_
  | with_reducible refine g_star ?_
  | with_reducible refine g_att ?_
  | with_reducible refine g_sfld ?_
  | with_reducible refine g_faug ?_
  | with_reducible refine g_fld ?_
  | ((with_reducible refine' g_nF ?obh ?_); (case obh => omega))
  | ((with_reducible refine' g_nT ?obh ?_); (case obh => omega))
  | ((with_reducible refine' g_TD ?obh ?_); (case obh => omega))
  | ((with_reducible refine' g_FD ?obh ?_); (case obh => omega))
  | ((with_reducible refine' g_ixUL ?obh ?obi ?_); (case obh => walk_at "obl"); (case obi => exact atI_nn (by omega) (by rfl)))
  | ((with_reducible refine' g_setLS ?obs ?obh ?obi ?_); (case obs => assumption); (case obh => assumption); (case obi => rfl); intro _ _ _)
  | ((with_reducible refine' g_newT ?obs ?obh ?obi ?obj ?_); (case obs => assumption); (case obh => walk_at "obds"); (case obi => rfl); (case obj => exact Nat.le_of_ble_eq_true rfl); intro _ _ _ _)
  | ((with_reducible refine' g_newL ?obs ?obj ?_); (case obs => assumption); (case obj => exact Nat.le_of_ble_eq_true rfl); intro _ _ _ _)
  | ((with_reducible refine' isi_tup ?obh ?_); (case obh => walk_at "obt"))
  | ((with_reducible refine' g_lenT ?obh ?_); (case obh => walk_at "obt"))
  | ((with_reducible refine' g_unpT ?obh ?obi ?_); (case obh => walk_at "obt"); (case obi => rfl))
  | ((with_reducible refine' g_divmod ?obs ?obh ?_); (case obs => assumption); (case obh => exact cdivp_ok (by omega) (by omega) (by omega)); intro _ _ _ _)
  | ((with_reducible refine' g_unpD ?obh ?obi ?obj ?_); (case obh => walk_at "obd"); (case obi => walk_at "obsc"); (case obj => rfl))
  | with_reducible refine g_att ?_)
local macro_rules | `(tactic| walk_at "ob") => `(tactic| first
  | walk_at "ob1"
  | refine use_is_integer ?_
  | refine use_is_within ?_
  | with_reducible refine g_lstRg ?_
  | with_reducible refine g_rg1 ?_
  | with_reducible refine g_rg2 ?_
  | with_reducible refine g_tTru ?_
  | ((with_reducible refine' g_truL ?obh ?_); (case obh => walk_at "obl"))
  | ((with_reducible refine' g_ixUT ?obh ?obi ?_); (case obh => walk_at "obt"); (case obi => rfl))
  | with_reducible refine g_forZ ?_
  | with_reducible refine g_forR2 ?_
  | with_reducible refine g_forE ?_
  | with_reducible refine g_lcZ ?_)
local macro_rules | `(tactic| walk_at "ob") => `(tactic| first
  | ((with_reducible refine' g_fldS ?obh ?obc ?obn ?obe ?_); (case obh => walk_at "obat"); (case obc => exact ShC.c (by assumption)); (case obn => first | exact ShC.n1 (by assumption) | exact ShC.n2 (by assumption)); (case obe => rfl)))
/-! ### files that are the same, whatever the sequence -/
def FEq (fs gs : Fl) : Prop := (fs.map (·.1)).Perm (gs.map (·.1)) ∧ ∀ n, lnsOf fs n = lnsOf gs n
theorem FEq.refl (fs : Fl) : FEq fs fs := ⟨.refl _, fun _ => rfl⟩
theorem FEq.symm {fs gs : Fl} (h : FEq fs gs) : FEq gs fs := ⟨h.1.symm, fun n => (h.2 n).symm⟩
theorem FEq.trans {fs gs hs : Fl} (h : FEq fs gs) (h2 : FEq gs hs) : FEq fs hs := ⟨h.1.trans h2.1, fun n => (h.2 n).trans (h2.2 n)⟩
theorem FEq.nodup {fs gs : Fl} (h : FEq fs gs) (nd : (fs.map (·.1)).Nodup) : (gs.map (·.1)).Nodup := h.1.nodup_iff.mp nd
theorem FEq.srt {fs gs : Fl} (h : FEq fs gs) (ys : List Str) : srtF fs ys = srtF gs ys := by
  unfold srtF
  exact List.map_congr_left fun n _ => by rw [h.2 n]
theorem FEq.has {fs gs : Fl} (h : FEq fs gs) (n : Str) : hasF fs n = hasF gs n := by
  rw [Bool.eq_iff_iff, hasF_mem, hasF_mem]
  exact h.1.mem_iff
theorem FEq.rd {fs gs : Fl} (h : FEq fs gs) (n : Str) : rdD fs n = rdD gs n := by
  unfold rdD
  rw [h.has, h.2 n]
theorem lns_nil {fs : Fl} {n : Str} (h : n ∉ fs.map (·.1)) : lnsOf fs n = [] := by
  have h2 : fs.find? (fun f => decide (f.1 = n)) = none := by
    rw [List.find?_eq_none]
    intro f hf e
    exact h (List.mem_map.mpr ⟨f, hf, of_decide_eq_true e⟩)
  unfold lnsOf
  rw [h2]
  rfl
theorem lns_cons (f : Str × List Str) (fs : Fl) (n : Str) : lnsOf (f :: fs) n = if f.1 = n then f.2 else lnsOf fs n := by
  unfold lnsOf
  rw [List.find?_cons]
  by_cases c : f.1 = n
  · rw [decide_eq_true c, if_pos c]
    rfl
  · rw [decide_eq_false c, if_neg c]
theorem lns_mem : ∀ {fs : Fl} {f : Str × List Str}, (fs.map (·.1)).Nodup → f ∈ fs → lnsOf fs f.1 = f.2
  | g :: fs, f, nd, h => by
    rw [lns_cons]
    have nd2 := List.nodup_cons.mp nd
    rcases List.mem_cons.mp h with rfl | h
    · rw [if_pos rfl]
    · rw [if_neg (fun e => nd2.1 (by show g.1 ∈ fs.map _; rw [e]; exact List.mem_map.mpr ⟨f, h, rfl⟩))]
      exact lns_mem nd2.2 h
theorem lns_srt (fs : Fl) (n : Str) : ∀ ys : List Str, lnsOf (srtF fs ys) n = if n ∈ ys then lnsOf fs n else []
  | [] => rfl
  | y :: ys => by
    show lnsOf ((y, lnsOf fs y) :: srtF fs ys) n = _
    rw [lns_cons, lns_srt fs n ys]
    by_cases c : y = n
    · subst c
      rw [if_pos rfl, if_pos (List.mem_cons_self ..)]
    · rw [if_neg c]
      by_cases d : n ∈ ys
      · rw [if_pos d, if_pos (List.mem_cons_of_mem _ d)]
      · rw [if_neg d, if_neg (fun z => (List.mem_cons.mp z).elim (fun e => c e.symm) d)]
theorem srt_names (fs : Fl) (ys : List Str) : (srtF fs ys).map (·.1) = ys := by
  unfold srtF
  rw [List.map_map]
  exact List.map_id ys
theorem FEq.of_srt {fs : Fl} {ys : List Str} (h : IsSrt (fs.map (·.1)) ys) : FEq (srtF fs ys) fs := by
  refine ⟨by rw [srt_names]; exact h.1, fun n => ?_⟩
  rw [lns_srt]
  by_cases c : n ∈ ys
  · rw [if_pos c]
  · rw [if_neg c, lns_nil fun z => c (h.1.mem_iff.mpr z)]
theorem lns_put (n : Str) (ls : List Str) (m : Str) (fs : Fl) : lnsOf (putF fs n ls) m = if n = m then ls else lnsOf fs m := by
  have key : ∀ fs : Fl, lnsOf (fs.map fun f => if f.1 = n then (f.1, ls) else f) m = if n = m then (if hasF fs n = true then ls else []) else lnsOf fs m := by
    intro fs
    induction fs with
    | nil =>
      show [] = _
      by_cases d : n = m
      · rw [if_pos d]
        rfl
      · rw [if_neg d]
        rfl
    | cons f fs ih =>
      rw [List.map_cons, lns_cons, lns_cons, ih]
      have hc : hasF (f :: fs) n = (decide (f.1 = n) || hasF fs n) := rfl
      rw [hc]
      by_cases c : f.1 = n
      · rw [if_pos c]
        show (if f.1 = m then ls else _) = _
        by_cases d : n = m
        · rw [if_pos (c.trans d), if_pos d, decide_eq_true c]
          rfl
        · rw [if_neg d, if_neg (fun z => d (c.symm.trans z)), if_neg (fun z => d (c.symm.trans z)), if_neg d]
      · rw [if_neg c, decide_eq_false c, Bool.false_or]
        by_cases d : f.1 = m
        · rw [if_pos d, if_pos d, if_neg (fun z => c (d.trans z.symm))]
        · rw [if_neg d, if_neg d]
  unfold putF
  by_cases h : hasF fs n = true
  · rw [if_pos h, key fs, h]
    rfl
  · rw [if_neg h]
    have app : ∀ gs : Fl, n ∉ gs.map (·.1) → lnsOf (gs ++ [(n, ls)]) m = if n = m then ls else lnsOf gs m := by
      intro gs
      induction gs with
      | nil =>
        intro _
        show lnsOf [(n, ls)] m = _
        rw [lns_cons]
      | cons g gs ih =>
        intro hg
        rw [List.cons_append, lns_cons, lns_cons, ih fun z => hg (List.mem_cons_of_mem _ z)]
        by_cases d : g.1 = m
        · rw [if_pos d, if_pos d, if_neg (fun z => hg (by rw [z, ← d]; exact List.mem_cons_self ..))]
        · rw [if_neg d, if_neg d]
    exact app fs fun z => h (hasF_mem.mpr z)
theorem FEq.put {fs gs : Fl} (h : FEq fs gs) (n : Str) (ls : List Str) : FEq (putF fs n ls) (putF gs n ls) := by
  refine ⟨?_, fun m => by rw [lns_put, lns_put, h.2 m]⟩
  rw [putF_names, putF_names]
  by_cases c : n ∈ fs.map (·.1)
  · rw [if_pos c, if_pos (h.1.mem_iff.mp c)]
    exact h.1
  · rw [if_neg c, if_neg (fun z => c (h.1.mem_iff.mpr z))]
    exact h.1.append_right _
theorem FEq.do {fs gs : Fl} (h : FEq fs gs) (e : Dd) : FEq (doF fs e) (doF gs e) := by
  cases e with
  | add n l =>
    show FEq (putF fs n (lnsOf fs n ++ [l])) (putF gs n (lnsOf gs n ++ [l]))
    rw [h.2 n]
    exact h.put _ _
  | lay n ls => exact h.put _ _
  | syn => exact h
/-! what is kept of files as deeds are done -/
structure Good (N : List Str) (b : Nat) (fs : Fl) : Prop where
  nd : (fs.map (·.1)).Nodup
  nm : ∀ f ∈ fs, f.1 ∈ N
  ln : ∀ f ∈ fs, f.2.length ≤ b ∧ ∀ l ∈ f.2, LnOk l
def DdOk (N : List Str) : Dd → Prop
  | .add n l => n ∈ N ∧ LnOk l
  | .lay n ls => n ∈ N ∧ (∀ l ∈ ls, LnOk l) ∧ ls.length ≤ 3
  | .syn => True
theorem lns_in {fs : Fl} {n : Str} : lnsOf fs n = [] ∨ ∃ f ∈ fs, f.2 = lnsOf fs n := by
  unfold lnsOf
  cases h : fs.find? (fun f => decide (f.1 = n)) with
  | none => exact .inl rfl
  | some f => exact .inr ⟨f, List.mem_of_find?_eq_some h, rfl⟩
theorem put_mem {fs : Fl} {n : Str} {ls : List Str} {f : Str × List Str} (h : f ∈ putF fs n ls) : f = (n, ls) ∨ f ∈ fs := by
  unfold putF at h
  split at h
  · obtain ⟨g, hg, rfl⟩ := List.mem_map.mp h
    by_cases c : g.1 = n
    · rw [if_pos c]
      exact .inl (by rw [c])
    · rw [if_neg c]
      exact .inr hg
  · rcases List.mem_append.mp h with h | h
    · exact .inr h
    · exact .inl (List.mem_singleton.mp h)
theorem Good.do {N : List Str} {b : Nat} {fs : Fl} {e : Dd} (g : Good N b fs) (hb : 3 ≤ b) (h : DdOk N e) : Good N (b + 1) (doF fs e) := by
  have key : ∀ n ls, n ∈ N → ls.length ≤ b + 1 → (∀ l ∈ ls, LnOk l) → Good N (b + 1) (putF fs n ls) := fun n ls hn hl ho => by
    refine ⟨putF_nodup g.nd, fun f hf => ?_, fun f hf => ?_⟩
    · rcases put_mem hf with rfl | hf
      · exact hn
      · exact g.nm f hf
    · rcases put_mem hf with rfl | hf
      · exact ⟨hl, ho⟩
      · have := g.ln f hf
        exact ⟨by omega, this.2⟩
  cases e with
  | add n l =>
    refine key n _ h.1 ?_ ?_
    · rw [List.length_append]
      show _ + 1 ≤ _
      rcases lns_in (fs := fs) (n := n) with e | ⟨f, hf, e⟩
      · rw [e]
        exact Nat.succ_le_succ (Nat.zero_le _)
      · rw [← e]
        have := (g.ln f hf).1
        omega
    · intro z hz
      rcases List.mem_append.mp hz with hz | hz
      · rcases lns_in (fs := fs) (n := n) with e | ⟨f, hf, e⟩
        · rw [e] at hz
          cases hz
        · rw [← e] at hz
          exact (g.ln f hf).2 z hz
      · rw [List.mem_singleton.mp hz]
        exact h.2
  | lay n ls => exact key n ls h.1 (by have := h.2.2; omega) h.2.1
  | syn => exact ⟨g.nd, g.nm, fun f hf => ⟨by have := (g.ln f hf).1; omega, (g.ln f hf).2⟩⟩
theorem Good.mono {N : List Str} {b c : Nat} {fs : Fl} (g : Good N b fs) (h : b ≤ c) : Good N c fs := ⟨g.nd, g.nm, fun f hf => ⟨Nat.le_trans (g.ln f hf).1 h, (g.ln f hf).2⟩⟩
theorem Good.len {N : List Str} {b : Nat} {fs : Fl} (g : Good N b fs) : fs.length ≤ N.length := by
  have := nodup_sub g.nd (M := N) fun n hn => by
    obtain ⟨f, hf, rfl⟩ := List.mem_map.mp hn
    exact g.nm f hf
  rwa [List.length_map] at this
theorem Good.eq {N : List Str} {b : Nat} {fs gs : Fl} (g : Good N b fs) (h : FEq fs gs) : Good N b gs := by
  have nd := h.nodup g.nd
  have key : ∀ f ∈ gs, ∃ f2 ∈ fs, f2.1 = f.1 ∧ f2.2 = f.2 := fun f hf => by
    have : f.1 ∈ fs.map (·.1) := h.1.mem_iff.mpr (List.mem_map.mpr ⟨f, hf, rfl⟩)
    obtain ⟨f2, hf2, e⟩ := List.mem_map.mp this
    refine ⟨f2, hf2, e, ?_⟩
    rw [← lns_mem g.nd hf2, ← lns_mem nd hf, e, h.2]
  refine ⟨nd, fun f hf => ?_, fun f hf => ?_⟩
  · obtain ⟨f2, h2, e1, e2⟩ := key f hf
    rw [← e1]
    exact g.nm f2 h2
  · obtain ⟨f2, h2, e1, e2⟩ := key f hf
    rw [← e2]
    exact g.ln f2 h2
theorem Good.shW {N : List Str} {b : Nat} {fs : Fl} {rs : List FRow} (g : Good N b fs) (hN : N.length < 40) (hb : b ≤ 1000) (R : RowsOf rs fs) : ShW rs fs :=
  ShW.of R g.nd (Nat.lt_of_le_of_lt g.len hN) fun f hf => Nat.le_trans (g.ln f hf).1 hb
theorem Good.flOk {N : List Str} {b : Nat} {fs : Fl} (g : Good N b fs) (hN : ∀ n ∈ N, NmOk n) (hb : b ≤ 1000) : FlOk fs := ⟨g.nd, fun f hf => hN _ (g.nm f hf), fun f hf => ⟨Nat.le_trans (g.ln f hf).1 hb, (g.ln f hf).2⟩⟩
/-- sorted names ascend -/
theorem asc_srt {fs : Fl} {ys : List Str} (nd : (fs.map (·.1)).Nodup) (h : IsSrt (fs.map (·.1)) ys) : AscF (srtF fs ys) := by
  unfold AscF srtF
  rw [List.map_map]
  have ndy : ys.Nodup := h.1.nodup_iff.mpr nd
  have pw := sorted_pw h.2
  have both := List.pairwise_and_iff.mpr ⟨pw, ndy⟩
  refine List.pairwise_map.mpr (both.imp fun {a b} hab => ?_)
  obtain ⟨h1, h2⟩ := hab
  show a.cps.toList < b.cps.toList
  rcases Decidable.em (a.cps.toList < b.cps.toList) with c | c
  · exact c
  · have e : a.cps.toList = b.cps.toList := List.le_antisymm (show a.cps.toList ≤ b.cps.toList from h1) c
    exact absurd (by rw [← tx_of a, ← tx_of b, e]) h2
section
variable {P : Program} {w : World} {K : Frag} {mg : Str → Option Value} {base : Heap}
theorem Sy.make {F : List (Addr × HO)} {G : List Ft} {H : Hp} {x dx : Addr} {o o' : HO} (S : Sy K F G H) (h1 : H x = none) (h2 : H dx = none) (hne : dx ≠ x) : Sy K ((x, o) :: F) G (upd (upd H dx o') x o) :=
  (S.over h2).push (by rw [L2.upd_ne (Ne.symm hne)]; exact h1)
def sp_Shelf_copy (K : Frag) (C : Addr) : Sp := fun vs H Q E => vs.length = 1 ∧ ∃ (F : List (Addr × HO)) (G : List Ft) (s dx d l : Addr) (lv : List V) (rs : List FRow) (fs : Fl), vs = [.ref s] ∧ Sy K (shB s C dx d l lv rs ++ F) G H ∧ ShC K C ∧ ShW rs fs ∧ FlOk fs ∧
  ∀ x dx2 d2 l2 rs2 fs2 H', FEq fs2 fs → RowsOf rs2 fs2 → Sy K (shB x C dx2 d2 l2 lv rs2 ++ (shB s C dx d l lv rs ++ F)) G H' → Q (.ref x) H'
abbrev names_Shelf_copy : List Str := ["self", "found"]
theorem sc_Shelf_copy : FnScope names_Shelf_copy ["self"] (defScope (inClass (top 35) 8)) := ⟨rfl, rfl, rfl, by decide +kernel, rfl, by decide +kernel, by decide +kernel⟩
set_option maxHeartbeats 4000000 in
theorem ok_Shelf_copy (T : Tx K mg) : FG P w K mg base CX0 8 T.a_Shelf_copy T.d_Shelf_copy ["self"] (sp_Shelf_copy K T.a_Shelf) := by
  refine OB.Fun.fg T.F_Shelf_copy sc_Shelf_copy (fun vs H Q E h => h.1) (fun cdv A out s H vs Q E g h => ?_)
  obtain ⟨_, F, G, s', dx, d, l, lv, rs, fs, rfl, S, hc, hw, ok, k⟩ := h
  refine ⟨_, (pss_cons (ps_set (i := 1) sc_Shelf_copy.nd rfl (by first | exact Or.inl rfl | exact Or.inr rfl) (pe_kg T.mk_Shelf (ok_Shelf___init__ T) (g.mono (by decide : 7 ≤ 7)) (by rfl) T.m_Shelf (OB.Fun.bd T.F_Shelf___init__ (ps := ["self", "files"]) (n := 2) (ks := []) (ix := [0, 1]) (fun _ _ _ _ _ _ us ws h1 h2 => match us, ws, h1, h2 with | [_, _], [], _, _ => rfl)) pass0 (pa_cons (pe_cg (ok_files_of T) (g.mono (by decide : 1 ≤ 7)) (by rfl) T.m_files_of T.F_files_of.kp (OB.Fun.bd T.F_files_of (ps := ["known"]) (n := 1) (ks := []) (ix := [0]) (fun _ _ _ _ _ _ us ws h1 h2 => match us, ws, h1, h2 with | [_], [], _, _ => rfl)) pass0 (pa_cons (pe_fld (pv 0) rfl) pa_nil) pk_nil) pa_nil) pk_nil))
      (pss_cons (ps_fld (pv 1) (pe_callTy (toK (r := rList) (K := K) rfl c_list) (by rfl) T.n_list (by decide +kernel) (pa_cons (pe_fld (pv 0) rfl) pa_nil)) rfl)
      (pss_one (ps_ret (pv 1))))), ?_⟩
  refine g_start (σ := [some _, none]) rfl ?_
  have hfl : fs.length < 40 := by rw [← hw.R.len]; exact hw.hl
  repeat walk_at "ob"
  refine use_files_of S (fun H' S' => FLat.of (F := F) S'.less.less) hw.R (by have := hw.hl; omega) hw.ll fun t ys H2 hs S2 => ?_
  clear S
  have fe := FEq.of_srt hs
  have ok2 : FlOk (srtF fs ys) := ⟨fe.symm.nodup ok.nd, fun f hf => by
    obtain ⟨n, hn, rfl⟩ := List.mem_map.mp hf
    obtain ⟨f2, hf2, rfl⟩ := List.mem_map.mp (hs.1.mem_iff.mp hn)
    exact ok.nm f2 hf2, fun f hf => by
    obtain ⟨n, hn, rfl⟩ := List.mem_map.mp hf
    obtain ⟨f2, hf2, rfl⟩ := List.mem_map.mp (hs.1.mem_iff.mp hn)
    show (lnsOf fs f2.1).length ≤ 1000 ∧ ∀ l ∈ lnsOf fs f2.1, LnOk l
    rw [lns_mem ok.nd hf2]
    exact ok.ln f2 hf2⟩
  have hl2 : (srtF fs ys).length ≤ 40 := by
    unfold srtF
    rw [List.length_map, hs.1.length_eq, List.length_map]
    omega
  refine ⟨rfl, rfl, fun x dx2 h1 h2 hne => ?_⟩
  refine ⟨rfl, _, _, x, _, dx2, t, srtF fs ys, rfl, Sy.make S2 h1 h2 hne, hc, ok2, asc_srt ok.nd hs, hl2, fun d2 l2 rs2 H3 hR S3 => ⟨rfl, ?_⟩⟩
  have S4 : Sy K (shB s' T.a_Shelf dx d l lv rs ++ F) _ H3 := Sy.tail (A := shB x T.a_Shelf dx2 d2 l2 [] rs2) S3
  clear S2
  repeat walk_at "ob"
  refine ⟨l, lv, rfl, .inl (SqL.of (S4.at 1 rfl)), fun l3 h3 => ?_⟩
  have S5 := S3.push (o := .lst lv) h3
  generalize upd H3 l3 (.lst lv) = H5 at S5 ⊢
  repeat walk_at "ob"
  refine g_attS S5 (i := 1) rfl hc.c hc.n2 (Nat.le_of_ble_eq_true rfl) fun H6 S6 _ => ?_
  have S7 : Sy K ((l3, .lst lv) :: (x, shO T.a_Shelf dx2 d2 l3) :: (l2, .lst []) :: (fB d2 rs2 ++ (shB s' T.a_Shelf dx d l lv rs ++ F))) _ H6 := S6
  have S8 : Sy K (shB x T.a_Shelf dx2 d2 l3 lv rs2 ++ (shB s' T.a_Shelf dx d l lv rs ++ F)) _ H6 := S7.swap.to (.cons₂ _ (.cons₂ _ (.cons _ (.refl _)))) fun g hg => hg
  repeat walk_at "ob"
  exact k x dx2 d2 l3 rs2 _ H6 fe hR S8.drop
end
end LAW

set_option Elab.async false
set_option linter.all false
set_option maxRecDepth 100000
namespace LAW
open PySem PySem.Spec PyProof.Rows L2 PySem.W OB
local macro_rules | `(tactic| walk_at "obc") => `(tactic| first
  | exact Or.inl ⟨by omega, by omega⟩
  | exact Or.inr ⟨by omega, by omega⟩
  | exact cdiv_ok (by omega) (by omega)
  | (show (0 : Int) < _; omega)
  | exact ⟨by omega, by decide⟩
  | exact ⟨by decide, by decide⟩)
local macro_rules | `(tactic| walk_at "obat") => `(tactic| first
  | exact Sy.at (by assumption) 0 rfl | exact Sy.at (by assumption) 1 rfl | exact Sy.at (by assumption) 2 rfl | exact Sy.at (by assumption) 3 rfl
  | exact Sy.at (by assumption) 4 rfl | exact Sy.at (by assumption) 5 rfl | exact Sy.at (by assumption) 6 rfl | exact Sy.at (by assumption) _ (by assumption) | exact Sy.at (by assumption) (_ + 1) (by assumption) | exact Sy.at (by assumption) (_ + 2) (by assumption))
local macro_rules | `(tactic| walk_at "obt") => `(tactic| first
  | exact Sy.tqs (by assumption) 0 rfl | exact Sy.tqs (by assumption) 1 rfl | exact Sy.tqs (by assumption) 2 rfl | exact Sy.tqs (by assumption) 3 rfl | exact Sy.tqs (by assumption) 4 rfl | exact Sy.tqs (by assumption) 5 rfl
  | exact Sy.tqs (by assumption) 6 rfl | exact Sy.tqs (by assumption) 7 rfl | assumption)
local macro_rules | `(tactic| walk_at "obl") => `(tactic| first
  | exact SqL.of (by walk_at "obat")
  | exact Sy.sq (by assumption) 0 rfl | exact Sy.sq (by assumption) 1 rfl | exact Sy.sq (by assumption) 2 rfl | exact Sy.sq (by assumption) 3 rfl | exact Sy.sq (by assumption) _ (by assumption))
local macro_rules | `(tactic| walk_at "obd") => `(tactic| first
  | exact Dp.int _ | exact Dp.bl _ | exact Dp.str _ | exact Dp.non
  | exact Sy.dp (by assumption) 0 rfl | exact Sy.dp (by assumption) 1 rfl | exact Sy.dp (by assumption) 2 rfl | exact Sy.dp (by assumption) 3 rfl
  | exact Sy.dp (by assumption) 4 rfl | exact Sy.dp (by assumption) 5 rfl | exact Sy.dp (by assumption) 6 rfl | exact Sy.dp (by assumption) 7 rfl
  | exact Sy.dp (by assumption) 8 rfl | exact Sy.dp (by assumption) 9 rfl | exact Sy.dp (by assumption) _ (by assumption) | assumption)
local macro_rules | `(tactic| walk_at "obds") => `(tactic| first
  | exact DpAll.nil
  | (refine' DpAll.cons ?ob1 ?ob2; (case ob1 => walk_at "obd"); (case ob2 => walk_at "obds"))
  | exact Sy.dps (by assumption) 0 rfl | exact Sy.dps (by assumption) 1 rfl | exact Sy.dps (by assumption) 2 rfl | exact Sy.dps (by assumption) 3 rfl | assumption)
local macro_rules | `(tactic| walk_at "obsc") => `(tactic| first
  | exact ScL.nil
  | ((first | refine' ScL.int ?obz | refine' ScL.str ?obz | refine' ScL.bl ?obz | refine' ScL.non ?obz); (case obz => walk_at "obsc")))
local macro_rules | `(tactic| walk_at "ob1") => `(tactic| first
  | ((with_reducible refine' g_var ?obh ?_); (case obh => rfl))
  | with_reducible refine g_c ?_
  | with_reducible refine g_nx ?_
  | with_reducible refine g_rt ?_
  | with_reducible refine g_bk ?_
  | with_reducible refine g_ct ?_
  | with_reducible refine g_op ?_
  | with_reducible refine g_I0 ?_
  | with_reducible refine g_test ?_
  | with_reducible refine g_bl ?_
  | with_reducible refine g_blx ?_
  | with_reducible refine g_B ?_
  | with_reducible refine g_seq ?_
  | with_reducible refine g_asg ?_
  | with_reducible refine g_name ?_
  | with_reducible refine g_ifS ?_
  | with_reducible refine g_ret ?_
  | with_reducible refine g_cb ?_
  | with_reducible refine g_cons ?_
  | with_reducible refine g_nil ?_
  | with_reducible refine g_int ?_
  | with_reducible refine g_intB ?_
  | with_reducible refine g_abs ?_
  | with_reducible refine g_max ?_
  | with_reducible refine g_min ?_
  | with_reducible refine g_un ?_
  | with_reducible refine g_U ?_
  | with_reducible refine g_eqI ?_
  | with_reducible refine g_neI ?_
  | with_reducible refine g_eqS ?_
  | with_reducible refine g_neS ?_
  | with_reducible refine g_tt ?_
  | with_reducible refine g_ff ?_
  | with_reducible refine g_next ?_
  | with_reducible refine g_drop ?_
  | with_reducible refine g_if ?_
  | with_reducible refine g_andV ?_
  | with_reducible refine g_orV ?_
  | with_reducible refine g_notV ?_
  | with_reducible refine g_and ?_
  | with_reducible refine g_or ?_
  | with_reducible refine g_not ?_
  | with_reducible refine g_yes ?_
  | with_reducible refine g_chain ?_
  | with_reducible refine g_cg ?_
  | with_reducible refine g_mg ?_
  | with_reducible refine g_kg ?_
  | with_reducible refine g_pg ?_
  | ((with_reducible refine' g_call ?obh ?obj ?_); (case obh => rfl); (case obj => rfl))
  | with_reducible refine g_par ?_
  | with_reducible refine g_par2 ?_
  | with_reducible refine g_par3 ?_
  | with_reducible refine g_par33 ?_
  | with_reducible refine g_gnil ?_
  | with_reducible refine g_gcons ?_
  | with_reducible refine g_gsub ?_
  | with_reducible refine g_ipI ?_
  | with_reducible refine g_rAdd ?_
  | with_reducible refine g_rSub ?_
  | ((with_reducible refine' g_aug ?obh ?_); (case obh => rfl))
  | with_reducible refine g_tup ?_
  | with_reducible refine g_lst ?_
  | with_reducible refine g_bm ?_
  | with_reducible refine g_bm0 ?_
  | with_reducible refine g_sl ?_
  | with_reducible refine g_nopart ?_
  | with_reducible refine g_part ?_
  | with_reducible refine g_pint ?_
  | with_reducible refine isi_int ?_
  | with_reducible refine isi_intB ?_
  | ((with_reducible refine' g_I ?obh ?_); (case obh => walk_at "obc"))
  | ((with_reducible refine' g_tyl ?obh ?_); (case obh => walk_at "obl"))
  | ((with_reducible refine' g_lenL ?obh ?_); (case obh => walk_at "obl"))
  | with_reducible refine g_ne ?_
  | ((with_reducible refine' g_neN' ?obh ?_); (case obh => rfl))
  | with_reducible refine g_ntt ?_
  | with_reducible refine g_nff ?_
  | with_reducible refine g_star ?_
  | with_reducible refine g_att ?_
  | with_reducible refine g_sfld ?_
  | with_reducible refine g_faug ?_
  | with_reducible refine g_fld ?_
  | ((with_reducible refine' g_nF ?obh ?_); (case obh => omega))
  | ((with_reducible refine' g_nT ?obh ?_); (case obh => omega))
  | ((with_reducible refine' g_TD ?obh ?_); (case obh => omega))
  | ((with_reducible refine' g_FD ?obh ?_); (case obh => omega))
  | ((with_reducible refine' g_ixUL ?obh ?obi ?_); (case obh => walk_at "obl"); (case obi => exact atI_nn (by omega) (by rfl)))
  | ((with_reducible refine' g_setLS ?obs ?obh ?obi ?_); (case obs => assumption); (case obh => assumption); (case obi => rfl); intro _ _ _)
  | ((with_reducible refine' g_newT ?obs ?obh ?obi ?obj ?_); (case obs => assumption); (case obh => walk_at "obds"); (case obi => rfl); (case obj => exact Nat.le_of_ble_eq_true rfl); intro _ _ _ _)
  | ((with_reducible refine' g_newL ?obs ?obj ?_); (case obs => assumption); (case obj => exact Nat.le_of_ble_eq_true rfl); intro _ _ _ _)
  | ((with_reducible refine' isi_tup ?obh ?_); (case obh => walk_at "obt"))
  | ((with_reducible refine' g_lenT ?obh ?_); (case obh => walk_at "obt"))
  | ((with_reducible refine' g_unpT ?obh ?obi ?_); (case obh => walk_at "obt"); (case obi => rfl))
  | ((with_reducible refine' g_divmod ?obs ?obh ?_); (case obs => assumption); (case obh => exact cdivp_ok (by omega) (by omega) (by omega)); intro _ _ _ _)
  | ((with_reducible refine' g_unpD ?obh ?obi ?obj ?_); (case obh => walk_at "obd"); (case obi => walk_at "obsc"); (case obj => rfl))
  | with_reducible refine g_att ?_)
local macro_rules | `(tactic| walk_at "ob") => `(tactic| first
  | walk_at "ob1"
  | refine use_is_integer ?_
  | refine use_is_within ?_
  | with_reducible refine g_lstRg ?_
  | with_reducible refine g_rg1 ?_
  | with_reducible refine g_rg2 ?_
  | with_reducible refine g_tTru ?_
  | ((with_reducible refine' g_truL ?obh ?_); (case obh => walk_at "obl"))
  | ((with_reducible refine' g_ixUT ?obh ?obi ?_); (case obh => walk_at "obt"); (case obi => rfl))
  | with_reducible refine g_forZ ?_
  | with_reducible refine g_forR2 ?_
  | with_reducible refine g_forE ?_
  | with_reducible refine g_lcZ ?_)
/-! ### cuts -/
structure CuC (K : Frag) (C : Addr) : Prop where
  c : Cls K C
  n1 : NoAttr K C "own_now"
  n2 : NoAttr K C "own_sure"
  n3 : NoAttr K C "own_since"
  n4 : NoAttr K C "own_known"
theorem Tx.cuC {K : Frag} {mg : Str → Option Value} (T : Tx K mg) : CuC K T.a_Cut := ⟨T.c_Cut, T.na_Cut_own_now, T.na_Cut_own_sure, T.na_Cut_own_since, T.na_Cut_own_known⟩
def cuO (C dx n s z : Addr) : HO := .ins C dx [("own_now", .ref n), ("own_sure", .ref s), ("own_since", .ref z)]
/-! deeds that may be done -/
theorem avOf_deed (e : Dd) : avOf e.d = .tup (match e with
  | .add n l => [.str ("add" : Str).cps.toList, .str n.cps.toList, .str l.cps.toList]
  | .lay n ls => [.str ("lay" : Str).cps.toList, .str n.cps.toList, .tup (ls.map fun l => .str l.cps.toList)]
  | .syn => [.str ("sync" : Str).cps.toList]) := by
  cases e with
  | add n l => rfl
  | lay n ls =>
    show Av.tup [_, _, .tup (avsOf (ls.map PyData.str))] = _
    rw [avsOf_map, List.map_map]
    rfl
  | syn => rfl
theorem isDeed_ok {N : List Str} (hN : ∀ n ∈ N, NmOk n) {e : Dd} (h : DdOk N e) : isDeedA (avOf e.d) = true := by
  rw [avOf_deed]
  cases e with
  | add n l =>
    show (nmB n.cps.toList && (decide (tx ("add" : Str).cps.toList = Str.ofString "add") && lnB l.cps.toList || _)) = true
    rw [show nmB n.cps.toList = true from hN n h.1, show lnB l.cps.toList = true from h.2, tx_of, decide_eq_true rfl]
    rfl
  | lay n ls =>
    show (nmB n.cps.toList && (_ || decide (tx ("lay" : Str).cps.toList = Str.ofString "lay") && areLinesA (.tup (ls.map fun l => .str l.cps.toList)))) = true
    have al : areLinesA (.tup (ls.map fun l => Av.str l.cps.toList)) = true := by
      show (decide ((ls.map fun l => Av.str l.cps.toList).length ≤ 20000) && (ls.map fun l => Av.str l.cps.toList).all isLineA) = true
      rw [decide_eq_true (by rw [List.length_map]; have := h.2.2; omega), List.all_map, show (ls.all (isLineA ∘ fun l => Av.str l.cps.toList)) = true from List.all_eq_true.mpr fun l hl => h.2.1 l hl]
      rfl
    rw [show nmB n.cps.toList = true from hN n h.1, al, tx_of, decide_eq_true rfl, Bool.and_true, Bool.or_true]
    rfl
  | syn =>
    show decide (tx ("sync" : Str).cps.toList = Str.ofString "sync") = true
    rw [tx_of]
    exact decide_eq_true rfl
theorem okD_deed {N : List Str} (hN : ∀ n ∈ N, NmOk n) {e : Dd} (h : DdOk N e) : okD e.d = true := by
  cases e with
  | add n l =>
    have h1 := nmB_len (hN n h.1)
    have h2 := lnB_len h.2
    show (true && (decide (n.cps.toList.length ≤ 1000) && (decide (l.cps.toList.length ≤ 1000) && true))) = true
    rw [decide_eq_true (by omega), decide_eq_true (by omega)]
    rfl
  | lay n ls =>
    have h1 := nmB_len (hN n h.1)
    show (true && (decide (n.cps.toList.length ≤ 1000) && (okDs (ls.map PyData.str) && true))) = true
    rw [decide_eq_true (by omega), okDs_of fun d hd => by
      obtain ⟨l, hl, rfl⟩ := List.mem_map.mp hd
      have := lnB_len (h.2.1 l hl)
      exact decide_eq_true (by omega)]
    rfl
  | syn => rfl
theorem ascii_ok {l : List Nat} (h : Txt.isascii (tx l) = true) : PyData.canLay0 (.str (tx l)) = true := by
  show (tx l).cps.all (· < 0x110000) = true
  have h : (tx l).cps.all (· < 128) = true := h
  rw [Array.all_eq_true'] at h ⊢
  intro c hc
  have := h c hc
  simp at this ⊢
  omega
theorem ln_lay {l : Str} (h : LnOk l) : PyData.canLay0 (.str l) = true := by
  have h2 : lnB l.cps.toList = true := h
  unfold lnB at h2
  rw [Bool.and_eq_true, Bool.and_eq_true, tx_of] at h2
  have := ascii_ok (l := l.cps.toList) (by rw [tx_of]; exact h2.2.1)
  rwa [tx_of] at this
theorem nm_lay {l : Str} (h : NmOk l) : PyData.canLay0 (.str l) = true := by
  have h2 : nmB l.cps.toList = true := h
  unfold nmB at h2
  rw [Bool.and_eq_true] at h2
  show l.cps.all (· < 0x110000) = true
  rw [Array.all_eq_true']
  intro c hc
  have := List.all_eq_true.mp h2.2 c (by simpa using hc)
  have := of_decide_eq_true this
  simp
  omega
theorem strs_lay {ls : List Str} (h : ∀ l ∈ ls, PyData.canLay0 (.str l) = true) : PyData.canLayAll0 (ls.map PyData.str) = true ∧ PyData.depthAll (ls.map PyData.str) = 0 := by
  induction ls with
  | nil => exact ⟨rfl, rfl⟩
  | cons l ls ih =>
    obtain ⟨h1, h2⟩ := ih fun z hz => h z (List.mem_cons_of_mem _ hz)
    refine ⟨?_, ?_⟩
    · show (PyData.canLay0 (.str l) && PyData.canLayAll0 (ls.map PyData.str)) = true
      rw [h l (List.mem_cons_self ..), h1]
      rfl
    · show max (PyData.str l).depth (PyData.depthAll (ls.map PyData.str)) = 0
      rw [h2]
      rfl
theorem shaped_deed {N : List Str} (hN : ∀ n ∈ N, NmOk n) {e : Dd} (h : DdOk N e) : SeqAt.shaped e.d = true := by
  cases e with
  | add n l =>
    show (PyData.canLayAll0 ([Str.ofString "add", n, l].map PyData.str) && decide ((PyData.tuple ([Str.ofString "add", n, l].map PyData.str)).depth ≤ 64)) = true
    obtain ⟨h1, h2⟩ := strs_lay (ls := [Str.ofString "add", n, l]) fun z hz => by
      simp only [List.mem_cons, List.not_mem_nil, or_false] at hz
      rcases hz with rfl | rfl | rfl
      · decide +kernel
      · exact nm_lay (hN _ h.1)
      · exact ln_lay h.2
    rw [h1, decide_eq_true (by show PyData.depthAll ([Str.ofString "add", n, l].map PyData.str) + 1 ≤ 64; rw [h2]; decide)]
    rfl
  | lay n ls =>
    obtain ⟨h1, h2⟩ := strs_lay (ls := ls) fun z hz => ln_lay (h.2.1 z hz)
    show (PyData.canLay0 (.str "lay") && (PyData.canLay0 (.str n) && (PyData.canLayAll0 (ls.map PyData.str) && true)) && decide ((Dd.lay n ls).d.depth ≤ 64)) = true
    rw [h1, nm_lay (hN _ h.1), show PyData.canLay0 (.str "lay") = true by decide +kernel, decide_eq_true (by
      show max 0 (max 0 (max (PyData.depthAll (ls.map PyData.str) + 1) 0)) + 1 ≤ 64
      rw [h2]
      decide)]
    rfl
  | syn => decide +kernel
theorem deed_eqv (e : Dd) : PyData.eqv e.d (.tuple []) = false ∧ PyData.eqv e.d (.tuple [.str "sync"]) = decide (e = .syn) := by
  cases e with
  | add n l => exact ⟨rfl, by rw [decide_eq_false (fun h => nomatch h)]; simp [Dd.d, PyData.eqv, PyData.eqvAll]⟩
  | lay n ls => exact ⟨rfl, by rw [decide_eq_false (fun h => nomatch h)]; simp [Dd.d, PyData.eqv, PyData.eqvAll]⟩
  | syn => exact ⟨rfl, by rw [decide_eq_true rfl]; decide +kernel⟩
def cuF (n s z : Addr) : List (Str × V) := [("own_now", .ref n), ("own_sure", .ref s), ("own_since", .ref z)]
section
variable {P : Program} {w : World} {K : Frag} {mg : Str → Option Value} {base : Heap}
theorem dp_fileO {H : Hp} {v : V} {f : Str × List Str} (h : L2.Dp K H v (fileD f)) : ∃ p q, v = .ref p ∧ SqT K H p [.str f.1, .ref q] := by
  obtain ⟨p, ys, rfl, hp, hys⟩ := dp_tuple h
  cases hys with
  | cons h1 hys =>
  cases hys with
  | cons h2 hys =>
  cases hys
  have e1 := dp_str h1
  subst e1
  obtain ⟨q, zs, rfl, hq, hz⟩ := dp_tuple h2
  exact ⟨p, q, rfl, hp⟩
theorem dps_files {H : Hp} : ∀ {fs : Fl} {xs : List V}, DpAll K H xs (fs.map fileD) → ∃ (ps : List Addr) (kvs : List (Key × V)), xs = ps.map V.ref ∧ Paired (fun p kv => SqT K H p [kV kv.1, kv.2]) ps kvs
  | [], _, h => by cases h; exact ⟨[], [], rfl, .nil⟩
  | f :: fs, _, h => by
    cases h with
    | cons h1 h2 =>
    obtain ⟨ps, kvs, rfl, hp⟩ := dps_files h2
    obtain ⟨p, q, rfl, hs⟩ := dp_fileO h1
    exact ⟨p :: ps, (.inr f.1, .ref q) :: kvs, rfl, .cons hs hp⟩
theorem good_fold {N : List Str} {es : List Dd} {fs : Fl} (hes : ∀ e ∈ es, DdOk N e) (gd : Good N 10 fs) : ∀ i : Nat, Good N (10 + i) ((es.take i).foldl doF fs)
  | 0 => gd
  | i + 1 => by
    have ih := good_fold hes gd i
    rw [List.take_add_one, List.foldl_append]
    cases h : es[i]? with
    | none => exact ih.mono (by omega)
    | some e => exact ih.do (by omega) (hes e (List.mem_of_getElem? h))
theorem deed_facts {N : List Str} {e : Dd} (h : DdOk N e) : ∀ as, avOf e.d = .tup as → PyData.eqv e.d (.tuple []) = as.isEmpty ∧ (as.length < 3 → PyData.eqv e.d (.tuple [.str "sync"]) = isSyncA as) ∧ ∀ x y zs, as = [x, y, .tup zs] → zs.length ≤ 1000 := fun as ea => by
  rw [avOf_deed] at ea
  obtain ⟨h1, h2⟩ := deed_eqv e
  rw [h1, h2]
  cases e with
  | add n l =>
    cases ea
    exact ⟨rfl, fun h => absurd (show 3 < 3 from h) (by decide), fun x y zs e => by cases e⟩
  | lay n ls =>
    cases ea
    refine ⟨rfl, fun h => absurd (show 3 < 3 from h) (by decide), fun x y zs e => ?_⟩
    have e3 := (List.cons.inj (List.cons.inj (List.cons.inj e).2).2).1
    cases e3
    rw [List.length_map]
    have := h.2.2
    omega
  | syn =>
    cases ea
    refine ⟨rfl, fun _ => ?_, fun x y zs e => by cases e⟩
    show _ = decide (tx ("sync" : Str).cps.toList = Str.ofString "sync")
    rw [tx_of]
    rfl
theorem midP {x : Addr × HO} {z d : Addr} {ros rs : List FRow} {F : List (Addr × HO)} : (fB d rs ++ (x :: (fB z ros ++ F))).Perm (x :: (fB z ros ++ (fB d rs ++ F))) := by
  show (fB d rs ++ ((x :: fB z ros) ++ F)).Perm ((x :: fB z ros) ++ (fB d rs ++ F))
  rw [← List.append_assoc, ← List.append_assoc]
  exact List.Perm.append_right _ List.perm_append_comm
/-- the places of syncs -/
def synN (es : List Dd) : Nat → List Int
  | 0 => []
  | j + 1 => synN es j ++ if es[j]? = some .syn then [(j : Int)] else []
theorem synN_succ (es : List Dd) (j : Nat) : synN es (j + 1) = synN es j ++ if es[j]? = some .syn then [(j : Int)] else [] := rfl
theorem synN_len (es : List Dd) : ∀ j, (synN es j).length ≤ es.length
  | 0 => Nat.zero_le _
  | j + 1 => by
    have key : ∀ j, (synN es j).length ≤ min j es.length := fun j => by
      induction j with
      | zero => exact Nat.zero_le _
      | succ j ih =>
        rw [synN_succ, List.length_append]
        by_cases c : es[j]? = some .syn
        · rw [if_pos c]
          have := (List.getElem?_eq_some_iff.mp c).1
          show _ + 1 ≤ _
          omega
        · rw [if_neg c]
          show _ + 0 ≤ _
          omega
    have := key (j + 1)
    omega
theorem synN_mem {es : List Dd} {i : Nat} (h : es[i]? = some .syn) : ∀ {n : Nat}, i < n → (i : Int) ∈ synN es n
  | n + 1, hn => by
    rw [synN_succ]
    by_cases c : i = n
    · subst c
      rw [if_pos h]
      exact List.mem_append_right _ (List.mem_singleton.mpr rfl)
    · exact List.mem_append_left _ (synN_mem h (by omega))
theorem atNewL {xs : List V} {H : Hp} {Q : VK} (h : rNewL xs H Q) : rNewL xs H Q := h
def sp_Cut___init__ (K : Frag) : Sp := fun vs H Q E => vs.length = 3 ∧ ∃ (F : List (Addr × HO)) (G : List Ft) (s C dx t a : Addr) (o : Obj) (xs : List V) (fs : Fl) (es : List Dd) (N : List Str), vs = [.ref s, .ref t, .ref a] ∧ Sy K ((s, .ins C dx []) :: (t, .frz o (.tup xs)) :: F) (.dat [.ref t] [filesT fs] :: .dat xs (fs.map fileD) :: .dat [.ref a] [.tuple (es.map Dd.d)] :: G) H ∧ o.dict = none ∧ CuC K C ∧ Good N 10 fs ∧ AscF fs ∧ (∀ n ∈ N, NmOk n) ∧ N.length < 40 ∧ (∀ e ∈ es, DdOk N e) ∧ es.length ≤ 500 ∧
  ∀ d rs gs H', RowsOf rs (es.foldl doF fs) → (∃ fl, gs = .ins C dx fl ∧ fl.lookup (Str.ofString "own_now") = some (V.ref d)) → Sy K ((s, gs) :: (fB d rs ++ F)) G H' → Q .non H'
abbrev names_Cut___init__ : List Str := ["self", "files", "deeds", "last", "number", "deed"]
theorem sc_Cut___init__ : FnScope names_Cut___init__ ["self", "files", "deeds"] (defScope (inClass (top 36) 0)) := ⟨rfl, rfl, rfl, by decide +kernel, rfl, by decide +kernel, by decide +kernel⟩
set_option maxHeartbeats 4000000 in
theorem ok_Cut___init__ (T : Tx K mg) : FG P w K mg base CX0 6 T.a_Cut___init__ T.d_Cut___init__ ["self", "files", "deeds"] (sp_Cut___init__ K) := by
  refine OB.Fun.fg T.F_Cut___init__ sc_Cut___init__ (fun vs H Q E h => h.1) (fun cdv A out s H vs Q E g h => ?_)
  obtain ⟨_, F, G, s', C, dx, t, a, o, xs, fs, es, N, rfl, S, ho, hc, gd, asc, hN, hNl, hes, hel, k⟩ := h
  refine ⟨_, (pss_cons (ps_expr (pe_cg (ok_check_files T) (g.mono (by decide : 5 ≤ 5)) (by rfl) T.m_check_files T.F_check_files.kp (OB.Fun.bd T.F_check_files (ps := ["files"]) (n := 1) (ks := []) (ix := [0]) (fun _ _ _ _ _ _ us ws h1 h2 => match us, ws, h1, h2 with | [_], [], _, _ => rfl)) pass0 (pa_cons (pv 1) pa_nil) pk_nil))
      (pss_cons (ps_if (PW.pt (pw_or (pt_not (pt_val (pe_callB (toK (r := rIsi) (K := K) rfl call_isi) (by rfl) T.n_isinstance (by decide +kernel) (pa_cons (pv 2) (pa_cons (pe_bltn (v := .ty "tuple") (by rfl) T.n_tuple (by decide +kernel) rfl) pa_nil))))) (pw_or1 (pt_cmpR op_gt (pe_callB (toK (r := OB.rLen) (K := K) rfl c_len) (by rfl) T.n_len PySem.boot_len (pa_cons (pv 2) pa_nil)) (pe_glob (v := .int 50000) (by rfl) T.g_MOST_DEEDS ⟨_, rfl⟩) (nomark _))))) (pss_one ps_never) pss_nil)
      (pss_cons (ps_asg (pe_tup (pa_cons (pe_cg (ok_lists_of T) (g.mono (by decide : 1 ≤ 5)) (by rfl) T.m_lists_of T.F_lists_of.kp (OB.Fun.bd T.F_lists_of (ps := ["files"]) (n := 1) (ks := []) (ix := [0]) (fun _ _ _ _ _ _ us ws h1 h2 => match us, ws, h1, h2 with | [_], [], _, _ => rfl)) pass0 (pa_cons (pv 1) pa_nil) pk_nil) (pa_cons (pv 1) (pa_cons pe_dnewK pa_nil)))) (pg_tupK (K := K) rfl (n := 3) rfl (pgs_cons (pg_att (pv 0)) (pgs_cons (pg_att (pv 0)) (pgs_cons (pg_att (pv 0)) pgs_nil)))))
      (pss_cons (ps_set (i := 3) sc_Cut___init__.nd rfl (by first | exact Or.inl rfl | exact Or.inr rfl) (pe_callB (toK (r := OB.rMaxU) (K := K) rfl (c_maxU rfl)) (by rfl) T.n_max (by decide +kernel) (pa_cons (pe_lst (pa_cons (pe_un un_neg pe_int) (StX.pa_star (pe_lc (own := [("number", 4), ("deed", 5)]) rfl sc_Cut___init__.nd (pi_enumK (by rfl) T.n_enumerate (pa_cons (pv 2) pa_nil)) (blkOk_by (N := names_Cut___init__) (sc := defScope (inClass (top 36) 0)) (own := [("number", 4), ("deed", 5)]) (by decide +kernel)) (fun _ _ _ _ _ => (pg_tupK (K := K) rfl (n := 2) rfl (pgs_cons (pg_name (i := 4) sc_Cut___init__.nd rfl (by first | exact Or.inl rfl | exact Or.inr rfl)) (pgs_cons (pg_name (i := 5) sc_Cut___init__.nd rfl (by first | exact Or.inl rfl | exact Or.inr rfl)) pgs_nil)))) (fun _ _ _ _ _ => pts_one (pt_cmpR (op_eqDK (K := K) rfl g.hu64) (pv 5) (pe_tup (pa_cons (pe_glob (v := .str "sync") (by rfl) T.g_SYNC ⟨_, rfl⟩) pa_nil)) (nomark _))) (fun _ _ _ _ _ => (pv 4))) pa_nil))) pa_nil)))
      (pss_cons (ps_for PassesOwn.never rfl (pi_enumK (by rfl) T.n_enumerate (pa_cons (pv 2) pa_nil)) (pg_tupK (K := K) rfl (n := 2) rfl (pgs_cons (pg_name (i := 4) sc_Cut___init__.nd rfl (by first | exact Or.inl rfl | exact Or.inr rfl)) (pgs_cons (pg_name (i := 5) sc_Cut___init__.nd rfl (by first | exact Or.inl rfl | exact Or.inr rfl)) pgs_nil)))
      (pss_cons (ps_if (PW.pt (pw_or (pt_not (pt_val (pe_cg (ok_is_deed T) (g.mono (by decide : 3 ≤ 5)) (by rfl) T.m_is_deed T.F_is_deed.kp (OB.Fun.bd T.F_is_deed (ps := ["value"]) (n := 1) (ks := []) (ix := [0]) (fun _ _ _ _ _ _ us ws h1 h2 => match us, ws, h1, h2 with | [_], [], _, _ => rfl)) pass0 (pa_cons (pv 5) pa_nil) pk_nil))) (pw_or1 (pt_not (pt_val (pe_cg (ok_has_room T) (g.mono (by decide : 1 ≤ 5)) (by rfl) T.m_has_room T.F_has_room.kp (OB.Fun.bd T.F_has_room (ps := ["known", "deed"]) (n := 2) (ks := []) (ix := [0, 1]) (fun _ _ _ _ _ _ us ws h1 h2 => match us, ws, h1, h2 with | [_, _], [], _, _ => rfl)) pass0 (pa_cons (pe_fld (pv 0) rfl) (pa_cons (pv 5) pa_nil)) pk_nil)))))) (pss_one ps_never) pss_nil)
      (pss_cons (ps_expr (pe_cg (ok_do_deed T) (g.mono (by decide : 1 ≤ 5)) (by rfl) T.m_do_deed T.F_do_deed.kp (OB.Fun.bd T.F_do_deed (ps := ["known", "deed"]) (n := 2) (ks := []) (ix := [0, 1]) (fun _ _ _ _ _ _ us ws h1 h2 => match us, ws, h1, h2 with | [_, _], [], _, _ => rfl)) pass0 (pa_cons (pe_fld (pv 0) rfl) (pa_cons (pv 5) pa_nil)) pk_nil))
      (pss_one (ps_if (pt_cmpR op_eq (pv 4) (pv 3) (nomark _)) (pss_one (ps_asg (pe_tup (pa_cons (pe_cg (ok_files_of T) (g.mono (by decide : 1 ≤ 5)) (by rfl) T.m_files_of T.F_files_of.kp (OB.Fun.bd T.F_files_of (ps := ["known"]) (n := 1) (ks := []) (ix := [0]) (fun _ _ _ _ _ _ us ws h1 h2 => match us, ws, h1, h2 with | [_], [], _, _ => rfl)) pass0 (pa_cons (pe_fld (pv 0) rfl) pa_nil) pk_nil) (pa_cons pe_dnewK pa_nil))) (pg_tupK (K := K) rfl (n := 2) rfl (pgs_cons (pg_att (pv 0)) (pgs_cons (pg_att (pv 0)) pgs_nil))))) (pss_one (ps_if (pt_cmpR op_gt (pv 4) (pv 3) (nomark _)) (pss_one (ps_expr (pe_bm PySem.F.plainAttrs_list PySem.F.slot_list_append PySem.F.type_list_append mt_append (pe_bm PySem.F.plainAttrs_dict PySem.F.slot_dict_setdefault PySem.F.type_dict_setdefault (mt_setdK g.hu1) (pe_fld (pv 0) rfl) (pa_cons (pe_ix (ix_UK (K := K) rfl) (pv 5) pe_int (fun _ _ => rfl)) (pa_cons (pe_lst pa_nil) pa_nil))) (pa_cons (pv 5) pa_nil)))) pss_nil)))))))
      (pss_one (ps_fld (pv 0) (pe_callTy (toK (r := OB.rDictPT) (K := K) rfl (c_dictPT rfl)) (by rfl) T.n_dict (by decide +kernel) (pa_cons (pe_fld (pv 0) rfl) pa_nil)) rfl))))))), ?_⟩
  refine g_start (σ := [some _, some _, some _, none, none, none]) rfl ?_
  have ok : FlOk fs := gd.flOk hN (by decide)
  have hfl : fs.length ≤ 40 := by have := gd.len; omega
  obtain ⟨a', av, ea, S0⟩ := (S.drop.drop).opn ((S.drop.drop).dp 0 rfl) (by rw [← Bool.and_true (immAll _)]; exact (S.drop.drop).dpi 0 rfl)
  cases ea
  have S1 := (S0.add (.dat xs (fs.map fileD)) (S.ft _ (List.mem_cons_of_mem _ (List.mem_cons_self ..)))).add (.dat [.ref t] [filesT fs]) (S.ft _ (List.mem_cons_self ..))
  have hal := dps_length (S0.dps 1 rfl)
  rw [List.length_map] at hal
  clear S S0
  repeat walk_at "ob"
  refine ⟨rfl, _, _, _, _, rfl, S1, .dat (i := 0) (List.mem_cons_self ..) rfl rfl (okD_files ok), files_lens ok hfl, areFiles_ok ok asc hfl, fun H1 S2 => ?_⟩
  clear S1
  repeat walk_at "ob"
  refine use_lists_of S2 ok.nd (by omega) fun d rs H2 hR S3 => ?_
  have S4 : Sy K ((s', .ins C dx []) :: (fB d rs ++ ((t, .frz o (.tup xs)) :: F))) _ H2 := S3.perm List.perm_middle.symm
  clear S2 S3
  repeat walk_at "ob"
  refine g_dnewK fun z hz => ?_
  have S5 := S4.push (o := .dK []) hz
  generalize upd H2 z (.dK []) = H3 at S5 ⊢
  repeat ((fail_if_success (with_reducible refine atNewT ?_)); walk_at "ob")
  refine g_newTq S5 (Nat.le_of_ble_eq_true rfl) fun u H4 _ S6 => ?_
  clear S4 S5
  repeat walk_at "ob"
  refine g_attS S6 (i := 1) rfl hc.c hc.n1 (Nat.le_of_ble_eq_true rfl) fun H5 S7 _ => ?_
  repeat walk_at "ob"
  refine g_attS S7 (i := 1) rfl hc.c hc.n2 (Nat.le_of_ble_eq_true rfl) fun H6 S8 _ => ?_
  repeat walk_at "ob"
  refine g_attS S8 (i := 1) rfl hc.c hc.n3 (Nat.le_of_ble_eq_true rfl) fun H7 S9 _ => ?_
  have Sa : Sy K ((s', cuO C dx d t z) :: (fB z [] ++ (fB d rs ++ ((t, .frz o (.tup xs)) :: F)))) (.dat xs (fs.map fileD) :: .tq a av :: .dat av (es.map Dd.d) :: G) H7 := (Sy.swap S9.drop).to (.refl _) fun g hg => (List.Sublist.cons _ (.cons₂ _ (.cons₂ _ (.cons₂ _ (.cons _ (.refl _)))))).subset hg
  clear S6 S7 S8 S9
  repeat walk_at "ob"
  refine g_lcEn ?_
  repeat walk_at "ob"
  refine enlc_of (k := false) (a := a) (xs := av) (fun j F' ds => F' = (s', cuO C dx d t z) :: (fB z [] ++ (fB d rs ++ ((t, .frz o (.tup xs)) :: F))) ∧ ds = (synN es j).map PyData.int) Sa ⟨rfl, rfl⟩ (fun j F' ds H' hi S3 => S3.tqs 1 rfl) (fun j F' ds hi => by
    rw [hi.2, List.length_map]
    have := synN_len es j
    omega) ?_ ?_
  · intro j x hx Da T8 H8 F8 us ds QE QR hi hT8 S8 kE kR
    obtain ⟨rfl, rfl⟩ := hi
    obtain ⟨e, he, hed⟩ := dps_map (S8.dps 3 rfl) hx
    have hj := (List.getElem?_eq_some_iff.mp he).1
    refine g_pair S8 hT8 fun H9 S9 => ?_
    repeat walk_at "ob"
    refine ⟨rfl, ?_⟩
    repeat walk_at "ob"
    rename_i T10 H10 _ S10
    obtain ⟨e2, he2, hed2⟩ := dps_map (S10.dps 5 rfl) hx
    rw [he] at he2
    cases he2
    refine g_eqD hed2 (S10.dp 0 rfl) (shaped_deed hN (hes e (List.mem_of_getElem? he))) (by decide +kernel) ?_
    rw [(deed_eqv e).2]
    repeat walk_at "ob"
    refine g_iteD (fun h1 => ?_) (fun h1 => ?_)
    · repeat walk_at "ob"
      refine kE _ (.int (j : Int)) _ _ ⟨rfl, ?_⟩ (S10.drop.drop.fact (dps_one (.int _)) rfl)
      rw [synN_succ, he, h1, if_pos rfl, List.map_append]
      rfl
    · refine kR _ _ ⟨rfl, ?_⟩ S10.drop.drop
      rw [synN_succ, he, if_neg (fun z => h1 (Option.some.inj z)), List.append_nil]
  rintro Da H8 F8 us ds hD ⟨rfl, rfl⟩ S8
  have hu := dps_intsV (S8.dps 0 rfl)
  subst hu
  refine g_stL (SqL.of (S8.at 0 rfl)) ?_
  have hsl := synN_len es av.length
  have S9 := S8.less.drop
  clear S8 Sa
  repeat ((fail_if_success (with_reducible refine atNewL ?_)); walk_at "ob")
  rw [List.append_nil, show V.int (-1) :: (synN es av.length).map V.int = ((-1) :: synN es av.length).map V.int from rfl]
  refine g_newL S9 (by rw [List.length_map, List.length_cons]; omega) fun p9 H9 _ S10 => ?_
  repeat walk_at "ob"
  refine g_maxUL (ns := (-1) :: synN es av.length) (SqL.of (S10.at 0 rfl)) (Nat.succ_pos _) fun m hm hmax => ?_
  have hlast : ∀ i : Nat, es[i]? = some Dd.syn → (i : Int) ≤ m := fun i hi => hmax _ (List.mem_cons_of_mem _ (synN_mem hi (show i < av.length by rw [hal]; exact (List.getElem?_eq_some_iff.mp hi).1)))
  have S11 := S10.less
  clear S9 S10 hm hmax hsl
  repeat walk_at "ob"
  refine ⟨false, a, av, rfl, S11.tqs 1 rfl, ?_⟩
  refine for_enumK (xs := av) (fun i σ' H' => ∃ v4 v5 su o2 xs2 z2 rs2 ros gs, σ' = [some (.ref s'), some (.ref t), some (.ref a), some (.int m), v4, v5] ∧ RowsOf rs2 ((es.take i).foldl doF fs) ∧ o2.dict = none ∧ ros.length ≤ i ∧ (∀ r ∈ ros, r.2.2.length ≤ i) ∧ i ≤ es.length ∧ Sy K ((s', cuO C dx d su z2) :: (fB z2 ros ++ (fB d rs2 ++ ((su, .frz o2 (.tup xs2)) :: F)))) (.dat xs2 (gs.map fileD) :: .tq a av :: .dat av (es.map Dd.d) :: G) H') ⟨none, none, t, o, xs, z, rs, [], fs, rfl, hR, ho, Nat.le_refl _, fun _ h => (nomatch h), Nat.zero_le _, S11⟩ (fun i σ' H' ⟨_, _, _, _, _, _, _, _, _, _, _, _, _, _, _, S4⟩ => S4.tqs 1 rfl) ?_ ?_
  · rintro i x T8 σ' H8 hx ⟨v4, v5, su, o2, xs2, z2, rs2, ros, gs, rfl, hR2, ho2, hr1, hr2, hi, S12⟩ hT8
    clear S11
    refine g_pair S12 hT8 fun H9 S13 => ?_
    obtain ⟨e, he, hed⟩ := dps_map (S13.dps 3 rfl) hx
    have hem := List.mem_of_getElem? he
    have hie := (List.getElem?_eq_some_iff.mp he).1
    have hok := hes e hem
    have S14 := S13.drop.fact (dps_one hed) (by show (imm e.d && true) = true; rw [immAll_mem (S13.dpi 3 rfl) _ (List.mem_map.mpr ⟨e, hem, rfl⟩)]; rfl)
    clear S12 S13
    have hgi := good_fold hes gd i
    have hgw := hgi.shW hNl (by omega) hR2
    have st : (es.take (i + 1)).foldl doF fs = doF ((es.take i).foldl doF fs) e := by
      rw [List.take_add_one, he, List.foldl_append]
      rfl
    repeat walk_at "ob"
    refine ⟨rfl, _, _, x, avOf e.d, e.d, rfl, S14, .dat (i := 0) (List.mem_cons_self ..) rfl rfl (okD_deed hN hok), fun H' S' => S'.dp 0 rfl, shaped_deed hN hok, deed_facts hok, fun H10 S15 => ?_⟩
    rw [isDeed_ok hN hok]
    clear S14
    repeat walk_at "ob"
    refine g_fldS (S15.at 0 rfl) hc.c hc.n1 rfl ?_
    repeat walk_at "ob"
    refine use_has_room (S15.perm midP) hgw.hl (fun r hr => by have := hgw.ll r hr; omega) fun H11 S16 => ?_
    have S17 := S16.perm midP.symm
    clear S15 S16
    repeat walk_at "ob"
    refine g_fldS (S17.at 0 rfl) hc.c hc.n1 rfl ?_
    repeat walk_at "ob"
    refine use_do_deed (S17.perm midP) hR2 hgw.nd (by have := hgw.hl; omega) (fun r hr => by have := hgw.ll r hr; omega) fun rs3 H12 hR3 nd3 S18 => ?_
    have S19 : Sy K ((s', cuO C dx d su z2) :: (fB z2 ros ++ (fB d rs3 ++ ((su, .frz o2 (.tup xs2)) :: F)))) _ H12 := S18.perm midP.symm
    clear S17 S18
    rw [← st] at hR3
    have hgi3 := good_fold hes gd (i + 1)
    have hgw3 := hgi3.shW hNl (by omega) hR3
    repeat walk_at "ob"
    refine g_iteD (fun h1 => ?_) (fun h1 => ?_)
    · repeat walk_at "ob"
      refine g_fldS (S19.at 0 rfl) hc.c hc.n1 rfl ?_
      repeat walk_at "ob"
      refine ⟨rfl, _, _, d, rs3, _, rfl, S19, fun H' S' => FLat.of (F := (su, .frz o2 (.tup xs2)) :: F) (Sy.tail (A := (s', cuO C dx d su z2) :: fB z2 ros) S'), hR3, by have := hgw3.hl; omega, hgw3.ll, fun t2 ys o3 xs3 H13 hs3 ho3 S20 => ?_⟩
      repeat walk_at "ob"
      refine g_dnewK fun z3 hz3 => ?_
      have S21 := S20.push (o := .dK []) hz3
      generalize upd H13 z3 (.dK []) = H14 at S21 ⊢
      repeat ((fail_if_success (with_reducible refine atNewT ?_)); walk_at "ob")
      refine g_newTq S21 (Nat.le_of_ble_eq_true rfl) fun u2 H15 _ S22 => ?_
      repeat walk_at "ob"
      refine g_attS S22 (i := 2) rfl hc.c hc.n2 (Nat.le_of_ble_eq_true rfl) fun H16 S23 _ => ?_
      repeat walk_at "ob"
      refine g_attS S23 (i := 2) rfl hc.c hc.n3 (Nat.le_of_ble_eq_true rfl) fun H17 S24 _ => ?_
      have S25 : Sy K ((z3, .dK []) :: (t2, .frz o3 (.tup xs3)) :: (s', cuO C dx d t2 z3) :: (fB z2 ros ++ (fB d rs3 ++ ((su, .frz o2 (.tup xs2)) :: F)))) _ H17 := S24
      have S26 : Sy K ((z3, .dK []) :: (t2, .frz o3 (.tup xs3)) :: (s', cuO C dx d t2 z3) :: (fB d rs3 ++ F)) (.dat xs3 ((srtF ((es.take (i + 1)).foldl doF fs) ys).map fileD) :: .tq a av :: .dat av (es.map Dd.d) :: G) H17 := S25.to (.cons₂ _ (.cons₂ _ (.cons₂ _ (List.sublist_append_of_sublist_right ((List.Sublist.refl _).append (List.sublist_cons_self _ _)))))) fun g hg => (List.Sublist.cons _ (.cons _ (.cons₂ _ (.cons _ (.cons _ (.cons₂ _ (.cons₂ _ (.refl _)))))))).subset hg
      have S27 : Sy K ((s', cuO C dx d t2 z3) :: (fB z3 [] ++ (fB d rs3 ++ ((t2, .frz o3 (.tup xs3)) :: F)))) _ H17 := S26.perm (by
        show ((s', cuO C dx d t2 z3) :: (z3, HO.dK []) :: (fB d rs3 ++ ((t2, HO.frz o3 (.tup xs3)) :: F))).Perm _
        exact ((List.Perm.cons _ (List.Perm.cons _ List.perm_middle)).trans (List.Perm.swap ..)).trans (List.Perm.cons _ (List.Perm.swap ..)))
      repeat walk_at "ob"
      exact ⟨_, _, t2, o3, xs3, z3, rs3, [], _, rfl, hR3, ho3, Nat.zero_le _, fun _ h => (nomatch h), hie, S27⟩
    · repeat walk_at "ob"
      refine g_iteD (fun h2 => ?_) (fun h2 => ?_)
      · have hns : e ≠ .syn := fun h => by
          rw [h] at he
          have := hlast i he
          omega
        obtain ⟨p5, xs5, e5, hp5, hv5⟩ := Dd.opn (S19.dp 0 rfl)
        subst e5
        obtain ⟨w0, n, y, rfl⟩ : ∃ w0 n y, xs5 = [V.str w0, .str n, y] := by
          cases e with
          | add n l => exact ⟨_, _, _, hv5⟩
          | lay n ls =>
            obtain ⟨q, hx, _⟩ := hv5
            exact ⟨_, _, _, hx⟩
          | syn => exact absurd rfl hns
        have S20 := S19.add (.tq p5 [V.str w0, .str n, y]) hp5
        clear S19
        repeat walk_at "ob"
        refine g_fldS (S20.at 0 rfl) hc.c hc.n3 rfl ?_
        refine g_tyd (S20.at 1 rfl) ?_
        repeat walk_at "ob"
        rename_i p6 H13 _ S21
        have hkl := kvO_len ros
        refine g_setdS S21 (i := 2) rfl (by omega) (fun v hv => ?_) fun H14 hn S22 => ?_
        · rw [valV_kvO] at hv
          obtain ⟨r, hr, rfl⟩ := Option.map_eq_some_iff.mp hv
          obtain ⟨hrm, hrn⟩ := frOf_some hr
          obtain ⟨j, hj⟩ := List.mem_iff_getElem?.mp hrm
          have hrl := hr2 r hrm
          have hrow := (FLat.of (F := fB d rs3 ++ ((su, .frz o2 (.tup xs2)) :: F)) (Sy.tail (A := [(p6, HO.lst []), (s', cuO C dx d su z2)]) S21)).row hr
          repeat walk_at "ob"
          refine g_tyl (SqL.of hrow) ?_
          repeat walk_at "ob"
          refine g_appS S21 (f := j + 3) (by show (fB z2 ros ++ _)[j + 1]? = _; exact fB_at hj) (by omega) fun H15 S23 => ?_
          have S24 : Sy K ((p6, .lst []) :: (s', cuO C dx d su z2) :: (fB z2 ros ++ (fB d rs3 ++ ((su, .frz o2 (.tup xs2)) :: F))).set (j + 1) (r.2.1, .lst (r.2.2 ++ [.ref p5]))) _ H15 := S23
          rw [fB_set hj] at S24
          repeat walk_at "ob"
          refine ⟨_, _, su, o2, xs2, z2, rs3, _, gs, rfl, hR3, ho2, by rw [List.length_set]; omega, fun q hq => ?_, hie, S24.less.drop.drop⟩
          rcases List.mem_or_eq_of_mem_set hq with hq | rfl
          · have := hr2 q hq
            omega
          · show (r.2.2 ++ [V.ref p5]).length ≤ i + 1
            rw [List.length_append]
            show _ + 1 ≤ _
            omega
        · have S23 : Sy K ((p6, .lst []) :: (s', cuO C dx d su z2) :: (z2, .dK (kvO ros ++ [(.inr n, .ref p6)])) :: (fL ros ++ (fB d rs3 ++ ((su, .frz o2 (.tup xs2)) :: F)))) _ H14 := S22
          repeat walk_at "ob"
          refine g_appS S23 (f := 0) rfl (Nat.succ_pos _) fun H15 S24 => ?_
          have S25 : Sy K ((p6, .lst [V.ref p5]) :: (s', cuO C dx d su z2) :: (z2, .dK (kvO ros ++ [(.inr n, .ref p6)])) :: (fL ros ++ (fB d rs3 ++ ((su, .frz o2 (.tup xs2)) :: F)))) _ H15 := S24
          have S26 := S25.perm ((List.Perm.cons _ (perm_new (n := n)).symm).trans (List.Perm.swap ..))
          have e2 : kvO ros ++ [((.inr n : Key), V.ref p6)] = kvO (ros ++ [(n, p6, [V.ref p5])]) := by unfold kvO; rw [List.map_append]; rfl
          rw [e2] at S26
          have S27 : Sy K ((s', cuO C dx d su z2) :: (fB z2 (ros ++ [(n, p6, [V.ref p5])]) ++ (fB d rs3 ++ ((su, .frz o2 (.tup xs2)) :: F)))) _ H15 := S26
          repeat walk_at "ob"
          refine ⟨_, _, su, o2, xs2, z2, rs3, _, gs, rfl, hR3, ho2, by rw [List.length_append]; show _ + 1 ≤ _; omega, fun q hq => ?_, hie, S27.drop.drop⟩
          rcases List.mem_append.mp hq with hq | hq
          · have := hr2 q hq
            omega
          · rw [List.mem_singleton.mp hq]
            exact Nat.succ_le_succ (Nat.zero_le _)
      · repeat walk_at "ob"
        exact ⟨_, _, su, o2, xs2, z2, rs3, ros, gs, rfl, hR3, ho2, by omega, fun r hr => by have := hr2 r hr; omega, hie, S19.drop⟩
  · rintro σ' H8 ⟨v4, v5, su, o2, xs2, z2, rs2, ros, gs, rfl, hR2, ho2, hr1, hr2, hi, S12⟩
    rw [hal, List.take_length] at hR2
    repeat walk_at "ob"
    refine g_fldS (S12.at 0 rfl) hc.c hc.n2 rfl ?_
    repeat walk_at "ob"
    obtain ⟨ps, kvs, rfl, hpk⟩ := dps_files (S12.dps 0 rfl)
    refine g_dictPT S12 (S12.st _ (List.mem_cons_of_mem _ (List.mem_append_right _ (List.mem_append_right _ (List.mem_cons_self ..))))) ho2 hpk fun kd H9 S13 => ?_
    repeat walk_at "ob"
    refine g_attS S13 (i := 1) rfl hc.c hc.n4 (Nat.le_of_ble_eq_true rfl) fun H10 S14 _ => ?_
    refine k d rs2 _ H10 hR2 ⟨_, rfl, rfl⟩ ((S14.less).to (.cons₂ _ (List.sublist_append_of_sublist_right ((List.Sublist.refl _).append (List.sublist_cons_self _ _)))) fun g hg => List.mem_cons_of_mem _ (List.mem_cons_of_mem _ (List.mem_cons_of_mem _ hg)))
end
end LAW

set_option Elab.async false
set_option linter.all false
set_option maxRecDepth 100000
namespace LAW
open PySem PySem.Spec PyProof.Rows L2 PySem.W OB
local macro_rules | `(tactic| walk_at "obc") => `(tactic| first
  | exact Or.inl ⟨by omega, by omega⟩
  | exact Or.inr ⟨by omega, by omega⟩
  | exact cdiv_ok (by omega) (by omega)
  | (show (0 : Int) < _; omega)
  | exact ⟨by omega, by decide⟩
  | exact ⟨by decide, by decide⟩)
local macro_rules | `(tactic| walk_at "obat") => `(tactic| first
  | exact Sy.at (by assumption) 0 rfl | exact Sy.at (by assumption) 1 rfl | exact Sy.at (by assumption) 2 rfl | exact Sy.at (by assumption) 3 rfl
  | exact Sy.at (by assumption) 4 rfl | exact Sy.at (by assumption) 5 rfl | exact Sy.at (by assumption) 6 rfl | exact Sy.at (by assumption) _ (by assumption) | exact Sy.at (by assumption) (_ + 1) (by assumption) | exact Sy.at (by assumption) (_ + 2) (by assumption))
local macro_rules | `(tactic| walk_at "obt") => `(tactic| first
  | exact Sy.tqs (by assumption) 0 rfl | exact Sy.tqs (by assumption) 1 rfl | exact Sy.tqs (by assumption) 2 rfl | exact Sy.tqs (by assumption) 3 rfl | exact Sy.tqs (by assumption) 4 rfl | exact Sy.tqs (by assumption) 5 rfl
  | exact Sy.tqs (by assumption) 6 rfl | exact Sy.tqs (by assumption) 7 rfl | assumption)
local macro_rules | `(tactic| walk_at "obl") => `(tactic| first
  | exact SqL.of (by walk_at "obat")
  | exact Sy.sq (by assumption) 0 rfl | exact Sy.sq (by assumption) 1 rfl | exact Sy.sq (by assumption) 2 rfl | exact Sy.sq (by assumption) 3 rfl | exact Sy.sq (by assumption) _ (by assumption))
local macro_rules | `(tactic| walk_at "obd") => `(tactic| first
  | exact Dp.int _ | exact Dp.bl _ | exact Dp.str _ | exact Dp.non
  | exact Sy.dp (by assumption) 0 rfl | exact Sy.dp (by assumption) 1 rfl | exact Sy.dp (by assumption) 2 rfl | exact Sy.dp (by assumption) 3 rfl
  | exact Sy.dp (by assumption) 4 rfl | exact Sy.dp (by assumption) 5 rfl | exact Sy.dp (by assumption) 6 rfl | exact Sy.dp (by assumption) 7 rfl
  | exact Sy.dp (by assumption) 8 rfl | exact Sy.dp (by assumption) 9 rfl | exact Sy.dp (by assumption) _ (by assumption) | assumption)
local macro_rules | `(tactic| walk_at "obds") => `(tactic| first
  | exact DpAll.nil
  | (refine' DpAll.cons ?ob1 ?ob2; (case ob1 => walk_at "obd"); (case ob2 => walk_at "obds"))
  | exact Sy.dps (by assumption) 0 rfl | exact Sy.dps (by assumption) 1 rfl | exact Sy.dps (by assumption) 2 rfl | exact Sy.dps (by assumption) 3 rfl | assumption)
local macro_rules | `(tactic| walk_at "obsc") => `(tactic| first
  | exact ScL.nil
  | ((first | refine' ScL.int ?obz | refine' ScL.str ?obz | refine' ScL.bl ?obz | refine' ScL.non ?obz); (case obz => walk_at "obsc")))
local macro_rules | `(tactic| walk_at "ob1") => `(tactic| first
  | ((with_reducible refine' g_var ?obh ?_); (case obh => rfl))
  | with_reducible refine g_c ?_
  | with_reducible refine g_nx ?_
  | with_reducible refine g_rt ?_
  | with_reducible refine g_bk ?_
  | with_reducible refine g_ct ?_
  | with_reducible refine g_op ?_
  | with_reducible refine g_I0 ?_
  | with_reducible refine g_test ?_
  | with_reducible refine g_bl ?_
  | with_reducible refine g_blx ?_
  | with_reducible refine g_B ?_
  | with_reducible refine g_seq ?_
  | with_reducible refine g_asg ?_
  | with_reducible refine g_name ?_
  | with_reducible refine g_ifS ?_
  | with_reducible refine g_ret ?_
  | with_reducible refine g_cb ?_
  | with_reducible refine g_cons ?_
  | with_reducible refine g_nil ?_
  | with_reducible refine g_int ?_
  | with_reducible refine g_intB ?_
  | with_reducible refine g_abs ?_
  | with_reducible refine g_max ?_
  | with_reducible refine g_min ?_
  | with_reducible refine g_un ?_
  | with_reducible refine g_U ?_
  | with_reducible refine g_eqI ?_
  | with_reducible refine g_neI ?_
  | with_reducible refine g_eqS ?_
  | with_reducible refine g_neS ?_
  | with_reducible refine g_tt ?_
  | with_reducible refine g_ff ?_
  | with_reducible refine g_next ?_
  | with_reducible refine g_drop ?_
  | with_reducible refine g_if ?_
  | with_reducible refine g_andV ?_
  | with_reducible refine g_orV ?_
  | with_reducible refine g_notV ?_
  | with_reducible refine g_and ?_
  | with_reducible refine g_or ?_
  | with_reducible refine g_not ?_
  | with_reducible refine g_yes ?_
  | with_reducible refine g_chain ?_
  | with_reducible refine g_cg ?_
  | with_reducible refine g_mg ?_
  | with_reducible refine g_kg ?_
  | with_reducible refine g_pg ?_
  | ((with_reducible refine' g_call ?obh ?obj ?_); (case obh => rfl); (case obj => rfl))
  | with_reducible refine g_par ?_
  | with_reducible refine g_par2 ?_
  | with_reducible refine g_par3 ?_
  | with_reducible refine g_par33 ?_
  | with_reducible refine g_gnil ?_
  | with_reducible refine g_gcons ?_
  | with_reducible refine g_gsub ?_
  | with_reducible refine g_ipI ?_
  | with_reducible refine g_rAdd ?_
  | with_reducible refine g_rSub ?_
  | ((with_reducible refine' g_aug ?obh ?_); (case obh => rfl))
  | with_reducible refine g_tup ?_
  | with_reducible refine g_lst ?_
  | with_reducible refine g_bm ?_
  | with_reducible refine g_bm0 ?_
  | with_reducible refine g_sl ?_
  | with_reducible refine g_nopart ?_
  | with_reducible refine g_part ?_
  | with_reducible refine g_pint ?_
  | with_reducible refine isi_int ?_
  | with_reducible refine isi_intB ?_
  | ((with_reducible refine' g_I ?obh ?_); (case obh => walk_at "obc"))
  | ((with_reducible refine' g_tyl ?obh ?_); (case obh => walk_at "obl"))
  | ((with_reducible refine' g_lenL ?obh ?_); (case obh => walk_at "obl"))
  | with_reducible refine g_ne ?_
  | ((with_reducible refine' g_neN' ?obh ?_); (case obh => rfl))
  | with_reducible refine g_ntt ?_
  | with_reducible refine g_nff ?_
  | with_reducible refine g_star ?_
  | with_reducible refine g_att ?_
  | with_reducible refine g_sfld ?_
  | with_reducible refine g_faug ?_
  | with_reducible refine g_fld ?_
  | ((with_reducible refine' g_nF ?obh ?_); (case obh => omega))
  | ((with_reducible refine' g_nT ?obh ?_); (case obh => omega))
  | ((with_reducible refine' g_TD ?obh ?_); (case obh => omega))
  | ((with_reducible refine' g_FD ?obh ?_); (case obh => omega))
  | ((with_reducible refine' g_ixUL ?obh ?obi ?_); (case obh => walk_at "obl"); (case obi => exact atI_nn (by omega) (by rfl)))
  | ((with_reducible refine' g_setLS ?obs ?obh ?obi ?_); (case obs => assumption); (case obh => assumption); (case obi => rfl); intro _ _ _)
  | ((with_reducible refine' g_newT ?obs ?obh ?obi ?obj ?_); (case obs => assumption); (case obh => walk_at "obds"); (case obi => rfl); (case obj => exact Nat.le_of_ble_eq_true rfl); intro _ _ _ _)
  | ((with_reducible refine' g_newL ?obs ?obj ?_); (case obs => assumption); (case obj => exact Nat.le_of_ble_eq_true rfl); intro _ _ _ _)
  | ((with_reducible refine' isi_tup ?obh ?_); (case obh => walk_at "obt"))
  | ((with_reducible refine' g_lenT ?obh ?_); (case obh => walk_at "obt"))
  | ((with_reducible refine' g_unpT ?obh ?obi ?_); (case obh => walk_at "obt"); (case obi => rfl))
  | ((with_reducible refine' g_divmod ?obs ?obh ?_); (case obs => assumption); (case obh => exact cdivp_ok (by omega) (by omega) (by omega)); intro _ _ _ _)
  | ((with_reducible refine' g_unpD ?obh ?obi ?obj ?_); (case obh => walk_at "obd"); (case obi => walk_at "obsc"); (case obj => rfl))
  | with_reducible refine g_att ?_)
local macro_rules | `(tactic| walk_at "ob") => `(tactic| first
  | walk_at "ob1"
  | refine use_is_integer ?_
  | refine use_is_within ?_
  | with_reducible refine g_lstRg ?_
  | with_reducible refine g_rg1 ?_
  | with_reducible refine g_rg2 ?_
  | with_reducible refine g_tTru ?_
  | ((with_reducible refine' g_truL ?obh ?_); (case obh => walk_at "obl"))
  | ((with_reducible refine' g_ixUT ?obh ?obi ?_); (case obh => walk_at "obt"); (case obi => rfl))
  | with_reducible refine g_forZ ?_
  | with_reducible refine g_forR2 ?_
  | with_reducible refine g_forE ?_
  | with_reducible refine g_lcZ ?_)
section
variable {P : Program} {w : World} {K : Frag} {mg : Str → Option Value} {base : Heap}
def sp_done_deeds (K : Frag) : Sp := fun vs H Q E => vs.length = 2 ∧ ∃ (F : List (Addr × HO)) (G : List Ft) (t a : Addr) (o : Obj) (xs : List V) (fs : Fl) (es : List Dd) (N : List Str), vs = [.ref t, .ref a] ∧ Sy K ((t, .frz o (.tup xs)) :: F) (.dat [.ref t] [filesT fs] :: .dat xs (fs.map fileD) :: .dat [.ref a] [.tuple (es.map Dd.d)] :: G) H ∧ o.dict = none ∧ Good N 10 fs ∧ AscF fs ∧ (∀ n ∈ N, NmOk n) ∧ N.length < 40 ∧ (∀ e ∈ es, DdOk N e) ∧ es.length ≤ 500 ∧
  ∀ t2 ys H', IsSrt ((es.foldl doF fs).map (·.1)) ys → Sy K F (.dat [.ref t2] [filesT (srtF (es.foldl doF fs) ys)] :: G) H' → Q (.ref t2) H'
abbrev names_done_deeds : List Str := ["files", "deeds"]
theorem sc_done_deeds : FnScope names_done_deeds ["files", "deeds"] (defScope (top 37)) := ⟨rfl, rfl, rfl, by decide +kernel, rfl, by decide +kernel, by decide +kernel⟩
set_option maxHeartbeats 4000000 in
theorem ok_done_deeds (T : Tx K mg) : FG P w K mg base CX0 8 T.a_done_deeds T.d_done_deeds ["files", "deeds"] (sp_done_deeds K) := by
  refine OB.Fun.fg T.F_done_deeds sc_done_deeds (fun vs H Q E h => h.1) (fun cdv A out s H vs Q E g h => ?_)
  obtain ⟨_, F, G, t, a, o, xs, fs, es, N, rfl, S, ho, gd, asc, hN, hNl, hes, hel, k⟩ := h
  refine ⟨_, (pss_one (ps_ret (pe_cg (ok_files_of T) (g.mono (by decide : 1 ≤ 7)) (by rfl) T.m_files_of T.F_files_of.kp (OB.Fun.bd T.F_files_of (ps := ["known"]) (n := 1) (ks := []) (ix := [0]) (fun _ _ _ _ _ _ us ws h1 h2 => match us, ws, h1, h2 with | [_], [], _, _ => rfl)) pass0 (pa_cons (pe_fld (pe_kg T.mk_Cut (ok_Cut___init__ T) (g.mono (by decide : 7 ≤ 7)) (by rfl) T.m_Cut (OB.Fun.bd T.F_Cut___init__ (ps := ["self", "files", "deeds"]) (n := 3) (ks := []) (ix := [0, 1, 2]) (fun _ _ _ _ _ _ us ws h1 h2 => match us, ws, h1, h2 with | [_, _, _], [], _, _ => rfl)) pass0 (pa_cons (pv 0) (pa_cons (pv 1) pa_nil)) pk_nil) rfl) pa_nil) pk_nil))), ?_⟩
  refine g_start (σ := [some _, some _]) rfl ?_
  have hc := T.cuC
  repeat walk_at "ob"
  refine ⟨rfl, rfl, fun x dx h1 h2 hne => ?_⟩
  refine ⟨rfl, F, G, x, _, dx, t, a, o, xs, fs, es, N, rfl, Sy.make S h1 h2 hne, ho, hc, gd, asc, hN, hNl, hes, hel, fun d rs gs H' hR hg S1 => ⟨rfl, ?_⟩⟩
  obtain ⟨fl, rfl, hlk⟩ := hg
  clear S
  repeat walk_at "ob"
  refine g_fldS (S1.at 0 rfl) hc.c hc.n1 hlk ?_
  repeat walk_at "ob"
  have hg := good_fold hes gd es.length
  rw [List.take_length] at hg
  have hw := hg.shW hNl (by omega) hR
  refine use_files_of S1 (fun H' S' => FLat.of (F := F) S'.less) hR (by have := hw.hl; omega) hw.ll fun t2 ys H2 hs S2 => ?_
  exact k t2 ys H2 hs (Sy.tail (A := (x, HO.ins T.a_Cut dx fl) :: fB d rs) S2)
end
end LAW

set_option Elab.async false
set_option linter.all false
set_option maxRecDepth 100000
namespace LAW
open PySem PySem.Spec PyProof.Rows L2 PySem.W OB
local macro_rules | `(tactic| walk_at "obc") => `(tactic| first
  | exact Or.inl ⟨by omega, by omega⟩
  | exact Or.inr ⟨by omega, by omega⟩
  | exact cdiv_ok (by omega) (by omega)
  | (show (0 : Int) < _; omega)
  | exact ⟨by omega, by decide⟩
  | exact ⟨by decide, by decide⟩)
local macro_rules | `(tactic| walk_at "obat") => `(tactic| first
  | exact Sy.at (by assumption) 0 rfl | exact Sy.at (by assumption) 1 rfl | exact Sy.at (by assumption) 2 rfl | exact Sy.at (by assumption) 3 rfl
  | exact Sy.at (by assumption) 4 rfl | exact Sy.at (by assumption) 5 rfl | exact Sy.at (by assumption) 6 rfl | exact Sy.at (by assumption) _ (by assumption) | exact Sy.at (by assumption) (_ + 1) (by assumption) | exact Sy.at (by assumption) (_ + 2) (by assumption))
local macro_rules | `(tactic| walk_at "obt") => `(tactic| first
  | exact Sy.tqs (by assumption) 0 rfl | exact Sy.tqs (by assumption) 1 rfl | exact Sy.tqs (by assumption) 2 rfl | exact Sy.tqs (by assumption) 3 rfl | exact Sy.tqs (by assumption) 4 rfl | exact Sy.tqs (by assumption) 5 rfl
  | exact Sy.tqs (by assumption) 6 rfl | exact Sy.tqs (by assumption) 7 rfl | assumption)
local macro_rules | `(tactic| walk_at "obl") => `(tactic| first
  | exact SqL.of (by walk_at "obat")
  | exact Sy.sq (by assumption) 0 rfl | exact Sy.sq (by assumption) 1 rfl | exact Sy.sq (by assumption) 2 rfl | exact Sy.sq (by assumption) 3 rfl | exact Sy.sq (by assumption) _ (by assumption))
local macro_rules | `(tactic| walk_at "obd") => `(tactic| first
  | exact Dp.int _ | exact Dp.bl _ | exact Dp.str _ | exact Dp.non
  | exact Sy.dp (by assumption) 0 rfl | exact Sy.dp (by assumption) 1 rfl | exact Sy.dp (by assumption) 2 rfl | exact Sy.dp (by assumption) 3 rfl
  | exact Sy.dp (by assumption) 4 rfl | exact Sy.dp (by assumption) 5 rfl | exact Sy.dp (by assumption) 6 rfl | exact Sy.dp (by assumption) 7 rfl
  | exact Sy.dp (by assumption) 8 rfl | exact Sy.dp (by assumption) 9 rfl | exact Sy.dp (by assumption) _ (by assumption) | assumption)
local macro_rules | `(tactic| walk_at "obds") => `(tactic| first
  | exact DpAll.nil
  | (refine' DpAll.cons ?ob1 ?ob2; (case ob1 => walk_at "obd"); (case ob2 => walk_at "obds"))
  | exact Sy.dps (by assumption) 0 rfl | exact Sy.dps (by assumption) 1 rfl | exact Sy.dps (by assumption) 2 rfl | exact Sy.dps (by assumption) 3 rfl | assumption)
local macro_rules | `(tactic| walk_at "obsc") => `(tactic| first
  | exact ScL.nil
  | ((first | refine' ScL.int ?obz | refine' ScL.str ?obz | refine' ScL.bl ?obz | refine' ScL.non ?obz); (case obz => walk_at "obsc")))
local macro_rules | `(tactic| walk_at "ob1") => `(tactic| first
  | ((with_reducible refine' g_var ?obh ?_); (case obh => rfl))
  | with_reducible refine g_c ?_
  | with_reducible refine g_nx ?_
  | with_reducible refine g_rt ?_
  | with_reducible refine g_bk ?_
  | with_reducible refine g_ct ?_
  | with_reducible refine g_op ?_
  | with_reducible refine g_I0 ?_
  | with_reducible refine g_test ?_
  | with_reducible refine g_bl ?_
  | with_reducible refine g_blx ?_
  | with_reducible refine g_B ?_
  | with_reducible refine g_seq ?_
  | with_reducible refine g_asg ?_
  | with_reducible refine g_name ?_
  | with_reducible refine g_ifS ?_
  | with_reducible refine g_ret ?_
  | with_reducible refine g_cb ?_
  | with_reducible refine g_cons ?_
  | with_reducible refine g_nil ?_
  | with_reducible refine g_int ?_
  | with_reducible refine g_intB ?_
  | with_reducible refine g_abs ?_
  | with_reducible refine g_max ?_
  | with_reducible refine g_min ?_
  | with_reducible refine g_un ?_
  | with_reducible refine g_U ?_
  | with_reducible refine g_eqI ?_
  | with_reducible refine g_neI ?_
  | with_reducible refine g_eqS ?_
  | with_reducible refine g_neS ?_
  | with_reducible refine g_tt ?_
  | with_reducible refine g_ff ?_
  | with_reducible refine g_next ?_
  | with_reducible refine g_drop ?_
  | with_reducible refine g_if ?_
  | with_reducible refine g_andV ?_
  | with_reducible refine g_orV ?_
  | with_reducible refine g_notV ?_
  | with_reducible refine g_and ?_
  | with_reducible refine g_or ?_
  | with_reducible refine g_not ?_
  | with_reducible refine g_yes ?_
  | with_reducible refine g_chain ?_
  | with_reducible refine g_cg ?_
  | with_reducible refine g_mg ?_
  | with_reducible refine g_kg ?_
  | with_reducible refine g_pg ?_
  | ((with_reducible refine' g_call ?obh ?obj ?_); (case obh => rfl); (case obj => rfl))
  | with_reducible refine g_par ?_
  | with_reducible refine g_par2 ?_
  | with_reducible refine g_par3 ?_
  | with_reducible refine g_par33 ?_
  | with_reducible refine g_gnil ?_
  | with_reducible refine g_gcons ?_
  | with_reducible refine g_gsub ?_
  | with_reducible refine g_ipI ?_
  | with_reducible refine g_rAdd ?_
  | with_reducible refine g_rSub ?_
  | ((with_reducible refine' g_aug ?obh ?_); (case obh => rfl))
  | with_reducible refine g_tup ?_
  | with_reducible refine g_lst ?_
  | with_reducible refine g_bm ?_
  | with_reducible refine g_bm0 ?_
  | with_reducible refine g_sl ?_
  | with_reducible refine g_nopart ?_
  | with_reducible refine g_part ?_
  | with_reducible refine g_pint ?_
  | with_reducible refine isi_int ?_
  | with_reducible refine isi_intB ?_
  | ((with_reducible refine' g_I ?obh ?_); (case obh => walk_at "obc"))
  | ((with_reducible refine' g_tyl ?obh ?_); (case obh => walk_at "obl"))
  | ((with_reducible refine' g_lenL ?obh ?_); (case obh => walk_at "obl"))
  | with_reducible refine g_ne ?_
  | ((with_reducible refine' g_neN' ?obh ?_); (case obh => rfl))
  | with_reducible refine g_ntt ?_
  | with_reducible refine g_nff ?_
  | with_reducible refine g_star ?_
  | with_reducible refine g_att ?_
  | with_reducible refine g_sfld ?_
  | with_reducible refine g_faug ?_
  | with_reducible refine g_fld ?_
  | ((with_reducible refine' g_nF ?obh ?_); (case obh => omega))
  | ((with_reducible refine' g_nT ?obh ?_); (case obh => omega))
  | ((with_reducible refine' g_TD ?obh ?_); (case obh => omega))
  | ((with_reducible refine' g_FD ?obh ?_); (case obh => omega))
  | ((with_reducible refine' g_ixUL ?obh ?obi ?_); (case obh => walk_at "obl"); (case obi => exact atI_nn (by omega) (by rfl)))
  | ((with_reducible refine' g_setLS ?obs ?obh ?obi ?_); (case obs => assumption); (case obh => assumption); (case obi => rfl); intro _ _ _)
  | ((with_reducible refine' g_newT ?obs ?obh ?obi ?obj ?_); (case obs => assumption); (case obh => walk_at "obds"); (case obi => rfl); (case obj => exact Nat.le_of_ble_eq_true rfl); intro _ _ _ _)
  | ((with_reducible refine' g_newL ?obs ?obj ?_); (case obs => assumption); (case obj => exact Nat.le_of_ble_eq_true rfl); intro _ _ _ _)
  | ((with_reducible refine' isi_tup ?obh ?_); (case obh => walk_at "obt"))
  | ((with_reducible refine' g_lenT ?obh ?_); (case obh => walk_at "obt"))
  | ((with_reducible refine' g_unpT ?obh ?obi ?_); (case obh => walk_at "obt"); (case obi => rfl))
  | ((with_reducible refine' g_divmod ?obs ?obh ?_); (case obs => assumption); (case obh => exact cdivp_ok (by omega) (by omega) (by omega)); intro _ _ _ _)
  | ((with_reducible refine' g_unpD ?obh ?obi ?obj ?_); (case obh => walk_at "obd"); (case obi => walk_at "obsc"); (case obj => rfl))
  | with_reducible refine g_att ?_)
local macro_rules | `(tactic| walk_at "ob") => `(tactic| first
  | walk_at "ob1"
  | refine use_is_integer ?_
  | refine use_is_within ?_
  | with_reducible refine g_lstRg ?_
  | with_reducible refine g_rg1 ?_
  | with_reducible refine g_rg2 ?_
  | with_reducible refine g_tTru ?_
  | ((with_reducible refine' g_truL ?obh ?_); (case obh => walk_at "obl"))
  | ((with_reducible refine' g_ixUT ?obh ?obi ?_); (case obh => walk_at "obt"); (case obi => rfl))
  | with_reducible refine g_forZ ?_
  | with_reducible refine g_forR2 ?_
  | with_reducible refine g_forE ?_
  | with_reducible refine g_lcZ ?_)
section
variable {P : Program} {w : World} {K : Frag} {mg : Str → Option Value} {base : Heap}
def sp_law_file_tuple (K : Frag) : Sp := fun vs H Q E => vs.length = 1 ∧ ∃ (F : List (Addr × HO)) (G : List Ft) (d : Addr) (rs : List FRow) (fs : Fl), vs = [.ref d] ∧ Sy K F G H ∧ (∀ H', Sy K F G H' → FLat H' d rs) ∧ RowsOf rs fs ∧ rs.length < 64 ∧ (∀ r ∈ rs, r.2.2.length ≤ 1000) ∧
  ∀ t ys (o : Obj) xs H', IsSrt (fs.map (·.1)) ys → o.dict = none → Sy K ((t, .frz o (.tup xs)) :: F) (.dat [.ref t] [filesT (srtF fs ys)] :: .dat xs ((srtF fs ys).map fileD) :: G) H' → Q (.ref t) H'
abbrev names_law_file_tuple : List Str := ["files", "name"]
theorem sc_law_file_tuple : FnScope names_law_file_tuple ["files"] (defScope (top 46)) := ⟨rfl, rfl, rfl, by decide +kernel, rfl, by decide +kernel, by decide +kernel⟩
set_option maxHeartbeats 4000000 in
theorem ok_law_file_tuple (T : Tx K mg) : FG P w K mg base CX0 1 T.a_law_file_tuple T.d_law_file_tuple ["files"] (sp_law_file_tuple K) := by
  refine OB.Fun.fg T.F_law_file_tuple sc_law_file_tuple (fun vs H Q E h => h.1) (fun cdv A out s H vs Q E g h => ?_)
  obtain ⟨_, F, G, d, rs, fs, rfl, S, hF, hR, hl, hll, k⟩ := h
  refine ⟨_, (pss_one (ps_ret (pe_callTy (toK (r := OB.rTupleF) (K := K) rfl c_tupleF) (by rfl) T.n_tuple (by decide +kernel) (pa_cons (pe_lc (own := [("name", 1)]) (tt := tYes) rfl sc_law_file_tuple.nd (pi_seq (pe_callB (toK (r := L2.rSortedS) (K := K) rfl cr_sortedS) (by rfl) T.n_sorted (by decide +kernel) (pa_cons (pe_callTy (call_listD rfl) (by rfl) T.n_list (by decide +kernel) (pa_cons (pv 0) pa_nil)) pa_nil))) (blkOk_by (N := names_law_file_tuple) (sc := defScope (top 46)) (own := [("name", 1)]) (by decide +kernel)) (fun _ _ _ _ _ => (pg_name (i := 1) sc_law_file_tuple.nd rfl (by first | exact Or.inl rfl | exact Or.inr rfl))) (fun _ _ _ _ _ => pts_nil) (fun _ _ _ _ _ => (pe_tup (pa_cons (pv 1) (pa_cons (pe_callTy (toK (r := rTuple) (K := K) rfl c_tuple) (by rfl) T.n_tuple (by decide +kernel) (pa_cons (pe_dget g.hu1 (pv 0) (pv 1) (fun _ _ => rfl)) pa_nil)) pa_nil))))) pa_nil)))), ?_⟩
  refine g_start (σ := [some _, none]) rfl ?_
  have hn : (kvO rs).map (·.1) = (fs.map (·.1)).map Sum.inr := by
    rw [← hR.names, List.map_map]
    unfold kvO
    rw [List.map_map]
    rfl
  repeat walk_at "ob"
  refine g_lcE2 ?_
  repeat walk_at "ob"
  refine ⟨d, kvO rs, rfl, (hF _ S).1, fun p9 hp9 => ?_⟩
  have S9 := S.push (o := .lst ((kvO rs).map fun kv => kV kv.1)) hp9
  generalize upd H p9 (.lst ((kvO rs).map fun kv => kV kv.1)) = H9 at S9 ⊢
  have hkv : (kvO rs).map (fun kv => kV kv.1) = (fs.map (·.1)).map V.str := by
    have := congrArg (fun l : List Key => l.map kV) hn
    rw [List.map_map, List.map_map] at this
    exact this.trans (by simp only [List.map_map]; rfl)
  rw [hkv] at S9
  clear S
  repeat walk_at "ob"
  refine ⟨p9, fs.map (·.1), rfl, SqL.of (S9.at 0 rfl), by rw [List.length_map, ← hR.len]; exact hl, fun ys p hp hs hp0 => ?_⟩
  have S1 := S9.push (o := .lst (ys.map V.str)) hp0
  generalize upd H9 p (.lst (ys.map V.str)) = H1 at S1 ⊢
  have hyl : ys.length < 64 := by rw [hp.length_eq, List.length_map, ← hR.len]; exact hl
  have hdn : (yn : Str) → yn ∈ ys → ∃ r, frOf rs yn = some r := fun yn hy => frOf_mem (by rw [hR.names]; exact hp.mem_iff.mp hy)
  repeat walk_at "ob"
  refine g_lcS (a := p) (xs := ys.map V.str) true (fun j F' ds => F' = (p, .lst (ys.map V.str)) :: (p9, .lst ((fs.map (·.1)).map V.str)) :: F ∧ ds = (srtF fs (ys.take j)).map fileD ∧ j ≤ ys.length) S1 (fun Q' q => by repeat walk_at "ob"; exact q) ⟨rfl, rfl, Nat.zero_le _⟩ (fun j F' ds H' hi S3 => SqL.of ((hi.1 ▸ S3).at 0 rfl)) (fun j F' ds hi => by
    rw [hi.2.1, List.length_map]
    unfold srtF
    rw [List.length_map, List.length_take]
    omega) ?_ ?_
  · intro j x hx Dp H2 F2 us ds QE QR hj S3 kE kR
    obtain ⟨rfl, rfl, hj2⟩ := hj
    rw [List.getElem?_map] at hx
    obtain ⟨yn, hyn, rfl⟩ := Option.map_eq_some_iff.mp hx
    have hj3 := (List.getElem?_eq_some_iff.mp hyn).1
    obtain ⟨r, hr⟩ := hdn yn (List.mem_of_getElem? hyn)
    have hrl := hll r (frOf_some hr).1
    have hr2 := hR.row hr
    have f2 := hF _ (S3.less.less.less.drop)
    have hrow := f2.row hr
    repeat walk_at "ob"
    refine ⟨rfl, ?_⟩
    repeat ((fail_if_success (with_reducible refine atNewT ?_)); walk_at "ob")
    refine g_tDGet ?_
    repeat walk_at "ob"
    refine g_dgetS (v := .ref r.2.1) f2.1 (by rw [valV_kvO, hr]; rfl) ?_
    repeat walk_at "ob"
    refine g_tup0 S3 (SqL.of hrow) (ds := (lnsOf fs yn).map PyData.str) (by rw [hr2]; exact dps_strs _) (strs_imm _) fun t2 H3 _ S4 => ?_
    repeat ((fail_if_success (with_reducible refine atNewT ?_)); walk_at "ob")
    refine g_newT (ds := [.str yn, .tuple ((lnsOf fs yn).map PyData.str)]) S4 (.cons (.str _) (.cons (S4.dp 0 rfl) .nil)) (by show (true && (immAll ((lnsOf fs yn).map PyData.str) && true)) = true; rw [strs_imm]; rfl) (Nat.le_of_ble_eq_true rfl) fun t3 H4 _ S5 => ?_
    refine kE _ (fileD (yn, lnsOf fs yn)) _ _ ⟨rfl, ?_, hj3⟩ S5.drop2
    rw [List.take_add_one, hyn]
    unfold srtF
    rw [List.map_append, List.map_append]
    rfl
  · rintro Dp H2 F2 us ds hD ⟨rfl, rfl, _⟩ S3
    rw [show (ys.map V.str).length = ys.length from List.length_map .., List.take_length] at S3
    repeat walk_at "ob"
    refine g_tup0F S3 (SqL.of (S3.at 0 rfl)) (S3.dps 0 rfl) (S3.dpi 0 rfl) fun t2 o H3 ho S4 => ?_
    exact k t2 ys o us H3 ⟨hp, hs⟩ ho ((S4.swap.less).swap.less).swap.less
theorem use_file_tuple {F : List (Addr × HO)} {G : List Ft} {H : Hp} {Q : VK} {E : XK} {d : Addr} {rs : List FRow} {fs : Fl} (S : Sy K F G H) (hF : ∀ H', Sy K F G H' → FLat H' d rs) (hR : RowsOf rs fs) (hl : rs.length < 64) (hll : ∀ r ∈ rs, r.2.2.length ≤ 1000)
    (k : ∀ t ys H', IsSrt (fs.map (·.1)) ys → Sy K F (.dat [.ref t] [filesT (srtF fs ys)] :: G) H' → Q (.ref t) H') : sp_law_file_tuple K [.ref d] H Q E := ⟨rfl, F, G, d, rs, fs, rfl, S, hF, hR, hl, hll, fun t ys _ _ H' hs _ S' => k t ys H' hs S'.less.drop2⟩
theorem perm_dd {α : Type} {a b c : α} {A B F : List α} : (a :: ((A ++ [b]) ++ ((B ++ [c]) ++ F))).Perm (b :: c :: a :: (A ++ (B ++ F))) := by
  have e : (a :: ((A ++ [b]) ++ ((B ++ [c]) ++ F))) = a :: (A ++ (b :: (B ++ (c :: F)))) := by simp [List.append_assoc]
  rw [e]
  have h1 : (A ++ (b :: (B ++ (c :: F)))).Perm (b :: c :: (A ++ (B ++ F))) := List.perm_middle.trans (List.Perm.cons _ ((List.Perm.append_left _ List.perm_middle).trans List.perm_middle))
  exact (List.Perm.cons _ h1).trans ((List.Perm.swap ..).trans (List.Perm.cons _ (List.Perm.swap ..)))
theorem perm_un {α : Type} {a d : α} {A B F : List α} : (d :: a :: (A ++ (B ++ F))).Perm (a :: (A ++ (B ++ (d :: F)))) :=
  (List.Perm.swap ..).trans (List.Perm.cons _ (((List.Perm.append_left _ List.perm_middle).trans List.perm_middle).symm))
theorem pairs_T {H : Hp} : ∀ Ts : List (Addr × FRow), (∀ q ∈ Ts, H q.1 = some (.tup [.str q.2.1, .ref q.2.2.1])) → Paired (fun p kv => SqT K H p [kV kv.1, kv.2]) (Ts.map (·.1)) (kvO (Ts.map (·.2)))
  | [], _ => .nil
  | q :: Ts, h => .cons (.inl (.inl (h q (List.mem_cons_self ..)))) (pairs_T Ts fun r hr => h r (List.mem_cons_of_mem _ hr))
theorem merge_kvO : ∀ (rs pre : List FRow), ((pre ++ rs).map (·.1)).Nodup → mergeK (kvO pre) (kvO rs) = kvO (pre ++ rs)
  | [], pre, _ => by rw [List.append_nil]; rfl
  | r :: rs, pre, h => by
    have hn : r.1 ∉ pre.map (·.1) := fun z => by
      rw [List.map_append, List.nodup_append] at h
      exact h.2.2 _ z _ (List.mem_cons_self ..) rfl
    have e : mergeK (kvO pre) (kvO (r :: rs)) = mergeK (putK (kvO pre) (.inr r.1) (.ref r.2.1)) (kvO rs) := rfl
    rw [e, ← kvO_put pre r.1 r.2.1 r.2.2, putR_new hn, merge_kvO rs _ (by rw [List.append_assoc]; exact h), List.append_assoc]
    rfl
def sp_law_deed_done (K : Frag) : Sp := fun vs H Q E => vs.length = 2 ∧ ∃ (F : List (Addr × HO)) (G : List Ft) (d : Addr) (rs : List FRow) (fs : Fl) (v : V) (e : Dd), vs = [.ref d, v] ∧ Sy K (fB d rs ++ F) (.dat [v] [e.d] :: G) H ∧ RowsOf rs fs ∧ (rs.map (·.1)).Nodup ∧ rs.length < 1000 ∧ (∀ r ∈ rs, r.2.2.length < 50000) ∧
  ∀ d2 rs2 H', RowsOf rs2 (doF fs e) → (rs2.map (·.1)).Nodup → Sy K (fB d2 rs2 ++ (fB d rs ++ F)) (.dat [v] [e.d] :: G) H' → Q (.ref d2) H'
abbrev names_law_deed_done : List Str := ["files", "deed", "found", "name", "lines"]
theorem sc_law_deed_done : FnScope names_law_deed_done ["files", "deed"] (defScope (top 48)) := ⟨rfl, rfl, rfl, by decide +kernel, rfl, by decide +kernel, by decide +kernel⟩
set_option maxHeartbeats 4000000 in
theorem ok_law_deed_done (T : Tx K mg) : FG P w K mg base CX0 1 T.a_law_deed_done T.d_law_deed_done ["files", "deed"] (sp_law_deed_done K) := by
  refine OB.Fun.fg T.F_law_deed_done sc_law_deed_done (fun vs H Q E h => h.1) (fun cdv A out s H vs Q E g h => ?_)
  obtain ⟨_, F, G, d, rs, fs, v, e, rfl, S, hR, nd, hl, hll, k⟩ := h
  refine ⟨_, (pss_cons (ps_set (i := 2) sc_law_deed_done.nd rfl (by first | exact Or.inl rfl | exact Or.inr rfl) (pe_callTy (call_dictP rfl) (by rfl) T.n_dict (by decide +kernel) (pa_cons (pe_lock (pe_lc (own := [("name", 3), ("lines", 4)]) (tt := tYes) rfl sc_law_deed_done.nd (pi_items (pv 0)) (blkOk_by (N := names_law_deed_done) (sc := defScope (top 48)) (own := [("name", 3), ("lines", 4)]) (by decide +kernel)) (fun _ _ _ _ _ => (pg_tupK (K := K) rfl (n := 2) rfl (pgs_cons (pg_name (i := 3) sc_law_deed_done.nd rfl (by first | exact Or.inl rfl | exact Or.inr rfl)) (pgs_cons (pg_name (i := 4) sc_law_deed_done.nd rfl (by first | exact Or.inl rfl | exact Or.inr rfl)) pgs_nil)))) (fun _ _ _ _ _ => pts_nil) (fun _ _ _ _ _ => (pe_tup (pa_cons (pv 3) (pa_cons (pe_callTy (toK (r := rList) (K := K) rfl c_list) (by rfl) T.n_list (by decide +kernel) (pa_cons (pv 4) pa_nil)) pa_nil)))))) pa_nil)))
      (pss_cons (ps_if (pt_cmpR op_eq (pe_ix (ix_UK (K := K) rfl) (pv 1) pe_int (fun _ _ => rfl)) pe_str (nomark _)) (pss_one (ps_asg (pe_op op_cat (pe_bm PySem.F.plainAttrs_dict PySem.F.slot_dict_get PySem.F.type_dict_get (mt_getK g.hu1) (pv 2) (pa_cons (pe_ix (ix_UK (K := K) rfl) (pv 1) pe_int (fun _ _ => rfl)) (pa_cons (pe_lst pa_nil) pa_nil))) (pe_lst (pa_cons (pe_ix (ix_UK (K := K) rfl) (pv 1) pe_int (fun _ _ => rfl)) pa_nil))) (pg_sub (pv 2) (pe_ix (ix_UK (K := K) rfl) (pv 1) pe_int (fun _ _ => rfl)) (set_dict g.hu1)))) pss_nil)
      (pss_cons (ps_if (pt_cmpR op_eq (pe_ix (ix_UK (K := K) rfl) (pv 1) pe_int (fun _ _ => rfl)) pe_str (nomark _)) (pss_one (ps_asg (pe_callTy (toK (r := rList) (K := K) rfl c_list) (by rfl) T.n_list (by decide +kernel) (pa_cons (pe_ix (ix_UK (K := K) rfl) (pv 1) pe_int (fun _ _ => rfl)) pa_nil)) (pg_sub (pv 2) (pe_ix (ix_UK (K := K) rfl) (pv 1) pe_int (fun _ _ => rfl)) (set_dict g.hu1)))) pss_nil)
      (pss_one (ps_ret (pv 2)))))), ?_⟩
  refine g_start (σ := [some _, some _, none, none, none]) rfl ?_
  repeat walk_at "ob"
  refine g_lockE S (i := 0) rfl fun od H1 S1 => ?_
  have S2 : Sy K ((d, .frz od (.dK (kvO rs))) :: (fL rs ++ F)) (.dat [v] [e.d] :: G) H1 := S1
  clear S1
  refine g_lcIV (d := d) (od := od) (fun j F' vs => ∃ Ts : List (Addr × FRow), F' = Ts.map (fun q => (q.1, HO.tup [.str q.2.1, .ref q.2.2.1])) ++ (fL (Ts.map (·.2)) ++ ((d, .frz od (.dK (kvO rs))) :: (fL rs ++ F))) ∧ vs = Ts.map (fun q => V.ref q.1) ∧ (Ts.map (·.2)).map (fun r => (r.1, r.2.2)) = (rs.take j).map (fun r => (r.1, r.2.2))) S2 (fun Q' q => by repeat walk_at "ob"; exact q) ⟨[], rfl, rfl, rfl⟩ (fun j F' vs H' ⟨Ts, hF, _, _⟩ S3 => S3.st _ (by rw [hF]; exact List.mem_append_right _ (List.mem_append_right _ (List.mem_cons_self ..)))) (fun j F' vs ⟨Ts, _, hv, he⟩ => by
    have := congrArg List.length he
    rw [List.length_map, List.length_map, List.length_map, List.length_take] at this
    rw [hv, List.length_map]
    omega) ?_ ?_
  · rintro j kk y hk Da T H3 F3 vs QE QR ⟨Ts, rfl, rfl, he⟩ hT S3 kE kR
    obtain ⟨r, hr, er⟩ : ∃ r, rs[j]? = some r ∧ (Sum.inr r.1, V.ref r.2.1) = (kk, y) := by
      unfold kvO at hk
      rw [List.getElem?_map] at hk
      obtain ⟨r, hr, e⟩ := Option.map_eq_some_iff.mp hk
      exact ⟨r, hr, e⟩
    cases er
    refine g_pair S3 hT fun H4 S4 => ?_
    repeat walk_at "ob"
    refine ⟨rfl, ?_⟩
    repeat ((fail_if_success (with_reducible refine atNewT ?_)); walk_at "ob")
    have hrow : H4 r.2.1 = some (.lst r.2.2) := S4.st _ (List.mem_cons_of_mem _ (List.mem_append_right _ (List.mem_append_right _ (List.mem_cons_of_mem _ (List.mem_append_left _ (List.mem_map.mpr ⟨r, List.mem_of_getElem? hr, rfl⟩))))))
    refine ⟨r.2.1, r.2.2, rfl, .inl (SqL.of hrow), fun l2 hl2 => ?_⟩
    have S5 := S4.push (o := .lst r.2.2) hl2
    repeat ((fail_if_success (with_reducible refine atNewT ?_)); walk_at "ob")
    refine ⟨Nat.le_of_ble_eq_true rfl, fun q hq => ?_⟩
    have S6 := S5.push (o := .tup [kV (.inr r.1), .ref l2]) hq
    refine kE (.ref q) _ _ ⟨Ts ++ [(q, (r.1, l2, r.2.2))], rfl, by rw [List.map_append]; rfl, ?_⟩ (S6.drop.perm ?_)
    · rw [List.map_append, List.map_append, he, List.take_add_one, hr, List.map_append]
      rfl
    · rw [List.map_append, List.map_append, show fL (Ts.map (·.2) ++ [(q, (r.1, l2, r.2.2))].map (·.2)) = fL (Ts.map (·.2)) ++ [(l2, HO.lst r.2.2)] by unfold fL; rw [List.map_append]; rfl]
      exact perm_dd
  rintro Dp H3 F3 vs hD ⟨Ts, rfl, rfl, he⟩ S3
  rw [kvO_len, List.take_length] at he
  have hnT : (Ts.map (·.2)).map (·.1) = rs.map (·.1) := by
    have := congrArg (fun l : List (Str × List V) => l.map (·.1)) he
    rw [List.map_map, List.map_map (l := rs)] at this
    exact this
  have hRT : RowsOf (Ts.map (·.2)) fs := he.trans hR
  have ndT : ((Ts.map (·.2)).map (·.1)).Nodup := by rw [hnT]; exact nd
  refine ⟨S3.st _ (List.mem_cons_of_mem _ (List.mem_append_right _ (List.mem_append_right _ (List.mem_cons_self ..)))), ?_⟩
  have S4 : Sy K ((d, .dK (kvO rs)) :: (Dp, .lst (Ts.map fun q => V.ref q.1)) :: (Ts.map (fun q => (q.1, HO.tup [.str q.2.1, .ref q.2.2.1])) ++ (fL (Ts.map (·.2)) ++ (fL rs ++ F)))) (.dat [v] [e.d] :: G) (upd H3 d (.dK (kvO rs))) :=
    (S3.perm (F' := (d, .frz od (.dK (kvO rs))) :: (Dp, .lst (Ts.map fun q => V.ref q.1)) :: (Ts.map (fun q => (q.1, HO.tup [.str q.2.1, .ref q.2.2.1])) ++ (fL (Ts.map (·.2)) ++ (fL rs ++ F)))) perm_un).put (o' := .dK (kvO rs)) 0 rfl rfl
  generalize upd H3 d (.dK (kvO rs)) = H4 at S4 ⊢
  clear S3 S2
  repeat walk_at "ob"
  refine ⟨Dp, Ts.map (·.1), kvO (Ts.map (·.2)), rfl, by rw [List.map_map]; exact SqL.of (S4.at 1 rfl), pairs_T Ts fun q hq => S4.st _ (List.mem_cons_of_mem _ (List.mem_cons_of_mem _ (List.mem_append_left _ (List.mem_map.mpr ⟨q, hq, rfl⟩)))), fun p hp => ?_⟩
  have mg0 := merge_kvO (Ts.map (·.2)) [] (by rw [List.nil_append]; exact ndT)
  rw [List.nil_append] at mg0
  have mg1 : mergeK [] (kvO (Ts.map (·.2))) = kvO (Ts.map (·.2)) := mg0
  rw [mg1]
  have S5 := S4.push (o := .dK (kvO (Ts.map (·.2)))) hp
  generalize upd H4 p (.dK (kvO (Ts.map (·.2)))) = H5 at S5 ⊢
  have S6 : Sy K (fB p (Ts.map (·.2)) ++ (fB d rs ++ F)) (.dat [v] [e.d] :: G) H5 :=
    (S5.to (F' := (p, .dK (kvO (Ts.map (·.2)))) :: (d, .dK (kvO rs)) :: (fL (Ts.map (·.2)) ++ (fL rs ++ F))) (.cons₂ _ (.cons₂ _ (.cons _ (List.sublist_append_of_sublist_right (.refl _))))) fun g hg => hg).perm (List.Perm.cons _ List.perm_middle)
  clear S4 S5
  generalize Ts.map (·.2) = rs2 at *
  obtain ⟨p8, xs8, rfl, hp8, hv8⟩ := Dd.opn (S6.dp 0 rfl)
  have f2 := FLat.of S6
  cases e with
  | syn =>
    have hv8 : xs8 = [.str "sync"] := hv8
    subst hv8
    have S7 := S6.add (.tq p8 [.str "sync"]) hp8
    clear S6
    repeat walk_at "ob"
    refine g_F (by decide +kernel) ?_
    repeat walk_at "ob"
    refine g_F (by decide +kernel) ?_
    repeat walk_at "ob"
    exact k p rs2 H5 hRT ndT S7.drop
  | add n l =>
    have hv8 : xs8 = [.str "add", .str n, .str l] := hv8
    subst hv8
    have S7 := S6.add (.tq p8 [.str "add", .str n, .str l]) hp8
    clear S6
    have hl2 : rs2.length < 1000 := by rw [hRT.len, ← hR.len]; exact hl
    repeat walk_at "ob"
    refine g_T (by decide +kernel) ?_
    repeat walk_at "ob"
    refine g_tyd (S7.at 0 rfl) ?_
    repeat walk_at "ob"
    rename_i z H6 _ S8
    refine g_getS (.inl (S8.at 1 rfl)) ?_
    rw [valV_kvO]
    obtain ⟨a0, ea, ha⟩ : ∃ a0, ((frOf rs2 n).map fun r => V.ref r.2.1).getD (.ref z) = .ref a0 ∧ (a0, HO.lst ((lnsOf fs n).map V.str)) ∈ (z, HO.lst []) :: (fB p rs2 ++ (fB d rs ++ F)) := by
      cases hr : frOf rs2 n with
      | none =>
        refine ⟨z, rfl, ?_⟩
        rw [(lnsOf_none hRT hr).1]
        exact List.mem_cons_self ..
      | some r =>
        refine ⟨r.2.1, rfl, ?_⟩
        rw [← hRT.row hr]
        exact List.mem_cons_of_mem _ (List.mem_cons_of_mem _ (List.mem_append_left _ (List.mem_map.mpr ⟨r, (frOf_some hr).1, rfl⟩)))
    rw [ea]
    have hlb : (lnsOf fs n).length < 50000 := by
      rcases lns_in (fs := fs) (n := n) with e | ⟨f, hf, e⟩
      · rw [e]
        decide
      · have : (f.1, f.2.map V.str) ∈ fs.map fun f => (f.1, f.2.map V.str) := List.mem_map.mpr ⟨f, hf, rfl⟩
        rw [← hR] at this
        obtain ⟨r, hr, er⟩ := List.mem_map.mp this
        have h5 := hll r hr
        rw [(Prod.mk.inj er).2, List.length_map] at h5
        rw [← e]
        exact h5
    repeat walk_at "ob"
    rename_i z2 H7 _ S9
    refine ⟨a0, z2, _, _, rfl, rfl, S9.st _ (List.mem_cons_of_mem _ ha), S9.at 0 rfl, by rw [List.length_map]; exact Nat.le_trans (show _ + 1 ≤ 100000 by omega) (by decide), fun p9 hp9 => ?_⟩
    have S10 := S9.push (o := .lst ((lnsOf fs n).map V.str ++ [.str l])) hp9
    generalize upd H7 p9 (.lst ((lnsOf fs n).map V.str ++ [.str l])) = H8 at S10 ⊢
    rw [show (lnsOf fs n).map V.str ++ [V.str l] = (lnsOf fs n ++ [l]).map V.str by rw [List.map_append]; rfl] at S10
    have S11 := S10.swap.less.swap.less
    clear S7 S8 S9 S10
    repeat walk_at "ob"
    refine ⟨p, _, rfl, .inl ⟨kvO rs2, .inr n, S11.at 1 rfl, rfl, by rw [kvO_len]; exact Nat.lt_of_lt_of_le hl2 (by decide), rfl⟩, ?_⟩
    have S12 := S11.putR (n := n) ndT
    generalize upd H8 p (.dK (putK (kvO rs2) (.inr n) (.ref p9))) = H9 at S12 ⊢
    clear S11
    repeat walk_at "ob"
    refine g_F (by decide +kernel) ?_
    repeat walk_at "ob"
    exact k p _ H9 (hRT.put n p9 (lnsOf fs n ++ [l])) (putR_nodup ndT) S12.drop
  | lay n ls =>
    obtain ⟨q, hx, hq⟩ := hv8
    subst hx
    have S7 := (S6.add (.tq q (ls.map V.str)) hq).add (.tq p8 [.str "lay", .str n, .ref q]) hp8
    clear S6
    have hl2 : rs2.length < 1000 := by rw [hRT.len, ← hR.len]; exact hl
    repeat walk_at "ob"
    refine g_F (by decide +kernel) ?_
    repeat walk_at "ob"
    refine g_T (by decide +kernel) ?_
    repeat walk_at "ob"
    refine ⟨q, _, rfl, .inr (S7.tqs 1 rfl), fun p9 hp9 => ?_⟩
    have S11 := S7.push (o := .lst (ls.map V.str)) hp9
    generalize upd H5 p9 (.lst (ls.map V.str)) = H8 at S11 ⊢
    clear S7
    repeat walk_at "ob"
    refine ⟨p, _, rfl, .inl ⟨kvO rs2, .inr n, S11.at 1 rfl, rfl, by rw [kvO_len]; exact Nat.lt_of_lt_of_le hl2 (by decide), rfl⟩, ?_⟩
    have S12 := S11.putR (n := n) ndT
    generalize upd H8 p (.dK (putK (kvO rs2) (.inr n) (.ref p9))) = H9 at S12 ⊢
    clear S11
    repeat walk_at "ob"
    exact k p _ H9 (hRT.put n p9 ls) (putR_nodup ndT) S12.drop.drop
end
end LAW

set_option Elab.async false
set_option linter.all false
set_option maxRecDepth 100000
namespace LAW
open PySem PySem.Spec PyProof.Rows L2 PySem.W OB
local macro_rules | `(tactic| walk_at "obc") => `(tactic| first
  | exact Or.inl ⟨by omega, by omega⟩
  | exact Or.inr ⟨by omega, by omega⟩
  | exact cdiv_ok (by omega) (by omega)
  | (show (0 : Int) < _; omega)
  | exact ⟨by omega, by decide⟩
  | exact ⟨by decide, by decide⟩)
local macro_rules | `(tactic| walk_at "obat") => `(tactic| first
  | exact Sy.at (by assumption) 0 rfl | exact Sy.at (by assumption) 1 rfl | exact Sy.at (by assumption) 2 rfl | exact Sy.at (by assumption) 3 rfl
  | exact Sy.at (by assumption) 4 rfl | exact Sy.at (by assumption) 5 rfl | exact Sy.at (by assumption) 6 rfl | exact Sy.at (by assumption) _ (by assumption) | exact Sy.at (by assumption) (_ + 1) (by assumption) | exact Sy.at (by assumption) (_ + 2) (by assumption))
local macro_rules | `(tactic| walk_at "obt") => `(tactic| first
  | exact Sy.tqs (by assumption) 0 rfl | exact Sy.tqs (by assumption) 1 rfl | exact Sy.tqs (by assumption) 2 rfl | exact Sy.tqs (by assumption) 3 rfl | exact Sy.tqs (by assumption) 4 rfl | exact Sy.tqs (by assumption) 5 rfl
  | exact Sy.tqs (by assumption) 6 rfl | exact Sy.tqs (by assumption) 7 rfl | assumption)
local macro_rules | `(tactic| walk_at "obl") => `(tactic| first
  | exact SqL.of (by walk_at "obat")
  | exact Sy.sq (by assumption) 0 rfl | exact Sy.sq (by assumption) 1 rfl | exact Sy.sq (by assumption) 2 rfl | exact Sy.sq (by assumption) 3 rfl | exact Sy.sq (by assumption) _ (by assumption))
local macro_rules | `(tactic| walk_at "obd") => `(tactic| first
  | exact Dp.int _ | exact Dp.bl _ | exact Dp.str _ | exact Dp.non
  | exact Sy.dp (by assumption) 0 rfl | exact Sy.dp (by assumption) 1 rfl | exact Sy.dp (by assumption) 2 rfl | exact Sy.dp (by assumption) 3 rfl
  | exact Sy.dp (by assumption) 4 rfl | exact Sy.dp (by assumption) 5 rfl | exact Sy.dp (by assumption) 6 rfl | exact Sy.dp (by assumption) 7 rfl
  | exact Sy.dp (by assumption) 8 rfl | exact Sy.dp (by assumption) 9 rfl | exact Sy.dp (by assumption) _ (by assumption) | assumption)
local macro_rules | `(tactic| walk_at "obds") => `(tactic| first
  | exact DpAll.nil
  | (refine' DpAll.cons ?ob1 ?ob2; (case ob1 => walk_at "obd"); (case ob2 => walk_at "obds"))
  | exact Sy.dps (by assumption) 0 rfl | exact Sy.dps (by assumption) 1 rfl | exact Sy.dps (by assumption) 2 rfl | exact Sy.dps (by assumption) 3 rfl | assumption)
local macro_rules | `(tactic| walk_at "obsc") => `(tactic| first
  | exact ScL.nil
  | ((first | refine' ScL.int ?obz | refine' ScL.str ?obz | refine' ScL.bl ?obz | refine' ScL.non ?obz); (case obz => walk_at "obsc")))
local macro_rules | `(tactic| walk_at "ob1") => `(tactic| first
  | ((with_reducible refine' g_var ?obh ?_); (case obh => rfl))
  | with_reducible refine g_c ?_
  | with_reducible refine g_nx ?_
  | with_reducible refine g_rt ?_
  | with_reducible refine g_bk ?_
  | with_reducible refine g_ct ?_
  | with_reducible refine g_op ?_
  | with_reducible refine g_I0 ?_
  | with_reducible refine g_test ?_
  | with_reducible refine g_bl ?_
  | with_reducible refine g_blx ?_
  | with_reducible refine g_B ?_
  | with_reducible refine g_seq ?_
  | with_reducible refine g_asg ?_
  | with_reducible refine g_name ?_
  | with_reducible refine g_ifS ?_
  | with_reducible refine g_ret ?_
  | with_reducible refine g_cb ?_
  | with_reducible refine g_cons ?_
  | with_reducible refine g_nil ?_
  | with_reducible refine g_int ?_
  | with_reducible refine g_intB ?_
  | with_reducible refine g_abs ?_
  | with_reducible refine g_max ?_
  | with_reducible refine g_min ?_
  | with_reducible refine g_un ?_
  | with_reducible refine g_U ?_
  | with_reducible refine g_eqI ?_
  | with_reducible refine g_neI ?_
  | with_reducible refine g_eqS ?_
  | with_reducible refine g_neS ?_
  | with_reducible refine g_tt ?_
  | with_reducible refine g_ff ?_
  | with_reducible refine g_next ?_
  | with_reducible refine g_drop ?_
  | with_reducible refine g_if ?_
  | with_reducible refine g_andV ?_
  | with_reducible refine g_orV ?_
  | with_reducible refine g_notV ?_
  | with_reducible refine g_and ?_
  | with_reducible refine g_or ?_
  | with_reducible refine g_not ?_
  | with_reducible refine g_yes ?_
  | with_reducible refine g_chain ?_
  | with_reducible refine g_cg ?_
  | with_reducible refine g_mg ?_
  | with_reducible refine g_kg ?_
  | with_reducible refine g_pg ?_
  | ((with_reducible refine' g_call ?obh ?obj ?_); (case obh => rfl); (case obj => rfl))
  | with_reducible refine g_par ?_
  | with_reducible refine g_par2 ?_
  | with_reducible refine g_par3 ?_
  | with_reducible refine g_par33 ?_
  | with_reducible refine g_gnil ?_
  | with_reducible refine g_gcons ?_
  | with_reducible refine g_gsub ?_
  | with_reducible refine g_ipI ?_
  | with_reducible refine g_rAdd ?_
  | with_reducible refine g_rSub ?_
  | ((with_reducible refine' g_aug ?obh ?_); (case obh => rfl))
  | with_reducible refine g_tup ?_
  | with_reducible refine g_lst ?_
  | with_reducible refine g_bm ?_
  | with_reducible refine g_bm0 ?_
  | with_reducible refine g_sl ?_
  | with_reducible refine g_nopart ?_
  | with_reducible refine g_part ?_
  | with_reducible refine g_pint ?_
  | with_reducible refine isi_int ?_
  | with_reducible refine isi_intB ?_
  | ((with_reducible refine' g_I ?obh ?_); (case obh => walk_at "obc"))
  | ((with_reducible refine' g_tyl ?obh ?_); (case obh => walk_at "obl"))
  | ((with_reducible refine' g_lenL ?obh ?_); (case obh => walk_at "obl"))
  | with_reducible refine g_ne ?_
  | ((with_reducible refine' g_neN' ?obh ?_); (case obh => rfl))
  | with_reducible refine g_ntt ?_
  | with_reducible refine g_nff ?_
  | with_reducible refine g_star ?_
  | with_reducible refine g_att ?_
  | with_reducible refine g_sfld ?_
  | with_reducible refine g_faug ?_
  | with_reducible refine g_fld ?_
  | ((with_reducible refine' g_nF ?obh ?_); (case obh => omega))
  | ((with_reducible refine' g_nT ?obh ?_); (case obh => omega))
  | ((with_reducible refine' g_TD ?obh ?_); (case obh => omega))
  | ((with_reducible refine' g_FD ?obh ?_); (case obh => omega))
  | ((with_reducible refine' g_ixUL ?obh ?obi ?_); (case obh => walk_at "obl"); (case obi => exact atI_nn (by omega) (by rfl)))
  | ((with_reducible refine' g_setLS ?obs ?obh ?obi ?_); (case obs => assumption); (case obh => assumption); (case obi => rfl); intro _ _ _)
  | ((with_reducible refine' g_newT ?obs ?obh ?obi ?obj ?_); (case obs => assumption); (case obh => walk_at "obds"); (case obi => rfl); (case obj => exact Nat.le_of_ble_eq_true rfl); intro _ _ _ _)
  | ((with_reducible refine' g_newL ?obs ?obj ?_); (case obs => assumption); (case obj => exact Nat.le_of_ble_eq_true rfl); intro _ _ _ _)
  | ((with_reducible refine' isi_tup ?obh ?_); (case obh => walk_at "obt"))
  | ((with_reducible refine' g_lenT ?obh ?_); (case obh => walk_at "obt"))
  | ((with_reducible refine' g_unpT ?obh ?obi ?_); (case obh => walk_at "obt"); (case obi => rfl))
  | ((with_reducible refine' g_divmod ?obs ?obh ?_); (case obs => assumption); (case obh => exact cdivp_ok (by omega) (by omega) (by omega)); intro _ _ _ _)
  | ((with_reducible refine' g_unpD ?obh ?obi ?obj ?_); (case obh => walk_at "obd"); (case obi => walk_at "obsc"); (case obj => rfl))
  | with_reducible refine g_att ?_)
local macro_rules | `(tactic| walk_at "ob") => `(tactic| first
  | walk_at "ob1"
  | refine use_is_integer ?_
  | refine use_is_within ?_
  | with_reducible refine g_lstRg ?_
  | with_reducible refine g_rg1 ?_
  | with_reducible refine g_rg2 ?_
  | with_reducible refine g_tTru ?_
  | ((with_reducible refine' g_truL ?obh ?_); (case obh => walk_at "obl"))
  | ((with_reducible refine' g_ixUT ?obh ?obi ?_); (case obh => walk_at "obt"); (case obi => rfl))
  | with_reducible refine g_forZ ?_
  | with_reducible refine g_forR2 ?_
  | with_reducible refine g_forE ?_
  | with_reducible refine g_lcZ ?_)
local macro_rules | `(tactic| walk_at "ob") => `(tactic| first
  | ((with_reducible refine' g_fldS ?obh ?obc ?obn ?obe ?_); (case obh => walk_at "obat"); (case obc => exact ShC.c (by assumption)); (case obn => first | exact ShC.n1 (by assumption) | exact ShC.n2 (by assumption)); (case obe => rfl)))
section
variable {P : Program} {w : World} {K : Frag} {mg : Str → Option Value} {base : Heap}
theorem deed_imm (e : Dd) : imm e.d = true := by
  cases e with
  | add n l => rfl
  | lay n ls =>
    show (true && (true && (immAll (ls.map PyData.str) && true))) = true
    rw [strs_imm]
    rfl
  | syn => rfl
theorem deeds_imm (es : List Dd) : immAll (es.map Dd.d) = true := immAll_of fun x hx => by
  obtain ⟨e, _, rfl⟩ := List.mem_map.mp hx
  exact deed_imm e
def sp_law_files_behind (K : Frag) : Sp := fun vs H Q E => vs.length = 2 ∧ ∃ (F : List (Addr × HO)) (G : List Ft) (d a : Addr) (rs : List FRow) (fs : Fl) (dv : List V) (es : List Dd) (N : List Str), vs = [.ref d, .ref a] ∧ Sy K (fB d rs ++ F) (.dat dv (es.map Dd.d) :: G) H ∧ (∀ G' H', Sy K (fB d rs ++ F) G' H' → SqL K H' a dv) ∧ RowsOf rs fs ∧ Good N 10 fs ∧ N.length < 40 ∧ (∀ e ∈ es, DdOk N e) ∧ es.length ≤ 500 ∧
  ∀ d2 rs2 Fx H', RowsOf rs2 (es.foldl doF fs) → (∀ G' H'', Sy K (Fx ++ (fB d rs ++ F)) G' H'' → FLat H'' d2 rs2) → Sy K (Fx ++ (fB d rs ++ F)) (.dat dv (es.map Dd.d) :: G) H' → Q (.ref d2) H'
abbrev names_law_files_behind : List Str := ["files", "deeds", "deed"]
theorem sc_law_files_behind : FnScope names_law_files_behind ["files", "deeds"] (defScope (top 49)) := ⟨rfl, rfl, rfl, by decide +kernel, rfl, by decide +kernel, by decide +kernel⟩
set_option maxHeartbeats 4000000 in
theorem ok_law_files_behind (T : Tx K mg) : FG P w K mg base CX0 2 T.a_law_files_behind T.d_law_files_behind ["files", "deeds"] (sp_law_files_behind K) := by
  refine OB.Fun.fg T.F_law_files_behind sc_law_files_behind (fun vs H Q E h => h.1) (fun cdv A out s H vs Q E g h => ?_)
  obtain ⟨_, F, G, d, a, rs, fs, dv, es, N, rfl, S, hA, hR, gd, hNl, hes, hel, k⟩ := h
  refine ⟨_, (pss_cons (ps_for PassesOwn.never rfl (pi_seq (pv 1)) (pg_name (i := 2) sc_law_files_behind.nd rfl (by first | exact Or.inl rfl | exact Or.inr rfl))
      (pss_one (ps_set (i := 0) sc_law_files_behind.nd rfl (by first | exact Or.inl rfl | exact Or.inr rfl) (pe_cg (ok_law_deed_done T) (g.mono (by decide : 1 ≤ 1)) (by rfl) T.m_law_deed_done T.F_law_deed_done.kp (OB.Fun.bd T.F_law_deed_done (ps := ["files", "deed"]) (n := 2) (ks := []) (ix := [0, 1]) (fun _ _ _ _ _ _ us ws h1 h2 => match us, ws, h1, h2 with | [_, _], [], _, _ => rfl)) pass0 (pa_cons (pv 0) (pa_cons (pv 2) pa_nil)) pk_nil))))
      (pss_one (ps_ret (pv 0)))), ?_⟩
  refine g_start (σ := [some _, some _, none]) rfl ?_
  have hdl := dps_length (S.dps 0 rfl)
  rw [List.length_map] at hdl
  repeat walk_at "ob"
  refine g_forS (a := a) (xs := dv) true (fun i σ' H' => ∃ di rsi F' Fx v2, σ' = [some (.ref di), some (.ref a), v2] ∧ RowsOf rsi ((es.take i).foldl doF fs) ∧ fB di rsi ++ F' = Fx ++ (fB d rs ++ F) ∧ Sy K (fB di rsi ++ F') (.dat dv (es.map Dd.d) :: G) H') (fun Q' q => by repeat walk_at "ob"; exact q) ⟨d, rs, F, [], none, rfl, hR, rfl, S⟩ (fun i σ' H' ⟨_, _, _, Fx, _, _, _, hb, S4⟩ => hA _ _ (Sy.tail (A := Fx) (hb ▸ S4))) ?_ ?_
  · rintro i x σ' H' hx ⟨di, rsi, F', Fx, v2, rfl, hRi, hb, S3⟩
    obtain ⟨e, he, hed⟩ := dps_map (S3.dps 0 rfl) hx
    have st : (es.take (i + 1)).foldl doF fs = doF ((es.take i).foldl doF fs) e := by
      rw [List.take_add_one, he, List.foldl_append]
      rfl
    have hie := (List.getElem?_eq_some_iff.mp he).1
    have hgw := (good_fold hes gd i).shW hNl (by omega) hRi
    repeat walk_at "ob"
    refine ⟨rfl, F', _, di, rsi, _, x, e, rfl, S3.fact (dps_one hed) (by show (imm e.d && true) = true; rw [deed_imm]; rfl), hRi, hgw.nd, by have := hgw.hl; omega, fun r hr => by have := hgw.ll r hr; omega, fun d2 rs2 H4 hR2 nd2 S4 => ?_⟩
    rw [← st] at hR2
    repeat walk_at "ob"
    exact ⟨d2, rs2, fB di rsi ++ F', fB d2 rs2 ++ Fx, _, rfl, hR2, by rw [hb, List.append_assoc], S4.drop⟩
  · rintro σ' H' ⟨di, rsi, F', Fx, v2, rfl, hRi, hb, S3⟩
    rw [hdl, List.take_length] at hRi
    repeat walk_at "ob"
    exact k di rsi Fx H' hRi (fun G' H'' S' => FLat.of (F := F') (hb ▸ S')) (hb ▸ S3)
def sp_law_is_done_right (K : Frag) (C : Addr) : Sp := fun vs H Q E => vs.length = 2 ∧ ∃ (F : List (Addr × HO)) (G : List Ft) (s dx d l : Addr) (lv : List V) (rs : List FRow) (fs : Fl) (es : List Dd) (v : V) (e : Dd) (N : List Str), vs = [.ref s, v] ∧ Sy K (shB s C dx d l lv rs ++ F) (.dat lv (es.map Dd.d) :: .dat [v] [e.d] :: G) H ∧ ShC K C ∧ ShW rs fs ∧ es.length ≤ 1000 ∧ (∀ n ∈ N, NmOk n) ∧ DdOk N e ∧
  ∀ rs' v' H', RowsOf rs' (doF fs e) → Sy K (shB s C dx d l (lv ++ [v']) rs' ++ F) (.dat (lv ++ [v']) ((es ++ [e]).map Dd.d) :: .dat [v] [e.d] :: G) H' → Q (.bl true) H'
abbrev names_law_is_done_right : List Str := ["shelf", "deed"]
theorem sc_law_is_done_right : FnScope names_law_is_done_right ["shelf", "deed"] (defScope (top 50)) := ⟨rfl, rfl, rfl, by decide +kernel, rfl, by decide +kernel, by decide +kernel⟩
set_option maxHeartbeats 4000000 in
theorem ok_law_is_done_right (T : Tx K mg) : FG P w K mg base CX0 6 T.a_law_is_done_right T.d_law_is_done_right ["shelf", "deed"] (sp_law_is_done_right K T.a_Shelf) := by
  refine OB.Fun.fg T.F_law_is_done_right sc_law_is_done_right (fun vs H Q E h => h.1) (fun cdv A out s H vs Q E g h => ?_)
  obtain ⟨_, F, G, s', dx, d, l, lv, rs, fs, es, v, e, N, rfl, S, hc, hw, hel, hN, hok, k⟩ := h
  refine ⟨_, (pss_cons (ps_if (pt_cmpR op_eq (pe_ix (ix_UK (K := K) rfl) (pv 1) pe_int (fun _ _ => rfl)) pe_str (nomark _)) (pss_one (ps_ret (pe_cmpR op_isN (pe_mg0 (pv 0) T.c_Shelf T.me_Shelf_add (ok_Shelf_add T) (g.mono (by decide : 5 ≤ 5)) (OB.Fun.bd T.F_Shelf_add (ps := ["self", "file", "line"]) (n := 1) (ks := ["line", "file"]) (ix := [0, 2, 1]) (fun _ _ _ _ _ _ us ws h1 h2 => match us, ws, h1, h2 with | [_], [_, _], _, _ => rfl)) pass0 (pk_cons (pe_ix (ix_UK (K := K) rfl) (pv 1) pe_int (fun _ _ => rfl)) (pk_cons (pe_ix (ix_UK (K := K) rfl) (pv 1) pe_int (fun _ _ => rfl)) pk_nil))) pe_non (nomark _)))) pss_nil)
      (pss_cons (ps_if (pt_cmpR op_eq (pe_ix (ix_UK (K := K) rfl) (pv 1) pe_int (fun _ _ => rfl)) pe_str (nomark _)) (pss_one (ps_ret (pe_cmpR op_isN (pe_mg0 (pv 0) T.c_Shelf T.me_Shelf_lay (ok_Shelf_lay T) (g.mono (by decide : 5 ≤ 5)) (OB.Fun.bd T.F_Shelf_lay (ps := ["self", "file", "lines"]) (n := 1) (ks := ["lines", "file"]) (ix := [0, 2, 1]) (fun _ _ _ _ _ _ us ws h1 h2 => match us, ws, h1, h2 with | [_], [_, _], _, _ => rfl)) pass0 (pk_cons (pe_ix (ix_UK (K := K) rfl) (pv 1) pe_int (fun _ _ => rfl)) (pk_cons (pe_ix (ix_UK (K := K) rfl) (pv 1) pe_int (fun _ _ => rfl)) pk_nil))) pe_non (nomark _)))) pss_nil)
      (pss_one (ps_ret (pe_cmpR op_isN (pe_mg0 (pv 0) T.c_Shelf T.me_Shelf_sync (ok_Shelf_sync T) (g.mono (by decide : 5 ≤ 5)) (OB.Fun.bd T.F_Shelf_sync (ps := ["self"]) (n := 1) (ks := []) (ix := [0]) (fun _ _ _ _ _ _ us ws h1 h2 => match us, ws, h1, h2 with | [_], [], _, _ => rfl)) pass0 pk_nil) pe_non (nomark _)))))), ?_⟩
  refine g_start (σ := [some _, some _]) rfl ?_
  obtain ⟨p, xs, rfl, hp, hx⟩ := Dd.opn (S.dp 1 rfl)
  cases e with
  | add n z =>
    have hx : xs = [.str "add", .str n, .str z] := hx
    subst hx
    have S1 := S.add (.tq p [.str "add", .str n, .str z]) hp
    repeat walk_at "ob"
    refine g_T (by decide +kernel) ?_
    repeat walk_at "ob"
    refine ⟨s', _, _, rfl, S.at 0 rfl, rfl, ?_⟩
    repeat walk_at "ob"
    refine ⟨rfl, F, _, s', dx, d, l, lv, rs, fs, es, n, z, rfl, S, hc, hw, hel, hN n hok.1, hok.2, fun rs' v' H2 hR' nd' S2 => ?_⟩
    repeat walk_at "ob"
    refine ⟨rfl, ?_⟩
    rw [decide_eq_true (show V.non = V.non from rfl)]
    exact k rs' v' H2 hR' S2
  | lay n ls =>
    obtain ⟨q, hx, hq⟩ := hx
    subst hx
    have S1 := S.add (.tq p [.str "lay", .str n, .ref q]) hp
    repeat walk_at "ob"
    refine g_F (by decide +kernel) ?_
    repeat walk_at "ob"
    refine g_T (by decide +kernel) ?_
    repeat walk_at "ob"
    refine ⟨s', _, _, rfl, S.at 0 rfl, rfl, ?_⟩
    repeat walk_at "ob"
    have S2 := S.fact (dps_one (L2.Dp.tup hq (dps_strs ls))) (by show (immAll (ls.map PyData.str) && true) = true; rw [strs_imm]; rfl)
    refine ⟨rfl, F, _, s', dx, d, l, lv, rs, fs, es, n, ls, _, rfl, S2, hc, hw, hel, hN n hok.1, hok.2.1, by have := hok.2.2; omega, fun rs' v' H2 hR' nd' S3 => ?_⟩
    repeat walk_at "ob"
    refine ⟨rfl, ?_⟩
    rw [decide_eq_true (show V.non = V.non from rfl)]
    exact k rs' v' H2 hR' S3
  | syn =>
    have hx : xs = [.str "sync"] := hx
    subst hx
    have S1 := S.add (.tq p [.str "sync"]) hp
    repeat walk_at "ob"
    refine g_F (by decide +kernel) ?_
    repeat walk_at "ob"
    refine g_F (by decide +kernel) ?_
    repeat walk_at "ob"
    refine ⟨s', _, _, rfl, S.at 0 rfl, rfl, ?_⟩
    repeat walk_at "ob"
    refine ⟨rfl, F, _, s', dx, d, l, lv, rs, fs, es, rfl, S, hc, hw, hel, fun rs' v' H2 hR' nd' S3 => ?_⟩
    repeat walk_at "ob"
    refine ⟨rfl, ?_⟩
    rw [decide_eq_true (show V.non = V.non from rfl)]
    exact k rs' v' H2 hR' S3
end
end LAW

set_option Elab.async false
set_option linter.all false
set_option maxRecDepth 100000
namespace LAW
open PySem PySem.Spec PyProof.Rows L2 PySem.W OB
local macro_rules | `(tactic| walk_at "obc") => `(tactic| first
  | exact Or.inl ⟨by omega, by omega⟩
  | exact Or.inr ⟨by omega, by omega⟩
  | exact cdiv_ok (by omega) (by omega)
  | (show (0 : Int) < _; omega)
  | exact ⟨by omega, by decide⟩
  | exact ⟨by decide, by decide⟩)
local macro_rules | `(tactic| walk_at "obat") => `(tactic| first
  | exact Sy.at (by assumption) 0 rfl | exact Sy.at (by assumption) 1 rfl | exact Sy.at (by assumption) 2 rfl | exact Sy.at (by assumption) 3 rfl
  | exact Sy.at (by assumption) 4 rfl | exact Sy.at (by assumption) 5 rfl | exact Sy.at (by assumption) 6 rfl | exact Sy.at (by assumption) _ (by assumption) | exact Sy.at (by assumption) (_ + 1) (by assumption) | exact Sy.at (by assumption) (_ + 2) (by assumption))
local macro_rules | `(tactic| walk_at "obt") => `(tactic| first
  | exact Sy.tqs (by assumption) 0 rfl | exact Sy.tqs (by assumption) 1 rfl | exact Sy.tqs (by assumption) 2 rfl | exact Sy.tqs (by assumption) 3 rfl | exact Sy.tqs (by assumption) 4 rfl | exact Sy.tqs (by assumption) 5 rfl
  | exact Sy.tqs (by assumption) 6 rfl | exact Sy.tqs (by assumption) 7 rfl | assumption)
local macro_rules | `(tactic| walk_at "obl") => `(tactic| first
  | exact SqL.of (by walk_at "obat")
  | exact Sy.sq (by assumption) 0 rfl | exact Sy.sq (by assumption) 1 rfl | exact Sy.sq (by assumption) 2 rfl | exact Sy.sq (by assumption) 3 rfl | exact Sy.sq (by assumption) _ (by assumption))
local macro_rules | `(tactic| walk_at "obd") => `(tactic| first
  | exact Dp.int _ | exact Dp.bl _ | exact Dp.str _ | exact Dp.non
  | exact Sy.dp (by assumption) 0 rfl | exact Sy.dp (by assumption) 1 rfl | exact Sy.dp (by assumption) 2 rfl | exact Sy.dp (by assumption) 3 rfl
  | exact Sy.dp (by assumption) 4 rfl | exact Sy.dp (by assumption) 5 rfl | exact Sy.dp (by assumption) 6 rfl | exact Sy.dp (by assumption) 7 rfl
  | exact Sy.dp (by assumption) 8 rfl | exact Sy.dp (by assumption) 9 rfl | exact Sy.dp (by assumption) _ (by assumption) | assumption)
local macro_rules | `(tactic| walk_at "obds") => `(tactic| first
  | exact DpAll.nil
  | (refine' DpAll.cons ?ob1 ?ob2; (case ob1 => walk_at "obd"); (case ob2 => walk_at "obds"))
  | exact Sy.dps (by assumption) 0 rfl | exact Sy.dps (by assumption) 1 rfl | exact Sy.dps (by assumption) 2 rfl | exact Sy.dps (by assumption) 3 rfl | assumption)
local macro_rules | `(tactic| walk_at "obsc") => `(tactic| first
  | exact ScL.nil
  | ((first | refine' ScL.int ?obz | refine' ScL.str ?obz | refine' ScL.bl ?obz | refine' ScL.non ?obz); (case obz => walk_at "obsc")))
local macro_rules | `(tactic| walk_at "ob1") => `(tactic| first
  | ((with_reducible refine' g_var ?obh ?_); (case obh => rfl))
  | with_reducible refine g_c ?_
  | with_reducible refine g_nx ?_
  | with_reducible refine g_rt ?_
  | with_reducible refine g_bk ?_
  | with_reducible refine g_ct ?_
  | with_reducible refine g_op ?_
  | with_reducible refine g_I0 ?_
  | with_reducible refine g_test ?_
  | with_reducible refine g_bl ?_
  | with_reducible refine g_blx ?_
  | with_reducible refine g_B ?_
  | with_reducible refine g_seq ?_
  | with_reducible refine g_asg ?_
  | with_reducible refine g_name ?_
  | with_reducible refine g_ifS ?_
  | with_reducible refine g_ret ?_
  | with_reducible refine g_cb ?_
  | with_reducible refine g_cons ?_
  | with_reducible refine g_nil ?_
  | with_reducible refine g_int ?_
  | with_reducible refine g_intB ?_
  | with_reducible refine g_abs ?_
  | with_reducible refine g_max ?_
  | with_reducible refine g_min ?_
  | with_reducible refine g_un ?_
  | with_reducible refine g_U ?_
  | with_reducible refine g_eqI ?_
  | with_reducible refine g_neI ?_
  | with_reducible refine g_eqS ?_
  | with_reducible refine g_neS ?_
  | with_reducible refine g_tt ?_
  | with_reducible refine g_ff ?_
  | with_reducible refine g_next ?_
  | with_reducible refine g_drop ?_
  | with_reducible refine g_if ?_
  | with_reducible refine g_andV ?_
  | with_reducible refine g_orV ?_
  | with_reducible refine g_notV ?_
  | with_reducible refine g_and ?_
  | with_reducible refine g_or ?_
  | with_reducible refine g_not ?_
  | with_reducible refine g_yes ?_
  | with_reducible refine g_chain ?_
  | with_reducible refine g_cg ?_
  | with_reducible refine g_mg ?_
  | with_reducible refine g_kg ?_
  | with_reducible refine g_pg ?_
  | ((with_reducible refine' g_call ?obh ?obj ?_); (case obh => rfl); (case obj => rfl))
  | with_reducible refine g_par ?_
  | with_reducible refine g_par2 ?_
  | with_reducible refine g_par3 ?_
  | with_reducible refine g_par33 ?_
  | with_reducible refine g_gnil ?_
  | with_reducible refine g_gcons ?_
  | with_reducible refine g_gsub ?_
  | with_reducible refine g_ipI ?_
  | with_reducible refine g_rAdd ?_
  | with_reducible refine g_rSub ?_
  | ((with_reducible refine' g_aug ?obh ?_); (case obh => rfl))
  | with_reducible refine g_tup ?_
  | with_reducible refine g_lst ?_
  | with_reducible refine g_bm ?_
  | with_reducible refine g_bm0 ?_
  | with_reducible refine g_sl ?_
  | with_reducible refine g_nopart ?_
  | with_reducible refine g_part ?_
  | with_reducible refine g_pint ?_
  | with_reducible refine isi_int ?_
  | with_reducible refine isi_intB ?_
  | ((with_reducible refine' g_I ?obh ?_); (case obh => walk_at "obc"))
  | ((with_reducible refine' g_tyl ?obh ?_); (case obh => walk_at "obl"))
  | ((with_reducible refine' g_lenL ?obh ?_); (case obh => walk_at "obl"))
  | with_reducible refine g_ne ?_
  | ((with_reducible refine' g_neN' ?obh ?_); (case obh => rfl))
  | with_reducible refine g_ntt ?_
  | with_reducible refine g_nff ?_
  | with_reducible refine g_star ?_
  | with_reducible refine g_att ?_
  | with_reducible refine g_sfld ?_
  | with_reducible refine g_faug ?_
  | with_reducible refine g_fld ?_
  | ((with_reducible refine' g_nF ?obh ?_); (case obh => omega))
  | ((with_reducible refine' g_nT ?obh ?_); (case obh => omega))
  | ((with_reducible refine' g_TD ?obh ?_); (case obh => omega))
  | ((with_reducible refine' g_FD ?obh ?_); (case obh => omega))
  | ((with_reducible refine' g_ixUL ?obh ?obi ?_); (case obh => walk_at "obl"); (case obi => exact atI_nn (by omega) (by rfl)))
  | ((with_reducible refine' g_setLS ?obs ?obh ?obi ?_); (case obs => assumption); (case obh => assumption); (case obi => rfl); intro _ _ _)
  | ((with_reducible refine' g_newT ?obs ?obh ?obi ?obj ?_); (case obs => assumption); (case obh => walk_at "obds"); (case obi => rfl); (case obj => exact Nat.le_of_ble_eq_true rfl); intro _ _ _ _)
  | ((with_reducible refine' g_newL ?obs ?obj ?_); (case obs => assumption); (case obj => exact Nat.le_of_ble_eq_true rfl); intro _ _ _ _)
  | ((with_reducible refine' isi_tup ?obh ?_); (case obh => walk_at "obt"))
  | ((with_reducible refine' g_lenT ?obh ?_); (case obh => walk_at "obt"))
  | ((with_reducible refine' g_unpT ?obh ?obi ?_); (case obh => walk_at "obt"); (case obi => rfl))
  | ((with_reducible refine' g_divmod ?obs ?obh ?_); (case obs => assumption); (case obh => exact cdivp_ok (by omega) (by omega) (by omega)); intro _ _ _ _)
  | ((with_reducible refine' g_unpD ?obh ?obi ?obj ?_); (case obh => walk_at "obd"); (case obi => walk_at "obsc"); (case obj => rfl))
  | with_reducible refine g_att ?_)
local macro_rules | `(tactic| walk_at "ob") => `(tactic| first
  | walk_at "ob1"
  | refine use_is_integer ?_
  | refine use_is_within ?_
  | with_reducible refine g_lstRg ?_
  | with_reducible refine g_rg1 ?_
  | with_reducible refine g_rg2 ?_
  | with_reducible refine g_tTru ?_
  | ((with_reducible refine' g_truL ?obh ?_); (case obh => walk_at "obl"))
  | ((with_reducible refine' g_ixUT ?obh ?obi ?_); (case obh => walk_at "obt"); (case obi => rfl))
  | with_reducible refine g_forZ ?_
  | with_reducible refine g_forR2 ?_
  | with_reducible refine g_forE ?_
  | with_reducible refine g_lcZ ?_)
local macro_rules | `(tactic| walk_at "ob") => `(tactic| first
  | ((with_reducible refine' g_fldS ?obh ?obc ?obn ?obe ?_); (case obh => walk_at "obat"); (case obc => exact ShC.c (by assumption)); (case obn => first | exact ShC.n1 (by assumption) | exact ShC.n2 (by assumption)); (case obe => rfl)))
/-! lengths of what is shown -/
theorem ln_codes {l : Str} (h : LnOk l) : l.cps.toList.length ≤ 200 ∧ ∀ c ∈ l.cps.toList, c < 128 := by
  have h2 : lnB l.cps.toList = true := h
  refine ⟨(lnB_len h2).2, fun c hc => ?_⟩
  unfold lnB at h2
  rw [Bool.and_eq_true, Bool.and_eq_true, tx_of] at h2
  have ha : l.cps.all (· < 128) = true := h2.2.1
  rw [Array.all_eq_true'] at ha
  have := ha c (by simpa using hc)
  simpa using this
theorem nm_codes {l : Str} (h : NmOk l) : l.cps.toList.length ≤ 8 ∧ ∀ c ∈ l.cps.toList, c < 128 := by
  have h2 : nmB l.cps.toList = true := h
  refine ⟨(nmB_len h2).2, fun c hc => ?_⟩
  unfold nmB at h2
  rw [Bool.and_eq_true] at h2
  have := of_decide_eq_true (List.all_eq_true.mp h2.2 c hc)
  omega
theorem small_txt {l : Str} {n : Nat} (h : l.cps.toList.length ≤ n ∧ ∀ c ∈ l.cps.toList, c < 128) : Small (10 * n + 2) 0 (.str l) := by
  have r := StrLaws.reprText_len l fun c hc => Nat.lt_of_lt_of_le (h.2 c hc) (by decide)
  have rl : l.length = l.cps.toList.length := by simp [Str.length]
  have := h.1
  exact Small.str (by omega)
theorem small_lines {ls : List Str} (h : ∀ l ∈ ls, LnOk l) : Small (2004 * ls.length + 3) 1 (.tuple (ls.map PyData.str)) := by
  have := Small.tup (SmallL.len (n := 2002) (k := 0) (m := ls.length) (xs := ls.map PyData.str) (fun d hd => by
    obtain ⟨l, hl, rfl⟩ := List.mem_map.mp hd
    exact small_txt (ln_codes (h l hl))) (by rw [List.length_map]; exact Nat.le_refl _))
  exact this
theorem small_file {N : List Str} {b : Nat} {fs : Fl} (g : Good N b fs) (hN : ∀ n ∈ N, NmOk n) {f : Str × List Str} (hf : f ∈ fs) : Small (2004 * b + 100) 2 (fileD f) := by
  have h1 := small_txt (nm_codes (hN _ (g.nm f hf)))
  have h2 := (small_lines (g.ln f hf).2)
  have h3 := (g.ln f hf).1
  have := Small.tup (SmallL.cons (h1.mono (Nat.le_refl _) (Nat.zero_le 1)) (SmallL.cons h2 SmallL.nil))
  exact this.mono (by omega) (Nat.le_refl _)
theorem small_files {N : List Str} {b : Nat} {fs : Fl} (g : Good N b fs) (hN : ∀ n ∈ N, NmOk n) (hb : b ≤ 60) (hl : fs.length ≤ 40) : Small 5000000 3 (filesT fs) := by
  have := Small.tup (SmallL.len (n := 121000) (k := 2) (m := 40) (xs := fs.map fileD) (fun d hd => by
    obtain ⟨f, hf, rfl⟩ := List.mem_map.mp hd
    exact (small_file g hN hf).mono (by omega) (Nat.le_refl _)) (by rw [List.length_map]; exact hl))
  exact this.mono (by decide) (Nat.le_refl _)
theorem small_deed {N : List Str} (hN : ∀ n ∈ N, NmOk n) {e : Dd} (h : DdOk N e) : Small 7000 2 e.d := by
  have sadd : Small 20 0 (.str "add") := Small.str (by decide +kernel)
  have slay : Small 20 0 (.str "lay") := Small.str (by decide +kernel)
  have ssyn : Small 20 0 (.str "sync") := Small.str (by decide +kernel)
  cases e with
  | add n l =>
    have := Small.tup (SmallL.cons sadd (SmallL.cons (small_txt (nm_codes (hN _ h.1))) (SmallL.cons (small_txt (ln_codes h.2)) SmallL.nil)))
    exact this.mono (by decide) (by decide)
  | lay n ls =>
    have hl := h.2.2
    have := Small.tup (SmallL.cons (slay.mono (Nat.le_refl _) (Nat.zero_le 1)) (SmallL.cons ((small_txt (nm_codes (hN _ h.1))).mono (Nat.le_refl _) (Nat.zero_le 1)) (SmallL.cons (small_lines h.2.1) SmallL.nil)))
    exact this.mono (by omega) (by decide)
  | syn => exact (Small.tup (SmallL.cons ssyn SmallL.nil)).mono (by decide) (by decide)
theorem small_deeds {N : List Str} (hN : ∀ n ∈ N, NmOk n) {es : List Dd} (h : ∀ e ∈ es, DdOk N e) (hl : es.length ≤ 50) : Small 400000 3 (.tuple (es.map Dd.d)) := by
  have := Small.tup (SmallL.len (n := 7000) (k := 2) (m := 50) (xs := es.map Dd.d) (fun d hd => by
    obtain ⟨e, he, rfl⟩ := List.mem_map.mp hd
    exact small_deed hN (h e he)) (by rw [List.length_map]; exact hl))
  exact this.mono (by decide) (Nat.le_refl _)
theorem small_rd {N : List Str} {b : Nat} {fs : Fl} (g : Good N b fs) (hb : b ≤ 60) (n : Str) : Small 130000 1 (rdD fs n) := by
  unfold rdD
  split
  · rcases lns_in (fs := fs) (n := n) with e | ⟨f, hf, e⟩
    · rw [e]
      exact (Small.tup (n := 0) (k := 0) SmallL.nil).mono (by decide) (by decide)
    · rw [← e]
      have := (g.ln f hf).1
      exact (small_lines (g.ln f hf).2).mono (by omega) (Nat.le_refl _)
  · exact Small.non.mono (by decide) (Nat.zero_le _)
end LAW

set_option Elab.async false
set_option linter.all false
set_option maxRecDepth 100000
namespace LAW
open PySem PySem.Spec PyProof.Rows L2 PySem.W OB
local macro_rules | `(tactic| walk_at "obc") => `(tactic| first
  | exact Or.inl ⟨by omega, by omega⟩
  | exact Or.inr ⟨by omega, by omega⟩
  | exact cdiv_ok (by omega) (by omega)
  | (show (0 : Int) < _; omega)
  | exact ⟨by omega, by decide⟩
  | exact ⟨by decide, by decide⟩)
local macro_rules | `(tactic| walk_at "obat") => `(tactic| first
  | exact Sy.at (by assumption) 0 rfl | exact Sy.at (by assumption) 1 rfl | exact Sy.at (by assumption) 2 rfl | exact Sy.at (by assumption) 3 rfl
  | exact Sy.at (by assumption) 4 rfl | exact Sy.at (by assumption) 5 rfl | exact Sy.at (by assumption) 6 rfl | exact Sy.at (by assumption) _ (by assumption) | exact Sy.at (by assumption) (_ + 1) (by assumption) | exact Sy.at (by assumption) (_ + 2) (by assumption))
local macro_rules | `(tactic| walk_at "obt") => `(tactic| first
  | exact Sy.tqs (by assumption) 0 rfl | exact Sy.tqs (by assumption) 1 rfl | exact Sy.tqs (by assumption) 2 rfl | exact Sy.tqs (by assumption) 3 rfl | exact Sy.tqs (by assumption) 4 rfl | exact Sy.tqs (by assumption) 5 rfl
  | exact Sy.tqs (by assumption) 6 rfl | exact Sy.tqs (by assumption) 7 rfl | assumption)
local macro_rules | `(tactic| walk_at "obl") => `(tactic| first
  | exact SqL.of (by walk_at "obat")
  | exact Sy.sq (by assumption) 0 rfl | exact Sy.sq (by assumption) 1 rfl | exact Sy.sq (by assumption) 2 rfl | exact Sy.sq (by assumption) 3 rfl | exact Sy.sq (by assumption) _ (by assumption))
local macro_rules | `(tactic| walk_at "obd") => `(tactic| first
  | exact Dp.int _ | exact Dp.bl _ | exact Dp.str _ | exact Dp.non
  | exact Sy.dp (by assumption) 0 rfl | exact Sy.dp (by assumption) 1 rfl | exact Sy.dp (by assumption) 2 rfl | exact Sy.dp (by assumption) 3 rfl
  | exact Sy.dp (by assumption) 4 rfl | exact Sy.dp (by assumption) 5 rfl | exact Sy.dp (by assumption) 6 rfl | exact Sy.dp (by assumption) 7 rfl
  | exact Sy.dp (by assumption) 8 rfl | exact Sy.dp (by assumption) 9 rfl | exact Sy.dp (by assumption) _ (by assumption) | assumption)
local macro_rules | `(tactic| walk_at "obds") => `(tactic| first
  | exact DpAll.nil
  | (refine' DpAll.cons ?ob1 ?ob2; (case ob1 => walk_at "obd"); (case ob2 => walk_at "obds"))
  | exact Sy.dps (by assumption) 0 rfl | exact Sy.dps (by assumption) 1 rfl | exact Sy.dps (by assumption) 2 rfl | exact Sy.dps (by assumption) 3 rfl | assumption)
local macro_rules | `(tactic| walk_at "obsc") => `(tactic| first
  | exact ScL.nil
  | ((first | refine' ScL.int ?obz | refine' ScL.str ?obz | refine' ScL.bl ?obz | refine' ScL.non ?obz); (case obz => walk_at "obsc")))
local macro_rules | `(tactic| walk_at "ob1") => `(tactic| first
  | ((with_reducible refine' g_var ?obh ?_); (case obh => rfl))
  | with_reducible refine g_c ?_
  | with_reducible refine g_nx ?_
  | with_reducible refine g_rt ?_
  | with_reducible refine g_bk ?_
  | with_reducible refine g_ct ?_
  | with_reducible refine g_op ?_
  | with_reducible refine g_I0 ?_
  | with_reducible refine g_test ?_
  | with_reducible refine g_bl ?_
  | with_reducible refine g_blx ?_
  | with_reducible refine g_B ?_
  | with_reducible refine g_seq ?_
  | with_reducible refine g_asg ?_
  | with_reducible refine g_name ?_
  | with_reducible refine g_ifS ?_
  | with_reducible refine g_ret ?_
  | with_reducible refine g_cb ?_
  | with_reducible refine g_cons ?_
  | with_reducible refine g_nil ?_
  | with_reducible refine g_int ?_
  | with_reducible refine g_intB ?_
  | with_reducible refine g_abs ?_
  | with_reducible refine g_max ?_
  | with_reducible refine g_min ?_
  | with_reducible refine g_un ?_
  | with_reducible refine g_U ?_
  | with_reducible refine g_eqI ?_
  | with_reducible refine g_neI ?_
  | with_reducible refine g_eqS ?_
  | with_reducible refine g_neS ?_
  | with_reducible refine g_tt ?_
  | with_reducible refine g_ff ?_
  | with_reducible refine g_next ?_
  | with_reducible refine g_drop ?_
  | with_reducible refine g_if ?_
  | with_reducible refine g_andV ?_
  | with_reducible refine g_orV ?_
  | with_reducible refine g_notV ?_
  | with_reducible refine g_and ?_
  | with_reducible refine g_or ?_
  | with_reducible refine g_not ?_
  | with_reducible refine g_yes ?_
  | with_reducible refine g_chain ?_
  | with_reducible refine g_cg ?_
  | with_reducible refine g_mg ?_
  | with_reducible refine g_kg ?_
  | with_reducible refine g_pg ?_
  | ((with_reducible refine' g_call ?obh ?obj ?_); (case obh => rfl); (case obj => rfl))
  | with_reducible refine g_par ?_
  | with_reducible refine g_par2 ?_
  | with_reducible refine g_par3 ?_
  | with_reducible refine g_par33 ?_
  | with_reducible refine g_gnil ?_
  | with_reducible refine g_gcons ?_
  | with_reducible refine g_gsub ?_
  | with_reducible refine g_ipI ?_
  | with_reducible refine g_rAdd ?_
  | with_reducible refine g_rSub ?_
  | ((with_reducible refine' g_aug ?obh ?_); (case obh => rfl))
  | with_reducible refine g_tup ?_
  | with_reducible refine g_lst ?_
  | with_reducible refine g_bm ?_
  | with_reducible refine g_bm0 ?_
  | with_reducible refine g_sl ?_
  | with_reducible refine g_nopart ?_
  | with_reducible refine g_part ?_
  | with_reducible refine g_pint ?_
  | with_reducible refine isi_int ?_
  | with_reducible refine isi_intB ?_
  | ((with_reducible refine' g_I ?obh ?_); (case obh => walk_at "obc"))
  | ((with_reducible refine' g_tyl ?obh ?_); (case obh => walk_at "obl"))
  | ((with_reducible refine' g_lenL ?obh ?_); (case obh => walk_at "obl"))
  | with_reducible refine g_ne ?_
  | ((with_reducible refine' g_neN' ?obh ?_); (case obh => rfl))
  | with_reducible refine g_ntt ?_
  | with_reducible refine g_nff ?_
  | with_reducible refine g_star ?_
  | with_reducible refine g_att ?_
  | with_reducible refine g_sfld ?_
  | with_reducible refine g_faug ?_
  | with_reducible refine g_fld ?_
  | ((with_reducible refine' g_nF ?obh ?_); (case obh => omega))
  | ((with_reducible refine' g_nT ?obh ?_); (case obh => omega))
  | ((with_reducible refine' g_TD ?obh ?_); (case obh => omega))
  | ((with_reducible refine' g_FD ?obh ?_); (case obh => omega))
  | ((with_reducible refine' g_ixUL ?obh ?obi ?_); (case obh => walk_at "obl"); (case obi => exact atI_nn (by omega) (by rfl)))
  | ((with_reducible refine' g_setLS ?obs ?obh ?obi ?_); (case obs => assumption); (case obh => assumption); (case obi => rfl); intro _ _ _)
  | ((with_reducible refine' g_newT ?obs ?obh ?obi ?obj ?_); (case obs => assumption); (case obh => walk_at "obds"); (case obi => rfl); (case obj => exact Nat.le_of_ble_eq_true rfl); intro _ _ _ _)
  | ((with_reducible refine' g_newL ?obs ?obj ?_); (case obs => assumption); (case obj => exact Nat.le_of_ble_eq_true rfl); intro _ _ _ _)
  | ((with_reducible refine' isi_tup ?obh ?_); (case obh => walk_at "obt"))
  | ((with_reducible refine' g_lenT ?obh ?_); (case obh => walk_at "obt"))
  | ((with_reducible refine' g_unpT ?obh ?obi ?_); (case obh => walk_at "obt"); (case obi => rfl))
  | ((with_reducible refine' g_divmod ?obs ?obh ?_); (case obs => assumption); (case obh => exact cdivp_ok (by omega) (by omega) (by omega)); intro _ _ _ _)
  | ((with_reducible refine' g_unpD ?obh ?obi ?obj ?_); (case obh => walk_at "obd"); (case obi => walk_at "obsc"); (case obj => rfl))
  | with_reducible refine g_att ?_)
local macro_rules | `(tactic| walk_at "ob") => `(tactic| first
  | walk_at "ob1"
  | refine use_is_integer ?_
  | refine use_is_within ?_
  | with_reducible refine g_lstRg ?_
  | with_reducible refine g_rg1 ?_
  | with_reducible refine g_rg2 ?_
  | with_reducible refine g_tTru ?_
  | ((with_reducible refine' g_truL ?obh ?_); (case obh => walk_at "obl"))
  | ((with_reducible refine' g_ixUT ?obh ?obi ?_); (case obh => walk_at "obt"); (case obi => rfl))
  | with_reducible refine g_forZ ?_
  | with_reducible refine g_forR2 ?_
  | with_reducible refine g_forE ?_
  | with_reducible refine g_lcZ ?_)
local macro_rules | `(tactic| walk_at "ob") => `(tactic| first
  | ((with_reducible refine' g_fldS ?obh ?obc ?obn ?obe ?_); (case obh => walk_at "obat"); (case obc => exact ShC.c (by assumption)); (case obn => first | exact ShC.n1 (by assumption) | exact ShC.n2 (by assumption)); (case obe => rfl)))
section
variable {P : Program} {w : World} {K : Frag} {mg : Str → Option Value} {base : Heap}
theorem midS {α : Type} {X B S R : List α} : (S ++ (X ++ (B ++ R))).Perm (X ++ (B ++ (S ++ R))) := by
  have h : ((X ++ B) ++ (S ++ R)).Perm (S ++ ((X ++ B) ++ R)) := by
    rw [← List.append_assoc, ← List.append_assoc S]
    exact List.Perm.append_right _ List.perm_append_comm
  rw [List.append_assoc, List.append_assoc] at h
  exact h.symm
def sp_law_stands_right (K : Frag) (C : Addr) : Sp := fun vs H Q E => vs.length = 3 ∧ ∃ (R : List (Addr × HO)) (G : List Ft) (s dx ds l d a : Addr) (lv dv : List V) (srs rs : List FRow) (fs sfs : Fl) (es : List Dd) (N : List Str), vs = [.ref s, .ref d, .ref a] ∧ Sy K (fB d rs ++ (shB s C dx ds l lv srs ++ R)) (.dat dv (es.map Dd.d) :: .dat lv (es.map Dd.d) :: G) H ∧ (∀ G' H', Sy K (fB d rs ++ (shB s C dx ds l lv srs ++ R)) G' H' → SqL K H' a dv) ∧ RowsOf rs fs ∧ Good N 10 fs ∧ N.length < 40 ∧ (∀ n ∈ N, NmOk n) ∧ (∀ e ∈ es, DdOk N e) ∧ es.length ≤ 50 ∧ ShC K C ∧ ShW srs sfs ∧ FEq sfs (es.foldl doF fs) ∧
  ∀ H', Sy K (fB d rs ++ (shB s C dx ds l lv srs ++ R)) (.dat dv (es.map Dd.d) :: .dat lv (es.map Dd.d) :: G) H' → Q (.bl true) H'
abbrev names_law_stands_right : List Str := ["shelf", "files", "deeds", "found", "name", "due"]
theorem sc_law_stands_right : FnScope names_law_stands_right ["shelf", "files", "deeds"] (defScope (top 51)) := ⟨rfl, rfl, rfl, by decide +kernel, rfl, by decide +kernel, by decide +kernel⟩
set_option maxHeartbeats 4000000 in
theorem ok_law_stands_right (T : Tx K mg) : FG P w K mg base CX0 5 T.a_law_stands_right T.d_law_stands_right ["shelf", "files", "deeds"] (sp_law_stands_right K T.a_Shelf) := by
  refine OB.Fun.fg T.F_law_stands_right sc_law_stands_right (fun vs H Q E h => h.1) (fun cdv A out s H vs Q E g h => ?_)
  obtain ⟨_, R, G, s', dx, ds, l, d, a, lv, dv, srs, rs, fs, sfs, es, N, rfl, S, hA, hR, gd, hNl, hN, hes, hel, hc, hw, hq, k⟩ := h
  refine ⟨_, (pss_cons (ps_set (i := 3) sc_law_stands_right.nd rfl (by first | exact Or.inl rfl | exact Or.inr rfl) (pe_cg (ok_law_files_behind T) (g.mono (by decide : 2 ≤ 4)) (by rfl) T.m_law_files_behind T.F_law_files_behind.kp (OB.Fun.bd T.F_law_files_behind (ps := ["files", "deeds"]) (n := 2) (ks := []) (ix := [0, 1]) (fun _ _ _ _ _ _ us ws h1 h2 => match us, ws, h1, h2 with | [_, _], [], _, _ => rfl)) pass0 (pa_cons (pv 1) (pa_cons (pv 2) pa_nil)) pk_nil))
      (pss_cons (ps_for PassesOwn.never rfl (pi_seq (pe_op op_cat (pe_callB (call_sortedD rfl) (by rfl) T.n_sorted (by decide +kernel) (pa_cons (pv 3) pa_nil)) (pe_lst (pa_cons pe_str pa_nil)))) (pg_name (i := 4) sc_law_stands_right.nd rfl (by first | exact Or.inl rfl | exact Or.inr rfl))
      (pss_cons (ps_set (i := 5) sc_law_stands_right.nd rfl (by first | exact Or.inl rfl | exact Or.inr rfl) (pe_ifExp (pt_cmp (pc_din g.hu1 (pv 4) (pv 3)) (by rfl)) (pe_callTy (toK (r := rTuple) (K := K) rfl c_tuple) (by rfl) T.n_tuple (by decide +kernel) (pa_cons (pe_dget g.hu1 (pv 3) (pv 4) (fun _ _ => rfl)) pa_nil)) pe_non))
      (pss_one (ps_if (pt_cmpR op_ne (pe_callB (toK (r := rRepr) (K := K) rfl (call_repr g)) (by rfl) T.n_repr (by decide +kernel) (pa_cons (pe_mg0 (pv 0) T.c_Shelf T.me_Shelf_read (ok_Shelf_read T) (g.mono (by decide : 4 ≤ 4)) (OB.Fun.bd T.F_Shelf_read (ps := ["self", "file"]) (n := 1) (ks := ["file"]) (ix := [0, 1]) (fun _ _ _ _ _ _ us ws h1 h2 => match us, ws, h1, h2 with | [_], [_], _, _ => rfl)) pass0 (pk_cons (pv 4) pk_nil)) pa_nil)) (pe_callB (toK (r := rRepr) (K := K) rfl (call_repr g)) (by rfl) T.n_repr (by decide +kernel) (pa_cons (pv 5) pa_nil)) (nomark _)) (pss_one (ps_ret pe_bl)) pss_nil))))
      (pss_one (ps_ret (pe_cmpR op_eq (pe_callB (toK (r := rRepr) (K := K) rfl (call_repr g)) (by rfl) T.n_repr (by decide +kernel) (pa_cons (pe_tup (pa_cons (pe_pg (pv 0) T.c_Shelf T.pr_Shelf_files (ok_Shelf_files T) (g.mono (by decide : 3 ≤ 4)) (OB.Fun.bd T.F_Shelf_files (fun _ _ _ _ _ _ us ws h1 h2 => match us, ws, h1, h2 with | [_], [], _, _ => rfl)) pass0) (pa_cons (pe_pg (pv 0) T.c_Shelf T.pr_Shelf_log (ok_Shelf_log T) (g.mono (by decide : 2 ≤ 4)) (OB.Fun.bd T.F_Shelf_log (fun _ _ _ _ _ _ us ws h1 h2 => match us, ws, h1, h2 with | [_], [], _, _ => rfl)) pass0) pa_nil))) pa_nil)) (pe_callB (toK (r := rRepr) (K := K) rfl (call_repr g)) (by rfl) T.n_repr (by decide +kernel) (pa_cons (pe_tup (pa_cons (pe_cg (ok_law_file_tuple T) (g.mono (by decide : 1 ≤ 4)) (by rfl) T.m_law_file_tuple T.F_law_file_tuple.kp (OB.Fun.bd T.F_law_file_tuple (ps := ["files"]) (n := 1) (ks := []) (ix := [0]) (fun _ _ _ _ _ _ us ws h1 h2 => match us, ws, h1, h2 with | [_], [], _, _ => rfl)) pass0 (pa_cons (pv 3) pa_nil) pk_nil) (pa_cons (pe_callTy (toK (r := rTuple) (K := K) rfl c_tuple) (by rfl) T.n_tuple (by decide +kernel) (pa_cons (pv 2) pa_nil)) pa_nil))) pa_nil)) (nomark _)))))), ?_⟩
  refine g_start (σ := [some _, some _, some _, none, none, none]) rfl ?_
  repeat walk_at "ob"
  refine ⟨rfl, _, _, d, a, rs, fs, dv, es, N, rfl, S, hA, hR, gd, hNl, hes, by omega, fun d2 rs2 Fx H1 hR2 hF2 S1 => ?_⟩
  clear S
  have hgf : Good N 60 (es.foldl doF fs) := by
    have := good_fold hes gd es.length
    rw [List.take_length] at this
    exact this.mono (by omega)
  generalize es.foldl doF fs = fe at hR2 hgf hq
  have hgs : Good N 60 sfs := hgf.eq hq.symm
  have hw2 := hgf.shW hNl (by decide) hR2
  repeat walk_at "ob"
  refine g_forE3 ?_
  repeat walk_at "ob"
  have hkn : (kvO rs2).map (·.1) = (fe.map (·.1)).map Sum.inr := by
    rw [← hR2.names, List.map_map]
    unfold kvO
    rw [List.map_map]
    rfl
  refine ⟨d2, kvO rs2, fe.map (·.1), rfl, (hF2 _ _ S1).1, hkn, by rw [List.length_map, ← hR2.len]; have := hw2.hl; omega, fun ys p hp hs hp0 => ?_⟩
  have S2 := S1.push (o := .lst (ys.map V.str)) hp0
  generalize upd H1 p (.lst (ys.map V.str)) = H2 at S2 ⊢
  clear S1
  have hyl : ys.length < 64 := by rw [hp.length_eq, List.length_map, ← hR2.len]; have := hw2.hl; omega
  repeat walk_at "ob"
  rename_i p3 H3 _ S3
  refine g_cat S3 (i := 1) (j := 0) rfl rfl (by rw [List.length_map]; show _ + 1 ≤ _; omega) fun p4 H4 S4 => ?_
  have S5 := S4.swap.less.swap.less
  rw [show ys.map V.str ++ [V.str (Str.ofString "nosuch")] = (ys ++ [Str.ofString "nosuch"]).map V.str by rw [List.map_append]; rfl] at S5
  clear S2 S3 S4
  have hnm : ∀ n ∈ ys ++ [Str.ofString "nosuch"], NmOk n := fun n hn => by
    rcases List.mem_append.mp hn with hn | hn
    · have := hp.mem_iff.mp hn
      obtain ⟨f, hf, rfl⟩ := List.mem_map.mp this
      exact hN _ (hgf.nm f hf)
    · rw [List.mem_singleton.mp hn]
      show nmB _ = true
      decide +kernel
  generalize ys ++ [Str.ofString "nosuch"] = zs at S5 hnm
  refine g_forS (a := p4) (xs := zs.map V.str) true (fun i σ' H' => ∃ v4 v5, σ' = [some (.ref s'), some (.ref d), some (.ref a), some (.ref d2), v4, v5] ∧ Sy K ((p4, .lst (zs.map V.str)) :: (Fx ++ (fB d rs ++ (shB s' T.a_Shelf dx ds l lv srs ++ R)))) (.dat dv (es.map Dd.d) :: .dat lv (es.map Dd.d) :: G) H') (fun Q' q => by repeat walk_at "ob"; exact q) ⟨none, none, rfl, S5⟩ (fun i σ' H' ⟨_, _, _, S4⟩ => SqL.of (S4.at 0 rfl)) ?_ ?_
  · rintro i x σ' H' hx ⟨v4, v5, rfl, S6⟩
    rw [List.getElem?_map] at hx
    obtain ⟨n, hn, rfl⟩ := Option.map_eq_some_iff.mp hx
    have hnn := hnm n (List.mem_of_getElem? hn)
    have f2 := hF2 _ _ S6.less
    clear S5
    repeat ((fail_if_success (with_reducible refine atIf ?_)); walk_at "ob")
    refine via (fun v H' => Sy K ((p4, .lst (zs.map V.str)) :: (Fx ++ (fB d rs ++ (shB s' T.a_Shelf dx ds l lv srs ++ R)))) (.dat [v] [rdD fe n] :: .dat dv (es.map Dd.d) :: .dat lv (es.map Dd.d) :: G) H') (fun Q' qq => ?_) ?_
    · repeat walk_at "ob"
      refine g_din ?_
      repeat walk_at "ob"
      refine g_dinS f2.1 ?_
      rw [valV_kvO]
      cases hr : frOf rs2 n with
      | none =>
        have h0 : hasF fe n = false := by
          have := (lnsOf_none hR2 hr).2
          rw [hR2.names] at this
          rw [← Bool.not_eq_true, hasF_mem]
          exact this
        repeat walk_at "ob"
        refine g_F rfl ?_
        repeat walk_at "ob"
        refine qq _ _ (S6.fact (dps_one ?_) ?_)
        · unfold rdD
          rw [h0]
          exact .non
        · unfold rdD
          rw [h0]
          rfl
      | some r =>
        have h0 : hasF fe n = true := by
          rw [hasF_mem, ← hR2.names]
          exact List.mem_map.mpr ⟨r, (frOf_some hr).1, (frOf_some hr).2⟩
        repeat walk_at "ob"
        refine g_T rfl ?_
        repeat walk_at "ob"
        refine g_tDGet ?_
        repeat walk_at "ob"
        refine g_dgetS (v := .ref r.2.1) f2.1 (by rw [valV_kvO, hr]; rfl) ?_
        repeat walk_at "ob"
        refine g_tup0 S6 (SqL.of (f2.row hr)) (ds := (lnsOf fe n).map PyData.str) (by rw [hR2.row hr]; exact dps_strs _) (strs_imm _) fun t2 H3 _ S4 => ?_
        refine qq _ H3 ?_
        unfold rdD
        rw [h0]
        exact S4
    rintro v H5 S7
    clear S6
    repeat walk_at "ob"
    have S8 : Sy K (shB s' T.a_Shelf dx ds l lv srs ++ (((p4, .lst (zs.map V.str)) :: Fx) ++ (fB d rs ++ R))) _ H5 := S7.perm (midS (X := (p4, HO.lst (zs.map V.str)) :: Fx))
    refine ⟨s', _, _, rfl, S8.at 0 rfl, rfl, ?_⟩
    repeat walk_at "ob"
    refine ⟨rfl, _, _, s', _, dx, ds, l, lv, srs, sfs, n, rfl, S8, hc, hw, hnn, fun v2 H6 S9 => ?_⟩
    rw [hq.rd] at S9
    clear S7 S8
    repeat walk_at "ob"
    refine g_reprS (S9.dp 0 rfl) (small_rd hgf (by decide) n) (by decide) (by decide) ?_
    repeat walk_at "ob"
    refine g_reprS (S9.dp 1 rfl) (small_rd hgf (by decide) n) (by decide) (by decide) ?_
    repeat walk_at "ob"
    exact ⟨_, _, rfl, (S9.perm (midS (X := (p4, HO.lst (zs.map V.str)) :: Fx)).symm).drop.drop⟩
  · rintro σ' H' ⟨v4, v5, rfl, S6⟩
    clear S5
    repeat walk_at "ob"
    have S8 : Sy K (shB s' T.a_Shelf dx ds l lv srs ++ (((p4, .lst (zs.map V.str)) :: Fx) ++ (fB d rs ++ R))) _ H' := S6.perm (midS (X := (p4, HO.lst (zs.map V.str)) :: Fx))
    clear S6
    refine ⟨s', _, _, rfl, S8.at 0 rfl, ?_⟩
    refine ⟨rfl, _, _, s', _, dx, ds, l, lv, srs, sfs, rfl, S8, hc, hw, fun t1 ys1 H7 hs1 S9 => ?_⟩
    rw [hq.srt ys1] at S9
    have hs1b := hs1.perm hq.1
    have hgr : Good N 60 (srtF fe ys1) := hgf.eq (FEq.of_srt hs1b).symm
    have hgl : (srtF fe ys1).length ≤ 40 := by have := hgr.len; omega
    have hsm : Small 6000000 4 (.tuple [filesT (srtF fe ys1), .tuple (es.map Dd.d)]) := (Small.tup (SmallL.cons (small_files hgr hN (by decide) hgl) (SmallL.cons (small_deeds hN hes hel) SmallL.nil))).mono (by decide) (by decide)
    have himm : immAll [filesT (srtF fe ys1), PyData.tuple (es.map Dd.d)] = true := by
      show (immAll ((srtF fe ys1).map fileD) && (immAll (es.map Dd.d) && true)) = true
      rw [files_imm, deeds_imm]
      rfl
    clear S8
    repeat walk_at "ob"
    have S10 := S9.fact (S9.dps 2 rfl) (S9.dpi 2 rfl)
    refine ⟨s', _, _, rfl, S9.at 0 rfl, ?_⟩
    refine ⟨rfl, _, _, s', _, dx, ds, l, lv, srs, es, rfl, S10, hc, fun t2 H8 S11 => ?_⟩
    clear S9 S10
    repeat ((fail_if_success (with_reducible refine atNewT ?_)); walk_at "ob")
    refine g_newT (ds := [filesT (srtF fe ys1), .tuple (es.map Dd.d)]) S11 (.cons (S11.dp 2 rfl) (.cons (S11.dp 0 rfl) .nil)) himm (Nat.le_of_ble_eq_true rfl) fun t3 H9 _ S12 => ?_
    clear S11
    repeat walk_at "ob"
    refine g_reprS (S12.dp 0 rfl) hsm (by decide) (by decide) ?_
    repeat ((fail_if_success (with_reducible refine atNewT ?_)); walk_at "ob")
    have bk : ∀ {G' : List Ft} {H' : Hp}, Sy K (shB s' T.a_Shelf dx ds l lv srs ++ (((p4, .lst (zs.map V.str)) :: Fx) ++ (fB d rs ++ R))) G' H' → Sy K ((p4, .lst (zs.map V.str)) :: (Fx ++ (fB d rs ++ (shB s' T.a_Shelf dx ds l lv srs ++ R)))) G' H' := fun S' => S'.perm (midS (X := (p4, HO.lst (zs.map V.str)) :: Fx)).symm
    refine use_file_tuple S12 (fun H' S' => hF2 _ _ (bk S').less) hR2 (by have := hw2.hl; omega) hw2.ll fun t4 ys4 H10 hs4 S13 => ?_
    obtain rfl := hs4.uniq hs1b
    clear S12
    repeat ((fail_if_success (with_reducible refine atNewT ?_)); walk_at "ob")
    refine g_tup0 S13 (hA _ _ (Sy.tail (A := (p4, HO.lst (zs.map V.str)) :: Fx) (bk S13))) (ds := es.map Dd.d) (S13.dps 5 rfl) (deeds_imm es) fun t5 H11 _ S14 => ?_
    repeat ((fail_if_success (with_reducible refine atNewT ?_)); walk_at "ob")
    refine g_newT (ds := [filesT (srtF fe _), .tuple (es.map Dd.d)]) S14 (.cons (S14.dp 1 rfl) (.cons (S14.dp 0 rfl) .nil)) himm (Nat.le_of_ble_eq_true rfl) fun t6 H12 _ S15 => ?_
    repeat walk_at "ob"
    refine g_reprS (S15.dp 0 rfl) hsm (by decide) (by decide) ?_
    repeat walk_at "ob"
    rw [decide_eq_true rfl]
    refine k _ ((Sy.tail (A := (p4, HO.lst (zs.map V.str)) :: Fx) (bk S15)).to (.refl _) fun g hg => ?_)
    rcases List.mem_cons.mp hg with rfl | hg
    · exact List.mem_cons_of_mem _ (List.mem_cons_of_mem _ (List.mem_cons_of_mem _ (List.mem_cons_of_mem _ (List.mem_cons_of_mem _ (List.mem_cons_of_mem _ (List.mem_cons_of_mem _ (List.mem_cons_self ..)))))))
    rcases List.mem_cons.mp hg with rfl | hg
    · exact List.mem_cons_of_mem _ (List.mem_cons_of_mem _ (List.mem_cons_of_mem _ (List.mem_cons_of_mem _ (List.mem_cons_of_mem _ (List.mem_cons_self ..)))))
    · exact List.mem_append_right [_, _, _, _, _, _, _, _, _] hg
end
end LAW

set_option Elab.async false
set_option linter.all false
set_option maxRecDepth 100000
namespace LAW
open PySem PySem.Spec PyProof.Rows L2 PySem.W OB
local macro_rules | `(tactic| walk_at "obc") => `(tactic| first
  | exact Or.inl ⟨by omega, by omega⟩
  | exact Or.inr ⟨by omega, by omega⟩
  | exact cdiv_ok (by omega) (by omega)
  | (show (0 : Int) < _; omega)
  | exact ⟨by omega, by decide⟩
  | exact ⟨by decide, by decide⟩)
local macro_rules | `(tactic| walk_at "obat") => `(tactic| first
  | exact Sy.at (by assumption) 0 rfl | exact Sy.at (by assumption) 1 rfl | exact Sy.at (by assumption) 2 rfl | exact Sy.at (by assumption) 3 rfl
  | exact Sy.at (by assumption) 4 rfl | exact Sy.at (by assumption) 5 rfl | exact Sy.at (by assumption) 6 rfl | exact Sy.at (by assumption) _ (by assumption) | exact Sy.at (by assumption) (_ + 1) (by assumption) | exact Sy.at (by assumption) (_ + 2) (by assumption))
local macro_rules | `(tactic| walk_at "obt") => `(tactic| first
  | exact Sy.tqs (by assumption) 0 rfl | exact Sy.tqs (by assumption) 1 rfl | exact Sy.tqs (by assumption) 2 rfl | exact Sy.tqs (by assumption) 3 rfl | exact Sy.tqs (by assumption) 4 rfl | exact Sy.tqs (by assumption) 5 rfl
  | exact Sy.tqs (by assumption) 6 rfl | exact Sy.tqs (by assumption) 7 rfl | assumption)
local macro_rules | `(tactic| walk_at "obl") => `(tactic| first
  | exact SqL.of (by walk_at "obat")
  | exact Sy.sq (by assumption) 0 rfl | exact Sy.sq (by assumption) 1 rfl | exact Sy.sq (by assumption) 2 rfl | exact Sy.sq (by assumption) 3 rfl | exact Sy.sq (by assumption) _ (by assumption))
local macro_rules | `(tactic| walk_at "obd") => `(tactic| first
  | exact Dp.int _ | exact Dp.bl _ | exact Dp.str _ | exact Dp.non
  | exact Sy.dp (by assumption) 0 rfl | exact Sy.dp (by assumption) 1 rfl | exact Sy.dp (by assumption) 2 rfl | exact Sy.dp (by assumption) 3 rfl
  | exact Sy.dp (by assumption) 4 rfl | exact Sy.dp (by assumption) 5 rfl | exact Sy.dp (by assumption) 6 rfl | exact Sy.dp (by assumption) 7 rfl
  | exact Sy.dp (by assumption) 8 rfl | exact Sy.dp (by assumption) 9 rfl | exact Sy.dp (by assumption) _ (by assumption) | assumption)
local macro_rules | `(tactic| walk_at "obds") => `(tactic| first
  | exact DpAll.nil
  | (refine' DpAll.cons ?ob1 ?ob2; (case ob1 => walk_at "obd"); (case ob2 => walk_at "obds"))
  | exact Sy.dps (by assumption) 0 rfl | exact Sy.dps (by assumption) 1 rfl | exact Sy.dps (by assumption) 2 rfl | exact Sy.dps (by assumption) 3 rfl | assumption)
local macro_rules | `(tactic| walk_at "obsc") => `(tactic| first
  | exact ScL.nil
  | ((first | refine' ScL.int ?obz | refine' ScL.str ?obz | refine' ScL.bl ?obz | refine' ScL.non ?obz); (case obz => walk_at "obsc")))
local macro_rules | `(tactic| walk_at "ob1") => `(tactic| first
  | ((with_reducible refine' g_var ?obh ?_); (case obh => rfl))
  | with_reducible refine g_c ?_
  | with_reducible refine g_nx ?_
  | with_reducible refine g_rt ?_
  | with_reducible refine g_bk ?_
  | with_reducible refine g_ct ?_
  | with_reducible refine g_op ?_
  | with_reducible refine g_I0 ?_
  | with_reducible refine g_test ?_
  | with_reducible refine g_bl ?_
  | with_reducible refine g_blx ?_
  | with_reducible refine g_B ?_
  | with_reducible refine g_seq ?_
  | with_reducible refine g_asg ?_
  | with_reducible refine g_name ?_
  | with_reducible refine g_ifS ?_
  | with_reducible refine g_ret ?_
  | with_reducible refine g_cb ?_
  | with_reducible refine g_cons ?_
  | with_reducible refine g_nil ?_
  | with_reducible refine g_int ?_
  | with_reducible refine g_intB ?_
  | with_reducible refine g_abs ?_
  | with_reducible refine g_max ?_
  | with_reducible refine g_min ?_
  | with_reducible refine g_un ?_
  | with_reducible refine g_U ?_
  | with_reducible refine g_eqI ?_
  | with_reducible refine g_neI ?_
  | with_reducible refine g_eqS ?_
  | with_reducible refine g_neS ?_
  | with_reducible refine g_tt ?_
  | with_reducible refine g_ff ?_
  | with_reducible refine g_next ?_
  | with_reducible refine g_drop ?_
  | with_reducible refine g_if ?_
  | with_reducible refine g_andV ?_
  | with_reducible refine g_orV ?_
  | with_reducible refine g_notV ?_
  | with_reducible refine g_and ?_
  | with_reducible refine g_or ?_
  | with_reducible refine g_not ?_
  | with_reducible refine g_yes ?_
  | with_reducible refine g_chain ?_
  | with_reducible refine g_cg ?_
  | with_reducible refine g_mg ?_
  | with_reducible refine g_kg ?_
  | with_reducible refine g_pg ?_
  | ((with_reducible refine' g_call ?obh ?obj ?_); (case obh => rfl); (case obj => rfl))
  | with_reducible refine g_par ?_
  | with_reducible refine g_par2 ?_
  | with_reducible refine g_par3 ?_
  | with_reducible refine g_par33 ?_
  | with_reducible refine g_gnil ?_
  | with_reducible refine g_gcons ?_
  | with_reducible refine g_gsub ?_
  | with_reducible refine g_ipI ?_
  | with_reducible refine g_rAdd ?_
  | with_reducible refine g_rSub ?_
  | ((with_reducible refine' g_aug ?obh ?_); (case obh => rfl))
  | with_reducible refine g_tup ?_
  | with_reducible refine g_lst ?_
  | with_reducible refine g_bm ?_
  | with_reducible refine g_bm0 ?_
  | with_reducible refine g_sl ?_
  | with_reducible refine g_nopart ?_
  | with_reducible refine g_part ?_
  | with_reducible refine g_pint ?_
  | with_reducible refine isi_int ?_
  | with_reducible refine isi_intB ?_
  | ((with_reducible refine' g_I ?obh ?_); (case obh => walk_at "obc"))
  | ((with_reducible refine' g_tyl ?obh ?_); (case obh => walk_at "obl"))
  | ((with_reducible refine' g_lenL ?obh ?_); (case obh => walk_at "obl"))
  | with_reducible refine g_ne ?_
  | ((with_reducible refine' g_neN' ?obh ?_); (case obh => rfl))
  | with_reducible refine g_ntt ?_
  | with_reducible refine g_nff ?_
  | with_reducible refine g_star ?_
  | with_reducible refine g_att ?_
  | with_reducible refine g_sfld ?_
  | with_reducible refine g_faug ?_
  | with_reducible refine g_fld ?_
  | ((with_reducible refine' g_nF ?obh ?_); (case obh => omega))
  | ((with_reducible refine' g_nT ?obh ?_); (case obh => omega))
  | ((with_reducible refine' g_TD ?obh ?_); (case obh => omega))
  | ((with_reducible refine' g_FD ?obh ?_); (case obh => omega))
  | ((with_reducible refine' g_ixUL ?obh ?obi ?_); (case obh => walk_at "obl"); (case obi => exact atI_nn (by omega) (by rfl)))
  | ((with_reducible refine' g_setLS ?obs ?obh ?obi ?_); (case obs => assumption); (case obh => assumption); (case obi => rfl); intro _ _ _)
  | ((with_reducible refine' g_newT ?obs ?obh ?obi ?obj ?_); (case obs => assumption); (case obh => walk_at "obds"); (case obi => rfl); (case obj => exact Nat.le_of_ble_eq_true rfl); intro _ _ _ _)
  | ((with_reducible refine' g_newL ?obs ?obj ?_); (case obs => assumption); (case obj => exact Nat.le_of_ble_eq_true rfl); intro _ _ _ _)
  | ((with_reducible refine' isi_tup ?obh ?_); (case obh => walk_at "obt"))
  | ((with_reducible refine' g_lenT ?obh ?_); (case obh => walk_at "obt"))
  | ((with_reducible refine' g_unpT ?obh ?obi ?_); (case obh => walk_at "obt"); (case obi => rfl))
  | ((with_reducible refine' g_divmod ?obs ?obh ?_); (case obs => assumption); (case obh => exact cdivp_ok (by omega) (by omega) (by omega)); intro _ _ _ _)
  | ((with_reducible refine' g_unpD ?obh ?obi ?obj ?_); (case obh => walk_at "obd"); (case obi => walk_at "obsc"); (case obj => rfl))
  | with_reducible refine g_att ?_)
local macro_rules | `(tactic| walk_at "ob") => `(tactic| first
  | walk_at "ob1"
  | refine use_is_integer ?_
  | refine use_is_within ?_
  | with_reducible refine g_lstRg ?_
  | with_reducible refine g_rg1 ?_
  | with_reducible refine g_rg2 ?_
  | with_reducible refine g_tTru ?_
  | ((with_reducible refine' g_truL ?obh ?_); (case obh => walk_at "obl"))
  | ((with_reducible refine' g_ixUT ?obh ?obi ?_); (case obh => walk_at "obt"); (case obi => rfl))
  | with_reducible refine g_forZ ?_
  | with_reducible refine g_forR2 ?_
  | with_reducible refine g_forE ?_
  | with_reducible refine g_lcZ ?_)
def sgS : Str := Str.ofString "abc 019._-:()'\"\\~"
def sg : List Nat := sgS.cps.toList
theorem sg_ok : sg.all (fun c => decide (c < 128) && Unicode.isPrintable c) = true := by decide +kernel
theorem ln_of {l : List Nat} (h : ∀ c ∈ l, c ∈ sg) (h1 : 1 ≤ l.length) (h2 : l.length ≤ 200) : LnOk (tx l) := by
  show lnB (tx l).cps.toList = true
  rw [tx_cps]
  unfold lnB
  have hs : ∀ c ∈ l, c < 128 ∧ Unicode.isPrintable c = true := fun c hc => by
    have := List.all_eq_true.mp sg_ok c (h c hc)
    rw [Bool.and_eq_true] at this
    exact ⟨of_decide_eq_true this.1, this.2⟩
  rw [decide_eq_true ⟨h1, h2⟩, Bool.true_and, Bool.and_eq_true]
  refine ⟨?_, ?_⟩
  · show (tx l).cps.all (· < 128) = true
    rw [Array.all_eq_true']
    intro c hc
    exact decide_eq_true (hs c (by simpa [tx] using hc)).1
  · show (tx l).cps.all Unicode.isPrintable = true
    rw [Array.all_eq_true']
    intro c hc
    exact (hs c (by simpa [tx] using hc)).2
theorem join_ones : ∀ cs : List Nat, Txt.join (Str.ofString "") (cs.map fun c => tx [c]) = tx cs := fun cs => by
  show Builtin.Str.glued _ _ = _
  rw [PySem.StrLaws.glued_eq_join]
  induction cs with
  | nil => rfl
  | cons c cs ih =>
    cases cs with
    | nil => rfl
    | cons d r =>
      rw [List.map_cons, List.map_cons, PyProof.Rows.join_cons_cons, ← List.map_cons (f := fun c => tx [c]), ih, show Str.ofString "" = tx [] from rfl, tx_append, tx_append]
      rfl
section
variable {P : Program} {w : World} {K : Frag} {mg : Str → Option Value} {base : Heap}
theorem use_ofZ {F : List (Addr × HO)} {G : List Ft} {H : Hp} {Q : VK} {E : XK} {n : Nat} {p : Addr} {z : Str} (h : Pot K F G p n H) (hn : n < 1000000) (l0 : 0 < z.cps.toList.length) (l1 : z.cps.toList.length < 1000) (k : ∀ c ∈ z.cps.toList, ∀ H', Pot K F G p (n + 1) H' → Q (.str (tx [c])) H') : sp_law_of K [.ref p, .str z] H Q E := by
  have := use_ofS (Q := Q) (E := E) h hn l0 l1 k
  rw [tx_of] at this
  exact this
def sp_law_line (K : Frag) : Sp := fun vs H Q E => vs.length = 1 ∧ ∃ (F : List (Addr × HO)) (G : List Ft) (p : Addr) (n : Nat), vs = [.ref p] ∧ Pot K F G p n H ∧ n < 900000 ∧ ∀ (l : Str) H', LnOk l → Pot K F G p (n + 10) H' → Q (.str l) H'
abbrev names_law_line : List Str := ["pot", "signs", "lap"]
theorem sc_law_line : FnScope names_law_line ["pot"] (defScope (top 44)) := ⟨rfl, rfl, rfl, by decide +kernel, rfl, by decide +kernel, by decide +kernel⟩
set_option maxHeartbeats 4000000 in
theorem ok_law_line (T : Tx K mg) : FG P w K mg base CX0 3 T.a_law_line T.d_law_line ["pot"] (sp_law_line K) := by
  refine OB.Fun.fg T.F_law_line sc_law_line (fun vs H Q E h => h.1) (fun cdv A out s H vs Q E g h => ?_)
  obtain ⟨_, F, G, p, n, rfl, P0, hn, k⟩ := h
  refine ⟨_, (pss_cons (ps_set (i := 1) sc_law_line.nd rfl (by first | exact Or.inl rfl | exact Or.inr rfl) pe_str)
      (pss_cons (ps_if (pt_cmpR op_eq (pe_cg (ok_law_take T) (g.mono (by decide : 1 ≤ 2)) (by rfl) T.m_law_take T.F_law_take.kp (OB.Fun.bd T.F_law_take (ps := ["pot", "upto"]) (n := 2) (ks := []) (ix := [0, 1]) (fun _ _ _ _ _ _ us ws h1 h2 => match us, ws, h1, h2 with | [_, _], [], _, _ => rfl)) pass0 (pa_cons (pv 0) (pa_cons pe_int pa_nil)) pk_nil) pe_int (nomark _)) (pss_one (ps_ret (pe_op op_mulS (pe_cg (ok_law_of T) (g.mono (by decide : 2 ≤ 2)) (by rfl) T.m_law_of T.F_law_of.kp (OB.Fun.bd T.F_law_of (ps := ["pot", "some"]) (n := 2) (ks := []) (ix := [0, 1]) (fun _ _ _ _ _ _ us ws h1 h2 => match us, ws, h1, h2 with | [_, _], [], _, _ => rfl)) pass0 (pa_cons (pv 0) (pa_cons (pv 1) pa_nil)) pk_nil) (pe_callTy c_int (by rfl) T.n_int (by decide +kernel) (pa_cons (pe_cg (ok_law_of T) (g.mono (by decide : 2 ≤ 2)) (by rfl) T.m_law_of T.F_law_of.kp (OB.Fun.bd T.F_law_of (ps := ["pot", "some"]) (n := 2) (ks := []) (ix := [0, 1]) (fun _ _ _ _ _ _ us ws h1 h2 => match us, ws, h1, h2 with | [_, _], [], _, _ => rfl)) pass0 (pa_cons (pv 0) (pa_cons (pe_lst (pa_cons pe_int (pa_cons pe_int (pa_cons pe_int pa_nil)))) pa_nil)) pk_nil) pa_nil))))) pss_nil)
      (pss_one (ps_ret (pe_bm PySem.F.plainAttrs_str PySem.F.slot_str_join PySem.F.type_str_join mt_join pe_str (pa_cons (pe_lc (own := [("lap", 2)]) (tt := tYes) rfl sc_law_line.nd (pi_range1 rfl T.n_range (pa_cons (pe_op op_add pe_int (pe_cg (ok_law_take T) (g.mono (by decide : 1 ≤ 2)) (by rfl) T.m_law_take T.F_law_take.kp (OB.Fun.bd T.F_law_take (ps := ["pot", "upto"]) (n := 2) (ks := []) (ix := [0, 1]) (fun _ _ _ _ _ _ us ws h1 h2 => match us, ws, h1, h2 with | [_, _], [], _, _ => rfl)) pass0 (pa_cons (pv 0) (pa_cons pe_int pa_nil)) pk_nil)) pa_nil)) (blkOk_by (N := names_law_line) (sc := defScope (top 44)) (own := [("lap", 2)]) (by decide +kernel)) (fun _ _ _ _ _ => (pg_name (i := 2) sc_law_line.nd rfl (by first | exact Or.inl rfl | exact Or.inr rfl))) (fun _ _ _ _ _ => pts_nil) (fun _ _ _ _ _ => (pe_cg (ok_law_of T) (g.mono (by decide : 2 ≤ 2)) (by rfl) T.m_law_of T.F_law_of.kp (OB.Fun.bd T.F_law_of (ps := ["pot", "some"]) (n := 2) (ks := []) (ix := [0, 1]) (fun _ _ _ _ _ _ us ws h1 h2 => match us, ws, h1, h2 with | [_, _], [], _, _ => rfl)) pass0 (pa_cons (pv 0) (pa_cons (pv 1) pa_nil)) pk_nil))) pa_nil)))))), ?_⟩
  refine g_start (σ := [some _, none, none]) rfl ?_
  have hsl : sgS.cps.toList.length = 17 := by decide +kernel
  repeat walk_at "ob"
  refine use_takeP P0 (by omega) (by decide) (by decide) fun r H1 r0 r1 P1 => ?_
  repeat walk_at "ob"
  refine g_iteD (fun h1 => ?_) (fun h1 => ?_)
  · repeat walk_at "ob"
    refine use_ofZ (z := sgS) P1 (by omega) (by omega) (by omega) fun c hc H2 P2 => ?_
    obtain ⟨a2, b2, c2, o2, S2⟩ := P2
    repeat walk_at "ob"
    rename_i q H3 _ S3
    refine use_ofP (xs := ([200, 199, 100] : List Int).map V.int) ⟨a2, b2, c2, o2, S3.swap⟩ (by omega) (by decide) (by decide) fun v hv H4 P4 => ?_
    obtain ⟨m, hm, rfl⟩ := List.mem_map.mp hv
    have hm : 100 ≤ m ∧ m ≤ 200 := (show ∀ m ∈ ([200, 199, 100] : List Int), 100 ≤ m ∧ m ≤ 200 by decide) m hm
    repeat walk_at "ob"
    refine g_mulS (l := [c]) (by omega) (by omega) (Nat.succ_pos _) (Nat.le_of_ble_eq_true rfl) ?_
    have hl := repS_len [c] m.toNat
    have hl1 : [c].length = 1 := rfl
    refine k _ H4 (ln_of (fun z hz => ?_) (by rw [hl, hl1]; omega) (by rw [hl, hl1]; omega)) (P4.less.mono (by omega))
    rw [List.mem_singleton.mp (repS_mem hz)]
    exact hc
  · repeat walk_at "ob"
    refine g_tys ?_
    repeat walk_at "ob"
    refine g_lcR (K := K) ?_
    repeat walk_at "ob"
    refine use_takeP P1 (by omega) (by decide) (by decide) fun r2 H2 r20 r21 P2 => ?_
    obtain ⟨a2, b2, c2, o2, S2⟩ := P2
    repeat walk_at "ob"
    refine g_rgJ (by omega) (by omega) ?_
    refine rglc_of (fun j F' ds => ∃ a b c, ∃ cs : List Nat, F' = (p, potO a b c) :: F ∧ PotOk (n + 2 + j) a b c ∧ ds = (cs.map fun c => tx [c]).map PyData.str ∧ cs.length = j ∧ j ≤ 5 ∧ ∀ c ∈ cs, c ∈ sg) S2 ⟨a2, b2, c2, [], rfl, o2, rfl, rfl, by omega, fun _ h => (nomatch h)⟩ (fun j F' ds ⟨_, _, _, cs, _, _, e, h1, h2, _⟩ => by
      rw [e, List.length_map, List.length_map]
      omega) ?_ ?_
    · rintro j hj Dp H3 F3 ws ds QE QR ⟨a, b, c, cs, rfl, o, rfl, hj1, hj2, hm⟩ S3 kE kR
      repeat walk_at "ob"
      refine ⟨rfl, ?_⟩
      repeat walk_at "ob"
      refine use_ofZ (z := sgS) ⟨a, b, c, o, S3.swap⟩ (by omega) (by omega) (by omega) fun z hz H4 P4 => ?_
      obtain ⟨a4, b4, c4, o4, S4⟩ := P4
      refine kE _ (.str (tx [z])) _ _ ⟨a4, b4, c4, cs ++ [z], rfl, o4, by rw [List.map_append, List.map_append]; rfl, by rw [List.length_append, hj1]; rfl, by omega, fun y hy => ?_⟩ (S4.swap.fact (dps_one (.str _)) rfl)
      rcases List.mem_append.mp hy with hy | hy
      · exact hm y hy
      · rw [List.mem_singleton.mp hy]
        exact hz
    rintro Dp H3 F3 ws ds hD ⟨a, b, c, cs, rfl, o, rfl, hj1, hj2, hm⟩ S3
    have hw := dps_strsV (S3.dps 0 rfl)
    subst hw
    repeat walk_at "ob"
    refine ⟨Str.ofString "", Dp, cs.map fun c => tx [c], rfl, rfl, .inl (SqL.of (S3.at 0 rfl)), ?_, ?_⟩
    · have h0 : (Str.ofString "").length = 0 := rfl
      have hs : ∀ cs : List Nat, ((cs.map fun c => tx [c]).map fun x => x.length).sum = cs.length := fun cs => by
        induction cs with
        | nil => rfl
        | cons c cs ih =>
          rw [List.map_cons, List.map_cons, List.sum_cons, ih, tx_len, List.length_cons]
          show 1 + cs.length = cs.length + 1
          omega
      rw [hs, h0, Nat.mul_zero]
      omega
    · rw [join_ones]
      exact k _ H3 (ln_of hm (by omega) (by omega)) ⟨a, b, c, o.mono (by omega), S3.less.drop⟩
end
end LAW

set_option Elab.async false
set_option linter.all false
set_option maxRecDepth 100000
namespace LAW
open PySem PySem.Spec PyProof.Rows L2 PySem.W OB
local macro_rules | `(tactic| walk_at "obc") => `(tactic| first
  | exact Or.inl ⟨by omega, by omega⟩
  | exact Or.inr ⟨by omega, by omega⟩
  | exact cdiv_ok (by omega) (by omega)
  | (show (0 : Int) < _; omega)
  | exact ⟨by omega, by decide⟩
  | exact ⟨by decide, by decide⟩)
local macro_rules | `(tactic| walk_at "obat") => `(tactic| first
  | exact Sy.at (by assumption) 0 rfl | exact Sy.at (by assumption) 1 rfl | exact Sy.at (by assumption) 2 rfl | exact Sy.at (by assumption) 3 rfl
  | exact Sy.at (by assumption) 4 rfl | exact Sy.at (by assumption) 5 rfl | exact Sy.at (by assumption) 6 rfl | exact Sy.at (by assumption) _ (by assumption) | exact Sy.at (by assumption) (_ + 1) (by assumption) | exact Sy.at (by assumption) (_ + 2) (by assumption))
local macro_rules | `(tactic| walk_at "obt") => `(tactic| first
  | exact Sy.tqs (by assumption) 0 rfl | exact Sy.tqs (by assumption) 1 rfl | exact Sy.tqs (by assumption) 2 rfl | exact Sy.tqs (by assumption) 3 rfl | exact Sy.tqs (by assumption) 4 rfl | exact Sy.tqs (by assumption) 5 rfl
  | exact Sy.tqs (by assumption) 6 rfl | exact Sy.tqs (by assumption) 7 rfl | assumption)
local macro_rules | `(tactic| walk_at "obl") => `(tactic| first
  | exact SqL.of (by walk_at "obat")
  | exact Sy.sq (by assumption) 0 rfl | exact Sy.sq (by assumption) 1 rfl | exact Sy.sq (by assumption) 2 rfl | exact Sy.sq (by assumption) 3 rfl | exact Sy.sq (by assumption) _ (by assumption))
local macro_rules | `(tactic| walk_at "obd") => `(tactic| first
  | exact Dp.int _ | exact Dp.bl _ | exact Dp.str _ | exact Dp.non
  | exact Sy.dp (by assumption) 0 rfl | exact Sy.dp (by assumption) 1 rfl | exact Sy.dp (by assumption) 2 rfl | exact Sy.dp (by assumption) 3 rfl
  | exact Sy.dp (by assumption) 4 rfl | exact Sy.dp (by assumption) 5 rfl | exact Sy.dp (by assumption) 6 rfl | exact Sy.dp (by assumption) 7 rfl
  | exact Sy.dp (by assumption) 8 rfl | exact Sy.dp (by assumption) 9 rfl | exact Sy.dp (by assumption) _ (by assumption) | assumption)
local macro_rules | `(tactic| walk_at "obds") => `(tactic| first
  | exact DpAll.nil
  | (refine' DpAll.cons ?ob1 ?ob2; (case ob1 => walk_at "obd"); (case ob2 => walk_at "obds"))
  | exact Sy.dps (by assumption) 0 rfl | exact Sy.dps (by assumption) 1 rfl | exact Sy.dps (by assumption) 2 rfl | exact Sy.dps (by assumption) 3 rfl | assumption)
local macro_rules | `(tactic| walk_at "obsc") => `(tactic| first
  | exact ScL.nil
  | ((first | refine' ScL.int ?obz | refine' ScL.str ?obz | refine' ScL.bl ?obz | refine' ScL.non ?obz); (case obz => walk_at "obsc")))
local macro_rules | `(tactic| walk_at "ob1") => `(tactic| first
  | ((with_reducible refine' g_var ?obh ?_); (case obh => rfl))
  | with_reducible refine g_c ?_
  | with_reducible refine g_nx ?_
  | with_reducible refine g_rt ?_
  | with_reducible refine g_bk ?_
  | with_reducible refine g_ct ?_
  | with_reducible refine g_op ?_
  | with_reducible refine g_I0 ?_
  | with_reducible refine g_test ?_
  | with_reducible refine g_bl ?_
  | with_reducible refine g_blx ?_
  | with_reducible refine g_B ?_
  | with_reducible refine g_seq ?_
  | with_reducible refine g_asg ?_
  | with_reducible refine g_name ?_
  | with_reducible refine g_ifS ?_
  | with_reducible refine g_ret ?_
  | with_reducible refine g_cb ?_
  | with_reducible refine g_cons ?_
  | with_reducible refine g_nil ?_
  | with_reducible refine g_int ?_
  | with_reducible refine g_intB ?_
  | with_reducible refine g_abs ?_
  | with_reducible refine g_max ?_
  | with_reducible refine g_min ?_
  | with_reducible refine g_un ?_
  | with_reducible refine g_U ?_
  | with_reducible refine g_eqI ?_
  | with_reducible refine g_neI ?_
  | with_reducible refine g_eqS ?_
  | with_reducible refine g_neS ?_
  | with_reducible refine g_tt ?_
  | with_reducible refine g_ff ?_
  | with_reducible refine g_next ?_
  | with_reducible refine g_drop ?_
  | with_reducible refine g_if ?_
  | with_reducible refine g_andV ?_
  | with_reducible refine g_orV ?_
  | with_reducible refine g_notV ?_
  | with_reducible refine g_and ?_
  | with_reducible refine g_or ?_
  | with_reducible refine g_not ?_
  | with_reducible refine g_yes ?_
  | with_reducible refine g_chain ?_
  | with_reducible refine g_cg ?_
  | with_reducible refine g_mg ?_
  | with_reducible refine g_kg ?_
  | with_reducible refine g_pg ?_
  | ((with_reducible refine' g_call ?obh ?obj ?_); (case obh => rfl); (case obj => rfl))
  | with_reducible refine g_par ?_
  | with_reducible refine g_par2 ?_
  | with_reducible refine g_par3 ?_
  | with_reducible refine g_par33 ?_
  | with_reducible refine g_gnil ?_
  | with_reducible refine g_gcons ?_
  | with_reducible refine g_gsub ?_
  | with_reducible refine g_ipI ?_
  | with_reducible refine g_rAdd ?_
  | with_reducible refine g_rSub ?_
  | ((with_reducible refine' g_aug ?obh ?_); (case obh => rfl))
  | with_reducible refine g_tup ?_
  | with_reducible refine g_lst ?_
  | with_reducible refine g_bm ?_
  | with_reducible refine g_bm0 ?_
  | with_reducible refine g_sl ?_
  | with_reducible refine g_nopart ?_
  | with_reducible refine g_part ?_
  | with_reducible refine g_pint ?_
  | with_reducible refine isi_int ?_
  | with_reducible refine isi_intB ?_
  | ((with_reducible refine' g_I ?obh ?_); (case obh => walk_at "obc"))
  | ((with_reducible refine' g_tyl ?obh ?_); (case obh => walk_at "obl"))
  | ((with_reducible refine' g_lenL ?obh ?_); (case obh => walk_at "obl"))
  | with_reducible refine g_ne ?_
  | ((with_reducible refine' g_neN' ?obh ?_); (case obh => rfl))
  | with_reducible refine g_ntt ?_
  | with_reducible refine g_nff ?_
  | with_reducible refine g_star ?_
  | with_reducible refine g_att ?_
  | with_reducible refine g_sfld ?_
  | with_reducible refine g_faug ?_
  | with_reducible refine g_fld ?_
  | ((with_reducible refine' g_nF ?obh ?_); (case obh => omega))
  | ((with_reducible refine' g_nT ?obh ?_); (case obh => omega))
  | ((with_reducible refine' g_TD ?obh ?_); (case obh => omega))
  | ((with_reducible refine' g_FD ?obh ?_); (case obh => omega))
  | ((with_reducible refine' g_ixUL ?obh ?obi ?_); (case obh => walk_at "obl"); (case obi => exact atI_nn (by omega) (by rfl)))
  | ((with_reducible refine' g_setLS ?obs ?obh ?obi ?_); (case obs => assumption); (case obh => assumption); (case obi => rfl); intro _ _ _)
  | ((with_reducible refine' g_newT ?obs ?obh ?obi ?obj ?_); (case obs => assumption); (case obh => walk_at "obds"); (case obi => rfl); (case obj => exact Nat.le_of_ble_eq_true rfl); intro _ _ _ _)
  | ((with_reducible refine' g_newL ?obs ?obj ?_); (case obs => assumption); (case obj => exact Nat.le_of_ble_eq_true rfl); intro _ _ _ _)
  | ((with_reducible refine' isi_tup ?obh ?_); (case obh => walk_at "obt"))
  | ((with_reducible refine' g_lenT ?obh ?_); (case obh => walk_at "obt"))
  | ((with_reducible refine' g_unpT ?obh ?obi ?_); (case obh => walk_at "obt"); (case obi => rfl))
  | ((with_reducible refine' g_divmod ?obs ?obh ?_); (case obs => assumption); (case obh => exact cdivp_ok (by omega) (by omega) (by omega)); intro _ _ _ _)
  | ((with_reducible refine' g_unpD ?obh ?obi ?obj ?_); (case obh => walk_at "obd"); (case obi => walk_at "obsc"); (case obj => rfl))
  | with_reducible refine g_att ?_)
local macro_rules | `(tactic| walk_at "ob") => `(tactic| first
  | walk_at "ob1"
  | refine use_is_integer ?_
  | refine use_is_within ?_
  | with_reducible refine g_lstRg ?_
  | with_reducible refine g_rg1 ?_
  | with_reducible refine g_rg2 ?_
  | with_reducible refine g_tTru ?_
  | ((with_reducible refine' g_truL ?obh ?_); (case obh => walk_at "obl"))
  | ((with_reducible refine' g_ixUT ?obh ?obi ?_); (case obh => walk_at "obt"); (case obi => rfl))
  | with_reducible refine g_forZ ?_
  | with_reducible refine g_forR2 ?_
  | with_reducible refine g_forE ?_
  | with_reducible refine g_lcZ ?_)
section
variable {P : Program} {w : World} {K : Frag} {mg : Str → Option Value} {base : Heap}
theorem Pot.swap2 {F : List (Addr × HO)} {G : List Ft} {p : Addr} {n : Nat} {H : Hp} {x y : Addr × HO} (h : Pot K (x :: y :: F) G p n H) : Pot K (y :: x :: F) G p n H := by
  obtain ⟨a, b, c, o, S⟩ := h
  exact ⟨a, b, c, o, S.perm (List.Perm.cons _ (List.Perm.swap ..))⟩
theorem use_line {F : List (Addr × HO)} {G : List Ft} {H : Hp} {Q : VK} {E : XK} {p : Addr} {n : Nat} (h : Pot K F G p n H) (hn : n < 900000) (k : ∀ (l : Str) H', LnOk l → Pot K F G p (n + 10) H' → Q (.str l) H') : sp_law_line K [.ref p] H Q E := ⟨rfl, F, G, p, n, rfl, h, hn, k⟩
def sp_law_shelf_deeds (K : Frag) : Sp := fun vs H Q E => vs.length = 3 ∧ ∃ (F : List (Addr × HO)) (G : List Ft) (p q : Addr) (n : Nat) (a : Int) (ns N : List Str), vs = [.ref p, .ref q, .int a] ∧ Pot K ((q, .lst (ns.map V.str)) :: F) G p n H ∧ n < 100000 ∧ 0 ≤ a ∧ a ≤ 50 ∧ 0 < ns.length ∧ ns.length ≤ 100 ∧ (∀ x ∈ ns, x ∈ N) ∧
  ∀ t dv (es : List Dd) H', (∀ e ∈ es, DdOk N e) → es.length = a.toNat → Pot K ((t, .lst dv) :: (q, .lst (ns.map V.str)) :: F) (.dat dv (es.map Dd.d) :: G) p (n + 5000) H' → Q (.ref t) H'
abbrev names_law_shelf_deeds : List Str := ["pot", "names", "amount", "found", "calm", "lap", "turn"]
theorem sc_law_shelf_deeds : FnScope names_law_shelf_deeds ["pot", "names", "amount"] (defScope (top 47)) := ⟨rfl, rfl, rfl, by decide +kernel, rfl, by decide +kernel, by decide +kernel⟩
set_option maxHeartbeats 4000000 in
theorem ok_law_shelf_deeds (T : Tx K mg) : FG P w K mg base CX0 4 T.a_law_shelf_deeds T.d_law_shelf_deeds ["pot", "names", "amount"] (sp_law_shelf_deeds K) := by
  refine OB.Fun.fg T.F_law_shelf_deeds sc_law_shelf_deeds (fun vs H Q E h => h.1) (fun cdv A out s H vs Q E g h => ?_)
  obtain ⟨_, F, G, p, q, n, a, ns, N, rfl, ⟨a0, b0, c0, o0, S0⟩, hn, ha0, ha1, hn0, hn1, hns, k⟩ := h
  refine ⟨_, (pss_cons (ps_par (i := 3) (j := 4) rfl sc_law_shelf_deeds.nd rfl rfl (by decide) rfl rfl (pa_cons (pe_lst pa_nil) (pa_cons (pe_cg (ok_law_of T) (g.mono (by decide : 2 ≤ 3)) (by rfl) T.m_law_of T.F_law_of.kp (OB.Fun.bd T.F_law_of (ps := ["pot", "some"]) (n := 2) (ks := []) (ix := [0, 1]) (fun _ _ _ _ _ _ us ws h1 h2 => match us, ws, h1, h2 with | [_, _], [], _, _ => rfl)) pass0 (pa_cons (pv 0) (pa_cons (pe_lst (pa_cons pe_int (pa_cons pe_int (pa_cons pe_int pa_nil)))) pa_nil)) pk_nil) pa_nil)) (by rfl))
      (pss_cons (ps_for PassesOwn.never rfl (pi_range1 rfl T.n_range (pa_cons (pv 2) pa_nil)) (pg_name (i := 5) sc_law_shelf_deeds.nd rfl (by first | exact Or.inl rfl | exact Or.inr rfl))
      (pss_one (ps_if (pt_cmpR op_eq (pe_cg (ok_law_take T) (g.mono (by decide : 1 ≤ 3)) (by rfl) T.m_law_take T.F_law_take.kp (OB.Fun.bd T.F_law_take (ps := ["pot", "upto"]) (n := 2) (ks := []) (ix := [0, 1]) (fun _ _ _ _ _ _ us ws h1 h2 => match us, ws, h1, h2 with | [_, _], [], _, _ => rfl)) pass0 (pa_cons (pv 0) (pa_cons (pv 4) pa_nil)) pk_nil) pe_int (nomark _)) (pss_one (ps_expr (pe_bm PySem.F.plainAttrs_list PySem.F.slot_list_append PySem.F.type_list_append mt_append (pv 3) (pa_cons (pe_tup (pa_cons pe_str pa_nil)) pa_nil)))) (pss_one (ps_if (pt_cmpR op_eq (pe_cg (ok_law_take T) (g.mono (by decide : 1 ≤ 3)) (by rfl) T.m_law_take T.F_law_take.kp (OB.Fun.bd T.F_law_take (ps := ["pot", "upto"]) (n := 2) (ks := []) (ix := [0, 1]) (fun _ _ _ _ _ _ us ws h1 h2 => match us, ws, h1, h2 with | [_, _], [], _, _ => rfl)) pass0 (pa_cons (pv 0) (pa_cons pe_int pa_nil)) pk_nil) pe_int (nomark _)) (pss_one (ps_expr (pe_bm PySem.F.plainAttrs_list PySem.F.slot_list_append PySem.F.type_list_append mt_append (pv 3) (pa_cons (pe_tup (pa_cons pe_str (pa_cons (pe_cg (ok_law_of T) (g.mono (by decide : 2 ≤ 3)) (by rfl) T.m_law_of T.F_law_of.kp (OB.Fun.bd T.F_law_of (ps := ["pot", "some"]) (n := 2) (ks := []) (ix := [0, 1]) (fun _ _ _ _ _ _ us ws h1 h2 => match us, ws, h1, h2 with | [_, _], [], _, _ => rfl)) pass0 (pa_cons (pv 0) (pa_cons (pv 1) pa_nil)) pk_nil) (pa_cons (pe_callTy (toK (r := rTuple) (K := K) rfl c_tuple) (by rfl) T.n_tuple (by decide +kernel) (pa_cons (pe_lc (own := [("turn", 6)]) (tt := tYes) rfl sc_law_shelf_deeds.nd (pi_range1 rfl T.n_range (pa_cons (pe_cg (ok_law_take T) (g.mono (by decide : 1 ≤ 3)) (by rfl) T.m_law_take T.F_law_take.kp (OB.Fun.bd T.F_law_take (ps := ["pot", "upto"]) (n := 2) (ks := []) (ix := [0, 1]) (fun _ _ _ _ _ _ us ws h1 h2 => match us, ws, h1, h2 with | [_, _], [], _, _ => rfl)) pass0 (pa_cons (pv 0) (pa_cons pe_int pa_nil)) pk_nil) pa_nil)) (blkOk_by (N := names_law_shelf_deeds) (sc := defScope (top 47)) (own := [("turn", 6)]) (by decide +kernel)) (fun _ _ _ _ _ => (pg_name (i := 6) sc_law_shelf_deeds.nd rfl (by first | exact Or.inl rfl | exact Or.inr rfl))) (fun _ _ _ _ _ => pts_nil) (fun _ _ _ _ _ => (pe_cg (ok_law_line T) (g.mono (by decide : 3 ≤ 3)) (by rfl) T.m_law_line T.F_law_line.kp (OB.Fun.bd T.F_law_line (ps := ["pot"]) (n := 1) (ks := []) (ix := [0]) (fun _ _ _ _ _ _ us ws h1 h2 => match us, ws, h1, h2 with | [_], [], _, _ => rfl)) pass0 (pa_cons (pv 0) pa_nil) pk_nil))) pa_nil)) pa_nil)))) pa_nil)))) (pss_one (ps_expr (pe_bm PySem.F.plainAttrs_list PySem.F.slot_list_append PySem.F.type_list_append mt_append (pv 3) (pa_cons (pe_tup (pa_cons pe_str (pa_cons (pe_cg (ok_law_of T) (g.mono (by decide : 2 ≤ 3)) (by rfl) T.m_law_of T.F_law_of.kp (OB.Fun.bd T.F_law_of (ps := ["pot", "some"]) (n := 2) (ks := []) (ix := [0, 1]) (fun _ _ _ _ _ _ us ws h1 h2 => match us, ws, h1, h2 with | [_, _], [], _, _ => rfl)) pass0 (pa_cons (pv 0) (pa_cons (pv 1) pa_nil)) pk_nil) (pa_cons (pe_cg (ok_law_line T) (g.mono (by decide : 3 ≤ 3)) (by rfl) T.m_law_line T.F_law_line.kp (OB.Fun.bd T.F_law_line (ps := ["pot"]) (n := 1) (ks := []) (ix := [0]) (fun _ _ _ _ _ _ us ws h1 h2 => match us, ws, h1, h2 with | [_], [], _, _ => rfl)) pass0 (pa_cons (pv 0) pa_nil) pk_nil) pa_nil)))) pa_nil)))))))))
      (pss_one (ps_ret (pv 3))))), ?_⟩
  refine g_start (σ := [some _, some _, some _, none, none, none, none]) rfl ?_
  repeat walk_at "ob"
  rename_i fo _ _ S1 q1 H2 _ S2
  have hfn : (ns.map V.str).length = ns.length := List.length_map ..
  refine use_ofP (xs := ([3, 6, 30] : List Int).map V.int) (n := n) ⟨a0, b0, c0, o0, S2.perm ((List.Perm.swap ..).trans (List.Perm.cons _ (List.Perm.swap ..)))⟩ (by omega) (by decide) (by decide) fun v hv H3 P3 => ?_
  obtain ⟨cm, hcm, rfl⟩ := List.mem_map.mp hv
  have hcm : 3 ≤ cm ∧ cm ≤ 30 := (show ∀ m ∈ ([3, 6, 30] : List Int), 3 ≤ m ∧ m ≤ 30 by decide) cm hcm
  have P4 := P3.less
  clear S1 S2 P3 S0
  repeat walk_at "ob"
  refine g_forR ?_
  repeat walk_at "ob"
  refine g_rgJ (by omega) (by omega) ?_
  refine rgfor_of (fun i σ' H' => ∃ v5 v6 dv, ∃ es : List Dd, σ' = [some (.ref p), some (.ref q), some (.int a), some (.ref fo), some (.int cm), v5, v6] ∧ (∀ e ∈ es, DdOk N e) ∧ es.length = i ∧ Pot K ((fo, .lst dv) :: (q, .lst (ns.map V.str)) :: F) (.dat dv (es.map Dd.d) :: G) p (n + 1 + i * 60) H') ⟨none, none, [], [], rfl, fun _ h => (nomatch h), rfl, P4.sub (by omega) fun _ _ S => S.fact .nil rfl⟩ ?_ ?_
  · rintro i σ' H' hi ⟨v5, v6, dv, es, rfl, hes, hel, P5⟩
    clear P4
    have hdl : dv.length = i := by
      obtain ⟨_, _, _, _, S5⟩ := P5
      rw [dps_length (S5.dps 0 rfl), List.length_map, hel]
    have app : ∀ {H' : Hp} {v : V} {e : Dd} {m : Nat} {Q : VK}, DdOk N e → m ≤ n + 1 + (i + 1) * 60 → Pot K ((fo, .lst dv) :: (q, .lst (ns.map V.str)) :: F) (.dat [v] [e.d] :: .dat dv (es.map Dd.d) :: G) p m H' → (∀ H2, (∀ e' ∈ es ++ [e], DdOk N e') → (es ++ [e]).length = i + 1 → Pot K ((fo, .lst (dv ++ [v])) :: (q, .lst (ns.map V.str)) :: F) (.dat (dv ++ [v]) ((es ++ [e]).map Dd.d) :: G) p (n + 1 + (i + 1) * 60) H2 → Q .non H2) → rAppend (.ref fo) [v] H' Q := fun {H' v e m Q} hok hm P6 kk => by
      obtain ⟨a6, b6, c6, o6, S6⟩ := P6
      refine g_appS S6 (f := 1) rfl (by omega) fun H7 S7 => ?_
      have S8 : Sy K ((p, potO a6 b6 c6) :: (fo, .lst (dv ++ [v])) :: (q, .lst (ns.map V.str)) :: F) (.dat [v] [e.d] :: .dat dv (es.map Dd.d) :: G) H7 := S7
      refine kk H7 (fun e' he' => ?_) (by rw [List.length_append, hel]; rfl) ⟨a6, b6, c6, o6.mono hm, ?_⟩
      · rcases List.mem_append.mp he' with he' | he'
        · exact hes e' he'
        · rw [List.mem_singleton.mp he']
          exact hok
      · rw [List.map_append]
        exact ((S8.fact (dps_append (S8.dps 1 rfl) (S8.dps 0 rfl)) (by rw [immAll_append, S8.dpi 1 rfl, S8.dpi 0 rfl]; rfl)).drop2).drop2
    repeat walk_at "ob"
    refine use_takeP P5 (by omega) (by omega) (by omega) fun r H6 r0 r1 P6 => ?_
    clear P5
    repeat walk_at "ob"
    refine g_iteD (fun h1 => ?_) (fun h1 => ?_)
    · obtain ⟨a6, b6, c6, o6, S6⟩ := P6
      repeat walk_at "ob"
      rename_i T7 H7 _ S7
      refine app (e := .syn) trivial (by omega) ⟨a6, b6, c6, o6, S7⟩ fun H8 h2 h3 P8 => ?_
      repeat walk_at "ob"
      exact ⟨_, _, _, _, rfl, h2, h3, P8⟩
    · repeat walk_at "ob"
      refine use_takeP P6 (by omega) (by omega) (by omega) fun r2 H7 r20 r21 P7 => ?_
      clear P6
      repeat walk_at "ob"
      refine g_iteD (fun h2 => ?_) (fun h2 => ?_)
      · obtain ⟨a7, b7, c7, o7, S7⟩ := P7
        repeat walk_at "ob"
        refine use_ofP (Pot.swap2 ⟨a7, b7, c7, o7, S7⟩) (by omega) (by omega) (by omega) fun v hv H8 P8 => ?_
        obtain ⟨z, hz, rfl⟩ := List.mem_map.mp hv
        have P8b := P8.swap2
        clear S7 P8
        repeat walk_at "ob"
        refine g_lcR (K := K) ?_
        repeat walk_at "ob"
        refine use_takeP P8b (by omega) (by omega) (by omega) fun r3 H9 r30 r31 P9 => ?_
        obtain ⟨a9, b9, c9, o9, S9⟩ := P9
        clear P8b
        repeat walk_at "ob"
        refine g_rgJ (by omega) (by omega) ?_
        refine rglc_of (fun j F' ds => ∃ a b c, ∃ ls : List Str, F' = (p, potO a b c) :: (fo, .lst dv) :: (q, .lst (ns.map V.str)) :: F ∧ PotOk (n + 1 + i * 60 + 1 + 1 + 1 + 1 + j * 10) a b c ∧ ds = ls.map PyData.str ∧ ls.length = j ∧ j ≤ 2 ∧ ∀ l ∈ ls, LnOk l) S9 ⟨a9, b9, c9, [], rfl, o9, rfl, rfl, by omega, fun _ h => (nomatch h)⟩ (fun j F' ds ⟨_, _, _, ls, _, _, e, h1, h2, _⟩ => by
          rw [e, List.length_map]
          omega) ?_ ?_
        · rintro j hj Dp H3 F3 ws ds QE QR ⟨a, b, c, ls, rfl, o, rfl, hj1, hj2, hm⟩ S3 kE kR
          repeat walk_at "ob"
          refine ⟨rfl, ?_⟩
          repeat walk_at "ob"
          refine use_line ⟨a, b, c, o, S3.swap⟩ (by omega) fun l H4 hl P4 => ?_
          obtain ⟨a4, b4, c4, o4, S4⟩ := P4
          refine kE _ (.str l) _ _ ⟨a4, b4, c4, ls ++ [l], rfl, o4.mono (by omega), by rw [List.map_append]; rfl, by rw [List.length_append, hj1]; rfl, by omega, fun y hy => ?_⟩ (S4.swap.fact (dps_one (.str _)) rfl)
          rcases List.mem_append.mp hy with hy | hy
          · exact hm y hy
          · rw [List.mem_singleton.mp hy]
            exact hl
        rintro Dp H3 F3 ws ds hD ⟨a, b, c, ls, rfl, o, rfl, hj1, hj2, hm⟩ S3
        repeat walk_at "ob"
        refine g_tup0 S3 (SqL.of (S3.at 0 rfl)) (S3.dps 0 rfl) (strs_imm ls) fun t2 H4 _ S4 => ?_
        have S5 := S4.less.drop2
        clear S3 S4
        repeat ((fail_if_success (with_reducible refine atNewT ?_)); walk_at "ob")
        refine g_newT (ds := [.str "lay", .str z, .tuple (ls.map PyData.str)]) S5 (.cons (.str _) (.cons (.str _) (.cons (S5.dp 0 rfl) .nil))) (by show (true && (true && (immAll (ls.map PyData.str) && true))) = true; rw [strs_imm]; rfl) (Nat.le_of_ble_eq_true rfl) fun t3 H5 _ S6 => ?_
        repeat walk_at "ob"
        refine app (e := .lay z ls) ⟨hns z hz, hm, by omega⟩ (by omega) ⟨a, b, c, o, S6.drop2⟩ fun H11 h3 h4 P11 => ?_
        repeat walk_at "ob"
        exact ⟨_, _, _, _, rfl, h3, h4, P11⟩
      · obtain ⟨a7, b7, c7, o7, S7⟩ := P7
        repeat walk_at "ob"
        refine use_ofP (Pot.swap2 ⟨a7, b7, c7, o7, S7⟩) (by omega) (by omega) (by omega) fun v hv H8 P8 => ?_
        obtain ⟨z, hz, rfl⟩ := List.mem_map.mp hv
        have P8b := P8.swap2
        clear S7 P8
        repeat walk_at "ob"
        refine use_line P8b (by omega) fun l H9 hl P9 => ?_
        obtain ⟨a9, b9, c9, o9, S9⟩ := P9
        clear P8b
        repeat walk_at "ob"
        rename_i T10 H10 _ S10
        refine app (e := .add z l) ⟨hns z hz, hl⟩ (by omega) ⟨a9, b9, c9, o9, S10⟩ fun H11 h3 h4 P11 => ?_
        repeat walk_at "ob"
        exact ⟨_, _, _, _, rfl, h3, h4, P11⟩
  · rintro σ' H' ⟨v5, v6, dv, es, rfl, hes, hel, P5⟩
    repeat walk_at "ob"
    exact k fo dv es H' hes hel (P5.mono (by omega))
end
end LAW

set_option Elab.async false
set_option linter.all false
set_option maxRecDepth 100000
namespace LAW
open PySem PySem.Spec PyProof.Rows L2 PySem.W OB
local macro_rules | `(tactic| walk_at "obc") => `(tactic| first
  | exact Or.inl ⟨by omega, by omega⟩
  | exact Or.inr ⟨by omega, by omega⟩
  | exact cdiv_ok (by omega) (by omega)
  | (show (0 : Int) < _; omega)
  | exact ⟨by omega, by decide⟩
  | exact ⟨by decide, by decide⟩)
local macro_rules | `(tactic| walk_at "obat") => `(tactic| first
  | exact Sy.at (by assumption) 0 rfl | exact Sy.at (by assumption) 1 rfl | exact Sy.at (by assumption) 2 rfl | exact Sy.at (by assumption) 3 rfl
  | exact Sy.at (by assumption) 4 rfl | exact Sy.at (by assumption) 5 rfl | exact Sy.at (by assumption) 6 rfl | exact Sy.at (by assumption) _ (by assumption) | exact Sy.at (by assumption) (_ + 1) (by assumption) | exact Sy.at (by assumption) (_ + 2) (by assumption))
local macro_rules | `(tactic| walk_at "obt") => `(tactic| first
  | exact Sy.tqs (by assumption) 0 rfl | exact Sy.tqs (by assumption) 1 rfl | exact Sy.tqs (by assumption) 2 rfl | exact Sy.tqs (by assumption) 3 rfl | exact Sy.tqs (by assumption) 4 rfl | exact Sy.tqs (by assumption) 5 rfl
  | exact Sy.tqs (by assumption) 6 rfl | exact Sy.tqs (by assumption) 7 rfl | assumption)
local macro_rules | `(tactic| walk_at "obl") => `(tactic| first
  | exact SqL.of (by walk_at "obat")
  | exact Sy.sq (by assumption) 0 rfl | exact Sy.sq (by assumption) 1 rfl | exact Sy.sq (by assumption) 2 rfl | exact Sy.sq (by assumption) 3 rfl | exact Sy.sq (by assumption) _ (by assumption))
local macro_rules | `(tactic| walk_at "obd") => `(tactic| first
  | exact Dp.int _ | exact Dp.bl _ | exact Dp.str _ | exact Dp.non
  | exact Sy.dp (by assumption) 0 rfl | exact Sy.dp (by assumption) 1 rfl | exact Sy.dp (by assumption) 2 rfl | exact Sy.dp (by assumption) 3 rfl
  | exact Sy.dp (by assumption) 4 rfl | exact Sy.dp (by assumption) 5 rfl | exact Sy.dp (by assumption) 6 rfl | exact Sy.dp (by assumption) 7 rfl
  | exact Sy.dp (by assumption) 8 rfl | exact Sy.dp (by assumption) 9 rfl | exact Sy.dp (by assumption) _ (by assumption) | assumption)
local macro_rules | `(tactic| walk_at "obds") => `(tactic| first
  | exact DpAll.nil
  | (refine' DpAll.cons ?ob1 ?ob2; (case ob1 => walk_at "obd"); (case ob2 => walk_at "obds"))
  | exact Sy.dps (by assumption) 0 rfl | exact Sy.dps (by assumption) 1 rfl | exact Sy.dps (by assumption) 2 rfl | exact Sy.dps (by assumption) 3 rfl | assumption)
local macro_rules | `(tactic| walk_at "obsc") => `(tactic| first
  | exact ScL.nil
  | ((first | refine' ScL.int ?obz | refine' ScL.str ?obz | refine' ScL.bl ?obz | refine' ScL.non ?obz); (case obz => walk_at "obsc")))
local macro_rules | `(tactic| walk_at "ob1") => `(tactic| first
  | ((with_reducible refine' g_var ?obh ?_); (case obh => rfl))
  | with_reducible refine g_c ?_
  | with_reducible refine g_nx ?_
  | with_reducible refine g_rt ?_
  | with_reducible refine g_bk ?_
  | with_reducible refine g_ct ?_
  | with_reducible refine g_op ?_
  | with_reducible refine g_I0 ?_
  | with_reducible refine g_test ?_
  | with_reducible refine g_bl ?_
  | with_reducible refine g_blx ?_
  | with_reducible refine g_B ?_
  | with_reducible refine g_seq ?_
  | with_reducible refine g_asg ?_
  | with_reducible refine g_name ?_
  | with_reducible refine g_ifS ?_
  | with_reducible refine g_ret ?_
  | with_reducible refine g_cb ?_
  | with_reducible refine g_cons ?_
  | with_reducible refine g_nil ?_
  | with_reducible refine g_int ?_
  | with_reducible refine g_intB ?_
  | with_reducible refine g_abs ?_
  | with_reducible refine g_max ?_
  | with_reducible refine g_min ?_
  | with_reducible refine g_un ?_
  | with_reducible refine g_U ?_
  | with_reducible refine g_eqI ?_
  | with_reducible refine g_neI ?_
  | with_reducible refine g_eqS ?_
  | with_reducible refine g_neS ?_
  | with_reducible refine g_tt ?_
  | with_reducible refine g_ff ?_
  | with_reducible refine g_next ?_
  | with_reducible refine g_drop ?_
  | with_reducible refine g_if ?_
  | with_reducible refine g_andV ?_
  | with_reducible refine g_orV ?_
  | with_reducible refine g_notV ?_
  | with_reducible refine g_and ?_
  | with_reducible refine g_or ?_
  | with_reducible refine g_not ?_
  | with_reducible refine g_yes ?_
  | with_reducible refine g_chain ?_
  | with_reducible refine g_cg ?_
  | with_reducible refine g_mg ?_
  | with_reducible refine g_kg ?_
  | with_reducible refine g_pg ?_
  | ((with_reducible refine' g_call ?obh ?obj ?_); (case obh => rfl); (case obj => rfl))
  | with_reducible refine g_par ?_
  | with_reducible refine g_par2 ?_
  | with_reducible refine g_par3 ?_
  | with_reducible refine g_par33 ?_
  | with_reducible refine g_gnil ?_
  | with_reducible refine g_gcons ?_
  | with_reducible refine g_gsub ?_
  | with_reducible refine g_ipI ?_
  | with_reducible refine g_rAdd ?_
  | with_reducible refine g_rSub ?_
  | ((with_reducible refine' g_aug ?obh ?_); (case obh => rfl))
  | with_reducible refine g_tup ?_
  | with_reducible refine g_lst ?_
  | with_reducible refine g_bm ?_
  | with_reducible refine g_bm0 ?_
  | with_reducible refine g_sl ?_
  | with_reducible refine g_nopart ?_
  | with_reducible refine g_part ?_
  | with_reducible refine g_pint ?_
  | with_reducible refine isi_int ?_
  | with_reducible refine isi_intB ?_
  | ((with_reducible refine' g_I ?obh ?_); (case obh => walk_at "obc"))
  | ((with_reducible refine' g_tyl ?obh ?_); (case obh => walk_at "obl"))
  | ((with_reducible refine' g_lenL ?obh ?_); (case obh => walk_at "obl"))
  | with_reducible refine g_ne ?_
  | ((with_reducible refine' g_neN' ?obh ?_); (case obh => rfl))
  | with_reducible refine g_ntt ?_
  | with_reducible refine g_nff ?_
  | with_reducible refine g_star ?_
  | with_reducible refine g_att ?_
  | with_reducible refine g_sfld ?_
  | with_reducible refine g_faug ?_
  | with_reducible refine g_fld ?_
  | ((with_reducible refine' g_nF ?obh ?_); (case obh => omega))
  | ((with_reducible refine' g_nT ?obh ?_); (case obh => omega))
  | ((with_reducible refine' g_TD ?obh ?_); (case obh => omega))
  | ((with_reducible refine' g_FD ?obh ?_); (case obh => omega))
  | ((with_reducible refine' g_ixUL ?obh ?obi ?_); (case obh => walk_at "obl"); (case obi => exact atI_nn (by omega) (by rfl)))
  | ((with_reducible refine' g_setLS ?obs ?obh ?obi ?_); (case obs => assumption); (case obh => assumption); (case obi => rfl); intro _ _ _)
  | ((with_reducible refine' g_newT ?obs ?obh ?obi ?obj ?_); (case obs => assumption); (case obh => walk_at "obds"); (case obi => rfl); (case obj => exact Nat.le_of_ble_eq_true rfl); intro _ _ _ _)
  | ((with_reducible refine' g_newL ?obs ?obj ?_); (case obs => assumption); (case obj => exact Nat.le_of_ble_eq_true rfl); intro _ _ _ _)
  | ((with_reducible refine' isi_tup ?obh ?_); (case obh => walk_at "obt"))
  | ((with_reducible refine' g_lenT ?obh ?_); (case obh => walk_at "obt"))
  | ((with_reducible refine' g_unpT ?obh ?obi ?_); (case obh => walk_at "obt"); (case obi => rfl))
  | ((with_reducible refine' g_divmod ?obs ?obh ?_); (case obs => assumption); (case obh => exact cdivp_ok (by omega) (by omega) (by omega)); intro _ _ _ _)
  | ((with_reducible refine' g_unpD ?obh ?obi ?obj ?_); (case obh => walk_at "obd"); (case obi => walk_at "obsc"); (case obj => rfl))
  | with_reducible refine g_att ?_)
local macro_rules | `(tactic| walk_at "ob") => `(tactic| first
  | walk_at "ob1"
  | refine use_is_integer ?_
  | refine use_is_within ?_
  | with_reducible refine g_lstRg ?_
  | with_reducible refine g_rg1 ?_
  | with_reducible refine g_rg2 ?_
  | with_reducible refine g_tTru ?_
  | ((with_reducible refine' g_truL ?obh ?_); (case obh => walk_at "obl"))
  | ((with_reducible refine' g_ixUT ?obh ?obi ?_); (case obh => walk_at "obt"); (case obi => rfl))
  | with_reducible refine g_forZ ?_
  | with_reducible refine g_forR2 ?_
  | with_reducible refine g_forE ?_
  | with_reducible refine g_lcZ ?_)
local macro_rules | `(tactic| walk_at "ob") => `(tactic| first
  | ((with_reducible refine' g_slS ?obh ?_); (case obh => omega))
  | ((with_reducible refine' g_catS ?obh ?_); (case obh => omega)))
/-- for over a text -/
theorem forStr_of {K : Frag} {l : List Nat} {g : TG} {tb : TS} {D : Ends} {σ : L2.St} {H : Hp} {tl : TE} (Pv : Nat → L2.St → Hp → Prop) (ht : ∀ Q' : VK, Q' (.str (tx l)) H → tl σ H Q') (h0 : Pv 0 σ H)
    (turn : ∀ i c σ' H', l[i]? = some c → Pv i σ' H' → g (.str (tx [c])) σ' H' fun σ2 H2 => tb { D with nx := Pv (i + 1), ct := Pv (i + 1), bk := D.nx } σ2 H2)
    (done : ∀ σ' H', Pv l.length σ' H' → D.nx σ' H') : tFor (iStr tl) g tb D σ H := by
  refine ht _ ⟨tx l, rfl, ?_⟩
  have e : (tx l).cps.size = l.length := tx_len l
  refine for_it (walk_str (z := tx l)) Pv h0 (fun _ _ _ _ _ => trivial) (fun i x σ' H1 H2 hi p y => ?_) fun σ' H' p => ?_
  · obtain ⟨rfl, c, hc, rfl⟩ := y
    rw [← Array.getElem?_toList, tx_cps] at hc
    exact turn i c σ' _ hc p
  · rw [e] at p
    exact done σ' H' p
def sgN : Str := Str.ofString "abcdefgxyz"
theorem sgN_ok : sgN.cps.toList.all (fun c => decide (97 ≤ c ∧ c ≤ 122)) = true := by decide +kernel
theorem cutV_take (xs : List V) (n : Nat) : cutV xs none (some (n : Int)) = xs.take n := by
  unfold cutV
  rw [HT.sIx_none, HT.sIx_nat, List.drop_zero, Nat.sub_zero]
  rcases Nat.le_total n xs.length with h | h
  · rw [Nat.min_eq_left h]
  · rw [Nat.min_eq_right h, List.take_length, List.take_of_length_le h]
theorem sg7_ok : (Str.ofString "qrstuvw").cps.toList.all (fun c => decide (97 ≤ c ∧ c ≤ 122)) = true := by decide +kernel
theorem strs_of {K : Frag} {H : Hp} : ∀ {zs : List Str} {vs : List V}, DpAll K H vs (zs.map PyData.str) → vs = zs.map V.str
  | [], _, .nil => rfl
  | _ :: _, _, .cons (.str _) t => by rw [strs_of t]; rfl
theorem nm_of {l : List Nat} (h : ∀ c ∈ l, 97 ≤ c ∧ c ≤ 122) (h1 : 1 ≤ l.length) (h2 : l.length ≤ 8) : NmOk (tx l) := by
  show nmB (tx l).cps.toList = true
  rw [tx_cps]
  unfold nmB
  rw [decide_eq_true ⟨h1, h2⟩, Bool.true_and, List.all_eq_true]
  exact fun c hc => decide_eq_true (h c hc)
section
variable {P : Program} {w : World} {K : Frag} {mg : Str → Option Value} {base : Heap}
theorem Pot.perm {F F' : List (Addr × HO)} {G : List Ft} {p : Addr} {n : Nat} {H : Hp} (h : Pot K F G p n H) (e : F'.Perm F) : Pot K F' G p n H := by
  obtain ⟨a, b, c, o, S⟩ := h
  exact ⟨a, b, c, o, S.perm (List.Perm.cons _ e)⟩
def sp_law_names (K : Frag) : Sp := fun vs H Q E => vs.length = 2 ∧ ∃ (F : List (Addr × HO)) (G : List Ft) (p : Addr) (n : Nat) (a : Int), vs = [.ref p, .int a] ∧ Pot K F G p n H ∧ n < 100000 ∧ 0 ≤ a ∧ a ≤ 5 ∧
  ∀ q (xs : List Str) H', (∀ x ∈ xs, NmOk x) → (xs.length : Int) ≤ a → (0 < a → 0 < xs.length) → Pot K ((q, .lst (xs.map V.str)) :: F) G p (n + 200) H' → Q (.ref q) H'
abbrev names_law_names : List Str := ["pot", "amount", "signs", "words", "found", "known", "lap", "name", "place", "one", "rest", "other"]
theorem sc_law_names : FnScope names_law_names ["pot", "amount"] (defScope (top 43)) := ⟨rfl, rfl, rfl, by decide +kernel, rfl, by decide +kernel, by decide +kernel⟩
set_option maxHeartbeats 4000000 in
theorem ok_law_names (T : Tx K mg) : FG P w K mg base CX0 3 T.a_law_names T.d_law_names ["pot", "amount"] (sp_law_names K) := by
  refine OB.Fun.fg T.F_law_names sc_law_names (fun vs H Q E h => h.1) (fun cdv A out s H vs Q E g h => ?_)
  obtain ⟨_, F, G, p, n, a, rfl, ⟨a0, b0, c0, o0, S0⟩, hn, ha0, ha1, k⟩ := h
  refine ⟨_, (pss_cons (ps_par (i := 2) (j := 3) rfl sc_law_names.nd rfl rfl (by decide) rfl rfl (pa_cons pe_str (pa_cons (pe_lst (pa_cons pe_str (pa_cons pe_str (pa_cons pe_str (pa_cons pe_str (pa_cons pe_str (pa_cons pe_str (pa_cons pe_str pa_nil)))))))) pa_nil)) (by rfl))
      (pss_cons (ps_asg (pe_tup (pa_cons (pe_lst pa_nil) (pa_cons pe_dnewK pa_nil))) (pg_tupK (K := K) rfl (n := 2) rfl (pgs_cons (pg_name (i := 4) sc_law_names.nd rfl (by first | exact Or.inl rfl | exact Or.inr rfl)) (pgs_cons (pg_name (i := 5) sc_law_names.nd rfl (by first | exact Or.inl rfl | exact Or.inr rfl)) pgs_nil))))
      (pss_cons (ps_for PassesOwn.never rfl (pi_range1 rfl T.n_range (pa_cons (pe_op op_mul pe_int (pv 1)) pa_nil)) (pg_name (i := 6) sc_law_names.nd rfl (by first | exact Or.inl rfl | exact Or.inr rfl))
      (pss_cons (ps_set (i := 7) sc_law_names.nd rfl (by first | exact Or.inl rfl | exact Or.inr rfl) (pe_ifExp (pt_cmpR op_eq (pe_cg (ok_law_take T) (g.mono (by decide : 1 ≤ 2)) (by rfl) T.m_law_take T.F_law_take.kp (OB.Fun.bd T.F_law_take (ps := ["pot", "upto"]) (n := 2) (ks := []) (ix := [0, 1]) (fun _ _ _ _ _ _ us ws h1 h2 => match us, ws, h1, h2 with | [_, _], [], _, _ => rfl)) pass0 (pa_cons (pv 0) (pa_cons pe_int pa_nil)) pk_nil) pe_int (nomark _)) (pe_cg (ok_law_of T) (g.mono (by decide : 2 ≤ 2)) (by rfl) T.m_law_of T.F_law_of.kp (OB.Fun.bd T.F_law_of (ps := ["pot", "some"]) (n := 2) (ks := []) (ix := [0, 1]) (fun _ _ _ _ _ _ us ws h1 h2 => match us, ws, h1, h2 with | [_, _], [], _, _ => rfl)) pass0 (pa_cons (pv 0) (pa_cons (pv 3) pa_nil)) pk_nil) pe_str))
      (pss_cons (ps_for PassesOwn.never rfl (pi_range1 rfl T.n_range (pa_cons (pe_ifExp (pt_cmpR op_eq (pv 7) pe_str (nomark _)) (pe_cg (ok_law_of T) (g.mono (by decide : 2 ≤ 2)) (by rfl) T.m_law_of T.F_law_of.kp (OB.Fun.bd T.F_law_of (ps := ["pot", "some"]) (n := 2) (ks := []) (ix := [0, 1]) (fun _ _ _ _ _ _ us ws h1 h2 => match us, ws, h1, h2 with | [_, _], [], _, _ => rfl)) pass0 (pa_cons (pv 0) (pa_cons (pe_lst (pa_cons pe_int (pa_cons pe_int (pa_cons pe_int (pa_cons pe_int pa_nil))))) pa_nil)) pk_nil) pe_int) pa_nil)) (pg_name (i := 8) sc_law_names.nd rfl (by first | exact Or.inl rfl | exact Or.inr rfl))
      (pss_one (ps_set (i := 7) sc_law_names.nd rfl (by first | exact Or.inl rfl | exact Or.inr rfl) (pe_op op_catS (pv 7) (pe_cg (ok_law_of T) (g.mono (by decide : 2 ≤ 2)) (by rfl) T.m_law_of T.F_law_of.kp (OB.Fun.bd T.F_law_of (ps := ["pot", "some"]) (n := 2) (ks := []) (ix := [0, 1]) (fun _ _ _ _ _ _ us ws h1 h2 => match us, ws, h1, h2 with | [_, _], [], _, _ => rfl)) pass0 (pa_cons (pv 0) (pa_cons (pv 2) pa_nil)) pk_nil)))))
      (pss_one (ps_if (PW.pt (pw_and (pt_cmp (pc_dnotin g.hu1 (pv 7) (pv 5)) (by rfl)) (pw_and1 (pt_cmpR op_lt (pe_callB (toK (r := OB.rLen) (K := K) rfl c_len) (by rfl) T.n_len PySem.boot_len (pa_cons (pv 4) pa_nil)) (pv 1) (nomark _))))) (pss_cons (ps_asg pe_bl (pg_sub (pv 5) (pv 7) (set_dict g.hu1)))
      (pss_one (ps_expr (pe_bm PySem.F.plainAttrs_list PySem.F.slot_list_append PySem.F.type_list_append mt_append (pv 4) (pa_cons (pv 7) pa_nil))))) pss_nil)))))
      (pss_cons (ps_for PassesOwn.never rfl (pi_str pe_str) (pg_name (i := 9) sc_law_names.nd rfl (by first | exact Or.inl rfl | exact Or.inr rfl))
      (pss_cons (ps_setLc (i := 10) (own := [("other", 11)]) rfl sc_law_names.nd rfl rfl (sw_true rfl rfl rfl (by decide +kernel)) (pi_str (pv 2)) (blkOk_by (N := names_law_names) (sc := defScope (top 43)) (own := [("other", 11)]) (by decide +kernel)) (fun _ _ _ _ _ => (pg_name (i := 11) sc_law_names.nd rfl (by first | exact Or.inl rfl | exact Or.inr rfl))) (fun _ _ _ _ _ => pts_one (pt_cmp (pc_dnotin g.hu1 (pe_op op_catS (pv 9) (pv 11)) (pv 5)) (by rfl))) (fun _ _ _ _ _ => (pe_op op_catS (pv 9) (pv 11))))
      (pss_one (ps_expr (pe_bm PySem.F.plainAttrs_list PySem.F.slot_list_extend PySem.F.type_list_extend mt_extend (pv 4) (pa_cons (pe_slice (sl_UK (K := K) rfl) (pv 10) po_none (po_some (pe_callB (c_max rfl) (by rfl) T.n_max (by decide +kernel) (pa_cons pe_int (pa_cons (pe_op op_sub (pv 1) (pe_callB (toK (r := OB.rLen) (K := K) rfl c_len) (by rfl) T.n_len PySem.boot_len (pa_cons (pv 4) pa_nil))) pa_nil))))) pa_nil))))))
      (pss_one (ps_ret (pv 4))))))), ?_⟩
  refine g_start (σ := [some _, some _, none, none, none, none, none, none, none, none, none, none]) rfl ?_
  repeat walk_at "ob"
  rename_i wd _ _ S1 fo H2 _ S2
  refine g_dnewK fun kd hkd => ?_
  have S3 := S2.push (o := .dK []) hkd
  generalize upd H2 kd (.dK []) = H3 at S3 ⊢
  repeat ((fail_if_success (with_reducible refine atNewT ?_)); walk_at "ob")
  refine g_newTq S3 (Nat.le_of_ble_eq_true rfl) fun u H4 _ S4 => ?_
  have P4 : Pot K ((kd, .dK []) :: (fo, .lst (([] : List Str).map V.str)) :: (wd, .lst [V.str (Str.ofString "batch"), V.str (Str.ofString "branch"), V.str (Str.ofString "before"), V.str (Str.ofString "posting"), V.str (Str.ofString "ann"), V.str (Str.ofString "bob"), V.str (Str.ofString "zzzzzzzz")]) :: F) G p n H4 := ⟨a0, b0, c0, o0, S4.drop.perm (List.perm_middle (l₁ := [(kd, HO.dK []), (fo, .lst []), (wd, .lst [V.str (Str.ofString "batch"), V.str (Str.ofString "branch"), V.str (Str.ofString "before"), V.str (Str.ofString "posting"), V.str (Str.ofString "ann"), V.str (Str.ofString "bob"), V.str (Str.ofString "zzzzzzzz")])])).symm⟩
  clear S0 S1 S2 S3 
  repeat walk_at "ob"
  clear S4
  refine g_forR ?_
  repeat walk_at "ob"
  refine g_rgJ (by omega) (by omega) ?_
  refine rgfor_of (fun i σ' H' => ∃ v6 v7 v8 kvs, ∃ xs : List Str, σ' = [some (.ref p), some (.int a), some (.str sgN), some (.ref wd), some (.ref fo), some (.ref kd), v6, v7, v8, none, none, none] ∧ kvs.length ≤ i ∧ (∀ x ∈ xs, NmOk x) ∧ (xs.length : Int) ≤ a ∧ (i = 0 → kvs = []) ∧ (0 < i → 0 < a → 0 < xs.length) ∧ Pot K ((kd, .dK kvs) :: (fo, .lst (xs.map V.str)) :: (wd, .lst [V.str (Str.ofString "batch"), V.str (Str.ofString "branch"), V.str (Str.ofString "before"), V.str (Str.ofString "posting"), V.str (Str.ofString "ann"), V.str (Str.ofString "bob"), V.str (Str.ofString "zzzzzzzz")]) :: F) G p (n + i * 8) H') ⟨none, none, none, [], [], rfl, Nat.le_refl _, fun _ h => (nomatch h), by show (0 : Int) ≤ a; omega, fun _ => rfl, fun h => absurd h (Nat.lt_irrefl _), P4.mono (by omega)⟩ ?_ ?_
  · rintro i σ' H' hi ⟨v6, v7, v8, kvs, xs, rfl, hkl, hx, hxl, hk0, hx0, P5⟩
    clear P4
    have hkb : kvs.length < 100000 := by omega
    have hxb : xs.length < 100000 := by omega
    repeat ((fail_if_success (with_reducible refine atIf ?_)); walk_at "ob")
    refine via (fun v H' => ∃ z : Str, v = .str z ∧ (NmOk z ∨ z = Str.ofString "") ∧ Pot K ((kd, .dK kvs) :: (fo, .lst (xs.map V.str)) :: (wd, .lst [V.str (Str.ofString "batch"), V.str (Str.ofString "branch"), V.str (Str.ofString "before"), V.str (Str.ofString "posting"), V.str (Str.ofString "ann"), V.str (Str.ofString "bob"), V.str (Str.ofString "zzzzzzzz")]) :: F) G p (n + i * 8 + 2) H') (fun Q' qq => ?_) ?_
    · repeat walk_at "ob"
      refine use_takeP P5 (by omega) (by omega) (by omega) fun r H6 r0 r1 P6 => ?_
      repeat walk_at "ob"
      refine g_iteD (fun h1 => ?_) (fun h1 => ?_)
      · repeat walk_at "ob"
        refine use_ofP (P6.perm (List.perm_middle (l₁ := [(kd, HO.dK kvs), (fo, .lst (xs.map V.str))])).symm) (by omega) (Nat.succ_pos _) (Nat.lt_of_lt_of_le (show 7 < 8 by decide) (by decide)) fun v hv H7 P7 => ?_
        obtain ⟨z, rfl, hz⟩ : ∃ z, v = .str z ∧ NmOk z := by
          simp only [List.mem_cons, List.not_mem_nil, or_false] at hv
          rcases hv with rfl | rfl | rfl | rfl | rfl | rfl | rfl <;> exact ⟨_, rfl, by show nmB _ = true; decide +kernel⟩
        exact qq _ _ ⟨z, rfl, .inl hz, P7.perm (List.perm_middle (l₁ := [(kd, HO.dK kvs), (fo, .lst (xs.map V.str))]))⟩
      · repeat walk_at "ob"
        exact qq _ _ ⟨_, rfl, .inr rfl, P6.mono (by omega)⟩
    clear P5
    rintro v H6 ⟨z, rfl, hz, P6⟩
    repeat ((fail_if_success (with_reducible refine atForR ?_)); walk_at "ob")
    refine g_forR ?_
    repeat ((fail_if_success (with_reducible refine atIf ?_)); walk_at "ob")
    refine via (fun v H' => ∃ m : Int, v = .int m ∧ 0 ≤ m ∧ m ≤ 3 ∧ (m = 0 → NmOk z) ∧ (0 < m → z = tx []) ∧ Pot K ((kd, .dK kvs) :: (fo, .lst (xs.map V.str)) :: (wd, .lst [V.str (Str.ofString "batch"), V.str (Str.ofString "branch"), V.str (Str.ofString "before"), V.str (Str.ofString "posting"), V.str (Str.ofString "ann"), V.str (Str.ofString "bob"), V.str (Str.ofString "zzzzzzzz")]) :: F) G p (n + i * 8 + 3) H') (fun Q' qq => ?_) ?_
    · obtain ⟨a6, b6, c6, o6, S6⟩ := P6
      repeat walk_at "ob"
      refine g_iteD (fun h1 => ?_) (fun h1 => ?_)
      · repeat walk_at "ob"
        rename_i q7 H7 _ S7
        refine use_ofP (xs := ([1, 1, 2, 3] : List Int).map V.int) ⟨a6, b6, c6, o6, S7.swap⟩ (by omega) (by decide) (by decide) fun v hv H8 P8 => ?_
        obtain ⟨m, hm, rfl⟩ := List.mem_map.mp hv
        have hm : 1 ≤ m ∧ m ≤ 3 := (show ∀ m ∈ ([1, 1, 2, 3] : List Int), 1 ≤ m ∧ m ≤ 3 by decide) m hm
        exact qq _ _ ⟨m, rfl, by omega, by omega, fun h => absurd h (by omega), fun _ => h1, P8.less⟩
      · repeat walk_at "ob"
        exact qq _ _ ⟨0, rfl, by omega, by omega, fun _ => hz.elim id fun h => absurd h h1, fun h => absurd h (by omega), a6, b6, c6, o6.mono (by omega), S6⟩
    clear P6
    rintro v H7 ⟨m, rfl, hm0, hm1, hmz, hmp, P7⟩
    repeat walk_at "ob"
    refine g_rgJ (by omega) (by omega) ?_
    refine rgfor_of (fun j σ' H' => ∃ v8, ∃ y : Str, σ' = [some (.ref p), some (.int a), some (.str sgN), some (.ref wd), some (.ref fo), some (.ref kd), some (.int (0 + (i : Int))), some (.str y), v8, none, none, none] ∧ (m = 0 → NmOk y) ∧ (0 < m → ∃ l : List Nat, y = tx l ∧ l.length = j ∧ ∀ c ∈ l, 97 ≤ c ∧ c ≤ 122) ∧ Pot K ((kd, .dK kvs) :: (fo, .lst (xs.map V.str)) :: (wd, .lst [V.str (Str.ofString "batch"), V.str (Str.ofString "branch"), V.str (Str.ofString "before"), V.str (Str.ofString "posting"), V.str (Str.ofString "ann"), V.str (Str.ofString "bob"), V.str (Str.ofString "zzzzzzzz")]) :: F) G p (n + i * 8 + 3 + j) H') ⟨_, z, rfl, hmz, fun h => ⟨[], hmp h, rfl, fun _ h => (nomatch h)⟩, P7⟩ ?_ ?_
    · rintro j σ' H' hj ⟨v8', y, rfl, _, hy2, P8⟩
      obtain ⟨l, rfl, hl, hlc⟩ := hy2 (by omega)
      repeat walk_at "ob"
      refine use_ofZ (z := sgN) P8 (by omega) (by decide +kernel) (by decide +kernel) fun c hc H9 P9 => ?_
      have hl1 : [c].length = 1 := rfl
      repeat walk_at "ob"
      refine ⟨_, _, rfl, fun h => absurd h (by omega), fun _ => ⟨l ++ [c], rfl, by rw [List.length_append, hl]; rfl, fun z hz => ?_⟩, P9.mono (by omega)⟩
      rcases List.mem_append.mp hz with hz | hz
      · exact hlc z hz
      · rw [List.mem_singleton.mp hz]
        exact of_decide_eq_true (List.all_eq_true.mp sgN_ok c hc)
    rintro σ' H8 ⟨v8', y, rfl, hy1, hy2, P8⟩
    have hy : NmOk y := by
      by_cases hm : m = 0
      · exact hy1 hm
      · obtain ⟨l, rfl, hl, hlc⟩ := hy2 (by omega)
        exact nm_of hlc (by omega) (by omega)
    obtain ⟨a8, b8, c8, o8, S8⟩ := P8
    clear P7
    repeat walk_at "ob"
    refine g_dnotin ?_
    repeat walk_at "ob"
    refine g_dnotinS (.inl (S8.at 1 rfl)) ?_
    have hT : m.toNat ≤ 3 := by omega
    cases hs : (valV kvs (.inr y)).isSome
    · refine ⟨true, rfl, ?_⟩
      rw [if_pos rfl]
      repeat walk_at "ob"
      by_cases hl : (((xs.map V.str).length : Nat) : Int) < a
      · rw [if_pos (decide_eq_true hl)]
        rw [List.length_map] at hl
        repeat walk_at "ob"
        refine g_setDS S8 (i := 1) rfl hkb fun H9 S9 => ?_
        repeat walk_at "ob"
        refine g_appS S9 (f := 2) rfl (by rw [List.length_map]; exact hxb) fun H10 S10 => ?_
        have hpl : (putK kvs (.inr y) (V.bl true)).length ≤ kvs.length + 1 := length_putK kvs _ _
        have em : xs.map V.str ++ [V.str y] = (xs ++ [y]).map V.str := by rw [List.map_append]; rfl
        rw [em] at S10
        refine ⟨_, _, _, _, xs ++ [y], rfl, by omega, fun x hxm => ?_, by rw [List.length_append]; show ((xs.length + 1 : Nat) : Int) ≤ a; omega, fun h => absurd h (by omega), fun _ _ => by rw [List.length_append]; exact Nat.succ_pos _, a8, b8, c8, o8.mono (by omega), S10⟩
        rcases List.mem_append.mp hxm with h | h
        · exact hx x h
        · rw [List.mem_singleton.mp h]
          exact hy
      · rw [if_neg (fun h => hl (of_decide_eq_true h))]
        rw [List.length_map] at hl
        exact ⟨_, _, _, kvs, xs, rfl, by omega, hx, hxl, fun h => absurd h (by omega), fun _ _ => by omega, a8, b8, c8, o8.mono (by omega), S8⟩
    · refine ⟨false, rfl, ?_⟩
      rw [if_neg (by decide)]
      have hi0 : i ≠ 0 := fun h => by
        rw [hk0 h] at hs
        exact Bool.false_ne_true hs
      exact ⟨_, _, _, kvs, xs, rfl, by omega, hx, hxl, fun h => absurd h (by omega), fun _ => hx0 (by omega), a8, b8, c8, o8.mono (by omega), S8⟩
  · rintro σ' H' ⟨v6, v7, v8, kvs, xs, rfl, hkl, hx, hxl, hk0, hx0, P5⟩
    have P6 : Pot K ((fo, .lst (xs.map V.str)) :: (kd, .dK kvs) :: (wd, .lst [V.str (Str.ofString "batch"), V.str (Str.ofString "branch"), V.str (Str.ofString "before"), V.str (Str.ofString "posting"), V.str (Str.ofString "ann"), V.str (Str.ofString "bob"), V.str (Str.ofString "zzzzzzzz")]) :: F) G p (n + 200) H' := (P5.swap2).mono (by omega)
    obtain ⟨a6, b6, c6, o6, S6⟩ := P6
    have hxp : 0 < a → 0 < xs.length := fun h => hx0 (by omega) h
    clear P5 P4
    repeat walk_at "ob"
    refine forStr_of (K := K) (l := (Str.ofString "qrstuvw").cps.toList) (fun _ σ' H' => ∃ v9 v10 v11, ∃ ys : List Str, σ' = [some (.ref p), some (.int a), some (.str sgN), some (.ref wd), some (.ref fo), some (.ref kd), v6, v7, v8, v9, v10, v11] ∧ (∀ x ∈ ys, NmOk x) ∧ (ys.length : Int) ≤ a ∧ (0 < a → 0 < ys.length) ∧ Sy K ((p, potO a6 b6 c6) :: (fo, .lst (ys.map V.str)) :: (kd, .dK kvs) :: (wd, .lst [V.str (Str.ofString "batch"), V.str (Str.ofString "branch"), V.str (Str.ofString "before"), V.str (Str.ofString "posting"), V.str (Str.ofString "ann"), V.str (Str.ofString "bob"), V.str (Str.ofString "zzzzzzzz")]) :: F) G H') (fun Q' qq => by rw [tx_of] at qq; repeat walk_at "ob"; exact qq) ⟨_, _, _, xs, rfl, hx, hxl, hxp, S6⟩ ?_ ?_
    · rintro i c σ' H1 hc ⟨v9, v10, v11, ys, rfl, hy, hyl, hyp, S7⟩
      repeat walk_at "ob"
      have hcc : 97 ≤ c ∧ c ≤ 122 := of_decide_eq_true (List.all_eq_true.mp sg7_ok c (List.mem_of_getElem? hc))
      have hl1 : [c].length = 1 := rfl
      refine g_lcStr (l := sgN.cps.toList) (fun i F' ds => F' = ((p, potO a6 b6 c6) :: (fo, .lst (ys.map V.str)) :: (kd, .dK kvs) :: (wd, .lst [V.str (Str.ofString "batch"), V.str (Str.ofString "branch"), V.str (Str.ofString "before"), V.str (Str.ofString "posting"), V.str (Str.ofString "ann"), V.str (Str.ofString "bob"), V.str (Str.ofString "zzzzzzzz")]) :: F) ∧ ∃ zs : List Str, ds = zs.map PyData.str ∧ (∀ z ∈ zs, NmOk z) ∧ zs.length ≤ i ∧ i ≤ 10) S7 (fun Q' qq => by rw [tx_of] at qq; repeat walk_at "ob"; exact qq) ⟨rfl, [], rfl, fun _ h => (nomatch h), Nat.le_refl _, Nat.zero_le _⟩ (fun i F' ds hi => by
        obtain ⟨-, zs, rfl, -, h1, h2⟩ := hi
        rw [List.length_map]
        omega) ?_ ?_
      · intro j d hd Dp H2 F2 vs ds QE QR hI S3 kE kR
        obtain ⟨rfl, zs, rfl, hz, hzl, hj⟩ := hI
        have hdc : 97 ≤ d ∧ d ≤ 122 := of_decide_eq_true (List.all_eq_true.mp sgN_ok d (List.mem_of_getElem? hd))
        have hj2 : j < 10 := Nat.lt_of_lt_of_le (List.getElem?_eq_some_iff.mp hd).1 (by decide +kernel)
        have hl2 : [d].length = 1 := rfl
        repeat walk_at "ob"
        refine ⟨rfl, ?_⟩
        repeat walk_at "ob"
        refine g_dnotin ?_
        repeat walk_at "ob"
        refine g_dnotinS (.inl (S3.at 3 rfl)) ?_
        cases hs : (valV kvs (.inr (tx ([c] ++ [d])))).isSome
        · refine ⟨true, rfl, ?_⟩
          rw [if_pos rfl]
          repeat walk_at "ob"
          refine kE _ (.str (tx ([c] ++ [d]))) _ _ ⟨rfl, zs ++ [tx ([c] ++ [d])], by rw [List.map_append]; rfl, fun z h => ?_, by rw [List.length_append]; exact Nat.succ_le_succ hzl, hj2⟩ (S3.fact (dps_one (L2.Dp.str _)) rfl)
          rcases List.mem_append.mp h with h | h
          · exact hz z h
          · rw [List.mem_singleton.mp h]
            refine nm_of (fun e he => ?_) (Nat.succ_pos _) (show 2 ≤ 8 by decide)
            simp only [List.cons_append, List.nil_append, List.mem_cons, List.not_mem_nil, or_false] at he
            rcases he with rfl | rfl
            · exact hcc
            · exact hdc
        · refine ⟨false, rfl, ?_⟩
          rw [if_neg (by decide)]
          exact kR _ _ ⟨rfl, zs, rfl, hz, Nat.le_succ_of_le hzl, hj2⟩ S3
      · rintro Dp H2 F2 vs ds hD ⟨rfl, zs, rfl, hz, hzl, -⟩ S3
        have hv := strs_of (S3.dps 0 rfl)
        subst hv
        repeat walk_at "ob"
        have hzb : zs.length ≤ 10 := Nat.le_trans hzl (by decide +kernel)
        have hyb : ys.length ≤ 5 := by omega
        rw [List.length_map]
        obtain ⟨r, hr, hr2⟩ : ∃ r : Nat, (if a - (ys.length : Int) > 0 then a - (ys.length : Int) else 0) = (r : Int) ∧ ((ys.length + r : Nat) : Int) ≤ a := ⟨(a - (ys.length : Int)).toNat, by split <;> omega, by omega⟩
        rw [hr]
        refine g_slL S3.drop (SqL.of (S3.at 0 rfl)) fun sl H3 S4 => ?_
        rw [cutV_take, ← List.map_take] at S4
        repeat walk_at "ob"
        refine g_extS S4 (f := 3) rfl (S4.at 0 rfl) (by rw [List.length_map, List.length_map, List.length_take]; omega) fun H5 S5 => ?_
        have em : ys.map V.str ++ (zs.take r).map V.str = (ys ++ zs.take r).map V.str := List.map_append.symm
        rw [em] at S5
        have hln : (ys ++ zs.take r).length = ys.length + min r zs.length := by rw [List.length_append, List.length_take]
        refine ⟨_, _, _, ys ++ zs.take r, rfl, fun x hxm => ?_, by rw [hln]; omega, fun h => by have := hyp h; rw [hln]; omega, S5.less.less⟩
        rcases List.mem_append.mp hxm with h | h
        · exact hy x h
        · exact hz x (List.mem_of_mem_take h)
    · rintro σ' H1 ⟨v9, v10, v11, ys, rfl, hy, hyl, hyp, S7⟩
      repeat walk_at "ob"
      exact k fo ys _ hy hyl hyp (Pot.less (x := (wd, .lst [V.str (Str.ofString "batch"), V.str (Str.ofString "branch"), V.str (Str.ofString "before"), V.str (Str.ofString "posting"), V.str (Str.ofString "ann"), V.str (Str.ofString "bob"), V.str (Str.ofString "zzzzzzzz")])) (Pot.less (x := (kd, .dK kvs)) (Pot.perm ⟨a6, b6, c6, o6, S7⟩ (List.perm_middle (l₁ := [(kd, HO.dK kvs), (wd, HO.lst [V.str (Str.ofString "batch"), V.str (Str.ofString "branch"), V.str (Str.ofString "before"), V.str (Str.ofString "posting"), V.str (Str.ofString "ann"), V.str (Str.ofString "bob"), V.str (Str.ofString "zzzzzzzz")])])))))
end
end LAW

set_option Elab.async false
set_option linter.all false
set_option maxRecDepth 100000
namespace LAW
open PySem PySem.Spec PyProof.Rows L2 PySem.W OB
local macro_rules | `(tactic| walk_at "obc") => `(tactic| first
  | exact Or.inl ⟨by omega, by omega⟩
  | exact Or.inr ⟨by omega, by omega⟩
  | exact cdiv_ok (by omega) (by omega)
  | (show (0 : Int) < _; omega)
  | exact ⟨by omega, by decide⟩
  | exact ⟨by decide, by decide⟩)
local macro_rules | `(tactic| walk_at "obat") => `(tactic| first
  | exact Sy.at (by assumption) 0 rfl | exact Sy.at (by assumption) 1 rfl | exact Sy.at (by assumption) 2 rfl | exact Sy.at (by assumption) 3 rfl
  | exact Sy.at (by assumption) 4 rfl | exact Sy.at (by assumption) 5 rfl | exact Sy.at (by assumption) 6 rfl | exact Sy.at (by assumption) _ (by assumption) | exact Sy.at (by assumption) (_ + 1) (by assumption) | exact Sy.at (by assumption) (_ + 2) (by assumption))
local macro_rules | `(tactic| walk_at "obt") => `(tactic| first
  | exact Sy.tqs (by assumption) 0 rfl | exact Sy.tqs (by assumption) 1 rfl | exact Sy.tqs (by assumption) 2 rfl | exact Sy.tqs (by assumption) 3 rfl | exact Sy.tqs (by assumption) 4 rfl | exact Sy.tqs (by assumption) 5 rfl
  | exact Sy.tqs (by assumption) 6 rfl | exact Sy.tqs (by assumption) 7 rfl | assumption)
local macro_rules | `(tactic| walk_at "obl") => `(tactic| first
  | exact SqL.of (by walk_at "obat")
  | exact Sy.sq (by assumption) 0 rfl | exact Sy.sq (by assumption) 1 rfl | exact Sy.sq (by assumption) 2 rfl | exact Sy.sq (by assumption) 3 rfl | exact Sy.sq (by assumption) _ (by assumption))
local macro_rules | `(tactic| walk_at "obd") => `(tactic| first
  | exact Dp.int _ | exact Dp.bl _ | exact Dp.str _ | exact Dp.non
  | exact Sy.dp (by assumption) 0 rfl | exact Sy.dp (by assumption) 1 rfl | exact Sy.dp (by assumption) 2 rfl | exact Sy.dp (by assumption) 3 rfl
  | exact Sy.dp (by assumption) 4 rfl | exact Sy.dp (by assumption) 5 rfl | exact Sy.dp (by assumption) 6 rfl | exact Sy.dp (by assumption) 7 rfl
  | exact Sy.dp (by assumption) 8 rfl | exact Sy.dp (by assumption) 9 rfl | exact Sy.dp (by assumption) _ (by assumption) | assumption)
local macro_rules | `(tactic| walk_at "obds") => `(tactic| first
  | exact DpAll.nil
  | (refine' DpAll.cons ?ob1 ?ob2; (case ob1 => walk_at "obd"); (case ob2 => walk_at "obds"))
  | exact Sy.dps (by assumption) 0 rfl | exact Sy.dps (by assumption) 1 rfl | exact Sy.dps (by assumption) 2 rfl | exact Sy.dps (by assumption) 3 rfl | assumption)
local macro_rules | `(tactic| walk_at "obsc") => `(tactic| first
  | exact ScL.nil
  | ((first | refine' ScL.int ?obz | refine' ScL.str ?obz | refine' ScL.bl ?obz | refine' ScL.non ?obz); (case obz => walk_at "obsc")))
local macro_rules | `(tactic| walk_at "ob1") => `(tactic| first
  | ((with_reducible refine' g_var ?obh ?_); (case obh => rfl))
  | with_reducible refine g_c ?_
  | with_reducible refine g_nx ?_
  | with_reducible refine g_rt ?_
  | with_reducible refine g_bk ?_
  | with_reducible refine g_ct ?_
  | with_reducible refine g_op ?_
  | with_reducible refine g_I0 ?_
  | with_reducible refine g_test ?_
  | with_reducible refine g_bl ?_
  | with_reducible refine g_blx ?_
  | with_reducible refine g_B ?_
  | with_reducible refine g_seq ?_
  | with_reducible refine g_asg ?_
  | with_reducible refine g_name ?_
  | with_reducible refine g_ifS ?_
  | with_reducible refine g_ret ?_
  | with_reducible refine g_cb ?_
  | with_reducible refine g_cons ?_
  | with_reducible refine g_nil ?_
  | with_reducible refine g_int ?_
  | with_reducible refine g_intB ?_
  | with_reducible refine g_abs ?_
  | with_reducible refine g_max ?_
  | with_reducible refine g_min ?_
  | with_reducible refine g_un ?_
  | with_reducible refine g_U ?_
  | with_reducible refine g_eqI ?_
  | with_reducible refine g_neI ?_
  | with_reducible refine g_eqS ?_
  | with_reducible refine g_neS ?_
  | with_reducible refine g_tt ?_
  | with_reducible refine g_ff ?_
  | with_reducible refine g_next ?_
  | with_reducible refine g_drop ?_
  | with_reducible refine g_if ?_
  | with_reducible refine g_andV ?_
  | with_reducible refine g_orV ?_
  | with_reducible refine g_notV ?_
  | with_reducible refine g_and ?_
  | with_reducible refine g_or ?_
  | with_reducible refine g_not ?_
  | with_reducible refine g_yes ?_
  | with_reducible refine g_chain ?_
  | with_reducible refine g_cg ?_
  | with_reducible refine g_mg ?_
  | with_reducible refine g_kg ?_
  | with_reducible refine g_pg ?_
  | ((with_reducible refine' g_call ?obh ?obj ?_); (case obh => rfl); (case obj => rfl))
  | with_reducible refine g_par ?_
  | with_reducible refine g_par2 ?_
  | with_reducible refine g_par3 ?_
  | with_reducible refine g_par33 ?_
  | with_reducible refine g_gnil ?_
  | with_reducible refine g_gcons ?_
  | with_reducible refine g_gsub ?_
  | with_reducible refine g_ipI ?_
  | with_reducible refine g_rAdd ?_
  | with_reducible refine g_rSub ?_
  | ((with_reducible refine' g_aug ?obh ?_); (case obh => rfl))
  | with_reducible refine g_tup ?_
  | with_reducible refine g_lst ?_
  | with_reducible refine g_bm ?_
  | with_reducible refine g_bm0 ?_
  | with_reducible refine g_sl ?_
  | with_reducible refine g_nopart ?_
  | with_reducible refine g_part ?_
  | with_reducible refine g_pint ?_
  | with_reducible refine isi_int ?_
  | with_reducible refine isi_intB ?_
  | ((with_reducible refine' g_I ?obh ?_); (case obh => walk_at "obc"))
  | ((with_reducible refine' g_tyl ?obh ?_); (case obh => walk_at "obl"))
  | ((with_reducible refine' g_lenL ?obh ?_); (case obh => walk_at "obl"))
  | with_reducible refine g_ne ?_
  | ((with_reducible refine' g_neN' ?obh ?_); (case obh => rfl))
  | with_reducible refine g_ntt ?_
  | with_reducible refine g_nff ?_
  | with_reducible refine g_star ?_
  | with_reducible refine g_att ?_
  | with_reducible refine g_sfld ?_
  | with_reducible refine g_faug ?_
  | with_reducible refine g_fld ?_
  | ((with_reducible refine' g_nF ?obh ?_); (case obh => omega))
  | ((with_reducible refine' g_nT ?obh ?_); (case obh => omega))
  | ((with_reducible refine' g_TD ?obh ?_); (case obh => omega))
  | ((with_reducible refine' g_FD ?obh ?_); (case obh => omega))
  | ((with_reducible refine' g_ixUL ?obh ?obi ?_); (case obh => walk_at "obl"); (case obi => exact atI_nn (by omega) (by rfl)))
  | ((with_reducible refine' g_setLS ?obs ?obh ?obi ?_); (case obs => assumption); (case obh => assumption); (case obi => rfl); intro _ _ _)
  | ((with_reducible refine' g_newT ?obs ?obh ?obi ?obj ?_); (case obs => assumption); (case obh => walk_at "obds"); (case obi => rfl); (case obj => exact Nat.le_of_ble_eq_true rfl); intro _ _ _ _)
  | ((with_reducible refine' g_newL ?obs ?obj ?_); (case obs => assumption); (case obj => exact Nat.le_of_ble_eq_true rfl); intro _ _ _ _)
  | ((with_reducible refine' isi_tup ?obh ?_); (case obh => walk_at "obt"))
  | ((with_reducible refine' g_lenT ?obh ?_); (case obh => walk_at "obt"))
  | ((with_reducible refine' g_unpT ?obh ?obi ?_); (case obh => walk_at "obt"); (case obi => rfl))
  | ((with_reducible refine' g_divmod ?obs ?obh ?_); (case obs => assumption); (case obh => exact cdivp_ok (by omega) (by omega) (by omega)); intro _ _ _ _)
  | ((with_reducible refine' g_unpD ?obh ?obi ?obj ?_); (case obh => walk_at "obd"); (case obi => walk_at "obsc"); (case obj => rfl))
  | with_reducible refine g_att ?_)
local macro_rules | `(tactic| walk_at "ob") => `(tactic| first
  | walk_at "ob1"
  | refine use_is_integer ?_
  | refine use_is_within ?_
  | with_reducible refine g_lstRg ?_
  | with_reducible refine g_rg1 ?_
  | with_reducible refine g_rg2 ?_
  | with_reducible refine g_tTru ?_
  | ((with_reducible refine' g_truL ?obh ?_); (case obh => walk_at "obl"))
  | ((with_reducible refine' g_ixUT ?obh ?obi ?_); (case obh => walk_at "obt"); (case obi => rfl))
  | with_reducible refine g_forZ ?_
  | with_reducible refine g_forR2 ?_
  | with_reducible refine g_forE ?_
  | with_reducible refine g_lcZ ?_)
theorem Good.put {N : List Str} {b : Nat} {fs : Fl} {n : Str} {ls : List Str} (g : Good N b fs) (hn : n ∈ N) (hl : ls.length ≤ b) (ho : ∀ l ∈ ls, LnOk l) : Good N b (putF fs n ls) := by
  refine ⟨putF_nodup g.nd, fun f hf => ?_, fun f hf => ?_⟩
  · rcases put_mem hf with rfl | hf
    · exact hn
    · exact g.nm f hf
  · rcases put_mem hf with rfl | hf
    · exact ⟨hl, ho⟩
    · exact g.ln f hf
section
variable {P : Program} {w : World} {K : Frag} {mg : Str → Option Value} {base : Heap}
theorem use_names {F : List (Addr × HO)} {G : List Ft} {H : Hp} {Q : VK} {E : XK} {p : Addr} {n : Nat} {a : Int} (h : Pot K F G p n H) (hn : n < 100000) (h0 : 0 ≤ a) (h1 : a ≤ 5) (k : ∀ q (xs : List Str) H', (∀ x ∈ xs, NmOk x) → (xs.length : Int) ≤ a → (0 < a → 0 < xs.length) → Pot K ((q, .lst (xs.map V.str)) :: F) G p (n + 200) H' → Q (.ref q) H') : sp_law_names K [.ref p, .int a] H Q E := ⟨rfl, F, G, p, n, a, rfl, h, hn, h0, h1, k⟩
def sp_law_files (K : Frag) : Sp := fun vs H Q E => vs.length = 2 ∧ ∃ (F : List (Addr × HO)) (G : List Ft) (p : Addr) (n : Nat) (a : Int), vs = [.ref p, .int a] ∧ Pot K F G p n H ∧ n < 90000 ∧ 0 ≤ a ∧ a ≤ 5 ∧
  ∀ d rs (fs : Fl) (N : List Str) H', RowsOf rs fs → Good N 3 fs → N.length ≤ 5 → (∀ x ∈ N, NmOk x) → Pot K (fB d rs ++ F) G p (n + 500) H' → Q (.ref d) H'
abbrev names_law_files : List Str := ["pot", "most", "found", "name", "lap"]
theorem sc_law_files : FnScope names_law_files ["pot", "most"] (defScope (top 45)) := ⟨rfl, rfl, rfl, by decide +kernel, rfl, by decide +kernel, by decide +kernel⟩
set_option maxHeartbeats 4000000 in
theorem ok_law_files (T : Tx K mg) : FG P w K mg base CX0 4 T.a_law_files T.d_law_files ["pot", "most"] (sp_law_files K) := by
  refine OB.Fun.fg T.F_law_files sc_law_files (fun vs H Q E h => h.1) (fun cdv A out s H vs Q E g h => ?_)
  obtain ⟨_, F, G, p, n, a, rfl, ⟨a0, b0, c0, o0, S0⟩, hn, ha0, ha1, k⟩ := h
  refine ⟨_, (pss_cons (ps_set (i := 2) sc_law_files.nd rfl (by first | exact Or.inl rfl | exact Or.inr rfl) pe_dnewK)
      (pss_cons (ps_for PassesOwn.never rfl (pi_seq (pe_cg (ok_law_names T) (g.mono (by decide : 3 ≤ 3)) (by rfl) T.m_law_names T.F_law_names.kp (OB.Fun.bd T.F_law_names (ps := ["pot", "amount"]) (n := 2) (ks := []) (ix := [0, 1]) (fun _ _ _ _ _ _ us ws h1 h2 => match us, ws, h1, h2 with | [_, _], [], _, _ => rfl)) pass0 (pa_cons (pv 0) (pa_cons (pe_cg (ok_law_take T) (g.mono (by decide : 1 ≤ 3)) (by rfl) T.m_law_take T.F_law_take.kp (OB.Fun.bd T.F_law_take (ps := ["pot", "upto"]) (n := 2) (ks := []) (ix := [0, 1]) (fun _ _ _ _ _ _ us ws h1 h2 => match us, ws, h1, h2 with | [_, _], [], _, _ => rfl)) pass0 (pa_cons (pv 0) (pa_cons (pe_op op_add (pv 1) pe_int) pa_nil)) pk_nil) pa_nil)) pk_nil)) (pg_name (i := 3) sc_law_files.nd rfl (by first | exact Or.inl rfl | exact Or.inr rfl))
      (pss_one (ps_asg (pe_lc (own := [("lap", 4)]) (tt := tYes) rfl sc_law_files.nd (pi_range1 rfl T.n_range (pa_cons (pe_cg (ok_law_take T) (g.mono (by decide : 1 ≤ 3)) (by rfl) T.m_law_take T.F_law_take.kp (OB.Fun.bd T.F_law_take (ps := ["pot", "upto"]) (n := 2) (ks := []) (ix := [0, 1]) (fun _ _ _ _ _ _ us ws h1 h2 => match us, ws, h1, h2 with | [_, _], [], _, _ => rfl)) pass0 (pa_cons (pv 0) (pa_cons pe_int pa_nil)) pk_nil) pa_nil)) (blkOk_by (N := names_law_files) (sc := defScope (top 45)) (own := [("lap", 4)]) (by decide +kernel)) (fun _ _ _ _ _ => (pg_name (i := 4) sc_law_files.nd rfl (by first | exact Or.inl rfl | exact Or.inr rfl))) (fun _ _ _ _ _ => pts_nil) (fun _ _ _ _ _ => (pe_cg (ok_law_line T) (g.mono (by decide : 3 ≤ 3)) (by rfl) T.m_law_line T.F_law_line.kp (OB.Fun.bd T.F_law_line (ps := ["pot"]) (n := 1) (ks := []) (ix := [0]) (fun _ _ _ _ _ _ us ws h1 h2 => match us, ws, h1, h2 with | [_], [], _, _ => rfl)) pass0 (pa_cons (pv 0) pa_nil) pk_nil))) (pg_sub (pv 2) (pv 3) (set_dict g.hu1)))))
      (pss_one (ps_ret (pv 2))))), ?_⟩
  refine g_start (σ := [some _, some _, none, none, none]) rfl ?_
  repeat walk_at "ob"
  refine g_dnewK fun d hd => ?_
  have S1 := S0.push (o := .dK []) hd
  generalize upd H d (.dK []) = H1 at S1 ⊢
  have P1 : Pot K ((d, .dK []) :: F) G p n H1 := ⟨a0, b0, c0, o0, S1.swap⟩
  clear S1 S0
  repeat walk_at "ob"
  refine g_forE3 ?_
  repeat walk_at "ob"
  refine use_takeP P1 (by omega) (by omega) (by omega) fun r H2 r0 r1 P2 => ?_
  clear P1
  repeat walk_at "ob"
  refine use_names P2 (by omega) (by omega) (by omega) fun q xs H3 hx hxl _ P3 => ?_
  clear P2
  refine g_forS (a := q) (xs := xs.map V.str) true (fun i σ' H' => ∃ v3 v4 rs, ∃ fs : Fl, σ' = [some (.ref p), some (.int a), some (.ref d), v3, v4] ∧ RowsOf rs fs ∧ Good xs 3 fs ∧ i ≤ xs.length ∧ Pot K (fB d rs ++ ((q, .lst (xs.map V.str)) :: F)) G p (n + 201 + i * 50) H') (fun Q' qq => qq) ⟨none, none, [], [], rfl, rfl, ⟨.nil, fun _ h => (nomatch h), fun _ h => (nomatch h)⟩, Nat.zero_le _, (P3.swap2).mono (by omega)⟩ ?_ ?_ ?_
  · rintro i σ' H' ⟨v3, v4, rs, fs, -, -, -, -, a4, b4, c4, o4, S4⟩
    exact SqL.of (S4.st (q, .lst (xs.map V.str)) (by simp))
  · rintro i x σ' H' hxi ⟨v3, v4, rs, fs, rfl, hR, hG, hi, P4⟩
    rw [List.getElem?_map] at hxi
    obtain ⟨z, hz, rfl⟩ := Option.map_eq_some_iff.mp hxi
    have hzm := List.mem_of_getElem? hz
    have hi2 := (List.getElem?_eq_some_iff.mp hz).1
    repeat walk_at "ob"
    refine g_lcR (K := K) ?_
    repeat walk_at "ob"
    refine use_takeP P4 (by omega) (by omega) (by omega) fun r3 H9 r30 r31 P9 => ?_
    obtain ⟨a9, b9, c9, o9, S9⟩ := P9
    clear P4 P3
    repeat walk_at "ob"
    refine g_rgJ (by omega) (by omega) ?_
    refine rglc_of (fun j F' ds => ∃ a b c, ∃ ls : List Str, F' = (p, potO a b c) :: (fB d rs ++ ((q, .lst (xs.map V.str)) :: F)) ∧ PotOk (n + 201 + i * 50 + 1 + j * 10) a b c ∧ ds = ls.map PyData.str ∧ ls.length = j ∧ j ≤ 3 ∧ ∀ l ∈ ls, LnOk l) S9 ⟨a9, b9, c9, [], rfl, o9, rfl, rfl, by omega, fun _ h => (nomatch h)⟩ (fun j F' ds ⟨_, _, _, ls, _, _, e, h1, h2, _⟩ => by
      rw [e, List.length_map]
      omega) ?_ ?_
    · rintro j hj Dp H3 F3 ws ds QE QR ⟨a, b, c, ls, rfl, o, rfl, hj1, hj2, hm⟩ S3 kE kR
      repeat walk_at "ob"
      refine ⟨rfl, ?_⟩
      repeat walk_at "ob"
      refine use_line ⟨a, b, c, o, S3.swap⟩ (by omega) fun l H4 hl P4 => ?_
      obtain ⟨a4, b4, c4, o4, S4⟩ := P4
      refine kE _ (.str l) _ _ ⟨a4, b4, c4, ls ++ [l], rfl, o4.mono (by omega), by rw [List.map_append]; rfl, by rw [List.length_append, hj1]; rfl, by omega, fun y hy => ?_⟩ (S4.swap.fact (dps_one (.str _)) rfl)
      rcases List.mem_append.mp hy with hy | hy
      · exact hm y hy
      · rw [List.mem_singleton.mp hy]
        exact hl
    rintro Dp H3 F3 ws ds hD ⟨a, b, c, ls, rfl, o, rfl, hj1, hj2, hm⟩ S3
    have hv := strs_of (S3.dps 0 rfl)
    subst hv
    have ndR : (rs.map (·.1)).Nodup := by rw [hR.names]; exact hG.nd
    have hrl : rs.length < 100000 := by
      have h1 := hG.len
      have h2 := hR.len
      omega
    have S4 := (S3.perm (List.Perm.cons _ List.perm_middle)).drop
    clear S3
    repeat walk_at "ob"
    refine ⟨d, _, rfl, .inl ⟨kvO rs, .inr z, S4.at 1 rfl, rfl, by rw [kvO_len]; exact Nat.lt_of_lt_of_le hrl (by decide), rfl⟩, ?_⟩
    have S5 := S4.putR (n := z) ndR
    exact ⟨_, _, _, putF fs z ls, rfl, hR.put z Dp ls, hG.put hzm (by omega) hm, hi2, a, b, c, o.mono (by omega), S5.perm List.perm_middle.symm⟩
  · rintro σ' H' ⟨v3, v4, rs, fs, rfl, hR, hG, hi, P4⟩
    rw [List.length_map] at P4
    repeat walk_at "ob"
    have P5 := Pot.less (x := (q, .lst (xs.map V.str))) (P4.perm List.perm_middle.symm)
    have hx5 : xs.length ≤ 5 := by omega
    exact k d rs fs xs _ hR hG hx5 hx (P5.mono (by omega))
end
end LAW

set_option Elab.async false
set_option linter.all false
set_option maxRecDepth 100000
namespace LAW
open PySem PySem.Spec PyProof.Rows L2 PySem.W OB
/-! ### values of which is_deed and are_files are asked -/
def HmD (a : Av) (d : PyData) : Prop := ∀ as, a = .tup as → PyData.eqv d (.tuple []) = as.isEmpty ∧ (as.length < 3 → PyData.eqv d (.tuple [.str "sync"]) = isSyncA as) ∧ ∀ x y zs, as = [x, y, .tup zs] → zs.length ≤ 1000
def OdV (K : Frag) (F : List (Addr × HO)) (G : List Ft) (v : V) (b : Bool) : Prop := ∃ a d, AvS F G v a ∧ (∀ H', Sy K F G H' → L2.Dp K H' v d) ∧ SeqAt.shaped d = true ∧ HmD a d ∧ isDeedA a = b
def DeedB (d : PyData) (b : Bool) : Prop := okD d = true ∧ SeqAt.shaped d = true ∧ HmD (avOf d) d ∧ isDeedA (avOf d) = b
section
variable {K : Frag} {F : List (Addr × HO)} {G : List Ft} {H : Hp} {Q : VK} {E : XK} {v : V} {d : PyData} {b : Bool}
theorem OdV.dat (h : Ft.dat [v] [d] ∈ G) (hd : DeedB d b) : OdV K F G v b := ⟨avOf d, d, .dat (i := 0) h rfl rfl hd.1, fun H' S' => dps_un (S'.ft _ h).1, hd.2⟩
theorem use_isO (S : Sy K F G H) (h : OdV K F G v b) (k : ∀ H', Sy K F G H' → Q (.bl b) H') : sp_is_deed K [v] H Q E := by
  obtain ⟨a, d, h1, h2, h3, h4, h5⟩ := h
  exact ⟨rfl, F, G, v, a, d, rfl, S, h1, h2, h3, h4, fun H' S' => by rw [h5]; exact k H' S'⟩
theorem OdV.more {X : Addr × HO} (h : OdV K F G v b) : OdV K (X :: F) G v b := by
  obtain ⟨a, d, h1, h2, h3⟩ := h
  exact ⟨a, d, h1.mono (fun q hq => List.mem_cons_of_mem _ hq) fun _ h => h, fun H' S' => h2 H' S'.less, h3⟩
end
theorem nmj : ∀ n ∈ [Str.ofString "j"], NmOk n := fun n hn => by
  rw [List.mem_singleton.mp hn]
  show nmB _ = true
  decide +kernel
theorem right_deed {e : Dd} (h : DdOk [Str.ofString "j"] e) : DeedB e.d true := ⟨okD_deed nmj h, shaped_deed nmj h, deed_facts h, isDeed_ok nmj h⟩
theorem lnb : LnOk (Str.ofString "b") := by
  show lnB _ = true
  decide +kernel
/-- a part of a value -/
def Pd (d : PyData) : Prop := okD d = true ∧ d.canLay0 = true ∧ d.depth ≤ 10
theorem pd_ln {l : Str} (h : LnOk l) : Pd (.str l) := ⟨decide_eq_true (by have := lnB_len h; omega), ln_lay h, Nat.zero_le _⟩
theorem lay_all {m : Nat} : ∀ {ds : List PyData}, (∀ d ∈ ds, d.canLay0 = true ∧ d.depth ≤ m) → PyData.canLayAll0 ds = true ∧ PyData.depthAll ds ≤ m
  | [], _ => ⟨rfl, Nat.zero_le _⟩
  | d :: ds, h => by
    obtain ⟨h1, h2⟩ := lay_all fun z hz => h z (List.mem_cons_of_mem _ hz)
    obtain ⟨h3, h4⟩ := h d (List.mem_cons_self ..)
    refine ⟨?_, ?_⟩
    · show (d.canLay0 && PyData.canLayAll0 ds) = true
      rw [h3, h1]
      rfl
    · show max d.depth (PyData.depthAll ds) ≤ m
      omega
theorem shaped_tup {ds : List PyData} (h : ∀ d ∈ ds, d.canLay0 = true ∧ d.depth ≤ 10) : SeqAt.shaped (.tuple ds) = true := by
  obtain ⟨h1, h2⟩ := lay_all h
  show (PyData.canLayAll0 ds && decide ((PyData.tuple ds).depth ≤ 64)) = true
  rw [h1, decide_eq_true (by show PyData.depthAll ds + 1 ≤ 64; omega)]
  rfl
theorem pd_tup {ds : List PyData} (h : ∀ d ∈ ds, okD d = true ∧ d.canLay0 = true ∧ d.depth ≤ 9) : Pd (.tuple ds) := by
  obtain ⟨h1, h2⟩ := lay_all fun d hd => (h d hd).2
  exact ⟨okDs_of fun d hd => (h d hd).1, h1, by show PyData.depthAll ds + 1 ≤ 10; omega⟩
theorem all3 {p : PyData → Prop} {a b c : PyData} (ha : p a) (hb : p b) (hc : p c) : ∀ d ∈ [a, b, c], p d := fun d hd => by
  simp only [List.mem_cons, List.not_mem_nil, or_false] at hd
  rcases hd with rfl | rfl | rfl <;> assumption
/-- a deed of three parts that is none -/
theorem odd3 {a b c : PyData} (ha : Pd a) (hb : Pd b) (hc : Pd c) (hl : ∀ zs, avOf c = .tup zs → zs.length ≤ 1000) (hx : isDeedA (.tup [avOf a, avOf b, avOf c]) = false) : DeedB (.tuple [a, b, c]) false := by
  refine ⟨okDs_of (all3 ha.1 hb.1 hc.1), shaped_tup (all3 ha.2 hb.2 hc.2), fun as e => ?_, hx⟩
  have e := (Av.tup.inj e).symm
  subst e
  refine ⟨rfl, fun z => absurd (show 3 < 3 from z) (by decide), fun x y zs z => hl zs ?_⟩
  exact (List.cons.inj (List.cons.inj (List.cons.inj z).2).2).1
abbrev adD : PyData := .str (Str.ofString "add")
abbrev laD : PyData := .str (Str.ofString "lay")
abbrev jD : PyData := .str (Str.ofString "j")
theorem pd_add : Pd adD := ⟨by decide +kernel, by decide +kernel, by decide +kernel⟩
theorem pd_lay : Pd laD := ⟨by decide +kernel, by decide +kernel, by decide +kernel⟩
theorem pd_j : Pd jD := ⟨by decide +kernel, by decide +kernel, by decide +kernel⟩
theorem wds : decide (tx (Str.ofString "add").cps.toList = Str.ofString "add") = true ∧ decide (tx (Str.ofString "add").cps.toList = Str.ofString "lay") = false ∧ decide (tx (Str.ofString "lay").cps.toList = Str.ofString "add") = false ∧ decide (tx (Str.ofString "lay").cps.toList = Str.ofString "lay") = true := by decide +kernel
theorem dn_nm {w : List Nat} {n x : Av} (h : isNameA n = false) : isDeedA (.tup [.str w, n, x]) = false := by
  have e : isDeedA (.tup [.str w, n, x]) = (isNameA n && (decide (tx w = Str.ofString "add") && isLineA x || decide (tx w = Str.ofString "lay") && areLinesA x)) := rfl
  rw [e, h]
  rfl
theorem dn_add {n x : Av} (h : isLineA x = false) : isDeedA (.tup [.str (Str.ofString "add").cps.toList, n, x]) = false := by
  have e : isDeedA (.tup [.str (Str.ofString "add").cps.toList, n, x]) = (isNameA n && (decide (tx (Str.ofString "add").cps.toList = Str.ofString "add") && isLineA x || decide (tx (Str.ofString "add").cps.toList = Str.ofString "lay") && areLinesA x)) := rfl
  rw [e, h, wds.2.1, Bool.and_false, Bool.false_and, Bool.false_or, Bool.and_false]
theorem dn_lay {n x : Av} (h : areLinesA x = false) : isDeedA (.tup [.str (Str.ofString "lay").cps.toList, n, x]) = false := by
  have e : isDeedA (.tup [.str (Str.ofString "lay").cps.toList, n, x]) = (isNameA n && (decide (tx (Str.ofString "lay").cps.toList = Str.ofString "add") && isLineA x || decide (tx (Str.ofString "lay").cps.toList = Str.ofString "lay") && areLinesA x)) := rfl
  rw [e, h, wds.2.2.1, Bool.and_false, Bool.false_and, Bool.false_or, Bool.and_false]
theorem str_tup {s : Str} {zs : List Av} (h : Av.str s.cps.toList = .tup zs) : zs.length ≤ 1000 := nomatch h
section
variable {l : Str} (hl : LnOk l)
include hl
theorem o1 : DeedB (.tuple [adD, .str (Str.ofString "J"), .str l]) false := odd3 pd_add ⟨by decide +kernel, by decide +kernel, by decide +kernel⟩ (pd_ln hl) (fun zs h => str_tup h) (dn_nm (by decide +kernel))
theorem o3 : DeedB (.tuple [adD, jD, .tuple [.str l]]) false := odd3 pd_add pd_j (pd_tup fun d hd => by
  rw [List.mem_singleton.mp hd]
  exact ⟨(pd_ln hl).1, (pd_ln hl).2.1, Nat.zero_le _⟩) (fun zs h => by
  have := (Av.tup.inj h).symm
  subst this
  exact Nat.le_of_ble_eq_true rfl) (dn_add rfl)
theorem o5 : DeedB (.tuple [laD, jD, .str l]) false := odd3 pd_lay pd_j (pd_ln hl) (fun zs h => str_tup h) (dn_lay rfl)
theorem o13 : DeedB (.tuple [adD, .str (Str.ofString "toolongnm"), .str l]) false := odd3 pd_add ⟨by decide +kernel, by decide +kernel, by decide +kernel⟩ (pd_ln hl) (fun zs h => str_tup h) (dn_nm (by decide +kernel))
theorem o14 : DeedB (.tuple [laD, jD, .tuple [.str l, .str (Str.ofString "")]]) false := odd3 pd_lay pd_j (pd_tup fun d hd => by
  simp only [List.mem_cons, List.not_mem_nil, or_false] at hd
  rcases hd with rfl | rfl
  · exact ⟨(pd_ln hl).1, (pd_ln hl).2.1, Nat.zero_le _⟩
  · exact ⟨by decide +kernel, by decide +kernel, by decide +kernel⟩) (fun zs h => by
  have := (Av.tup.inj h).symm
  subst this
  exact Nat.le_of_ble_eq_true rfl) (dn_lay (by
  show (true && (lnB l.cps.toList && (lnB (Str.ofString "").cps.toList && true))) = false
  rw [show lnB (Str.ofString "").cps.toList = false by decide +kernel, Bool.false_and, Bool.and_false, Bool.and_false]))
end
theorem o2 : DeedB (.tuple [adD, jD, .str (Str.ofString "")]) false := odd3 pd_add pd_j ⟨by decide +kernel, by decide +kernel, by decide +kernel⟩ (fun zs h => str_tup h) (by decide +kernel)
theorem o12 : DeedB (.tuple [adD, .none, .str (Str.ofString "a")]) false := odd3 pd_add ⟨rfl, rfl, Nat.zero_le _⟩ ⟨by decide +kernel, by decide +kernel, by decide +kernel⟩ (fun zs h => str_tup h) (by decide +kernel)
theorem o0 : DeedB (.tuple [adD, jD]) false := ⟨by decide +kernel, by decide +kernel, fun as e => by
  have e := (Av.tup.inj e).symm
  subst e
  exact ⟨rfl, fun _ => by decide +kernel, fun x y zs z => (nomatch (List.cons.inj (List.cons.inj z).2).2)⟩, by decide +kernel⟩
theorem o6 : DeedB (.tuple [.str (Str.ofString "sync"), jD]) false := ⟨by decide +kernel, by decide +kernel, fun as e => by
  have e := (Av.tup.inj e).symm
  subst e
  exact ⟨rfl, fun _ => by decide +kernel, fun x y zs z => (nomatch (List.cons.inj (List.cons.inj z).2).2)⟩, by decide +kernel⟩
theorem o8 : DeedB (.tuple [.str (Str.ofString "Sync")]) false := ⟨by decide +kernel, by decide +kernel, fun as e => by
  have e := (Av.tup.inj e).symm
  subst e
  exact ⟨rfl, fun _ => by decide +kernel, fun x y zs z => (nomatch (List.cons.inj z).2)⟩, by decide +kernel⟩
theorem o9 : DeedB (.tuple []) false := ⟨rfl, by decide +kernel, fun as e => by
  have e := (Av.tup.inj e).symm
  subst e
  exact ⟨rfl, fun _ => by decide +kernel, fun x y zs z => (nomatch z)⟩, rfl⟩
section
variable {K : Frag} {F : List (Addr × HO)} {G : List Ft}
theorem o4 {p q : Addr} {l : Str} (h1 : Ft.tq p [.str (Str.ofString "lay"), .str (Str.ofString "j"), .ref q] ∈ G) (h2 : (q, HO.lst [.str l]) ∈ F) (hl : LnOk l) : OdV K F G (.ref p) false := by
  refine ⟨.tup [.str (Str.ofString "lay").cps.toList, .str (Str.ofString "j").cps.toList, .lst], .tuple [laD, jD, .list [.str l]], .tup h1 (.cons ?_ (.cons ?_ (.cons (.lst h2) .nil))), fun H' S' => .tup (S'.ft _ h1) (.cons (.str _) (.cons (.str _) (.cons (.lst (SqL.of (S'.st _ h2)) (.cons (.str _) .nil)) .nil))), ?_, fun as e => ?_, ?_⟩
  · have := AvS.str (F := F) (G := G) (l := (Str.ofString "lay").cps.toList) (by decide +kernel)
    rwa [tx_of] at this
  · have := AvS.str (F := F) (G := G) (l := (Str.ofString "j").cps.toList) (by decide +kernel)
    rwa [tx_of] at this
  · refine shaped_tup (all3 pd_lay.2 pd_j.2 ⟨?_, Nat.le_of_ble_eq_true rfl⟩)
    show (PyData.canLay0 (.str l) && true) = true
    rw [ln_lay hl]
    rfl
  · have e := (Av.tup.inj e).symm
    subst e
    exact ⟨rfl, fun z => absurd (show 3 < 3 from z) (by decide), fun x y zs z => nomatch (List.cons.inj (List.cons.inj (List.cons.inj z).2).2).1⟩
  · exact dn_lay rfl
theorem o7 {q : Addr} (h2 : (q, HO.lst [.str (Str.ofString "sync")]) ∈ F) : OdV K F G (.ref q) false :=
  ⟨.lst, .list [.str (Str.ofString "sync")], .lst h2, fun H' S' => .lst (SqL.of (S'.st _ h2)) (.cons (.str _) .nil), by decide +kernel, fun as e => Av.noConfusion e, rfl⟩
theorem o10 : OdV K F G .non false := ⟨.non, .none, .non, fun _ _ => .non, by decide +kernel, fun as e => Av.noConfusion e, rfl⟩
theorem o11 : OdV K F G (.str (Str.ofString "sync")) false := ⟨.str (Str.ofString "sync").cps.toList, .str (Str.ofString "sync"), by
  have := AvS.str (F := F) (G := G) (l := (Str.ofString "sync").cps.toList) (by decide +kernel)
  rwa [tx_of] at this, fun _ _ => .str _, by decide +kernel, fun as e => Av.noConfusion e, rfl⟩
end
/-! files -/
def HmF (a : Av) : Prop := ∀ as, a = .tup as → as.length ≤ 1000 ∧ ∀ b ∈ as, ∀ x ys, b = .tup [x, .tup ys] → ys.length ≤ 1000
def FiV (F : List (Addr × HO)) (G : List Ft) (v : V) (b : Bool) : Prop := ∃ a, AvS F G v a ∧ HmF a ∧ areFilesA a = b
section
variable {K : Frag} {F : List (Addr × HO)} {G : List Ft} {H : Hp} {Q : VK} {E : XK} {v : V} {d : PyData} {b : Bool}
theorem use_areF (S : Sy K F G H) (h : FiV F G v b) (k : ∀ H', Sy K F G H' → Q (.bl b) H') : sp_are_files K [v] H Q E := by
  obtain ⟨a, h1, h2, h3⟩ := h
  exact use_are_files S h1 h2 fun H' S' => by rw [h3]; exact k H' S'
theorem FiV.more {X : Addr × HO} (h : FiV F G v b) : FiV (X :: F) G v b := by
  obtain ⟨a, h1, h2⟩ := h
  exact ⟨a, h1.mono (fun q hq => List.mem_cons_of_mem _ hq) fun _ h => h, h2⟩
theorem FiV.dat (h : Ft.dat [v] [d] ∈ G) (ok : okD d = true) (hm : HmF (avOf d)) (hb : areFilesA (avOf d) = b) : FiV F G v b := ⟨avOf d, .dat (i := 0) h rfl rfl ok, hm, hb⟩
theorem FiV.told {fs : Fl} {t : Addr} (h : Ft.dat [.ref t] [filesT fs] ∈ G) (ok : FlOk fs) (ha : AscF fs) (hl : fs.length ≤ 40) : FiV F G (.ref t) true := .dat h (okD_files ok) (files_lens ok hl) (areFiles_ok ok ha hl)
/-- files, then one that is none -/
theorem files_odd {fs : Fl} {x : Av} (ok : FlOk fs) (hl : fs.length ≤ 40) (hx : isFileA x = false) (hx2 : ∀ y zs, x = .tup [y, .tup zs] → zs.length ≤ 1000) : HmF (.tup (fs.map (fun f => avOf (fileD f)) ++ [x])) ∧ areFilesA (.tup (fs.map (fun f => avOf (fileD f)) ++ [x])) = false := by
  refine ⟨fun as e => ?_, ?_⟩
  · have e := (Av.tup.inj e).symm
    subst e
    obtain ⟨h1, h2⟩ := files_lens ok hl _ (avOf_files fs)
    refine ⟨by rw [List.length_append, List.length_map]; show _ + 1 ≤ _; omega, fun b hb x ys e => ?_⟩
    rcases List.mem_append.mp hb with hb | hb
    · exact h2 b hb x ys e
    · rw [List.mem_singleton.mp hb] at e
      exact hx2 x ys e
  · show (decide (_ ≤ 40) && (List.all (_ ++ [x]) isFileA && _)) = false
    rw [List.all_append, show [x].all isFileA = false by show (isFileA x && true) = false; rw [hx]; rfl, Bool.and_false, Bool.false_and, Bool.and_false]
theorem FiV.catD {fs : Fl} {t : Addr} (h : Ft.dat [.ref t] [.tuple (fs.map fileD ++ [.tuple [.str (Str.ofString "J"), .tuple []]])] ∈ G) (ok : FlOk fs) (hl : fs.length ≤ 40) : FiV F G (.ref t) false := by
  have e : avOf (.tuple (fs.map fileD ++ [.tuple [.str (Str.ofString "J"), .tuple []]])) = .tup (fs.map (fun f => avOf (fileD f)) ++ [.tup [.str (Str.ofString "J").cps.toList, .tup []]]) := by
    show Av.tup (avsOf _) = _
    rw [avsOf_map, List.map_append, List.map_map]
    rfl
  obtain ⟨h1, h2⟩ := files_odd (x := .tup [.str (Str.ofString "J").cps.toList, .tup []]) ok hl (by decide +kernel) fun y zs e => by
    have := (List.cons.inj (List.cons.inj (Av.tup.inj e)).2).1
    have := (Av.tup.inj this).symm
    subst this
    exact Nat.zero_le _
  refine .dat h (okDs_of fun d hd => ?_) (by rw [e]; exact h1) (by rw [e]; exact h2)
  rcases List.mem_append.mp hd with hd | hd
  · exact okDs_all (okD_files ok) d hd
  · rw [List.mem_singleton.mp hd]
    decide +kernel
theorem FiV.catQ {fs : Fl} {t p q : Addr} {xs : List V} {l : Str} (h : Ft.tq t (xs ++ [.ref p]) ∈ G) (h1 : Ft.dat xs (fs.map fileD) ∈ G) (hxl : xs.length = fs.length) (h2 : Ft.tq p [.str (Str.ofString "j"), .ref q] ∈ G) (h3 : (q, HO.lst [.str l]) ∈ F) (ok : FlOk fs) (hl : fs.length ≤ 40) : FiV F G (.ref t) false := by
  obtain ⟨g1, g2⟩ := files_odd (x := .tup [.str (Str.ofString "j").cps.toList, .lst]) ok hl rfl fun y zs e => nomatch (List.cons.inj (List.cons.inj (Av.tup.inj e)).2).1
  have key : ∀ {vs : List V} {as : List Av} {v : V} {a : Av}, AvsS F G vs as → AvS F G v a → AvsS F G (vs ++ [v]) (as ++ [a]) := fun {vs} => by
    induction vs with
    | nil =>
      intro as v a h1 h2
      cases h1
      exact .cons h2 .nil
    | cons w ws ih =>
      intro as v a h1 h2
      cases h1 with
      | cons h3 h4 => exact .cons h3 (ih h4 h2)
  refine ⟨_, .tup h (key (as := fs.map fun f => avOf (fileD f)) ?_ (.tup h2 (.cons ?_ (.cons (.lst h3) .nil)))), g1, g2⟩
  · have := avs_dat (F := F) h1 (by rw [List.length_map]; exact hxl) (okD_files ok)
    rwa [List.map_map] at this
  · have := AvS.str (F := F) (G := G) (l := (Str.ofString "j").cps.toList) (by decide +kernel)
    rwa [tx_of] at this
theorem lst_asymm {a b : List Nat} (h : a < b) : ¬ b < a := fun h2 => List.lt_irrefl _ (List.lt_trans h h2)
theorem FiV.rev {fs : Fl} {t : Addr} (h : Ft.dat [.ref t] [.tuple (fs.map fileD).reverse] ∈ G) (ok : FlOk fs) (ha : AscF fs) (hl : fs.length ≤ 40) (h2 : 1 < fs.length) : FiV F G (.ref t) false := by
  have e : avOf (.tuple (fs.map fileD).reverse) = .tup (fs.reverse.map fun f => avOf (fileD f)) := by
    show Av.tup (avsOf _) = _
    rw [avsOf_map, ← List.map_reverse, List.map_map]
    rfl
  have hlr : fs.reverse.length = fs.length := List.length_reverse
  refine .dat h (okDs_of fun d hd => okDs_all (okD_files ok) d (List.mem_reverse.mp hd)) ?_ ?_
  · rw [e]
    intro as e
    have e := (Av.tup.inj e).symm
    subst e
    obtain ⟨g1, g2⟩ := files_lens ok hl _ (avOf_files fs)
    refine ⟨by rw [List.length_map, hlr]; omega, fun b hb x ys e => ?_⟩
    obtain ⟨f, hf, rfl⟩ := List.mem_map.mp hb
    exact g2 _ (List.mem_map.mpr ⟨f, List.mem_reverse.mp hf, rfl⟩) x ys e
  · rw [e]
    have pw : (fs.reverse.map fun f => f.1.cps.toList).Pairwise fun a b => b < a := by
      rw [List.map_reverse, List.pairwise_reverse]
      exact ha
    have up : upA (fs.reverse.map fun f => avOf (fileD f)) = false := by
      match hr : fs.reverse with
      | [] => rw [hr] at hlr; simp at hlr; omega
      | [_] => rw [hr] at hlr; simp at hlr; omega
      | f :: g :: r =>
        rw [hr] at pw
        show (decide (nmOf (avOf (fileD f)) < nmOf (avOf (fileD g))) && _) = false
        rw [avOf_file, avOf_file]
        have := (List.pairwise_cons.mp pw).1 _ (List.mem_cons_self ..)
        have e1 : decide (nmOf (Av.tup [Av.str f.1.cps.toList, Av.tup (f.2.map fun l => Av.str l.cps.toList)]) < nmOf (Av.tup [Av.str g.1.cps.toList, Av.tup (g.2.map fun l => Av.str l.cps.toList)])) = false := decide_eq_false (show ¬ f.1.cps.toList < g.1.cps.toList from lst_asymm this)
        rw [e1]
        rfl
    show (_ && (_ && upA _)) = false
    rw [up, Bool.and_false, Bool.and_false]
theorem f_lst {p : Addr} {xs : List V} (h : (p, HO.lst xs) ∈ F) : FiV F G (.ref p) false := ⟨.lst, .lst h, fun _ e => Av.noConfusion e, rfl⟩
theorem f_dct {p : Addr} {xs : List (Key × V)} (h : (p, HO.dK xs) ∈ F) : FiV F G (.ref p) false := ⟨.dct, .dct h, fun _ e => Av.noConfusion e, rfl⟩
theorem f_non : FiV F G .non false := ⟨.non, .non, fun _ e => Av.noConfusion e, rfl⟩
theorem f_str : FiV F G (.str (Str.ofString "")) false := ⟨.str (Str.ofString "").cps.toList, by
  have := AvS.str (F := F) (G := G) (l := (Str.ofString "").cps.toList) (by decide +kernel)
  rwa [tx_of] at this, fun _ e => Av.noConfusion e, rfl⟩
end
def hmB : Av → Bool
  | .tup as => decide (as.length ≤ 1000) && as.all fun b => match b with
    | .tup [_, .tup ys] => decide (ys.length ≤ 1000)
    | _ => true
  | _ => true
theorem hmF_of {a : Av} (h : hmB a = true) : HmF a := fun as e => by
  subst e
  have h : (decide (as.length ≤ 1000) && _) = true := h
  rw [Bool.and_eq_true] at h
  refine ⟨of_decide_eq_true h.1, fun b hb x ys e => ?_⟩
  subst e
  exact of_decide_eq_true (List.all_eq_true.mp h.2 _ hb)
def filB (d : PyData) (b : Bool) : Bool := okD d && (hmB (avOf d) && (areFilesA (avOf d) == b))
theorem FiV.lit {F : List (Addr × HO)} {G : List Ft} {v : V} {d : PyData} {b : Bool} (h : Ft.dat [v] [d] ∈ G) (hb : filB d b = true) : FiV F G v b := by
  unfold filB at hb
  rw [Bool.and_eq_true, Bool.and_eq_true] at hb
  exact .dat h hb.1 (hmF_of hb.2.1) (eq_of_beq hb.2.2)
end LAW

set_option Elab.async false
set_option linter.all false
set_option maxRecDepth 100000
namespace LAW
open PySem PySem.Spec PyProof.Rows L2 PySem.W OB
local macro_rules | `(tactic| walk_at "obc") => `(tactic| first
  | exact Or.inl ⟨by omega, by omega⟩
  | exact Or.inr ⟨by omega, by omega⟩
  | exact cdiv_ok (by omega) (by omega)
  | (show (0 : Int) < _; omega)
  | exact ⟨by omega, by decide⟩
  | exact ⟨by decide, by decide⟩)
local macro_rules | `(tactic| walk_at "obat") => `(tactic| first
  | exact Sy.at (by assumption) 0 rfl | exact Sy.at (by assumption) 1 rfl | exact Sy.at (by assumption) 2 rfl | exact Sy.at (by assumption) 3 rfl
  | exact Sy.at (by assumption) 4 rfl | exact Sy.at (by assumption) 5 rfl | exact Sy.at (by assumption) 6 rfl | exact Sy.at (by assumption) _ (by assumption) | exact Sy.at (by assumption) (_ + 1) (by assumption) | exact Sy.at (by assumption) (_ + 2) (by assumption))
local macro_rules | `(tactic| walk_at "obt") => `(tactic| first
  | exact Sy.tqs (by assumption) 0 rfl | exact Sy.tqs (by assumption) 1 rfl | exact Sy.tqs (by assumption) 2 rfl | exact Sy.tqs (by assumption) 3 rfl | exact Sy.tqs (by assumption) 4 rfl | exact Sy.tqs (by assumption) 5 rfl
  | exact Sy.tqs (by assumption) 6 rfl | exact Sy.tqs (by assumption) 7 rfl | assumption)
local macro_rules | `(tactic| walk_at "obl") => `(tactic| first
  | exact SqL.of (by walk_at "obat")
  | exact Sy.sq (by assumption) 0 rfl | exact Sy.sq (by assumption) 1 rfl | exact Sy.sq (by assumption) 2 rfl | exact Sy.sq (by assumption) 3 rfl | exact Sy.sq (by assumption) _ (by assumption))
local macro_rules | `(tactic| walk_at "obd") => `(tactic| first
  | exact Dp.int _ | exact Dp.bl _ | exact Dp.str _ | exact Dp.non
  | exact Sy.dp (by assumption) 0 rfl | exact Sy.dp (by assumption) 1 rfl | exact Sy.dp (by assumption) 2 rfl | exact Sy.dp (by assumption) 3 rfl
  | exact Sy.dp (by assumption) 4 rfl | exact Sy.dp (by assumption) 5 rfl | exact Sy.dp (by assumption) 6 rfl | exact Sy.dp (by assumption) 7 rfl
  | exact Sy.dp (by assumption) 8 rfl | exact Sy.dp (by assumption) 9 rfl | exact Sy.dp (by assumption) _ (by assumption) | assumption)
local macro_rules | `(tactic| walk_at "obds") => `(tactic| first
  | exact DpAll.nil
  | (refine' DpAll.cons ?ob1 ?ob2; (case ob1 => walk_at "obd"); (case ob2 => walk_at "obds"))
  | exact Sy.dps (by assumption) 0 rfl | exact Sy.dps (by assumption) 1 rfl | exact Sy.dps (by assumption) 2 rfl | exact Sy.dps (by assumption) 3 rfl | assumption)
local macro_rules | `(tactic| walk_at "obsc") => `(tactic| first
  | exact ScL.nil
  | ((first | refine' ScL.int ?obz | refine' ScL.str ?obz | refine' ScL.bl ?obz | refine' ScL.non ?obz); (case obz => walk_at "obsc")))
local macro_rules | `(tactic| walk_at "ob1") => `(tactic| first
  | ((with_reducible refine' g_var ?obh ?_); (case obh => rfl))
  | with_reducible refine g_c ?_
  | with_reducible refine g_nx ?_
  | with_reducible refine g_rt ?_
  | with_reducible refine g_bk ?_
  | with_reducible refine g_ct ?_
  | with_reducible refine g_op ?_
  | with_reducible refine g_I0 ?_
  | with_reducible refine g_test ?_
  | with_reducible refine g_bl ?_
  | with_reducible refine g_blx ?_
  | with_reducible refine g_B ?_
  | with_reducible refine g_seq ?_
  | with_reducible refine g_asg ?_
  | with_reducible refine g_name ?_
  | with_reducible refine g_ifS ?_
  | with_reducible refine g_ret ?_
  | with_reducible refine g_cb ?_
  | with_reducible refine g_cons ?_
  | with_reducible refine g_nil ?_
  | with_reducible refine g_int ?_
  | with_reducible refine g_intB ?_
  | with_reducible refine g_abs ?_
  | with_reducible refine g_max ?_
  | with_reducible refine g_min ?_
  | with_reducible refine g_un ?_
  | with_reducible refine g_U ?_
  | with_reducible refine g_eqI ?_
  | with_reducible refine g_neI ?_
  | with_reducible refine g_eqS ?_
  | with_reducible refine g_neS ?_
  | with_reducible refine g_tt ?_
  | with_reducible refine g_ff ?_
  | with_reducible refine g_next ?_
  | with_reducible refine g_drop ?_
  | with_reducible refine g_if ?_
  | with_reducible refine g_andV ?_
  | with_reducible refine g_orV ?_
  | with_reducible refine g_notV ?_
  | with_reducible refine g_and ?_
  | with_reducible refine g_or ?_
  | with_reducible refine g_not ?_
  | with_reducible refine g_yes ?_
  | with_reducible refine g_chain ?_
  | with_reducible refine g_cg ?_
  | with_reducible refine g_mg ?_
  | with_reducible refine g_kg ?_
  | with_reducible refine g_pg ?_
  | ((with_reducible refine' g_call ?obh ?obj ?_); (case obh => rfl); (case obj => rfl))
  | with_reducible refine g_par ?_
  | with_reducible refine g_par2 ?_
  | with_reducible refine g_par3 ?_
  | with_reducible refine g_par33 ?_
  | with_reducible refine g_gnil ?_
  | with_reducible refine g_gcons ?_
  | with_reducible refine g_gsub ?_
  | with_reducible refine g_ipI ?_
  | with_reducible refine g_rAdd ?_
  | with_reducible refine g_rSub ?_
  | ((with_reducible refine' g_aug ?obh ?_); (case obh => rfl))
  | with_reducible refine g_tup ?_
  | with_reducible refine g_lst ?_
  | with_reducible refine g_bm ?_
  | with_reducible refine g_bm0 ?_
  | with_reducible refine g_sl ?_
  | with_reducible refine g_nopart ?_
  | with_reducible refine g_part ?_
  | with_reducible refine g_pint ?_
  | with_reducible refine isi_int ?_
  | with_reducible refine isi_intB ?_
  | ((with_reducible refine' g_I ?obh ?_); (case obh => walk_at "obc"))
  | ((with_reducible refine' g_tyl ?obh ?_); (case obh => walk_at "obl"))
  | ((with_reducible refine' g_lenL ?obh ?_); (case obh => walk_at "obl"))
  | with_reducible refine g_ne ?_
  | ((with_reducible refine' g_neN' ?obh ?_); (case obh => rfl))
  | with_reducible refine g_ntt ?_
  | with_reducible refine g_nff ?_
  | with_reducible refine g_star ?_
  | with_reducible refine g_att ?_
  | with_reducible refine g_sfld ?_
  | with_reducible refine g_faug ?_
  | with_reducible refine g_fld ?_
  | ((with_reducible refine' g_nF ?obh ?_); (case obh => omega))
  | ((with_reducible refine' g_nT ?obh ?_); (case obh => omega))
  | ((with_reducible refine' g_TD ?obh ?_); (case obh => omega))
  | ((with_reducible refine' g_FD ?obh ?_); (case obh => omega))
  | ((with_reducible refine' g_ixUL ?obh ?obi ?_); (case obh => walk_at "obl"); (case obi => exact atI_nn (by omega) (by rfl)))
  | ((with_reducible refine' g_setLS ?obs ?obh ?obi ?_); (case obs => assumption); (case obh => assumption); (case obi => rfl); intro _ _ _)
  | ((with_reducible refine' g_newT ?obs ?obh ?obi ?obj ?_); (case obs => assumption); (case obh => walk_at "obds"); (case obi => rfl); (case obj => exact Nat.le_of_ble_eq_true rfl); intro _ _ _ _)
  | ((with_reducible refine' g_newL ?obs ?obj ?_); (case obs => assumption); (case obj => exact Nat.le_of_ble_eq_true rfl); intro _ _ _ _)
  | ((with_reducible refine' isi_tup ?obh ?_); (case obh => walk_at "obt"))
  | ((with_reducible refine' g_lenT ?obh ?_); (case obh => walk_at "obt"))
  | ((with_reducible refine' g_unpT ?obh ?obi ?_); (case obh => walk_at "obt"); (case obi => rfl))
  | ((with_reducible refine' g_divmod ?obs ?obh ?_); (case obs => assumption); (case obh => exact cdivp_ok (by omega) (by omega) (by omega)); intro _ _ _ _)
  | ((with_reducible refine' g_unpD ?obh ?obi ?obj ?_); (case obh => walk_at "obd"); (case obi => walk_at "obsc"); (case obj => rfl))
  | with_reducible refine g_att ?_)
local macro_rules | `(tactic| walk_at "ob") => `(tactic| first
  | walk_at "ob1"
  | with_reducible refine use_is_integer ?_
  | with_reducible refine use_is_within ?_
  | with_reducible refine g_lstRg ?_
  | with_reducible refine g_rg1 ?_
  | with_reducible refine g_rg2 ?_
  | with_reducible refine g_tTru ?_
  | ((with_reducible refine' g_truL ?obh ?_); (case obh => walk_at "obl"))
  | ((with_reducible refine' g_ixUT ?obh ?obi ?_); (case obh => walk_at "obt"); (case obi => rfl))
  | with_reducible refine g_forZ ?_
  | with_reducible refine g_forR2 ?_
  | with_reducible refine g_forE ?_
  | with_reducible refine g_lcZ ?_)
section
variable {P : Program} {w : World} {K : Frag} {mg : Str → Option Value} {base : Heap}
theorem use_isl {F : List (Addr × HO)} {G : List Ft} {H : Hp} {Q : VK} {E : XK} {z : Str} {b : Bool} (S : Sy K F G H) (hz : z.cps.toList.length ≤ 1000) (hb : lnB z.cps.toList = b) (k : ∀ H', Sy K F G H' → Q (.bl b) H') : sp_is_line K [.str z] H Q E :=
  ⟨rfl, F, G, .str z, .str z.cps.toList, rfl, S, by
    have := AvS.str (F := F) (G := G) (l := z.cps.toList) hz
    rwa [tx_of] at this, fun H' S' => by
    show Q (.bl (lnB z.cps.toList)) H'
    rw [hb]
    exact k H' S'⟩
theorem ln_len {z : Str} (h : LnOk z) : z.cps.toList.length ≤ 200 := (of_decide_eq_true (Bool.and_eq_true_iff.mp h).1).2
theorem x_tx : Str.ofString "x" = tx [120] := by decide +kernel
theorem a_tx : Str.ofString "a" = tx [97] := by decide +kernel
theorem x200 : (tx (repS [120] (200 : Int).toNat)).cps.toList.length ≤ 1000 ∧ lnB (tx (repS [120] (200 : Int).toNat)).cps.toList = true := by decide +kernel
theorem tld : (Str.ofString "~ ").cps.toList.length ≤ 1000 ∧ lnB (Str.ofString "~ ").cps.toList = true := by decide +kernel
theorem smT3 : Small 100 1 (.list [.bool true, .bool true, .bool true]) := ⟨rfl, rfl, by decide, by decide +kernel⟩
theorem dpT3 {K : Frag} {H : Hp} {q : Addr} (h : H q = some (.lst [.bl true, .bl true, .bl true])) : L2.Dp K H (.ref q) (.list [.bool true, .bool true, .bool true]) := .lst (SqL.of h) (.cons (.bl _) (.cons (.bl _) (.cons (.bl _) .nil)))
theorem g_lcE {K : Frag} {tl : TE} {g : TG} {tt : TT} {te : TE} {own : List Nat} {σ : L2.St} {H : Hp} {Q : VK} (k : tl σ H fun x H1 => tLc (iSeq K (tC x)) g tt te own σ H1 Q) : tLc (iSeq K tl) g tt te own σ H Q := k
theorem flat_fs (n : Nat) : (List.replicate n (V.bl false)).all flatV = true := List.all_eq_true.mpr fun x hx => by
  rw [(List.mem_replicate.mp hx).2]
  rfl
theorem inV_fs : ∀ n : Nat, inV (.bl true) (List.replicate n (V.bl false)) = false
  | 0 => rfl
  | n + 1 => by
    have e := inV_fs n
    unfold inV at e ⊢
    rw [List.replicate_succ, List.any_cons, e]
    rfl
theorem g_inF {K : Frag} {H : Hp} {Q : VK} {l : Addr} {n : Nat} (h : H l = some (.lst (List.replicate n (V.bl false)))) (k : Q (.bl false) H) : rIn K false (.bl true) (.ref l) H Q :=
  ⟨l, _, rfl, .inl (SqL.of h), rfl, flat_fs n, by rw [if_neg Bool.false_ne_true, inV_fs]; exact k⟩
theorem use_isA {F : List (Addr × HO)} {G : List Ft} {H : Hp} {Q : VK} {E : XK} {v : V} {a : Av} (S : Sy K F G H) (hv : AvS F G v a) (k : ∀ H', Sy K F G H' → Q (.bl (isLineA a)) H') : sp_is_line K [v] H Q E := ⟨rfl, F, G, v, a, rfl, S, hv, k⟩
theorem a201 : (repS [120] (201 : Int).toNat).length ≤ 1000 ∧ isLineA (.str (repS [120] (201 : Int).toNat)) = false := by decide +kernel
theorem n_tx : Str.ofString "a\nb" = tx [97, 10, 98] ∧ Str.ofString "a\tb" = tx [97, 9, 98] ∧ Str.ofString "" = tx [] ∧ isLineA (.str [97, 10, 98]) = false ∧ isLineA (.str [97, 9, 98]) = false ∧ isLineA (.str []) = false := by decide +kernel
theorem odd_lines {F : List (Addr × HO)} {G : List Ft} {q10 u : Addr} {l : Str} {x : V} {X : Addr × HO} (hl : l.cps.toList.length ≤ 200) (h : x ∈ [V.str (Str.ofString ""), V.str (tx (repS [120] (201 : Int).toNat)), V.str (Str.ofString "a\nb"), V.str (Str.ofString "a\tb"), V.non, V.int 7, V.ref u, V.ref q10]) : ∃ a, AvS (X :: (q10, .lst [V.str l]) :: F) (.tq u [V.str l] :: G) x a ∧ isLineA a = false := by
  obtain ⟨n1, n2, n3, n4, n5, n6⟩ := n_tx
  simp only [List.mem_cons, List.not_mem_nil, or_false] at h
  rcases h with rfl | rfl | rfl | rfl | rfl | rfl | rfl | rfl
  · rw [n3]
    exact ⟨_, .str (Nat.zero_le _), n6⟩
  · exact ⟨_, .str a201.1, a201.2⟩
  · rw [n1]
    exact ⟨_, .str (Nat.le_of_ble_eq_true rfl), n4⟩
  · rw [n2]
    exact ⟨_, .str (Nat.le_of_ble_eq_true rfl), n5⟩
  · exact ⟨_, .non, rfl⟩
  · exact ⟨_, .int, rfl⟩
  · have := AvS.str (F := X :: (q10, .lst [V.str l]) :: F) (G := Ft.tq u [V.str l] :: G) (l := l.cps.toList) (by omega)
    rw [tx_of] at this
    exact ⟨_, .tup (List.mem_cons_self ..) (.cons this .nil), rfl⟩
  · exact ⟨_, .lst (List.mem_cons_of_mem _ (List.mem_cons_self ..)), rfl⟩
theorem smT4 : Small 100 1 (.list [.bool true, .bool true, .bool true, .bool true]) := ⟨rfl, rfl, by decide, by decide +kernel⟩
theorem dpT4 {K : Frag} {H : Hp} {q : Addr} (h : H q = some (.lst [.bl true, .bl true, .bl true, .bl true])) : L2.Dp K H (.ref q) (.list [.bool true, .bool true, .bool true, .bool true]) := .lst (SqL.of h) (.cons (.bl _) (.cons (.bl _) (.cons (.bl _) (.cons (.bl _) .nil))))
theorem g_lcB {F : List (Addr × HO)} {G : List Ft} {σ : L2.St} {H : Hp} {Q : VK} {own : List Nat} {g : TG} {tt : TT} {te tl : TE} {a : Addr} {xs : List V} {b : Bool} {i : Nat} (S : Sy K F G H) (hF : F[i]? = some (a, .lst xs)) (hl : xs.length < 1000) (ht : ∀ Q' : VK, Q' (.ref a) H → tl σ H Q')
    (turn : ∀ x ∈ xs, ∀ Dp H' vs (QE : VK) (QR : Hp → Prop), Sy K ((Dp, .lst vs) :: F) G H' → (∀ H2, Sy K ((Dp, .lst vs) :: F) G H2 → QE (.bl b) H2) → g x (wipe σ own) H' fun σ2 H2 => wipe σ2 own = wipe σ own ∧ tt σ2 H2 fun c H3 => if c = true then te σ2 H3 QE else QR H3)
    (done : ∀ Dp H', Sy K ((Dp, .lst (List.replicate xs.length (.bl b))) :: F) G H' → Q (.ref Dp) H') : tLc (iSeq K tl) g tt te own σ H Q := by
  refine g_lcV (a := a) (xs := xs) (fun j F' vs => F' = F ∧ vs = List.replicate j (V.bl b) ∧ j ≤ xs.length) S ht ⟨rfl, rfl, Nat.zero_le _⟩ (fun j F' vs H' hi S' => ?_) (fun j F' vs hi => by
    rw [hi.2.1, List.length_replicate]
    omega) ?_ ?_
  · obtain ⟨rfl, -, -⟩ := hi
    exact SqL.of (S'.at i hF)
  · rintro j x hx Dp H2 F2 vs QE QR ⟨rfl, rfl, hj⟩ S12 kE kR
    have hj2 : j < xs.length := (List.getElem?_eq_some_iff.mp hx).1
    exact turn x (List.mem_of_getElem? hx) Dp H2 _ QE QR S12 fun H3 S13 => kE _ _ _ ⟨rfl, by rw [List.replicate_succ'], hj2⟩ S13
  · rintro Dp H12 F2 vs hD ⟨rfl, rfl, -⟩ S12
    exact done Dp H12 S12
theorem Sy.last {K : Frag} {F : List (Addr × HO)} {G : List Ft} {H : Hp} {g : Ft} (L : List Ft) (S : Sy K F (L ++ g :: G) H) : Sy K F (g :: G) H := S.facts fun _ h => List.mem_append_right L h
theorem atSeq {t1 t2 : TS} {D : Ends} {σ : L2.St} {H : Hp} (h : tSeq t1 t2 D σ H) : tSeq t1 t2 D σ H := h
theorem OdV.mono {K : Frag} {F F2 : List (Addr × HO)} {G G2 : List Ft} {v : V} {b : Bool} (h : OdV K F G v b) (hF : F.Sublist F2) (hG : ∀ g ∈ G, g ∈ G2) : OdV K F2 G2 v b := by
  obtain ⟨a, d, h1, h2, h3⟩ := h
  exact ⟨a, d, h1.mono (fun q hq => hF.subset hq) hG, fun H' S' => h2 H' (S'.to hF hG), h3⟩
theorem FiV.mono {F F2 : List (Addr × HO)} {G G2 : List Ft} {v : V} {b : Bool} (h : FiV F G v b) (hF : ∀ g ∈ F, g ∈ F2) (hG : ∀ g ∈ G, g ∈ G2) : FiV F2 G2 v b := by
  obtain ⟨a, h1, h2⟩ := h
  exact ⟨a, h1.mono hF hG, h2⟩
def OddS (K : Frag) (F0 : List (Addr × HO)) (G0 : List Ft) (q : Addr) (n : Nat) (H : Hp) : Prop := ∃ xs F' G', Sy K ((q, .lst xs) :: (F' ++ F0)) (G' ++ G0) H ∧ (∀ x ∈ xs, OdV K (F' ++ F0) (G' ++ G0) x false) ∧ xs.length ≤ n
def BadS (K : Frag) (F0 : List (Addr × HO)) (G0 : List Ft) (q : Addr) (n : Nat) (H : Hp) : Prop := ∃ xs F' G', Sy K ((q, .lst xs) :: (F' ++ F0)) (G' ++ G0) H ∧ (∀ x ∈ xs, FiV (F' ++ F0) (G' ++ G0) x false) ∧ xs.length ≤ n
theorem odv_of {K : Frag} {F : List (Addr × HO)} {G : List Ft} {H : Hp} (S : Sy K F G H) {xs : List V} {b : Bool} (h : ∀ x ∈ xs, OdV K F G x b) : ∀ x ∈ xs, OdV K F G x b := h
theorem fiv_of {K : Frag} {F : List (Addr × HO)} {G : List Ft} {H : Hp} (S : Sy K F G H) {xs : List V} {b : Bool} (h : ∀ x ∈ xs, FiV F G x b) : ∀ x ∈ xs, FiV F G x b := h
local macro_rules | `(tactic| walk_at "mm") => `(tactic| repeat (first | with_reducible exact List.mem_cons_self .. | refine List.mem_cons_of_mem _ ?_))
def sp_law_are_values_told (K : Frag) : Sp := fun vs H Q E => vs.length = 2 ∧ ∃ (F : List (Addr × HO)) (G : List Ft) (p d : Addr) (n : Nat) (rs : List FRow) (fs : Fl) (N : List Str), vs = [.ref p, .ref d] ∧ Pot K (fB d rs ++ F) G p n H ∧ n < 80000 ∧ RowsOf rs fs ∧ Good N 3 fs ∧ N.length ≤ 5 ∧ (∀ x ∈ N, NmOk x) ∧
  ∀ H', Pot K (fB d rs ++ F) G p (n + 20) H' → Q (.bl true) H'
abbrev names_law_are_values_told : List Str := ["pot", "files", "line", "told", "value", "deeds", "deed", "odd", "bad"]
theorem sc_law_are_values_told : FnScope names_law_are_values_told ["pot", "files"] (defScope (top 52)) := ⟨rfl, rfl, rfl, by decide +kernel, rfl, by decide +kernel, by decide +kernel⟩
set_option maxHeartbeats 4000000 in
theorem ok_law_are_values_told (T : Tx K mg) : FG P w K mg base CX0 5 T.a_law_are_values_told T.d_law_are_values_told ["pot", "files"] (sp_law_are_values_told K) := by
  refine OB.Fun.fg T.F_law_are_values_told sc_law_are_values_told (fun vs H Q E h => h.1) (fun cdv A out s H vs Q E g h => ?_)
  obtain ⟨_, F, G, p, d, n, rs, fs, N, rfl, P0, hn, hR, hG, hNl, hN, k⟩ := h
  refine ⟨_, (pss_cons (ps_par (i := 2) (j := 3) rfl sc_law_are_values_told.nd rfl rfl (by decide) rfl rfl (pa_cons (pe_cg (ok_law_line T) (g.mono (by decide : 3 ≤ 4)) (by rfl) T.m_law_line T.F_law_line.kp (OB.Fun.bd T.F_law_line (ps := ["pot"]) (n := 1) (ks := []) (ix := [0]) (fun _ _ _ _ _ _ us ws h1 h2 => match us, ws, h1, h2 with | [_], [], _, _ => rfl)) pass0 (pa_cons (pv 0) pa_nil) pk_nil) (pa_cons (pe_cg (ok_law_file_tuple T) (g.mono (by decide : 1 ≤ 4)) (by rfl) T.m_law_file_tuple T.F_law_file_tuple.kp (OB.Fun.bd T.F_law_file_tuple (ps := ["files"]) (n := 1) (ks := []) (ix := [0]) (fun _ _ _ _ _ _ us ws h1 h2 => match us, ws, h1, h2 with | [_], [], _, _ => rfl)) pass0 (pa_cons (pv 1) pa_nil) pk_nil) pa_nil)) (by rfl))
      (pss_cons (ps_if (pt_cmpR op_ne (pe_callB (toK (r := rRepr) (K := K) rfl (call_repr g)) (by rfl) T.n_repr (by decide +kernel) (pa_cons (pe_lst (pa_cons (pe_cg0 (ok_is_line T) (g.mono (by decide : 1 ≤ 4)) (by rfl) T.m_is_line T.F_is_line.kp (OB.Fun.bd T.F_is_line (ps := ["value"]) (n := 0) (ks := ["value"]) (ix := [0]) (fun _ _ _ _ _ _ us ws h1 h2 => match us, ws, h1, h2 with | [], [_], _, _ => rfl)) pass0 (pk_cons (pv 2) pk_nil)) (pa_cons (pe_cg (ok_is_line T) (g.mono (by decide : 1 ≤ 4)) (by rfl) T.m_is_line T.F_is_line.kp (OB.Fun.bd T.F_is_line (ps := ["value"]) (n := 1) (ks := []) (ix := [0]) (fun _ _ _ _ _ _ us ws h1 h2 => match us, ws, h1, h2 with | [_], [], _, _ => rfl)) pass0 (pa_cons (pe_op op_mulS pe_str pe_int) pa_nil) pk_nil) (pa_cons (pe_cg (ok_is_line T) (g.mono (by decide : 1 ≤ 4)) (by rfl) T.m_is_line T.F_is_line.kp (OB.Fun.bd T.F_is_line (ps := ["value"]) (n := 1) (ks := []) (ix := [0]) (fun _ _ _ _ _ _ us ws h1 h2 => match us, ws, h1, h2 with | [_], [], _, _ => rfl)) pass0 (pa_cons pe_str pa_nil) pk_nil) pa_nil)))) pa_nil)) (pe_callB (toK (r := rRepr) (K := K) rfl (call_repr g)) (by rfl) T.n_repr (by decide +kernel) (pa_cons (pe_lst (pa_cons pe_bl (pa_cons pe_bl (pa_cons pe_bl pa_nil)))) pa_nil)) (nomark _)) (pss_one (ps_ret pe_bl)) pss_nil)
      (pss_cons (ps_if (pt_cmpR (op_inK (K := K) rfl) pe_bl (pe_lc (own := [("value", 4)]) (tt := tYes) rfl sc_law_are_values_told.nd (pi_seq (pe_lst (pa_cons pe_str (pa_cons (pe_op op_mulS pe_str pe_int) (pa_cons pe_str (pa_cons pe_str (pa_cons pe_non (pa_cons pe_int (pa_cons (pe_tup (pa_cons (pv 2) pa_nil)) (pa_cons (pe_lst (pa_cons (pv 2) pa_nil)) pa_nil)))))))))) (blkOk_by (N := names_law_are_values_told) (sc := defScope (top 52)) (own := [("value", 4)]) (by decide +kernel)) (fun _ _ _ _ _ => (pg_name (i := 4) sc_law_are_values_told.nd rfl (by first | exact Or.inl rfl | exact Or.inr rfl))) (fun _ _ _ _ _ => pts_nil) (fun _ _ _ _ _ => (pe_cg (ok_is_line T) (g.mono (by decide : 1 ≤ 4)) (by rfl) T.m_is_line T.F_is_line.kp (OB.Fun.bd T.F_is_line (ps := ["value"]) (n := 1) (ks := []) (ix := [0]) (fun _ _ _ _ _ _ us ws h1 h2 => match us, ws, h1, h2 with | [_], [], _, _ => rfl)) pass0 (pa_cons (pv 4) pa_nil) pk_nil))) (by rfl)) (pss_one (ps_ret pe_bl)) pss_nil)
      (pss_cons (ps_set (i := 5) sc_law_are_values_told.nd rfl (by first | exact Or.inl rfl | exact Or.inr rfl) (pe_lst (pa_cons (pe_tup (pa_cons pe_str (pa_cons pe_str (pa_cons (pv 2) pa_nil)))) (pa_cons (pe_tup (pa_cons pe_str (pa_cons pe_str (pa_cons (pe_tup (pa_cons (pv 2) (pa_cons pe_str pa_nil))) pa_nil)))) (pa_cons (pe_tup (pa_cons pe_str (pa_cons pe_str (pa_cons (pe_tup pa_nil) pa_nil)))) (pa_cons (pe_tup (pa_cons pe_str pa_nil)) pa_nil))))))
      (pss_cons (ps_if (pt_cmpR op_ne (pe_callB (toK (r := rRepr) (K := K) rfl (call_repr g)) (by rfl) T.n_repr (by decide +kernel) (pa_cons (pe_lc (own := [("deed", 6)]) (tt := tYes) rfl sc_law_are_values_told.nd (pi_seq (pv 5)) (blkOk_by (N := names_law_are_values_told) (sc := defScope (top 52)) (own := [("deed", 6)]) (by decide +kernel)) (fun _ _ _ _ _ => (pg_name (i := 6) sc_law_are_values_told.nd rfl (by first | exact Or.inl rfl | exact Or.inr rfl))) (fun _ _ _ _ _ => pts_nil) (fun _ _ _ _ _ => (pe_cg0 (ok_is_deed T) (g.mono (by decide : 3 ≤ 4)) (by rfl) T.m_is_deed T.F_is_deed.kp (OB.Fun.bd T.F_is_deed (ps := ["value"]) (n := 0) (ks := ["value"]) (ix := [0]) (fun _ _ _ _ _ _ us ws h1 h2 => match us, ws, h1, h2 with | [], [_], _, _ => rfl)) pass0 (pk_cons (pv 6) pk_nil)))) pa_nil)) (pe_callB (toK (r := rRepr) (K := K) rfl (call_repr g)) (by rfl) T.n_repr (by decide +kernel) (pa_cons (pe_lst (pa_cons pe_bl (pa_cons pe_bl (pa_cons pe_bl (pa_cons pe_bl pa_nil))))) pa_nil)) (nomark _)) (pss_one (ps_ret pe_bl)) pss_nil)
      (pss_cons (ps_set (i := 7) sc_law_are_values_told.nd rfl (by first | exact Or.inl rfl | exact Or.inr rfl) (pe_lst (pa_cons (pe_tup (pa_cons pe_str (pa_cons pe_str pa_nil))) (pa_cons (pe_tup (pa_cons pe_str (pa_cons pe_str (pa_cons (pv 2) pa_nil)))) (pa_cons (pe_tup (pa_cons pe_str (pa_cons pe_str (pa_cons pe_str pa_nil)))) (pa_cons (pe_tup (pa_cons pe_str (pa_cons pe_str (pa_cons (pe_tup (pa_cons (pv 2) pa_nil)) pa_nil)))) (pa_cons (pe_tup (pa_cons pe_str (pa_cons pe_str (pa_cons (pe_lst (pa_cons (pv 2) pa_nil)) pa_nil)))) pa_nil)))))))
      (pss_cons (ps_expr (pe_bm PySem.F.plainAttrs_list PySem.F.slot_list_extend PySem.F.type_list_extend mt_extend (pv 7) (pa_cons (pe_lst (pa_cons (pe_tup (pa_cons pe_str (pa_cons pe_str (pa_cons (pv 2) pa_nil)))) (pa_cons (pe_tup (pa_cons pe_str (pa_cons pe_str pa_nil))) (pa_cons (pe_lst (pa_cons pe_str pa_nil)) (pa_cons (pe_tup (pa_cons pe_str pa_nil)) (pa_cons (pe_tup pa_nil) (pa_cons pe_non (pa_cons pe_str (pa_cons (pe_tup (pa_cons pe_str (pa_cons pe_non (pa_cons pe_str pa_nil)))) pa_nil))))))))) pa_nil)))
      (pss_cons (ps_expr (pe_bm PySem.F.plainAttrs_list PySem.F.slot_list_extend PySem.F.type_list_extend mt_extend (pv 7) (pa_cons (pe_lst (pa_cons (pe_tup (pa_cons pe_str (pa_cons pe_str (pa_cons (pv 2) pa_nil)))) (pa_cons (pe_tup (pa_cons pe_str (pa_cons pe_str (pa_cons (pe_tup (pa_cons (pv 2) (pa_cons pe_str pa_nil))) pa_nil)))) pa_nil))) pa_nil)))
      (pss_cons (ps_if (pt_cmpR (op_inK (K := K) rfl) pe_bl (pe_lc (own := [("value", 4)]) (tt := tYes) rfl sc_law_are_values_told.nd (pi_seq (pv 7)) (blkOk_by (N := names_law_are_values_told) (sc := defScope (top 52)) (own := [("value", 4)]) (by decide +kernel)) (fun _ _ _ _ _ => (pg_name (i := 4) sc_law_are_values_told.nd rfl (by first | exact Or.inl rfl | exact Or.inr rfl))) (fun _ _ _ _ _ => pts_nil) (fun _ _ _ _ _ => (pe_cg (ok_is_deed T) (g.mono (by decide : 3 ≤ 4)) (by rfl) T.m_is_deed T.F_is_deed.kp (OB.Fun.bd T.F_is_deed (ps := ["value"]) (n := 1) (ks := []) (ix := [0]) (fun _ _ _ _ _ _ us ws h1 h2 => match us, ws, h1, h2 with | [_], [], _, _ => rfl)) pass0 (pa_cons (pv 4) pa_nil) pk_nil))) (by rfl)) (pss_one (ps_ret pe_bl)) pss_nil)
      (pss_cons (ps_set (i := 8) sc_law_are_values_told.nd rfl (by first | exact Or.inl rfl | exact Or.inr rfl) (pe_lst (pa_cons (pe_ifExp (pt_cmpR op_gt (pe_callB (toK (r := OB.rLen) (K := K) rfl c_len) (by rfl) T.n_len PySem.boot_len (pa_cons (pv 3) pa_nil)) pe_int (nomark _)) (pe_revT (K := K) rfl (pv 3)) pe_non) (pa_cons (pe_callTy (toK (r := rList) (K := K) rfl c_list) (by rfl) T.n_list (by decide +kernel) (pa_cons (pv 3) pa_nil)) (pa_cons (pe_op (op_catAK (K := K) rfl) (pv 3) (pe_tup (pa_cons (pe_tup (pa_cons pe_str (pa_cons (pe_tup pa_nil) pa_nil))) pa_nil))) (pa_cons (pe_op (op_catAK (K := K) rfl) (pv 3) (pe_tup (pa_cons (pe_tup (pa_cons pe_str (pa_cons (pe_lst (pa_cons (pv 2) pa_nil)) pa_nil))) pa_nil))) pa_nil))))))
      (pss_cons (ps_expr (pe_bm PySem.F.plainAttrs_list PySem.F.slot_list_extend PySem.F.type_list_extend mt_extend (pv 8) (pa_cons (pe_lst (pa_cons (pe_tup (pa_cons (pe_tup (pa_cons pe_str (pa_cons (pe_tup (pa_cons (pe_op op_mulS pe_str pe_int) pa_nil)) pa_nil))) pa_nil)) (pa_cons (pe_tup (pa_cons (pe_tup (pa_cons pe_str (pa_cons (pe_tup pa_nil) pa_nil))) (pa_cons (pe_tup (pa_cons pe_str (pa_cons (pe_tup pa_nil) pa_nil))) pa_nil))) (pa_cons (pe_tup (pa_cons (pe_tup (pa_cons pe_str pa_nil)) pa_nil)) (pa_cons (pe_tup (pa_cons (pe_tup (pa_cons pe_str (pa_cons (pe_tup pa_nil) pa_nil))) (pa_cons (pe_tup (pa_cons pe_str (pa_cons (pe_tup pa_nil) pa_nil))) pa_nil))) pa_nil))))) pa_nil)))
      (pss_cons (ps_expr (pe_bm PySem.F.plainAttrs_list PySem.F.slot_list_extend PySem.F.type_list_extend mt_extend (pv 8) (pa_cons (pe_lst (pa_cons (pe_tup (pa_cons (pe_tup (pa_cons pe_non (pa_cons (pe_tup pa_nil) pa_nil))) pa_nil)) (pa_cons pe_str (pa_cons pe_dnewK pa_nil)))) pa_nil)))
      (pss_cons (ps_if (pt_cmpR (op_inK (K := K) rfl) pe_bl (pe_lc (own := [("value", 4)]) (tt := tYes) rfl sc_law_are_values_told.nd (pi_seq (pv 8)) (blkOk_by (N := names_law_are_values_told) (sc := defScope (top 52)) (own := [("value", 4)]) (by decide +kernel)) (fun _ _ _ _ _ => (pg_name (i := 4) sc_law_are_values_told.nd rfl (by first | exact Or.inl rfl | exact Or.inr rfl))) (fun _ _ _ _ _ => pts_nil) (fun _ _ _ _ _ => (pe_cg (ok_are_files T) (g.mono (by decide : 4 ≤ 4)) (by rfl) T.m_are_files T.F_are_files.kp (OB.Fun.bd T.F_are_files (ps := ["value"]) (n := 1) (ks := []) (ix := [0]) (fun _ _ _ _ _ _ us ws h1 h2 => match us, ws, h1, h2 with | [_], [], _, _ => rfl)) pass0 (pa_cons (pv 4) pa_nil) pk_nil))) (by rfl)) (pss_one (ps_ret pe_bl)) pss_nil)
      (pss_one (ps_ret (pe_and (pe_cmpR op_isB (pe_cg0 (ok_are_files T) (g.mono (by decide : 4 ≤ 4)) (by rfl) T.m_are_files T.F_are_files.kp (OB.Fun.bd T.F_are_files (ps := ["value"]) (n := 0) (ks := ["value"]) (ix := [0]) (fun _ _ _ _ _ _ us ws h1 h2 => match us, ws, h1, h2 with | [], [_], _, _ => rfl)) pass0 (pk_cons (pv 3) pk_nil)) pe_bl (nomark _)) (pe_one (pe_cmpR op_isB (pe_cg (ok_are_files T) (g.mono (by decide : 4 ≤ 4)) (by rfl) T.m_are_files T.F_are_files.kp (OB.Fun.bd T.F_are_files (ps := ["value"]) (n := 1) (ks := []) (ix := [0]) (fun _ _ _ _ _ _ us ws h1 h2 => match us, ws, h1, h2 with | [_], [], _, _ => rfl)) pass0 (pa_cons (pe_tup (pa_cons (pe_tup (pa_cons pe_str (pa_cons (pe_tup (pa_cons pe_str (pa_cons pe_str (pa_cons pe_str pa_nil)))) pa_nil))) pa_nil)) pa_nil) pk_nil) pe_bl (nomark _))))))))))))))))))), ?_⟩
  refine g_start (σ := [some _, some _, none, none, none, none, none, none, none]) rfl ?_
  repeat walk_at "ob"
  refine use_line P0 (by omega) fun l H1 hl P1 => ?_
  repeat walk_at "ob"
  have hW := hG.shW (by omega) (by omega) hR
  have hfl := hG.len
  have hrl := hR.len
  have hll : ∀ r ∈ rs, r.2.2.length ≤ 1000 := fun r hr => by
    have hm : (r.1, r.2.2) ∈ fs.map fun f => (f.1, f.2.map V.str) := by
      rw [← show rs.map (fun r => (r.1, r.2.2)) = _ from hR]
      exact List.mem_map.mpr ⟨r, hr, rfl⟩
    obtain ⟨f, hf, e⟩ := List.mem_map.mp hm
    have e2 : f.2.map V.str = r.2.2 := (Prod.mk.inj e).2
    rw [← e2, List.length_map]
    have := (hG.ln f hf).1
    omega
  obtain ⟨a1, b1, c1, o1, S1⟩ := P1
  refine use_file_tuple S1 (fun H' S' => FLat.of S'.less) hR (by omega) hll fun t ys H2 hs S2 => ?_
  clear S1 P0
  repeat walk_at "ob"
  refine use_isl S2 (by have := ln_len hl; omega) hl fun H3 S3 => ?_
  clear S2
  repeat walk_at "ob"
  rw [x_tx]
  refine g_mulS (by omega) (by omega) (Nat.succ_pos _) (Nat.le_of_ble_eq_true rfl) ?_
  repeat walk_at "ob"
  refine use_isl S3 x200.1 x200.2 fun H4 S4 => ?_
  clear S3
  repeat walk_at "ob"
  refine use_isl S4 tld.1 tld.2 fun H5 S5 => ?_
  clear S4
  repeat walk_at "ob"
  rename_i q6 H6 _ S6
  refine g_reprS (dpT3 (S6.at 0 rfl)) smT3 (by decide) (by decide) ?_
  repeat walk_at "ob"
  rename_i q7 H7 _ S7
  refine g_reprS (dpT3 (S7.at 0 rfl)) smT3 (by decide) (by decide) ?_
  clear S5 S6
  have S8 := S7.less.less
  clear S7
  repeat walk_at "ob"
  try refine g_ne ?_
  repeat walk_at "ob"
  refine g_lcE ?_
  repeat walk_at "ob"
  refine g_mulS (by omega) (by omega) (Nat.succ_pos _) (Nat.le_of_ble_eq_true rfl) ?_
  repeat ((fail_if_success (with_reducible refine atNewT ?_)); walk_at "ob")
  refine g_newTq S8 (Nat.le_of_ble_eq_true rfl) fun u H8 _ S9 => ?_
  clear S8
  repeat walk_at "ob"
  rename_i q10 H10 _ S10 q11 H11 _ S11
  clear S9 S10
  refine g_lcV (a := q11) (xs := [V.str (Str.ofString ""), V.str (tx (repS [120] (201 : Int).toNat)), V.str (Str.ofString "a\nb"), V.str (Str.ofString "a\tb"), V.non, V.int 7, V.ref u, V.ref q10]) (fun i F' vs => F' = (q11, HO.lst [V.str (Str.ofString ""), V.str (tx (repS [120] (201 : Int).toNat)), V.str (Str.ofString "a\nb"), V.str (Str.ofString "a\tb"), V.non, V.int 7, V.ref u, V.ref q10]) :: (q10, HO.lst [V.str l]) :: (p, potO a1 b1 c1) :: (fB d rs ++ F) ∧ vs = List.replicate i (V.bl false) ∧ i ≤ 8) S11 (fun Q' q => q) ⟨rfl, rfl, Nat.zero_le _⟩ (fun i F' vs H' hi S' => by
    obtain ⟨rfl, -, -⟩ := hi
    exact SqL.of (S'.at 0 rfl)) (fun i F' vs hi => by
    rw [hi.2.1, List.length_replicate]
    omega) ?_ ?_
  · rintro i x hx Dp H2 F2 vs QE QR ⟨rfl, rfl, hi8⟩ S12 kE kR
    obtain ⟨a, hv, hf⟩ := odd_lines (ln_len hl) (List.mem_of_getElem? hx)
    have hi9 : i < 8 := (List.getElem?_eq_some_iff.mp hx).1
    repeat walk_at "ob"
    refine ⟨rfl, ?_⟩
    repeat walk_at "ob"
    refine use_isA S12 (hv.mono (fun q h => List.mem_cons_of_mem _ h) fun _ h => h) fun H3 S13 => ?_
    rw [hf]
    exact kE _ _ _ ⟨rfl, by rw [List.replicate_succ'], hi9⟩ S13
  rintro Dp H12 F2 vs hD ⟨rfl, rfl, -⟩ S12
  repeat walk_at "ob"
  refine g_inF (n := 8) (S12.at 0 rfl) ?_
  refine ⟨false, rfl, ?_⟩
  rw [if_neg (by decide)]
  have S13 := S12.less.less.less.drop
  clear S12 S11
  repeat walk_at "ob"
  rename_i d1 _ nd1 zd1 e2 _ ne2 ze2 d2 _ nd2 zd2 u0 _ nu0 zu0 d3 _ nd3 zd3 d4 _ nd4 zd4 q12 H13 _ S14
  clear nd1 zd1 ne2 ze2 nd2 zd2 nu0 zu0 nd3 zd3 nd4 zd4
  have S14 : Sy K _ _ H13 := S14
  have hod := odv_of S14 (xs := [V.ref d1, V.ref d2, V.ref d3, V.ref d4]) (b := true) fun x hx => by
    simp only [List.mem_cons, List.not_mem_nil, or_false] at hx
    rcases hx with rfl | rfl | rfl | rfl
    · exact .dat (d := .tuple [.str (Str.ofString "add"), .str (Str.ofString "j"), .str l]) (by walk_at "mm") (right_deed (e := .add (Str.ofString "j") l) ⟨List.mem_singleton.mpr rfl, hl⟩)
    · exact .dat (d := .tuple [.str (Str.ofString "lay"), .str (Str.ofString "j"), .tuple [.str l, .str (Str.ofString "b")]]) (by walk_at "mm") (right_deed (e := .lay (Str.ofString "j") [l, Str.ofString "b"]) ⟨List.mem_singleton.mpr rfl, fun z hz => by
        simp only [List.mem_cons, List.not_mem_nil, or_false] at hz
        rcases hz with rfl | rfl
        · exact hl
        · exact lnb, Nat.le_of_ble_eq_true rfl⟩)
    · exact .dat (d := .tuple [.str (Str.ofString "lay"), .str (Str.ofString "j"), .tuple []]) (by walk_at "mm") (right_deed (e := .lay (Str.ofString "j") []) ⟨List.mem_singleton.mpr rfl, fun z hz => (nomatch hz), Nat.zero_le _⟩)
    · exact .dat (d := .tuple [.str (Str.ofString "sync")]) (by walk_at "mm") (right_deed (e := .syn) trivial)
  refine g_lcB (b := true) (a := q12) (i := 0) S14 rfl (Nat.le_of_ble_eq_true rfl) (fun Q' q => by repeat walk_at "ob"; exact q) (fun x hx Dp H2 vs QE QR S15 kE => ?_) fun Dp H15 S15 => ?_
  · repeat walk_at "ob"
    refine ⟨rfl, ?_⟩
    repeat walk_at "ob"
    exact use_isO S15 (hod x hx).more fun H3 S16 => kE H3 S16
  repeat walk_at "ob"
  refine g_reprS (dpT4 (S15.at 0 rfl)) smT4 (by decide) (by decide) ?_
  clear hod S14
  repeat walk_at "ob"
  rename_i q16 H16 _ S16
  refine g_reprS (dpT4 (S16.at 0 rfl)) smT4 (by decide) (by decide) ?_
  have S17 : Sy K ((p, potO a1 b1 c1) :: (fB d rs ++ F)) (Ft.dat [V.ref t] [filesT (srtF fs ys)] :: G) H16 := Sy.last [_, _, _, _, _, _] S16.less.less.less
  clear S15 S16
  repeat ((fail_if_success (with_reducible refine atSeq ?_)); walk_at "ob")
  generalize hF0 : (p, potO a1 b1 c1) :: (fB d rs ++ F) = F0 at S17
  generalize hG0 : Ft.dat [V.ref t] [filesT (srtF fs ys)] :: G = G0 at S17
  refine g_nx ?_
  refine g_seq ?_
  refine viaS (fun σ' H' => ∃ od, σ' = [some (.ref p), some (.ref d), some (.str l), some (.ref t), none, some (.ref q12), none, some (.ref od), none] ∧ OddS K F0 G0 od 5 H') (fun N A B C kk => ?_) ?_
  · repeat walk_at "ob"
    rename_i o0p _ no0p zo0p o1p _ no1p zo1p o2p _ no2p zo2p e3 _ ne3 ze3 o3p _ no3p zo3p ql H18 _ S18
    clear no0p zo0p no1p zo1p no2p zo2p ne3 ze3 no3p zo3p
    refine g_newTq S18 (Nat.le_of_ble_eq_true rfl) fun o4p H19 _ S19 => ?_
    clear S18 S17
    repeat walk_at "ob"
    rename_i od H20 _ S20
    have hod := odv_of S19 (xs := [V.ref o0p, V.ref o1p, V.ref o2p, V.ref o3p, V.ref o4p]) (b := false) fun x hx => by
      simp only [List.mem_cons, List.not_mem_nil, or_false] at hx
      rcases hx with rfl | rfl | rfl | rfl | rfl
      · exact .dat (by walk_at "mm") o0
      · exact .dat (by walk_at "mm") (LAW.o1 hl)
      · exact .dat (by walk_at "mm") o2
      · exact .dat (by walk_at "mm") (o3 hl)
      · exact o4 (by walk_at "mm") (by walk_at "mm") hl
    exact kk _ _ ⟨od, rfl, _, [_], [_, _, _, _, _, _], S20, hod, Nat.le_of_ble_eq_true rfl⟩
  clear S17
  rintro σ1 H1 ⟨od, rfl, xs1, F1, G1, S18, hx1, hl1⟩
  refine g_nx ?_
  refine g_seq ?_
  refine viaS (fun σ' H' => σ' = [some (.ref p), some (.ref d), some (.str l), some (.ref t), none, some (.ref q12), none, some (.ref od), none] ∧ OddS K F0 G0 od 13 H') (fun N A B C kk => ?_) ?_
  · repeat walk_at "ob"
    rename_i o5p _ no5p zo5p o6p _ no6p zo6p o7p _ no7p zo7p o8p _ no8p zo8p o9p _ no9p zo9p o12p _ no12p zo12p qx H20 _ S20
    clear no5p zo5p no6p zo6p no7p zo7p no8p zo8p no9p zo9p no12p zo12p
    refine g_extS S20 (f := 2) rfl (S20.at 0 rfl) (by show _ + 8 ≤ _; omega) fun H21 S21 => ?_
    have S22 : Sy K ((o7p, .lst [V.str (Str.ofString "sync")]) :: (od, .lst (xs1 ++ _)) :: (F1 ++ F0)) _ H21 := S21.less
    have hod := odv_of S22.swap.less (xs := [V.ref o5p, V.ref o6p, V.ref o7p, V.ref o8p, V.ref o9p, V.non, V.str (Str.ofString "sync"), V.ref o12p]) (b := false) fun x hx => by
      simp only [List.mem_cons, List.not_mem_nil, or_false] at hx
      rcases hx with rfl | rfl | rfl | rfl | rfl | rfl | rfl | rfl
      · exact .dat (by walk_at "mm") (o5 hl)
      · exact .dat (by walk_at "mm") o6
      · exact o7 (by walk_at "mm")
      · exact .dat (by walk_at "mm") o8
      · exact .dat (by walk_at "mm") o9
      · exact o10
      · exact o11
      · exact .dat (by walk_at "mm") o12
    repeat walk_at "ob"
    refine kk _ _ ⟨rfl, _, _ :: F1, [_, _, _, _, _] ++ G1, S22.swap, fun x hx => ?_, ?_⟩
    · rcases List.mem_append.mp hx with hx | hx
      · exact (hx1 x hx).mono (.cons _ (.refl _)) fun g hg => List.mem_append_right [_, _, _, _, _] hg
      · exact hod x hx
    · rw [List.length_append]
      show _ + 8 ≤ _
      omega
  clear hx1 S18
  rintro σ1 H1 ⟨rfl, xs1, F1, G1, S18, hx1, hl1⟩
  refine g_nx ?_
  refine g_seq ?_
  refine viaS (fun σ' H' => σ' = [some (.ref p), some (.ref d), some (.str l), some (.ref t), none, some (.ref q12), none, some (.ref od), none] ∧ OddS K F0 G0 od 15 H') (fun N A B C kk => ?_) ?_
  · repeat walk_at "ob"
    rename_i o13p _ no13p zo13p e14 _ ne14 ze14 o14p _ no14p zo14p qy H23 _ S23
    clear no13p zo13p ne14 ze14 no14p zo14p
    refine g_extS S23 (f := 1) rfl (S23.at 0 rfl) (by show _ + 2 ≤ _; omega) fun H24 S24 => ?_
    have S25 : Sy K ((od, .lst (xs1 ++ _)) :: (F1 ++ F0)) _ H24 := S24.less
    have hod := odv_of S25.less (xs := [V.ref o13p, V.ref o14p]) (b := false) fun x hx => by
      simp only [List.mem_cons, List.not_mem_nil, or_false] at hx
      rcases hx with rfl | rfl
      · exact .dat (by walk_at "mm") (o13 hl)
      · exact .dat (by walk_at "mm") (o14 hl)
    repeat walk_at "ob"
    refine kk _ _ ⟨rfl, _, F1, [_, _, _] ++ G1, S25, fun x hx => ?_, ?_⟩
    · rcases List.mem_append.mp hx with hx | hx
      · exact (hx1 x hx).mono (.refl _) fun g hg => List.mem_append_right [_, _, _] hg
      · exact hod x hx
    · rw [List.length_append]
      show _ + 2 ≤ _
      omega
  clear hx1 S18
  rintro σ1 H1 ⟨rfl, xs1, F1, G1, S18, hx1, hl1⟩
  refine g_nx ?_
  refine g_seq ?_
  refine viaS (fun σ' H' => σ' = [some (.ref p), some (.ref d), some (.str l), some (.ref t), none, some (.ref q12), none, some (.ref od), none] ∧ Sy K F0 G0 H') (fun N A B C kk => ?_) ?_
  · repeat walk_at "ob"
    refine g_lcE ?_
    repeat walk_at "ob"
    refine g_lcB (b := false) (a := od) (i := 0) S18 rfl (by omega) (fun Q' q => by repeat walk_at "ob"; exact q) (fun x hx Dp H2 vs QE QR S15 kE => ?_) fun Dp H15 S15 => ?_
    · repeat walk_at "ob"
      refine ⟨rfl, ?_⟩
      repeat walk_at "ob"
      exact use_isO S15 (hx1 x hx).more.more fun H3 S16 => kE H3 S16
    repeat walk_at "ob"
    refine g_inF (S15.at 0 rfl) ?_
    refine ⟨false, rfl, ?_⟩
    rw [if_neg (by decide)]
    repeat walk_at "ob"
    exact kk _ _ ⟨rfl, (Sy.tail (A := F1) S15.less.less).facts fun g hg => List.mem_append_right _ hg⟩
  clear hx1 S18
  rintro σ1 H1 ⟨rfl, S27⟩
  refine g_nx ?_
  subst hG0
  obtain ⟨a5, xs, e5, S28⟩ := S27.opn (S27.dp 0 rfl) (files_imm _)
  cases e5
  clear S27
  have hg3 : Good N 3 (srtF fs ys) := hG.eq (FEq.of_srt hs).symm
  have asc := asc_srt hG.nd hs
  have fok : FlOk (srtF fs ys) := ⟨hg3.nd, fun f hf => hN _ (hg3.nm f hf), fun f hf => ⟨by have := (hg3.ln f hf).1; omega, (hg3.ln f hf).2⟩⟩
  have fl40 : (srtF fs ys).length ≤ 40 := by have := hg3.len; omega
  generalize srtF fs ys = gs at S28 asc fok fl40
  have hxl := dps_length (S28.dps 1 rfl)
  rw [List.length_map] at hxl
  refine g_seq ?_
  refine viaS (fun σ' H' => ∃ bd, σ' = [some (.ref p), some (.ref d), some (.str l), some (.ref t), none, some (.ref q12), none, some (.ref od), some (.ref bd)] ∧ BadS K F0 (.tq t xs :: .dat xs (gs.map fileD) :: .dat [.ref t] [filesT gs] :: G) bd 4 H') (fun N1 A1 B1 C1 kk => ?_) ?_
  · repeat ((fail_if_success (with_reducible refine atIf ?_)); walk_at "ob")
    refine via (fun v H' => ∃ g, Sy K F0 (g :: .tq t xs :: .dat xs (gs.map fileD) :: .dat [.ref t] [filesT gs] :: G) H' ∧ FiV [] [g] v false) (fun Q' qq => ?_) ?_
    · repeat walk_at "ob"
      refine g_iteD (fun h1 => ?_) (fun h1 => ?_)
      · repeat walk_at "ob"
        refine g_revT ?_
        repeat walk_at "ob"
        refine g_rev1 S28 (S28.tqs 0 rfl) (S28.dps 1 rfl) (S28.dpi 1 rfl) fun p2 H2 S29 => ?_
        exact qq _ _ ⟨_, S29, .rev (List.mem_cons_self ..) fok asc fl40 (by omega)⟩
      · repeat walk_at "ob"
        exact qq _ _ ⟨.dat [] [], S28.fact .nil rfl, f_non⟩
    rintro v0 H28 ⟨g0, S29, fi0⟩
    clear S28
    repeat walk_at "ob"
    refine ⟨t, xs, rfl, .inr (S29.tqs 1 rfl), fun b1p hb1 => ?_⟩
    have S30 := S29.push (o := .lst xs) hb1
    generalize upd H28 b1p (.lst xs) = H30 at S30 ⊢
    clear S29
    repeat walk_at "ob"
    rename_i u1 _ nu1 zu1 u2 _ nu2 zu2 u3 H31 _ S31
    clear nu1 zu1 nu2 zu2
    obtain ⟨a6, zs, e6, S32⟩ := S31.opn (S31.dp 0 rfl) rfl
    cases e6
    have hzl := dps_length (S32.dps 1 rfl)
    have hzn : zs ≠ [] := fun z => by
      rw [z] at hzl
      exact absurd hzl (by show ¬ 0 = 1; decide)
    refine g_catD S32 (S32.tqs 6 rfl) (S32.tqs 0 rfl) (S32.dps 7 rfl) (S32.dps 1 rfl) (by rw [immAll_append, files_imm]; rfl) (S32.dp 2 rfl) hzn (by rw [hzl]; show _ + 1 ≤ _; omega) fun b2p H33 S33 => ?_
    clear S31 S32 S30
    repeat walk_at "ob"
    rename_i bl H34 _ S34
    refine g_newTq S34 (Nat.le_of_ble_eq_true rfl) fun b3i H35 _ S35 => ?_
    clear S33 S34
    repeat walk_at "ob"
    refine g_newTq S35 (Nat.le_of_ble_eq_true rfl) fun b3o H36 _ S36 => ?_
    clear S35
    repeat walk_at "ob"
    refine g_catQ S36 (S36.tqs 9 rfl) (S36.tqs 0 rfl) (fun z => nomatch z) (by rw [hxl]; show _ + 1 ≤ _; omega) fun b3p H37 S37 => ?_
    clear S36
    repeat walk_at "ob"
    rename_i bd H38 _ S38
    have hbd := fiv_of S37 (xs := [v0, V.ref b1p, V.ref b2p, V.ref b3p]) (b := false) fun x hx => by
      simp only [List.mem_cons, List.not_mem_nil, or_false] at hx
      rcases hx with rfl | rfl | rfl | rfl
      · exact fi0.mono (fun _ h => nomatch h) fun g hg => by
          rw [List.mem_singleton.mp hg]
          walk_at "mm"
      · exact f_lst (by walk_at "mm")
      · exact .catD (by walk_at "mm") fok fl40
      · exact .catQ (by walk_at "mm") (by walk_at "mm") hxl (by walk_at "mm") (by walk_at "mm") fok fl40
    exact kk _ _ ⟨bd, rfl, _, [_, _], [_, _, _, _, _, _, _, _, _, _], S38, hbd, Nat.le_refl _⟩
  clear S28
  rintro σ1 H1 ⟨bd, rfl, xs1, F1, G1, S18, hx1, hl1⟩
  refine g_nx ?_
  refine g_seq ?_
  refine viaS (fun σ' H' => σ' = [some (.ref p), some (.ref d), some (.str l), some (.ref t), none, some (.ref q12), none, some (.ref od), some (.ref bd)] ∧ BadS K F0 (.tq t xs :: .dat xs (gs.map fileD) :: .dat [.ref t] [filesT gs] :: G) bd 8 H') (fun N1 A1 B1 C1 kk => ?_) ?_
  · repeat walk_at "ob"
    rw [a_tx]
    refine g_mulS (by omega) (by omega) (Nat.succ_pos _) (Nat.le_of_ble_eq_true rfl) ?_
    repeat walk_at "ob"
    rename_i m1 _ nm1 zm1 m2 _ nm2 zm2 m3 _ nm3 zm3 m4 _ nm4 zm4 m5 _ nm5 zm5 m6 _ nm6 zm6 m7 _ nm7 zm7 m8 _ nm8 zm8 m9 _ nm9 zm9 m10 _ nm10 zm10 m11 _ nm11 zm11 m12 _ nm12 zm12 m13 _ nm13 zm13 m14 _ nm14 zm14 m15 _ nm15 zm15 qx H20 _ S20
    clear nm1 zm1 nm2 zm2 nm3 zm3 nm4 zm4 nm5 zm5 nm6 zm6 nm7 zm7 nm8 zm8 nm9 zm9 nm10 zm10 nm11 zm11 nm12 zm12 nm13 zm13 nm14 zm14 nm15 zm15
    refine g_extS S20 (f := 1) rfl (S20.at 0 rfl) (by show _ + 4 ≤ _; omega) fun H21 S21 => ?_
    have S22 : Sy K ((bd, .lst (xs1 ++ _)) :: (F1 ++ F0)) _ H21 := S21.less
    have hod := fiv_of S22.less (xs := [V.ref m3, V.ref m8, V.ref m10, V.ref m15]) (b := false) fun x hx => by
      simp only [List.mem_cons, List.not_mem_nil, or_false] at hx
      rcases hx with rfl | rfl | rfl | rfl
      · exact .lit (by walk_at "mm") (by decide +kernel)
      · exact .lit (by walk_at "mm") (by decide +kernel)
      · exact .lit (by walk_at "mm") (by decide +kernel)
      · exact .lit (by walk_at "mm") (by decide +kernel)
    repeat walk_at "ob"
    refine kk _ _ ⟨rfl, _, F1, [_, _, _, _, _, _, _, _, _, _, _, _, _, _, _] ++ G1, S22, fun x hx => ?_, ?_⟩
    · rcases List.mem_append.mp hx with hx | hx
      · exact (hx1 x hx).mono (fun _ h => h) fun g hg => List.mem_append_right [_, _, _, _, _, _, _, _, _, _, _, _, _, _, _] hg
      · exact hod x hx
    · rw [List.length_append]
      show _ + 4 ≤ _
      omega
  clear hx1 S18
  rintro σ1 H1 ⟨rfl, xs1, F1, G1, S18, hx1, hl1⟩
  refine g_nx ?_
  refine g_seq ?_
  refine viaS (fun σ' H' => σ' = [some (.ref p), some (.ref d), some (.str l), some (.ref t), none, some (.ref q12), none, some (.ref od), some (.ref bd)] ∧ BadS K F0 (.tq t xs :: .dat xs (gs.map fileD) :: .dat [.ref t] [filesT gs] :: G) bd 11 H') (fun N1 A1 B1 C1 kk => ?_) ?_
  · repeat walk_at "ob"
    rename_i k1 _ nk1 zk1 k2 _ nk2 zk2 k3 H19 _ S19
    clear nk1 zk1 nk2 zk2
    refine g_dnewK fun kd hkd => ?_
    have S20 := S19.push (o := .dK []) hkd
    generalize upd H19 kd (.dK []) = H20 at S20 ⊢
    clear S19
    repeat walk_at "ob"
    rename_i qx H21 _ S21
    refine g_extS S21 (f := 2) rfl (S21.at 0 rfl) (by show _ + 3 ≤ _; omega) fun H22 S22 => ?_
    have S23 : Sy K ((kd, .dK []) :: (bd, .lst (xs1 ++ _)) :: (F1 ++ F0)) _ H22 := S22.less
    have hod := fiv_of S23.swap.less (xs := [V.ref k3, V.str (Str.ofString ""), V.ref kd]) (b := false) fun x hx => by
      simp only [List.mem_cons, List.not_mem_nil, or_false] at hx
      rcases hx with rfl | rfl | rfl
      · exact .lit (by walk_at "mm") (by decide +kernel)
      · exact f_str
      · exact f_dct (by walk_at "mm")
    repeat walk_at "ob"
    refine kk _ _ ⟨rfl, _, _ :: F1, [_, _, _] ++ G1, S23.swap, fun x hx => ?_, ?_⟩
    · rcases List.mem_append.mp hx with hx | hx
      · exact (hx1 x hx).mono (fun _ h => List.mem_cons_of_mem _ h) fun g hg => List.mem_append_right [_, _, _] hg
      · exact hod x hx
    · rw [List.length_append]
      show _ + 3 ≤ _
      omega
  clear hx1 S18
  rintro σ1 H1 ⟨rfl, xs1, F1, G1, S18, hx1, hl1⟩
  refine g_nx ?_
  refine g_seq ?_
  refine viaS (fun σ' H' => σ' = [some (.ref p), some (.ref d), some (.str l), some (.ref t), none, some (.ref q12), none, some (.ref od), some (.ref bd)] ∧ Sy K F0 (.tq t xs :: .dat xs (gs.map fileD) :: .dat [.ref t] [filesT gs] :: G) H') (fun N A B C kk => ?_) ?_
  · repeat walk_at "ob"
    refine g_lcE ?_
    repeat walk_at "ob"
    refine g_lcB (b := false) (a := bd) (i := 0) S18 rfl (by omega) (fun Q' q => by repeat walk_at "ob"; exact q) (fun x hx Dp H2 vs QE QR S15 kE => ?_) fun Dp H15 S15 => ?_
    · repeat walk_at "ob"
      refine ⟨rfl, ?_⟩
      repeat walk_at "ob"
      exact use_areF S15 (hx1 x hx).more.more fun H3 S16 => kE H3 S16
    repeat walk_at "ob"
    refine g_inF (S15.at 0 rfl) ?_
    refine ⟨false, rfl, ?_⟩
    rw [if_neg (by decide)]
    repeat walk_at "ob"
    exact kk _ _ ⟨rfl, (Sy.tail (A := F1) S15.less.less).facts fun g hg => List.mem_append_right _ hg⟩
  clear hx1 S18
  rintro σ1 H1 ⟨rfl, S27⟩
  refine g_nx ?_
  repeat walk_at "ob"
  refine use_areF S27 (.told (by walk_at "mm") fok asc fl40) fun H2 S28 => ?_
  clear S27
  repeat walk_at "ob"
  refine g_isB ?_
  refine g_blx ?_
  refine g_T rfl ?_
  repeat walk_at "ob"
  rename_i w1 _ nw1 zw1 w2 _ nw2 zw2 w3 H29 _ S29
  clear nw1 zw1 nw2 zw2
  refine use_areF S29 (.lit (b := true) (by walk_at "mm") (by decide +kernel)) fun H3 S30 => ?_
  repeat walk_at "ob"
  refine g_isB ?_
  subst hF0
  exact k H3 ⟨a1, b1, c1, o1.mono (by omega), S30.facts fun g hg => List.mem_append_right [_, _, _, _, _, _] hg⟩
end
end LAW

set_option Elab.async false
set_option linter.all false
set_option maxRecDepth 100000
namespace LAW
open PySem PySem.Spec PyProof.Rows L2 PySem.W OB
local macro_rules | `(tactic| walk_at "obc") => `(tactic| first
  | exact Or.inl ⟨by omega, by omega⟩
  | exact Or.inr ⟨by omega, by omega⟩
  | exact cdiv_ok (by omega) (by omega)
  | (show (0 : Int) < _; omega)
  | exact ⟨by omega, by decide⟩
  | exact ⟨by decide, by decide⟩)
local macro_rules | `(tactic| walk_at "obat") => `(tactic| first
  | exact Sy.at (by assumption) 0 rfl | exact Sy.at (by assumption) 1 rfl | exact Sy.at (by assumption) 2 rfl | exact Sy.at (by assumption) 3 rfl
  | exact Sy.at (by assumption) 4 rfl | exact Sy.at (by assumption) 5 rfl | exact Sy.at (by assumption) 6 rfl | exact Sy.at (by assumption) _ (by assumption) | exact Sy.at (by assumption) (_ + 1) (by assumption) | exact Sy.at (by assumption) (_ + 2) (by assumption))
local macro_rules | `(tactic| walk_at "obt") => `(tactic| first
  | exact Sy.tqs (by assumption) 0 rfl | exact Sy.tqs (by assumption) 1 rfl | exact Sy.tqs (by assumption) 2 rfl | exact Sy.tqs (by assumption) 3 rfl | exact Sy.tqs (by assumption) 4 rfl | exact Sy.tqs (by assumption) 5 rfl
  | exact Sy.tqs (by assumption) 6 rfl | exact Sy.tqs (by assumption) 7 rfl | assumption)
local macro_rules | `(tactic| walk_at "obl") => `(tactic| first
  | exact SqL.of (by walk_at "obat")
  | exact Sy.sq (by assumption) 0 rfl | exact Sy.sq (by assumption) 1 rfl | exact Sy.sq (by assumption) 2 rfl | exact Sy.sq (by assumption) 3 rfl | exact Sy.sq (by assumption) _ (by assumption))
local macro_rules | `(tactic| walk_at "obd") => `(tactic| first
  | exact Dp.int _ | exact Dp.bl _ | exact Dp.str _ | exact Dp.non
  | exact Sy.dp (by assumption) 0 rfl | exact Sy.dp (by assumption) 1 rfl | exact Sy.dp (by assumption) 2 rfl | exact Sy.dp (by assumption) 3 rfl
  | exact Sy.dp (by assumption) 4 rfl | exact Sy.dp (by assumption) 5 rfl | exact Sy.dp (by assumption) 6 rfl | exact Sy.dp (by assumption) 7 rfl
  | exact Sy.dp (by assumption) 8 rfl | exact Sy.dp (by assumption) 9 rfl | exact Sy.dp (by assumption) _ (by assumption) | assumption)
local macro_rules | `(tactic| walk_at "obds") => `(tactic| first
  | exact DpAll.nil
  | (refine' DpAll.cons ?ob1 ?ob2; (case ob1 => walk_at "obd"); (case ob2 => walk_at "obds"))
  | exact Sy.dps (by assumption) 0 rfl | exact Sy.dps (by assumption) 1 rfl | exact Sy.dps (by assumption) 2 rfl | exact Sy.dps (by assumption) 3 rfl | assumption)
local macro_rules | `(tactic| walk_at "obsc") => `(tactic| first
  | exact ScL.nil
  | ((first | refine' ScL.int ?obz | refine' ScL.str ?obz | refine' ScL.bl ?obz | refine' ScL.non ?obz); (case obz => walk_at "obsc")))
local macro_rules | `(tactic| walk_at "ob1") => `(tactic| first
  | ((with_reducible refine' g_var ?obh ?_); (case obh => rfl))
  | with_reducible refine g_c ?_
  | with_reducible refine g_nx ?_
  | with_reducible refine g_rt ?_
  | with_reducible refine g_bk ?_
  | with_reducible refine g_ct ?_
  | with_reducible refine g_op ?_
  | with_reducible refine g_I0 ?_
  | with_reducible refine g_test ?_
  | with_reducible refine g_bl ?_
  | with_reducible refine g_blx ?_
  | with_reducible refine g_B ?_
  | with_reducible refine g_seq ?_
  | with_reducible refine g_asg ?_
  | with_reducible refine g_name ?_
  | with_reducible refine g_ifS ?_
  | with_reducible refine g_ret ?_
  | with_reducible refine g_cb ?_
  | with_reducible refine g_cons ?_
  | with_reducible refine g_nil ?_
  | with_reducible refine g_int ?_
  | with_reducible refine g_intB ?_
  | with_reducible refine g_abs ?_
  | with_reducible refine g_max ?_
  | with_reducible refine g_min ?_
  | with_reducible refine g_un ?_
  | with_reducible refine g_U ?_
  | with_reducible refine g_eqI ?_
  | with_reducible refine g_neI ?_
  | with_reducible refine g_eqS ?_
  | with_reducible refine g_neS ?_
  | with_reducible refine g_tt ?_
  | with_reducible refine g_ff ?_
  | with_reducible refine g_next ?_
  | with_reducible refine g_drop ?_
  | with_reducible refine g_if ?_
  | with_reducible refine g_andV ?_
  | with_reducible refine g_orV ?_
  | with_reducible refine g_notV ?_
  | with_reducible refine g_and ?_
  | with_reducible refine g_or ?_
  | with_reducible refine g_not ?_
  | with_reducible refine g_yes ?_
  | with_reducible refine g_chain ?_
  | with_reducible refine g_cg ?_
  | with_reducible refine g_mg ?_
  | with_reducible refine g_kg ?_
  | with_reducible refine g_pg ?_
  | ((with_reducible refine' g_call ?obh ?obj ?_); (case obh => rfl); (case obj => rfl))
  | with_reducible refine g_par ?_
  | with_reducible refine g_par2 ?_
  | with_reducible refine g_par3 ?_
  | with_reducible refine g_par33 ?_
  | with_reducible refine g_gnil ?_
  | with_reducible refine g_gcons ?_
  | with_reducible refine g_gsub ?_
  | with_reducible refine g_ipI ?_
  | with_reducible refine g_rAdd ?_
  | with_reducible refine g_rSub ?_
  | ((with_reducible refine' g_aug ?obh ?_); (case obh => rfl))
  | with_reducible refine g_tup ?_
  | with_reducible refine g_lst ?_
  | with_reducible refine g_bm ?_
  | with_reducible refine g_bm0 ?_
  | with_reducible refine g_sl ?_
  | with_reducible refine g_nopart ?_
  | with_reducible refine g_part ?_
  | with_reducible refine g_pint ?_
  | with_reducible refine isi_int ?_
  | with_reducible refine isi_intB ?_
  | ((with_reducible refine' g_I ?obh ?_); (case obh => walk_at "obc"))
  | ((with_reducible refine' g_tyl ?obh ?_); (case obh => walk_at "obl"))
  | ((with_reducible refine' g_lenL ?obh ?_); (case obh => walk_at "obl"))
  | with_reducible refine g_ne ?_
  | ((with_reducible refine' g_neN' ?obh ?_); (case obh => rfl))
  | with_reducible refine g_ntt ?_
  | with_reducible refine g_nff ?_
  | with_reducible refine g_star ?_
  | with_reducible refine g_att ?_
  | with_reducible refine g_sfld ?_
  | with_reducible refine g_faug ?_
  | with_reducible refine g_fld ?_
  | ((with_reducible refine' g_nF ?obh ?_); (case obh => omega))
  | ((with_reducible refine' g_nT ?obh ?_); (case obh => omega))
  | ((with_reducible refine' g_TD ?obh ?_); (case obh => omega))
  | ((with_reducible refine' g_FD ?obh ?_); (case obh => omega))
  | ((with_reducible refine' g_ixUL ?obh ?obi ?_); (case obh => walk_at "obl"); (case obi => exact atI_nn (by omega) (by rfl)))
  | ((with_reducible refine' g_setLS ?obs ?obh ?obi ?_); (case obs => assumption); (case obh => assumption); (case obi => rfl); intro _ _ _)
  | ((with_reducible refine' g_newT ?obs ?obh ?obi ?obj ?_); (case obs => assumption); (case obh => walk_at "obds"); (case obi => rfl); (case obj => exact Nat.le_of_ble_eq_true rfl); intro _ _ _ _)
  | ((with_reducible refine' g_newL ?obs ?obj ?_); (case obs => assumption); (case obj => exact Nat.le_of_ble_eq_true rfl); intro _ _ _ _)
  | ((with_reducible refine' isi_tup ?obh ?_); (case obh => walk_at "obt"))
  | ((with_reducible refine' g_lenT ?obh ?_); (case obh => walk_at "obt"))
  | ((with_reducible refine' g_unpT ?obh ?obi ?_); (case obh => walk_at "obt"); (case obi => rfl))
  | ((with_reducible refine' g_divmod ?obs ?obh ?_); (case obs => assumption); (case obh => exact cdivp_ok (by omega) (by omega) (by omega)); intro _ _ _ _)
  | ((with_reducible refine' g_unpD ?obh ?obi ?obj ?_); (case obh => walk_at "obd"); (case obi => walk_at "obsc"); (case obj => rfl))
  | with_reducible refine g_att ?_)
local macro_rules | `(tactic| walk_at "ob") => `(tactic| first
  | walk_at "ob1"
  | with_reducible refine use_is_integer ?_
  | with_reducible refine use_is_within ?_
  | with_reducible refine g_lstRg ?_
  | with_reducible refine g_rg1 ?_
  | with_reducible refine g_rg2 ?_
  | with_reducible refine g_tTru ?_
  | ((with_reducible refine' g_truL ?obh ?_); (case obh => walk_at "obl"))
  | ((with_reducible refine' g_ixUT ?obh ?obi ?_); (case obh => walk_at "obt"); (case obi => rfl))
  | with_reducible refine g_forZ ?_
  | with_reducible refine g_forR2 ?_
  | with_reducible refine g_forE ?_
  | with_reducible refine g_lcZ ?_)
local macro_rules | `(tactic| walk_at "ob") => `(tactic| first
  | ((with_reducible refine' g_fldS ?obh ?obc ?obn ?obe ?_); (case obh => walk_at "obat"); (case obc => exact ShC.c (by assumption)); (case obn => first | exact ShC.n1 (by assumption) | exact ShC.n2 (by assumption)); (case obe => rfl)))
section
variable {P : Program} {w : World} {K : Frag} {mg : Str → Option Value} {base : Heap}
theorem use_sdeeds {F : List (Addr × HO)} {G : List Ft} {H : Hp} {Q : VK} {E : XK} {p q : Addr} {n : Nat} {a : Int} {ns N : List Str} (P0 : Pot K ((q, .lst (ns.map V.str)) :: F) G p n H) (hn : n < 100000) (h0 : 0 ≤ a) (h1 : a ≤ 50) (l0 : 0 < ns.length) (l1 : ns.length ≤ 100) (hns : ∀ x ∈ ns, x ∈ N)
    (k : ∀ t dv (es : List Dd) H', (∀ e ∈ es, DdOk N e) → es.length = a.toNat → Pot K ((t, .lst dv) :: (q, .lst (ns.map V.str)) :: F) (.dat dv (es.map Dd.d) :: G) p (n + 5000) H' → Q (.ref t) H') : sp_law_shelf_deeds K [.ref p, .ref q, .int a] H Q E := ⟨rfl, F, G, p, q, n, a, ns, N, rfl, P0, hn, h0, h1, l0, l1, hns, k⟩
theorem FEq.fold {fs gs : Fl} (h : FEq fs gs) : ∀ es : List Dd, FEq (es.foldl doF fs) (es.foldl doF gs)
  | [] => h
  | e :: es => FEq.fold (h.do e) es
/-- how the two shelves stand -/
def LpS (K : Frag) (C x dx ds l : Addr) (R : List (Addr × HO)) (G : List Ft) (fs : Fl) (es : List Dd) (i j : Nat) (o : Addr) (H : Hp) : Prop := ∃ dxo dn lo lvo ors ofs lv srs sfs, Sy K (shB x C dx ds l lv srs ++ (shB o C dxo dn lo lvo ors ++ R)) (.dat lv ((es.take i).map Dd.d) :: .dat lvo ((es.take j).map Dd.d) :: G) H ∧ RowsOf srs sfs ∧ FEq sfs ((es.take i).foldl doF fs) ∧ RowsOf ors ofs ∧ FEq ofs ((es.take j).foldl doF fs)
theorem LpS.mem {C x dx ds l : Addr} {R : List (Addr × HO)} {G : List Ft} {fs : Fl} {es : List Dd} {i j : Nat} {o : Addr} {H : Hp} (h : LpS K C x dx ds l R G fs es i j o H) : ∀ y ∈ R, H y.1 = some y.2 := by
  obtain ⟨_, _, _, _, _, _, _, _, _, S, _⟩ := h
  exact fun y hy => S.st y (List.mem_append_right _ (List.mem_append_right _ hy))
theorem use_dright {C : Addr} {F : List (Addr × HO)} {G : List Ft} {H : Hp} {Q : VK} {E : XK} {s dx d l : Addr} {lv : List V} {rs : List FRow} {fs : Fl} {es : List Dd} {v : V} {e : Dd} {N : List Str} (S : Sy K (shB s C dx d l lv rs ++ F) (.dat lv (es.map Dd.d) :: .dat [v] [e.d] :: G) H) (hc : ShC K C) (hw : ShW rs fs) (hl : es.length ≤ 1000) (hN : ∀ n ∈ N, NmOk n) (hok : DdOk N e)
    (k : ∀ rs' v' H', RowsOf rs' (doF fs e) → Sy K (shB s C dx d l (lv ++ [v']) rs' ++ F) (.dat (lv ++ [v']) ((es ++ [e]).map Dd.d) :: .dat [v] [e.d] :: G) H' → Q (.bl true) H') : sp_law_is_done_right K C [.ref s, v] H Q E := ⟨rfl, F, G, s, dx, d, l, lv, rs, fs, es, v, e, N, rfl, S, hc, hw, hl, hN, hok, k⟩
theorem use_stands {C : Addr} {R : List (Addr × HO)} {G : List Ft} {H : Hp} {Q : VK} {E : XK} {s dx ds l d a : Addr} {lv dv : List V} {srs rs : List FRow} {fs sfs : Fl} {es : List Dd} {N : List Str} (S : Sy K (fB d rs ++ (shB s C dx ds l lv srs ++ R)) (.dat dv (es.map Dd.d) :: .dat lv (es.map Dd.d) :: G) H) (ha : (a, HO.lst dv) ∈ R) (hR : RowsOf rs fs) (g : Good N 3 fs) (hNl : N.length < 40) (hN : ∀ n ∈ N, NmOk n) (hes : ∀ e ∈ es, DdOk N e) (hl : es.length ≤ 50) (hc : ShC K C) (hRs : RowsOf srs sfs) (hq : FEq sfs (es.foldl doF fs))
    (k : ∀ H', Sy K (fB d rs ++ (shB s C dx ds l lv srs ++ R)) (.dat dv (es.map Dd.d) :: .dat lv (es.map Dd.d) :: G) H' → Q (.bl true) H') : sp_law_stands_right K C [.ref s, .ref d, .ref a] H Q E := by
  have gf : Good N 60 (es.foldl doF fs) := by
    have := good_fold hes (g.mono (by decide : 3 ≤ 10)) es.length
    rw [List.take_length] at this
    exact this.mono (by omega)
  exact ⟨rfl, R, G, s, dx, ds, l, d, a, lv, dv, srs, rs, fs, sfs, es, N, rfl, S, fun G' H' S' => SqL.of (S'.st (a, .lst dv) (List.mem_append_right _ (List.mem_append_right _ ha))), hR, g.mono (by decide), hNl, hN, hes, hl, hc, (gf.eq hq.symm).shW hNl (by decide) hRs, hq, k⟩
theorem Sy.f3 {F : List (Addr × HO)} {G : List Ft} {H : Hp} {a b c : Ft} (S : Sy K F (a :: b :: c :: G) H) : Sy K F (c :: a :: b :: G) H := S.facts fun g hg => by
  simp only [List.mem_cons] at hg ⊢
  rcases hg with h | h | h | h
  · exact .inr (.inr (.inl h))
  · exact .inl h
  · exact .inr (.inl h)
  · exact .inr (.inr (.inr h))
theorem Sy.f2 {F : List (Addr × HO)} {G : List Ft} {H : Hp} {a b : Ft} (S : Sy K F (a :: b :: G) H) : Sy K F (b :: a :: G) H := S.facts fun g hg => by
  simp only [List.mem_cons] at hg ⊢
  rcases hg with h | h | h
  · exact .inr (.inl h)
  · exact .inl h
  · exact .inr (.inr h)
theorem goodA {N : List Str} {fs : Fl} (g : Good N 3 fs) {es : List Dd} (hes : ∀ e ∈ es, DdOk N e) (hl : es.length ≤ 50) : Good N 60 (es.foldl doF fs) := by
  have := good_fold hes (g.mono (by decide : 3 ≤ 10)) es.length
  rw [List.take_length] at this
  exact this.mono (by omega)
theorem permXO {α : Type} {X O R : List α} : (X ++ (O ++ R)).Perm (O ++ (X ++ R)) := by
  rw [← List.append_assoc, ← List.append_assoc]
  exact List.Perm.append_right _ List.perm_append_comm
theorem permP {α : Type} {a b c : α} {X O Y : List α} : (a :: c :: (X ++ (O ++ (b :: Y)))).Perm (X ++ (O ++ ([a, b, c] ++ Y))) := by
  have h1 : (X ++ (O ++ ([a, b, c] ++ Y))).Perm ([a, b, c] ++ (X ++ (O ++ Y))) := (List.Perm.append_left X permXO).trans permXO
  have h2 : (X ++ (O ++ (b :: Y))).Perm (b :: (X ++ (O ++ Y))) := (List.Perm.append_left X List.perm_middle).trans List.perm_middle
  refine List.Perm.trans ?_ h1.symm
  exact List.Perm.cons a ((List.Perm.cons c h2).trans (List.Perm.swap ..))
theorem permO {α : Type} {X O A Z : List α} : (O ++ (A ++ (X ++ Z))).Perm (A ++ (X ++ (O ++ Z))) := permXO.trans (List.Perm.append_left A permXO)
theorem permX {α : Type} {B X O A Z : List α} : (B ++ (X ++ (O ++ (A ++ Z)))).Perm (B ++ (O ++ (A ++ (X ++ Z)))) := List.Perm.append_left B (permXO.trans (List.Perm.append_left O permXO))
/-- the files to the front, a new list behind the first shelf -/
theorem permB {α : Type} {a : α} {X O L B F : List α} : (B ++ (X ++ (a :: (O ++ (L ++ F))))).Perm (a :: (X ++ (O ++ (L ++ (B ++ F))))) := by
  have h1 : (X ++ (O ++ (L ++ (B ++ F)))).Perm (B ++ (X ++ (O ++ (L ++ F)))) := ((List.Perm.append_left X ((List.Perm.append_left O permXO).trans permXO)).trans permXO)
  refine List.Perm.symm ((List.Perm.cons a h1).trans ?_)
  have h2 : (B ++ (X ++ (a :: (O ++ (L ++ F))))).Perm (a :: (B ++ (X ++ (O ++ (L ++ F))))) := (List.Perm.append_left B List.perm_middle).trans List.perm_middle
  exact h2.symm
def sp_law_right (K : Frag) : Sp := fun vs H Q E => vs.length = 1 ∧ ∃ (F : List (Addr × HO)) (G : List Ft) (p : Addr) (x y z : Int), vs = [.ref p] ∧ Sy K ((p, potO x y z) :: F) G H ∧ PotOk 0 x y z ∧ ∀ H', Sy K F G H' → Q (.bl true) H'
abbrev names_law_right : List Str := ["pot", "files", "names", "deeds", "shelf", "at", "other", "number", "deed", "more", "due"]
theorem sc_law_right : FnScope names_law_right ["pot"] (defScope (top 53)) := ⟨rfl, rfl, rfl, by decide +kernel, rfl, by decide +kernel, by decide +kernel⟩
set_option maxHeartbeats 4000000 in
theorem ok_law_right (T : Tx K mg) : FG P w K mg base CX0 9 T.a_law_right T.d_law_right ["pot"] (sp_law_right K) := by
  refine OB.Fun.fg T.F_law_right sc_law_right (fun vs H Q E h => h.1) (fun cdv A out s H vs Q E g h => ?_)
  obtain ⟨_, F, G0, p, a, b, c, rfl, S0, o0, k⟩ := h
  refine ⟨_, (pss_cons (ps_set (i := 1) sc_law_right.nd rfl (by first | exact Or.inl rfl | exact Or.inr rfl) (pe_cg (ok_law_files T) (g.mono (by decide : 4 ≤ 8)) (by rfl) T.m_law_files T.F_law_files.kp (OB.Fun.bd T.F_law_files (ps := ["pot", "most"]) (n := 2) (ks := []) (ix := [0, 1]) (fun _ _ _ _ _ _ us ws h1 h2 => match us, ws, h1, h2 with | [_, _], [], _, _ => rfl)) pass0 (pa_cons (pv 0) (pa_cons pe_int pa_nil)) pk_nil))
      (pss_cons (ps_set (i := 2) sc_law_right.nd rfl (by first | exact Or.inl rfl | exact Or.inr rfl) (pe_op op_cat (pe_cg (ok_law_names T) (g.mono (by decide : 3 ≤ 8)) (by rfl) T.m_law_names T.F_law_names.kp (OB.Fun.bd T.F_law_names (ps := ["pot", "amount"]) (n := 2) (ks := []) (ix := [0, 1]) (fun _ _ _ _ _ _ us ws h1 h2 => match us, ws, h1, h2 with | [_, _], [], _, _ => rfl)) pass0 (pa_cons (pv 0) (pa_cons pe_int pa_nil)) pk_nil) (pe_slice (sl_UK (K := K) rfl) (pe_callB (call_sortedD rfl) (by rfl) T.n_sorted (by decide +kernel) (pa_cons (pv 1) pa_nil)) po_none (po_some pe_int))))
      (pss_cons (ps_set (i := 3) sc_law_right.nd rfl (by first | exact Or.inl rfl | exact Or.inr rfl) (pe_cg (ok_law_shelf_deeds T) (g.mono (by decide : 4 ≤ 8)) (by rfl) T.m_law_shelf_deeds T.F_law_shelf_deeds.kp (OB.Fun.bd T.F_law_shelf_deeds (ps := ["pot", "names", "amount"]) (n := 3) (ks := []) (ix := [0, 1, 2]) (fun _ _ _ _ _ _ us ws h1 h2 => match us, ws, h1, h2 with | [_, _, _], [], _, _ => rfl)) pass0 (pa_cons (pv 0) (pa_cons (pv 2) (pa_cons (pe_cg (ok_law_take T) (g.mono (by decide : 1 ≤ 8)) (by rfl) T.m_law_take T.F_law_take.kp (OB.Fun.bd T.F_law_take (ps := ["pot", "upto"]) (n := 2) (ks := []) (ix := [0, 1]) (fun _ _ _ _ _ _ us ws h1 h2 => match us, ws, h1, h2 with | [_, _], [], _, _ => rfl)) pass0 (pa_cons (pv 0) (pa_cons pe_int pa_nil)) pk_nil) pa_nil))) pk_nil))
      (pss_cons (ps_par (i := 4) (j := 5) rfl sc_law_right.nd rfl rfl (by decide) rfl rfl (pa_cons (pe_kg0 T.mk_Shelf (ok_Shelf___init__ T) (g.mono (by decide : 7 ≤ 8)) (by rfl) T.m_Shelf (OB.Fun.bd T.F_Shelf___init__ (ps := ["self", "files"]) (n := 1) (ks := ["files"]) (ix := [0, 1]) (fun _ _ _ _ _ _ us ws h1 h2 => match us, ws, h1, h2 with | [_], [_], _, _ => rfl)) pass0 (pk_cons (pe_cg (ok_law_file_tuple T) (g.mono (by decide : 1 ≤ 8)) (by rfl) T.m_law_file_tuple T.F_law_file_tuple.kp (OB.Fun.bd T.F_law_file_tuple (ps := ["files"]) (n := 1) (ks := []) (ix := [0]) (fun _ _ _ _ _ _ us ws h1 h2 => match us, ws, h1, h2 with | [_], [], _, _ => rfl)) pass0 (pa_cons (pv 1) pa_nil) pk_nil) pk_nil)) (pa_cons (pe_cg (ok_law_take T) (g.mono (by decide : 1 ≤ 8)) (by rfl) T.m_law_take T.F_law_take.kp (OB.Fun.bd T.F_law_take (ps := ["pot", "upto"]) (n := 2) (ks := []) (ix := [0, 1]) (fun _ _ _ _ _ _ us ws h1 h2 => match us, ws, h1, h2 with | [_, _], [], _, _ => rfl)) pass0 (pa_cons (pv 0) (pa_cons (pe_op op_add (pe_callB (toK (r := OB.rLen) (K := K) rfl c_len) (by rfl) T.n_len PySem.boot_len (pa_cons (pv 3) pa_nil)) pe_int) pa_nil)) pk_nil) pa_nil)) (by rfl))
      (pss_cons (ps_set (i := 6) sc_law_right.nd rfl (by first | exact Or.inl rfl | exact Or.inr rfl) (pe_mg0 (pv 4) T.c_Shelf T.me_Shelf_copy (ok_Shelf_copy T) (g.mono (by decide : 8 ≤ 8)) (OB.Fun.bd T.F_Shelf_copy (ps := ["self"]) (n := 1) (ks := []) (ix := [0]) (fun _ _ _ _ _ _ us ws h1 h2 => match us, ws, h1, h2 with | [_], [], _, _ => rfl)) pass0 pk_nil))
      (pss_cons (ps_for PassesOwn.never rfl (pi_enumK (by rfl) T.n_enumerate (pa_cons (pv 3) pa_nil)) (pg_tupK (K := K) rfl (n := 2) rfl (pgs_cons (pg_name (i := 7) sc_law_right.nd rfl (by first | exact Or.inl rfl | exact Or.inr rfl)) (pgs_cons (pg_name (i := 8) sc_law_right.nd rfl (by first | exact Or.inl rfl | exact Or.inr rfl)) pgs_nil)))
      (pss_cons (ps_if (pt_cmpR op_eq (pv 7) (pv 5) (nomark _)) (pss_one (ps_set (i := 6) sc_law_right.nd rfl (by first | exact Or.inl rfl | exact Or.inr rfl) (pe_mg0 (pv 4) T.c_Shelf T.me_Shelf_copy (ok_Shelf_copy T) (g.mono (by decide : 8 ≤ 8)) (OB.Fun.bd T.F_Shelf_copy (ps := ["self"]) (n := 1) (ks := []) (ix := [0]) (fun _ _ _ _ _ _ us ws h1 h2 => match us, ws, h1, h2 with | [_], [], _, _ => rfl)) pass0 pk_nil))) pss_nil)
      (pss_cons (ps_if (pt_not (pt_val (pe_cg (ok_law_is_done_right T) (g.mono (by decide : 6 ≤ 8)) (by rfl) T.m_law_is_done_right T.F_law_is_done_right.kp (OB.Fun.bd T.F_law_is_done_right (ps := ["shelf", "deed"]) (n := 2) (ks := []) (ix := [0, 1]) (fun _ _ _ _ _ _ us ws h1 h2 => match us, ws, h1, h2 with | [_, _], [], _, _ => rfl)) pass0 (pa_cons (pv 4) (pa_cons (pv 8) pa_nil)) pk_nil))) (pss_one (ps_ret pe_bl)) pss_nil)
      (pss_one (ps_if (PW.pt (pw_and (pt_cmpR op_eq (pe_op op_mod (pv 7) pe_int) pe_int (nomark _)) (pw_and1 (pt_not (pt_val (pe_cg (ok_law_stands_right T) (g.mono (by decide : 5 ≤ 8)) (by rfl) T.m_law_stands_right T.F_law_stands_right.kp (OB.Fun.bd T.F_law_stands_right (ps := ["shelf", "files", "deeds"]) (n := 3) (ks := []) (ix := [0, 1, 2]) (fun _ _ _ _ _ _ us ws h1 h2 => match us, ws, h1, h2 with | [_, _, _], [], _, _ => rfl)) pass0 (pa_cons (pv 4) (pa_cons (pv 1) (pa_cons (pe_slice (sl_UK (K := K) rfl) (pv 3) po_none (po_some (pe_op op_add (pv 7) pe_int))) pa_nil))) pk_nil)))))) (pss_one (ps_ret pe_bl)) pss_nil)))))
      (pss_cons (ps_set (i := 6) sc_law_right.nd rfl (by first | exact Or.inl rfl | exact Or.inr rfl) (pe_ifExp (pt_cmpR op_eq (pv 5) (pe_callB (toK (r := OB.rLen) (K := K) rfl c_len) (by rfl) T.n_len PySem.boot_len (pa_cons (pv 3) pa_nil)) (nomark _)) (pe_mg0 (pv 4) T.c_Shelf T.me_Shelf_copy (ok_Shelf_copy T) (g.mono (by decide : 8 ≤ 8)) (OB.Fun.bd T.F_Shelf_copy (ps := ["self"]) (n := 1) (ks := []) (ix := [0]) (fun _ _ _ _ _ _ us ws h1 h2 => match us, ws, h1, h2 with | [_], [], _, _ => rfl)) pass0 pk_nil) (pv 6)))
      (pss_cons (ps_set (i := 9) sc_law_right.nd rfl (by first | exact Or.inl rfl | exact Or.inr rfl) (pe_cg (ok_law_shelf_deeds T) (g.mono (by decide : 4 ≤ 8)) (by rfl) T.m_law_shelf_deeds T.F_law_shelf_deeds.kp (OB.Fun.bd T.F_law_shelf_deeds (ps := ["pot", "names", "amount"]) (n := 3) (ks := []) (ix := [0, 1, 2]) (fun _ _ _ _ _ _ us ws h1 h2 => match us, ws, h1, h2 with | [_, _, _], [], _, _ => rfl)) pass0 (pa_cons (pv 0) (pa_cons (pv 2) (pa_cons pe_int pa_nil))) pk_nil))
      (pss_cons (ps_if (pt_not (pt_val (pe_callB (toK (r := rAll) (K := K) rfl (cr_all rfl)) (by rfl) T.n_all (by decide +kernel) (pa_cons (pe_lc (own := [("deed", 8)]) (tt := tYes) rfl sc_law_right.nd (pi_seq (pv 9)) (blkOk_by (N := names_law_right) (sc := defScope (top 53)) (own := [("deed", 8)]) (by decide +kernel)) (fun _ _ _ _ _ => (pg_name (i := 8) sc_law_right.nd rfl (by first | exact Or.inl rfl | exact Or.inr rfl))) (fun _ _ _ _ _ => pts_nil) (fun _ _ _ _ _ => (pe_cg (ok_law_is_done_right T) (g.mono (by decide : 6 ≤ 8)) (by rfl) T.m_law_is_done_right T.F_law_is_done_right.kp (OB.Fun.bd T.F_law_is_done_right (ps := ["shelf", "deed"]) (n := 2) (ks := []) (ix := [0, 1]) (fun _ _ _ _ _ _ us ws h1 h2 => match us, ws, h1, h2 with | [_, _], [], _, _ => rfl)) pass0 (pa_cons (pv 6) (pa_cons (pv 8) pa_nil)) pk_nil))) pa_nil)))) (pss_one (ps_ret pe_bl)) pss_nil)
      (pss_cons (ps_if (PW.pt (pw_or (pt_not (pt_val (pe_cg (ok_law_stands_right T) (g.mono (by decide : 5 ≤ 8)) (by rfl) T.m_law_stands_right T.F_law_stands_right.kp (OB.Fun.bd T.F_law_stands_right (ps := ["shelf", "files", "deeds"]) (n := 3) (ks := []) (ix := [0, 1, 2]) (fun _ _ _ _ _ _ us ws h1 h2 => match us, ws, h1, h2 with | [_, _, _], [], _, _ => rfl)) pass0 (pa_cons (pv 6) (pa_cons (pv 1) (pa_cons (pe_op op_cat (pe_slice (sl_UK (K := K) rfl) (pv 3) po_none (po_some (pv 5))) (pv 9)) pa_nil))) pk_nil))) (pw_or1 (pt_not (pt_val (pe_cg (ok_law_stands_right T) (g.mono (by decide : 5 ≤ 8)) (by rfl) T.m_law_stands_right T.F_law_stands_right.kp (OB.Fun.bd T.F_law_stands_right (ps := ["shelf", "files", "deeds"]) (n := 3) (ks := []) (ix := [0, 1, 2]) (fun _ _ _ _ _ _ us ws h1 h2 => match us, ws, h1, h2 with | [_, _, _], [], _, _ => rfl)) pass0 (pa_cons (pv 4) (pa_cons (pv 1) (pa_cons (pv 3) pa_nil))) pk_nil)))))) (pss_one (ps_ret pe_bl)) pss_nil)
      (pss_cons (ps_set (i := 10) sc_law_right.nd rfl (by first | exact Or.inl rfl | exact Or.inr rfl) (pe_cg (ok_law_file_tuple T) (g.mono (by decide : 1 ≤ 8)) (by rfl) T.m_law_file_tuple T.F_law_file_tuple.kp (OB.Fun.bd T.F_law_file_tuple (ps := ["files"]) (n := 1) (ks := []) (ix := [0]) (fun _ _ _ _ _ _ us ws h1 h2 => match us, ws, h1, h2 with | [_], [], _, _ => rfl)) pass0 (pa_cons (pe_cg (ok_law_files_behind T) (g.mono (by decide : 2 ≤ 8)) (by rfl) T.m_law_files_behind T.F_law_files_behind.kp (OB.Fun.bd T.F_law_files_behind (ps := ["files", "deeds"]) (n := 2) (ks := []) (ix := [0, 1]) (fun _ _ _ _ _ _ us ws h1 h2 => match us, ws, h1, h2 with | [_, _], [], _, _ => rfl)) pass0 (pa_cons (pv 1) (pa_cons (pv 3) pa_nil)) pk_nil) pa_nil) pk_nil))
      (pss_cons (ps_if (pt_cmpR op_ne (pe_callB (toK (r := rRepr) (K := K) rfl (call_repr g)) (by rfl) T.n_repr (by decide +kernel) (pa_cons (pe_cg0 (ok_done_deeds T) (g.mono (by decide : 8 ≤ 8)) (by rfl) T.m_done_deeds T.F_done_deeds.kp (OB.Fun.bd T.F_done_deeds (ps := ["files", "deeds"]) (n := 0) (ks := ["deeds", "files"]) (ix := [1, 0]) (fun _ _ _ _ _ _ us ws h1 h2 => match us, ws, h1, h2 with | [], [_, _], _, _ => rfl)) pass0 (pk_cons (pe_callTy (toK (r := rTuple) (K := K) rfl c_tuple) (by rfl) T.n_tuple (by decide +kernel) (pa_cons (pv 3) pa_nil)) (pk_cons (pe_cg (ok_law_file_tuple T) (g.mono (by decide : 1 ≤ 8)) (by rfl) T.m_law_file_tuple T.F_law_file_tuple.kp (OB.Fun.bd T.F_law_file_tuple (ps := ["files"]) (n := 1) (ks := []) (ix := [0]) (fun _ _ _ _ _ _ us ws h1 h2 => match us, ws, h1, h2 with | [_], [], _, _ => rfl)) pass0 (pa_cons (pv 1) pa_nil) pk_nil) pk_nil))) pa_nil)) (pe_callB (toK (r := rRepr) (K := K) rfl (call_repr g)) (by rfl) T.n_repr (by decide +kernel) (pa_cons (pv 10) pa_nil)) (nomark _)) (pss_one (ps_ret pe_bl)) pss_nil)
      (pss_one (ps_ret (pe_cg (ok_law_are_values_told T) (g.mono (by decide : 5 ≤ 8)) (by rfl) T.m_law_are_values_told T.F_law_are_values_told.kp (OB.Fun.bd T.F_law_are_values_told (ps := ["pot", "files"]) (n := 2) (ks := []) (ix := [0, 1]) (fun _ _ _ _ _ _ us ws h1 h2 => match us, ws, h1, h2 with | [_, _], [], _, _ => rfl)) pass0 (pa_cons (pv 0) (pa_cons (pv 1) pa_nil)) pk_nil))))))))))))))), ?_⟩
  refine g_start (σ := [some _, none, none, none, none, none, none, none, none, none, none]) rfl ?_
  have hc := T.shC
  repeat walk_at "ob"
  refine ⟨rfl, F, G0, p, 0, 5, rfl, ⟨a, b, c, o0, S0⟩, by decide, by decide, by decide, fun d rs fs N H1 hR hG hNl hN P1 => ?_⟩
  clear S0
  repeat walk_at "ob"
  refine use_names P1 (by omega) (by omega) (by omega) fun q1 xs H2 hx hxl hx0 P2 => ?_
  clear P1
  have hfl := hG.len
  have hrl := hR.len
  have hkn : (kvO rs).map (·.1) = (fs.map (·.1)).map Sum.inr := by
    rw [← hR.names, List.map_map]
    unfold kvO
    rw [List.map_map]
    rfl
  obtain ⟨a2, b2, c2, o2, S2⟩ := P2
  repeat walk_at "ob"
  refine ⟨d, kvO rs, fs.map (·.1), rfl, (FLat.of (F := F) S2.less.less).1, hkn, by rw [List.length_map]; omega, fun ys p2 hp2 hs hp0 => ?_⟩
  have S3 := S2.push (o := .lst (ys.map V.str)) hp0
  generalize upd H2 p2 (.lst (ys.map V.str)) = H3 at S3 ⊢
  clear S2
  repeat walk_at "ob"
  refine g_slL S3 (SqL.of (S3.at 0 rfl)) fun p3 H4 S4 => ?_
  rw [show (some (3 : Int)) = some ((3 : Nat) : Int) from rfl, cutV_take] at S4
  clear S3
  repeat walk_at "ob"
  have hyl : ys.length = fs.length := by rw [hp2.length_eq, List.length_map]
  refine g_cat S4 (i := 3) (j := 0) rfl rfl (by rw [List.length_take, List.length_map, List.length_map]; omega) fun q H5 S5 => ?_
  rw [← List.map_take, ← List.map_append] at S5
  have S6 : Sy K ((p, potO a2 b2 c2) :: (q, .lst ((xs ++ ys.take 3).map V.str)) :: (fB d rs ++ F)) G0 H5 := (S5.to (.cons₂ _ (.cons _ (.cons _ (.cons₂ _ (.cons _ (.refl _)))))) fun g hg => hg).swap
  clear S4 S5
  have hNx : ∀ n ∈ N ++ xs, NmOk n := fun n hn => (List.mem_append.mp hn).elim (hN n) (hx n)
  have hNxl : (N ++ xs).length < 40 := by rw [List.length_append]; omega
  have hGx : Good (N ++ xs) 3 fs := ⟨hG.nd, fun f hf => List.mem_append_left _ (hG.nm f hf), hG.ln⟩
  have hnm : ∀ n ∈ xs ++ ys.take 3, n ∈ N ++ xs := fun n hn => by
    rcases List.mem_append.mp hn with hn | hn
    · exact List.mem_append_right _ hn
    · obtain ⟨f, hf, rfl⟩ := List.mem_map.mp (hp2.mem_iff.mp (List.mem_of_mem_take hn))
      exact List.mem_append_left _ (hG.nm f hf)
  have hnl : 0 < (xs ++ ys.take 3).length ∧ (xs ++ ys.take 3).length ≤ 100 := by
    rw [List.length_append, List.length_take]
    have := hx0 (by decide)
    omega
  generalize N ++ xs = M at hNx hNxl hGx hnm
  generalize xs ++ ys.take 3 = nm at S6 hnm hnl
  clear hp2 hs hp0 hyl hx0 hxl hx
  have P6 : Pot K ((q, .lst (nm.map V.str)) :: (fB d rs ++ F)) G0 p 700 H5 := ⟨a2, b2, c2, o2, S6⟩
  clear S6
  repeat walk_at "ob"
  refine use_takeP P6 (by omega) (by omega) (by omega) fun r H6 r0 r1 P7 => ?_
  clear P6
  repeat walk_at "ob"
  refine use_sdeeds P7 (by omega) r0 (by omega) hnl.1 hnl.2 hnm fun t dv es H7 hes hel P8 => ?_
  have hel2 : es.length ≤ 40 := by omega
  clear P7 hel r0 r1
  obtain ⟨a8, b8, c8, o8, S8⟩ := P8
  have hdl := dps_length (S8.dps 0 rfl)
  rw [List.length_map] at hdl
  repeat walk_at "ob"
  have hw0 := hGx.shW hNxl (by decide) hR
  refine use_file_tuple S8 (fun H' S' => FLat.of S'.less.less.less) hR (by have := hw0.hl; omega) hw0.ll fun t1 ys1 H8 hs1 S9 => ?_
  clear S8
  have feq1 := FEq.of_srt hs1
  have hg1 : Good M 3 (srtF fs ys1) := hGx.eq feq1.symm
  refine ⟨rfl, rfl, fun x dx h1 h2 hne => ?_⟩
  refine ⟨rfl, _, _, x, _, dx, t1, srtF fs ys1, rfl, Sy.make S9 h1 h2 hne, hc, hg1.flOk hNx (by decide), asc_srt hGx.nd hs1, by have := hg1.len; omega, fun ds l srs H9 hR9 S10 => ⟨rfl, ?_⟩⟩
  clear S9
  repeat walk_at "ob"
  refine g_lenL (SqL.of (S10.st (t, .lst dv) (by simp))) ?_
  repeat walk_at "ob"
  refine use_takeP (n := 5701) ⟨a8, b8, c8, o8, S10.perm List.perm_middle.symm⟩ (by omega) (by omega) (by omega) fun r H11 r0 r1 P11 => ?_
  obtain ⟨a11, b11, c11, o11, S11⟩ := P11
  have S12 := S11.perm List.perm_middle
  clear S10 S11
  obtain ⟨at0, rfl⟩ : ∃ m : Nat, r = m := ⟨r.toNat, by omega⟩
  have hat : at0 ≤ es.length := by omega
  clear r0 r1
  repeat walk_at "ob"
  refine ⟨x, _, _, rfl, S12.at 0 rfl, rfl, ?_⟩
  repeat walk_at "ob"
  refine ⟨rfl, _, _, x, dx, ds, l, [], srs, srtF fs ys1, rfl, S12, hc, hg1.shW hNxl (by decide) hR9, hg1.flOk hNx (by decide), fun o dxo dn lo ors ofs H13 fe1 hRo S13 => ?_⟩
  have L0 : LpS K T.a_Shelf x dx ds l ([(p, potO a11 b11 c11), (t, .lst dv), (q, .lst (nm.map V.str))] ++ (fB d rs ++ F)) (.dat dv (es.map Dd.d) :: G0) fs es 0 0 o H13 := ⟨dxo, dn, lo, [], ors, ofs, [], srs, srtF fs ys1, ((S13.drop.perm permXO).fact .nil rfl).fact .nil rfl, hR9, feq1, hRo, fe1.trans feq1⟩
  clear S12 S13 fe1 hRo
  generalize T.a_Shelf = C at hc L0 ⊢
  repeat walk_at "ob"
  refine ⟨true, t, dv, rfl, SqL.of (L0.mem (t, .lst dv) (by simp)), ?_⟩
  refine for_enumK (xs := dv) (fun i σ' H' => ∃ o j v7 v8, σ' = [some (.ref p), some (.ref d), some (.ref q), some (.ref t), some (.ref x), some (.int at0), some (.ref o), v7, v8, none, none] ∧ LpS K C x dx ds l ([(p, potO a11 b11 c11), (t, .lst dv), (q, .lst (nm.map V.str))] ++ (fB d rs ++ F)) (.dat dv (es.map Dd.d) :: G0) fs es i j o H' ∧ (at0 < i → j = at0)) ⟨o, 0, none, none, rfl, L0, fun z => absurd z (Nat.not_lt_zero _)⟩ (fun i σ' H' ⟨_, _, _, _, _, L, _⟩ => SqL.of (L.mem (t, .lst dv) (by simp))) ?_ ?_
  · rintro i v T9 σ' H' hxi ⟨o, j, v7, v8, rfl, ⟨dxo, dn, lo, lvo, ors, ofs, lv, srs, sfs, S13, hRs, hq1, hRo, hq2⟩, hj⟩ hT
    clear L0
    refine g_pair S13 hT fun H14 S14 => ?_
    obtain ⟨e, he, hed⟩ := dps_map (S14.dps 3 rfl) hxi
    have hem := List.mem_of_getElem? he
    have hok := hes e hem
    have hie := (List.getElem?_eq_some_iff.mp he).1
    have S15 := S14.drop.fact (dps_one hed) (by show (imm e.d && true) = true; rw [deed_imm]; rfl)
    clear S13 S14
    have hfe : ∀ e' ∈ es.take (i + 1), DdOk M e' := fun e' h => hes e' (List.mem_of_mem_take h)
    have hgi : Good M 60 ((es.take i).foldl doF fs) := (good_fold hes (hGx.mono (by decide : 3 ≤ 10)) i).mono (by omega)
    have st : es.take (i + 1) = es.take i ++ [e] := by
      rw [List.take_add_one, he]
      rfl
    have hgs := hgi.eq hq1.symm
    have L1 : LpS K C x dx ds l ([(p, potO a11 b11 c11), (t, .lst dv), (q, .lst (nm.map V.str))] ++ (fB d rs ++ F)) (.dat [v] [e.d] :: .dat dv (es.map Dd.d) :: G0) fs es i j o H14 := ⟨dxo, dn, lo, lvo, ors, ofs, lv, srs, sfs, S15.facts fun g hg => by
      simp only [List.mem_cons] at hg ⊢
      rcases hg with h | h | h | h | h
      · exact .inr (.inl h)
      · exact .inr (.inr (.inl h))
      · exact .inl h
      · exact .inr (.inr (.inr (.inl h)))
      · exact .inr (.inr (.inr (.inr h))), hRs, hq1, hRo, hq2⟩
    clear S15 hRs hq1 hRo hq2 hgs
    repeat ((fail_if_success (with_reducible refine atSeq ?_)); walk_at "ob")
    refine g_seq ?_
    refine viaS (fun σ' H' => ∃ o2 j2, σ' = [some (.ref p), some (.ref d), some (.ref q), some (.ref t), some (.ref x), some (.int at0), some (.ref o2), some (.int i), some v, none, none] ∧ LpS K C x dx ds l ([(p, potO a11 b11 c11), (t, .lst dv), (q, .lst (nm.map V.str))] ++ (fB d rs ++ F)) (.dat [v] [e.d] :: .dat dv (es.map Dd.d) :: G0) fs es i j2 o2 H' ∧ (at0 < i + 1 → j2 = at0)) (fun N1 A1 B1 C1 kk => ?_) ?_
    · repeat walk_at "ob"
      refine g_iteD (fun h1 => ?_) (fun h1 => ?_)
      · obtain ⟨dxo, dn, lo, lvo, ors, ofs, lv, srs, sfs, S16, hRs, hq1, hRo, hq2⟩ := L1
        have hgs := hgi.eq hq1.symm
        repeat walk_at "ob"
        refine ⟨x, _, _, rfl, S16.at 0 rfl, rfl, ?_⟩
        repeat walk_at "ob"
        refine ⟨rfl, _, _, x, dx, ds, l, lv, srs, sfs, rfl, S16, hc, hgs.shW hNxl (by decide) hRs, hgs.flOk hNx (by decide), fun o2 dxo2 dn2 lo2 ors2 ofs2 H17 fe1 hRo2 S17 => ?_⟩
        repeat walk_at "ob"
        refine kk _ _ ⟨o2, i, rfl, ⟨dxo2, dn2, lo2, lv, ors2, ofs2, lv, srs, sfs, (S17.perm permXO).to ((List.Sublist.refl _).append ((List.Sublist.refl _).append (List.sublist_append_right _ _))) fun g hg => ?_, hRs, hq1, hRo2, fe1.trans hq1⟩, fun _ => by omega⟩
        simp only [List.mem_cons] at hg ⊢
        rcases hg with h | h | h | h | h
        · exact .inl h
        · exact .inl h
        · exact .inr (.inr (.inl h))
        · exact .inr (.inr (.inr (.inl h)))
        · exact .inr (.inr (.inr (.inr h)))
      · repeat walk_at "ob"
        exact kk _ _ ⟨o, j, rfl, L1, fun z => hj (by omega)⟩
    clear L1 hj
    rintro σ2 H15 ⟨o2, j2, rfl, ⟨dxo, dn, lo, lvo, ors, ofs, lv, srs, sfs, S16, hRs, hq1, hRo, hq2⟩, hj⟩
    refine g_nx ?_
    repeat walk_at "ob"
    have hgs := hgi.eq hq1.symm
    refine use_dright (es := es.take i) (e := e) (v := v) (S16.facts (G' := .dat lv ((es.take i).map Dd.d) :: .dat [v] [e.d] :: .dat lvo ((es.take j2).map Dd.d) :: .dat dv (es.map Dd.d) :: G0) fun g hg => ?_) hc (hgs.shW hNxl (by decide) hRs) (by rw [List.length_take]; omega) hNx hok fun rs' v' H17 hR' S17 => ?_
    · simp only [List.mem_cons] at hg ⊢
      rcases hg with h | h | h | h | h
      · exact .inl h
      · exact .inr (.inr (.inl h))
      · exact .inr (.inl h)
      · exact .inr (.inr (.inr (.inl h)))
      · exact .inr (.inr (.inr (.inr h)))
    rw [← st] at S17
    have hq3 : FEq (doF sfs e) ((es.take (i + 1)).foldl doF fs) := by
      rw [st, List.foldl_append]
      exact hq1.do e
    have S18 := S17.drop2
    clear S16 S17 hRs hgs hq1
    repeat walk_at "ob"
    refine g_iteD (fun h1 => ?_) (fun h1 => ?_)
    · repeat walk_at "ob"
      refine g_slL S18 (SqL.of (S18.st (t, .lst dv) (by simp))) fun p9 H19 S19 => ?_
      rw [show (some ((i : Int) + 1)) = some ((i + 1 : Nat) : Int) from rfl, cutV_take] at S19
      have S20 := S19.perm (permB (L := [(p, potO a11 b11 c11), (t, HO.lst dv), (q, HO.lst (nm.map V.str))]))
      have S21 := S20.fact (vs := dv.take (i + 1)) (ds := (es.take (i + 1)).map Dd.d) (by rw [List.map_take]; exact dps_take (i + 1) (S20.dps 2 rfl)) (deeds_imm _)
      clear S18 S19 S20
      repeat walk_at "ob"
      refine use_stands (es := es.take (i + 1)) S21 (List.mem_cons_self ..) hR hGx hNxl hNx hfe (by rw [List.length_take]; omega) hc hR' hq3 fun H22 S22 => ?_
      repeat walk_at "ob"
      exact ⟨o2, j2, _, _, rfl, ⟨dxo, dn, lo, lvo, ors, ofs, lv ++ [v'], rs', doF sfs e, (S22.perm (permB (L := [(p, potO a11 b11 c11), (t, HO.lst dv), (q, HO.lst (nm.map V.str))])).symm).less.drop, hR', hq3, hRo, hq2⟩, hj⟩
    · repeat walk_at "ob"
      exact ⟨o2, j2, _, _, rfl, ⟨dxo, dn, lo, lvo, ors, ofs, lv ++ [v'], rs', doF sfs e, S18, hR', hq3, hRo, hq2⟩, hj⟩
  · clear L0
    rintro σ' H' ⟨o, j, v7, v8, rfl, L, hj⟩
    rw [hdl] at L hj
    refine g_nx ?_
    refine g_seq ?_
    refine viaS (fun σ' H' => ∃ o2, σ' = [some (.ref p), some (.ref d), some (.ref q), some (.ref t), some (.ref x), some (.int at0), some (.ref o2), v7, v8, none, none] ∧ LpS K C x dx ds l ([(p, potO a11 b11 c11), (t, .lst dv), (q, .lst (nm.map V.str))] ++ (fB d rs ++ F)) (.dat dv (es.map Dd.d) :: G0) fs es es.length at0 o2 H') (fun N1 A1 B1 C1 kk => ?_) ?_
    · repeat ((fail_if_success (with_reducible refine atIf ?_)); walk_at "ob")
      refine g_if ?_
      repeat walk_at "ob"
      refine g_lenL (SqL.of (L.mem (t, .lst dv) (by simp))) ?_
      repeat walk_at "ob"
      refine g_iteD (fun h1 => ?_) (fun h1 => ?_)
      · have h1 : at0 = es.length := by omega
        subst h1
        obtain ⟨dxo, dn, lo, lvo, ors, ofs, lv, srs, sfs, S16, hRs, hq1, hRo, hq2⟩ := L
        have hgs := (goodA hGx (es := es.take es.length) (fun e' h => hes e' (List.mem_of_mem_take h)) (by rw [List.length_take]; omega)).eq hq1.symm
        repeat walk_at "ob"
        refine ⟨x, _, _, rfl, S16.at 0 rfl, rfl, ?_⟩
        repeat walk_at "ob"
        refine ⟨rfl, _, _, x, dx, ds, l, lv, srs, sfs, rfl, S16, hc, hgs.shW hNxl (by decide) hRs, hgs.flOk hNx (by decide), fun o2 dxo2 dn2 lo2 ors2 ofs2 H17 fe1 hRo2 S17 => ?_⟩
        repeat walk_at "ob"
        refine kk _ _ ⟨o2, rfl, ⟨dxo2, dn2, lo2, lv, ors2, ofs2, lv, srs, sfs, (S17.perm permXO).to ((List.Sublist.refl _).append ((List.Sublist.refl _).append (List.sublist_append_right _ _))) fun g hg => ?_, hRs, hq1, hRo2, fe1.trans hq1⟩⟩
        simp only [List.mem_cons] at hg ⊢
        rcases hg with h | h | h | h
        · exact .inl h
        · exact .inl h
        · exact .inr (.inr (.inl h))
        · exact .inr (.inr (.inr h))
      · repeat walk_at "ob"
        have e1 : j = at0 := hj (by omega)
        exact kk _ _ ⟨o, rfl, e1 ▸ L⟩
    clear L hj
    rintro σ2 H15 ⟨o2, rfl, ⟨dxo, dn, lo, lvo, ors, ofs, lv, srs, sfs, S16, hRs, hq1, hRo, hq2⟩⟩
    refine g_nx ?_
    repeat walk_at "ob"
    refine use_sdeeds (n := 5702) ⟨a11, b11, c11, o11, S16.perm permP⟩ (by omega) (by omega) (by omega) hnl.1 hnl.2 hnm fun t2 dv2 es2 H17 hes2 hel2 P17 => ?_
    obtain ⟨a17, b17, c17, o17, S17⟩ := P17
    clear S16
    have hdl2 := dps_length (S17.dps 0 rfl)
    rw [List.length_map] at hdl2
    have hel5 : es2.length = 5 := hel2
    clear hel2
    rw [List.take_length] at S17 hq1
    have S18 : Sy K (shB o2 C dxo dn lo lvo ors ++ ([(p, potO a17 b17 c17), (t2, .lst dv2), (q, .lst (nm.map V.str))] ++ (shB x C dx ds l lv srs ++ ((t, .lst dv) :: (fB d rs ++ F))))) (.dat lvo ((es.take at0).map Dd.d) :: .dat dv2 (es2.map Dd.d) :: .dat lv (es.map Dd.d) :: .dat dv (es.map Dd.d) :: G0) H17 := Sy.f3 (S17.perm (permO (X := shB x C dx ds l lv srs) (A := [(p, potO a17 b17 c17), (t2, HO.lst dv2), (q, HO.lst (nm.map V.str))])))
    clear S17
    have hesA : ∀ i, ∀ e ∈ es.take at0 ++ es2.take i, DdOk M e := fun i e he => (List.mem_append.mp he).elim (fun h => hes e (List.mem_of_mem_take h)) fun h => hes2 e (List.mem_of_mem_take h)
    have helA : ∀ i, (es.take at0 ++ es2.take i).length ≤ 50 := fun i => by rw [List.length_append, List.length_take, List.length_take]; omega
    repeat walk_at "ob"
    refine g_lcW (a := t2) (xs := dv2) (fun i F' G' vs => ∃ lvo' ors' ofs', F' = shB o2 C dxo dn lo lvo' ors' ++ ([(p, potO a17 b17 c17), (t2, .lst dv2), (q, .lst (nm.map V.str))] ++ (shB x C dx ds l lv srs ++ ((t, .lst dv) :: (fB d rs ++ F)))) ∧ G' = .dat lvo' ((es.take at0 ++ es2.take i).map Dd.d) :: .dat dv2 (es2.map Dd.d) :: .dat lv (es.map Dd.d) :: .dat dv (es.map Dd.d) :: G0 ∧ RowsOf ors' ofs' ∧ FEq ofs' ((es.take at0 ++ es2.take i).foldl doF fs) ∧ vs = List.replicate i (V.bl true) ∧ i ≤ es2.length) S18 (fun Q' q => by repeat walk_at "ob"; exact q) ⟨lvo, ors, ofs, rfl, by rw [List.take_zero, List.append_nil], hRo, by rw [List.take_zero, List.append_nil]; exact hq2, rfl, Nat.zero_le _⟩ ?_ ?_ ?_ ?_
    · rintro i F' G' vs H' ⟨lvo', ors', ofs', rfl, -, -, -, -, -⟩ S'
      exact SqL.of (S'.st (t2, .lst dv2) (List.mem_append_right _ (by simp)))
    · rintro i F' G' vs ⟨_, _, _, -, -, -, -, rfl, h⟩
      rw [List.length_replicate]
      omega
    · rintro i v hxi Dp H2 F2 G2 vs QE QR ⟨lvo', ors', ofs', rfl, rfl, hRo', hqo', rfl, hi⟩ S21 kE kR
      obtain ⟨e, he, hed⟩ := dps_map (S21.dps 1 rfl) hxi
      have hie := (List.getElem?_eq_some_iff.mp he).1
      have hok := hes2 e (List.mem_of_getElem? he)
      have st : es.take at0 ++ es2.take (i + 1) = (es.take at0 ++ es2.take i) ++ [e] := by
        rw [List.take_add_one, he, List.append_assoc]
        rfl
      have hgo := (goodA hGx (hesA i) (helA i)).eq hqo'.symm
      have S22 := (Sy.f2 (S21.fact (dps_one hed) (by show (imm e.d && true) = true; rw [deed_imm]; rfl))).perm (List.perm_middle (l₁ := shB o2 C dxo dn lo lvo' ors'))
      clear S21 S18
      repeat walk_at "ob"
      refine ⟨rfl, ?_⟩
      repeat walk_at "ob"
      refine use_dright (es := es.take at0 ++ es2.take i) (e := e) (v := v) S22 hc (hgo.shW hNxl (by decide) hRo') (by have := helA i; omega) hNx hok fun rs' v' H23 hR' S23 => ?_
      have S24 := S23.drop2.perm (List.perm_middle (l₁ := shB o2 C dxo dn lo (lvo' ++ [v']) rs')).symm
      clear S22 S23
      rw [← st] at S24
      refine kE _ _ _ _ ⟨lvo' ++ [v'], rs', doF ofs' e, rfl, rfl, hR', ?_, by rw [List.replicate_succ'], hie⟩ S24
      rw [st, List.foldl_append]
      exact hqo'.do e
    rintro Dp H19 F2 G2 vs hD ⟨lvo', ors', ofs', rfl, rfl, hRo', hqo', rfl, -⟩ S19
    rw [hdl2, List.take_length] at S19 hqo'
    have hesB : ∀ e ∈ es.take at0 ++ es2, DdOk M e := by
      have := hesA es2.length
      rwa [List.take_length] at this
    have helB : (es.take at0 ++ es2).length ≤ 50 := by
      have := helA es2.length
      rwa [List.take_length] at this
    clear S18 hq2 hRo
    repeat walk_at "ob"
    refine g_all (bs := List.replicate es2.length true) (by rw [List.map_replicate]; exact SqL.of (S19.at 0 rfl)) ?_
    rw [show (List.replicate es2.length true).all id = true from List.all_eq_true.mpr fun b hb => (List.mem_replicate.mp hb).2]
    have S20 := S19.less
    clear S19
    repeat walk_at "ob"
    have S20 : Sy K _ _ H19 := S20
    refine g_slL S20 (SqL.of (S20.st (t, .lst dv) (List.mem_append_right _ (List.mem_append_right _ (List.mem_append_right _ (List.mem_cons_self ..)))))) fun p9 H20 S21 => ?_
    rw [cutV_take] at S21
    clear S20
    repeat walk_at "ob"
    refine ⟨p9, t2, _, _, rfl, rfl, S21.at 0 rfl, S21.st (t2, .lst dv2) (List.mem_cons_of_mem _ (List.mem_append_right _ (by simp))), Nat.le_trans (show _ ≤ 100 by rw [List.length_take]; omega) (by decide), fun p10 hp10 => ?_⟩
    have S22 := (S21.push (o := .lst (dv.take at0 ++ dv2)) hp10).swap.less
    generalize upd H20 p10 (.lst (dv.take at0 ++ dv2)) = H21 at S22 ⊢
    clear S21
    have S23 := S22.perm (permB (a := (p10, HO.lst (dv.take at0 ++ dv2))) (X := shB o2 C dxo dn lo lvo' ors') (O := [(p, potO a17 b17 c17), (t2, HO.lst dv2), (q, HO.lst (nm.map V.str))] ++ shB x C dx ds l lv srs) (L := [(t, HO.lst dv)]) (B := fB d rs) (F := F))
    clear S22
    have S24 := S23.fact (vs := dv.take at0 ++ dv2) (ds := (es.take at0 ++ es2).map Dd.d) (by rw [List.map_append, List.map_take]; exact dps_append (dps_take at0 (S23.dps 3 rfl)) (S23.dps 1 rfl)) (deeds_imm _)
    clear S23
    repeat walk_at "ob"
    refine use_stands (es := es.take at0 ++ es2) S24 (List.mem_cons_self ..) hR hGx hNxl hNx hesB helB hc hRo' hqo' fun H22 S25 => ?_
    have S26 := S25.perm (permX (B := fB d rs) (X := shB x C dx ds l lv srs) (O := shB o2 C dxo dn lo lvo' ors') (A := [(p10, HO.lst (dv.take at0 ++ dv2)), (p, potO a17 b17 c17), (t2, HO.lst dv2), (q, HO.lst (nm.map V.str))]) (Z := (t, HO.lst dv) :: F))
    have S27 := S26.facts (G' := .dat dv (es.map Dd.d) :: .dat lv (es.map Dd.d) :: G0) fun g hg => by
      simp only [List.mem_cons] at hg ⊢
      rcases hg with h | h | h
      · exact .inr (.inr (.inr (.inr (.inl h))))
      · exact .inr (.inr (.inr (.inl h)))
      · exact .inr (.inr (.inr (.inr (.inr h))))
    clear S24 S25 S26
    repeat walk_at "ob"
    refine use_stands (es := es) S27 (List.mem_append_right _ (by simp)) hR hGx hNxl hNx hes (by omega) hc hRs hq1 fun H23 S28 => ?_
    clear S27
    repeat walk_at "ob"
    refine ⟨rfl, _, _, d, t, rs, fs, dv, es, M, rfl, S28, fun G' H' S' => SqL.of (S'.st (t, .lst dv) (List.mem_append_right _ (List.mem_append_right _ (List.mem_append_right _ (by simp))))), hR, hGx.mono (by decide), hNxl, hes, by omega, fun d2 rs2 Fx H24 hR2 hF2 S29 => ?_⟩
    clear S28
    have hgA := goodA hGx hes (by omega)
    have hw2 := hgA.shW hNxl (by decide) hR2
    repeat walk_at "ob"
    refine use_file_tuple S29 (fun H' S' => hF2 _ _ S') hR2 (by have := hw2.hl; omega) hw2.ll fun t5 ys2 H25 hs2 S30 => ?_
    clear S29
    repeat walk_at "ob"
    refine g_tup0 S30 (SqL.of (S30.st (t, .lst dv) (List.mem_append_right _ (List.mem_append_right _ (List.mem_append_right _ (List.mem_append_right _ (by simp))))))) (ds := es.map Dd.d) (S30.dps 1 rfl) (deeds_imm es) fun t6 H26 _ S31 => ?_
    clear S30
    repeat walk_at "ob"
    refine ⟨rfl, _, _, d, rs, fs, rfl, S31, fun H' S' => FLat.of (Sy.tail (A := Fx) S'), hR, by have := hw0.hl; omega, hw0.ll, fun t7 ys3 o7 xs3 H27 hs3 ho7 S32 => ?_⟩
    clear S31
    repeat walk_at "ob"
    refine ⟨rfl, _, _, t7, t6, o7, xs3, srtF fs ys3, es, M, rfl, S32, ho7, (hGx.eq (FEq.of_srt hs3).symm).mono (by decide), asc_srt hGx.nd hs3, hNx, hNxl, hes, by omega, fun t8 ys4 H28 hs4 S33 => ?_⟩
    clear S32
    have fq := FEq.fold (FEq.of_srt hs3) es
    have hs5 := IsSrt.perm fq.1 hs4
    rw [fq.srt ys4] at S33
    obtain rfl := hs5.uniq hs2
    have hgr : Good M 60 (srtF (es.foldl doF fs) ys4) := hgA.eq (FEq.of_srt hs5).symm
    have hgl : (srtF (es.foldl doF fs) ys4).length ≤ 40 := by have := hgr.len; omega
    repeat walk_at "ob"
    refine g_reprS (S33.dp 0 rfl) (small_files hgr hNx (by decide) hgl) (by decide) (by decide) ?_
    repeat walk_at "ob"
    refine g_reprS (S33.dp 1 rfl) (small_files hgr hNx (by decide) hgl) (by decide) (by decide) ?_
    repeat walk_at "ob"
    have S34 : Sy K ((p, potO a17 b17 c17) :: (fB d rs ++ F)) G0 H28 := ((Sy.tail (A := Fx) S33).to ((List.Sublist.refl _).append (List.Sublist.trans (List.Sublist.trans (show ((p, potO a17 b17 c17) :: F).Sublist ([(p10, HO.lst (dv.take at0 ++ dv2)), (p, potO a17 b17 c17), (t2, HO.lst dv2), (q, HO.lst (nm.map V.str))] ++ ((t, HO.lst dv) :: F)) from .cons _ (.cons₂ _ (.cons _ (.cons _ (.cons _ (.refl _)))))) (List.sublist_append_right (shB o2 C dxo dn lo lvo' ors') _)) (List.sublist_append_right (shB x C dx ds l lv srs) _))) fun g hg => List.mem_append_right [_, _, _, _] hg).perm List.perm_middle.symm
    clear S33
    refine ⟨rfl, F, G0, p, d, 5702 + 5000, rs, fs, N, rfl, ⟨a17, b17, c17, o17, S34⟩, by decide, hR, hG, hNl, hN, fun H' P' => ?_⟩
    obtain ⟨a18, b18, c18, o18, S35⟩ := P'
    exact k H' (Sy.tail (A := (p, potO a18 b18 c18) :: fB d rs) S35)
end
end LAW

set_option Elab.async false
set_option linter.all false
set_option maxRecDepth 100000
namespace LAW
open PySem PySem.Spec PyProof.Rows L2 PySem.W OB
local macro_rules | `(tactic| walk_at "obc") => `(tactic| first
  | exact Or.inl ⟨by omega, by omega⟩
  | exact Or.inr ⟨by omega, by omega⟩
  | exact cdiv_ok (by omega) (by omega)
  | (show (0 : Int) < _; omega)
  | exact ⟨by omega, by decide⟩
  | exact ⟨by decide, by decide⟩)
local macro_rules | `(tactic| walk_at "obat") => `(tactic| first
  | exact Sy.at (by assumption) 0 rfl | exact Sy.at (by assumption) 1 rfl | exact Sy.at (by assumption) 2 rfl | exact Sy.at (by assumption) 3 rfl
  | exact Sy.at (by assumption) 4 rfl | exact Sy.at (by assumption) 5 rfl | exact Sy.at (by assumption) 6 rfl | exact Sy.at (by assumption) _ (by assumption) | exact Sy.at (by assumption) (_ + 1) (by assumption) | exact Sy.at (by assumption) (_ + 2) (by assumption))
local macro_rules | `(tactic| walk_at "obt") => `(tactic| first
  | exact Sy.tqs (by assumption) 0 rfl | exact Sy.tqs (by assumption) 1 rfl | exact Sy.tqs (by assumption) 2 rfl | exact Sy.tqs (by assumption) 3 rfl | exact Sy.tqs (by assumption) 4 rfl | exact Sy.tqs (by assumption) 5 rfl
  | exact Sy.tqs (by assumption) 6 rfl | exact Sy.tqs (by assumption) 7 rfl | assumption)
local macro_rules | `(tactic| walk_at "obl") => `(tactic| first
  | exact SqL.of (by walk_at "obat")
  | exact Sy.sq (by assumption) 0 rfl | exact Sy.sq (by assumption) 1 rfl | exact Sy.sq (by assumption) 2 rfl | exact Sy.sq (by assumption) 3 rfl | exact Sy.sq (by assumption) _ (by assumption))
local macro_rules | `(tactic| walk_at "obd") => `(tactic| first
  | exact Dp.int _ | exact Dp.bl _ | exact Dp.str _ | exact Dp.non
  | exact Sy.dp (by assumption) 0 rfl | exact Sy.dp (by assumption) 1 rfl | exact Sy.dp (by assumption) 2 rfl | exact Sy.dp (by assumption) 3 rfl
  | exact Sy.dp (by assumption) 4 rfl | exact Sy.dp (by assumption) 5 rfl | exact Sy.dp (by assumption) 6 rfl | exact Sy.dp (by assumption) 7 rfl
  | exact Sy.dp (by assumption) 8 rfl | exact Sy.dp (by assumption) 9 rfl | exact Sy.dp (by assumption) _ (by assumption) | assumption)
local macro_rules | `(tactic| walk_at "obds") => `(tactic| first
  | exact DpAll.nil
  | (refine' DpAll.cons ?ob1 ?ob2; (case ob1 => walk_at "obd"); (case ob2 => walk_at "obds"))
  | exact Sy.dps (by assumption) 0 rfl | exact Sy.dps (by assumption) 1 rfl | exact Sy.dps (by assumption) 2 rfl | exact Sy.dps (by assumption) 3 rfl | assumption)
local macro_rules | `(tactic| walk_at "obsc") => `(tactic| first
  | exact ScL.nil
  | ((first | refine' ScL.int ?obz | refine' ScL.str ?obz | refine' ScL.bl ?obz | refine' ScL.non ?obz); (case obz => walk_at "obsc")))
local macro_rules | `(tactic| walk_at "ob1") => `(tactic| first
  | ((with_reducible refine' g_var ?obh ?_); (case obh => rfl))
  | with_reducible refine g_c ?_
  | with_reducible refine g_nx ?_
  | with_reducible refine g_rt ?_
  | with_reducible refine g_bk ?_
  | with_reducible refine g_ct ?_
  | with_reducible refine g_op ?_
  | with_reducible refine g_I0 ?_
  | with_reducible refine g_test ?_
  | with_reducible refine g_bl ?_
  | with_reducible refine g_blx ?_
  | with_reducible refine g_B ?_
  | with_reducible refine g_seq ?_
  | with_reducible refine g_asg ?_
  | with_reducible refine g_name ?_
  | with_reducible refine g_ifS ?_
  | with_reducible refine g_ret ?_
  | with_reducible refine g_cb ?_
  | with_reducible refine g_cons ?_
  | with_reducible refine g_nil ?_
  | with_reducible refine g_int ?_
  | with_reducible refine g_intB ?_
  | with_reducible refine g_abs ?_
  | with_reducible refine g_max ?_
  | with_reducible refine g_min ?_
  | with_reducible refine g_un ?_
  | with_reducible refine g_U ?_
  | with_reducible refine g_eqI ?_
  | with_reducible refine g_neI ?_
  | with_reducible refine g_eqS ?_
  | with_reducible refine g_neS ?_
  | with_reducible refine g_tt ?_
  | with_reducible refine g_ff ?_
  | with_reducible refine g_next ?_
  | with_reducible refine g_drop ?_
  | with_reducible refine g_if ?_
  | with_reducible refine g_andV ?_
  | with_reducible refine g_orV ?_
  | with_reducible refine g_notV ?_
  | with_reducible refine g_and ?_
  | with_reducible refine g_or ?_
  | with_reducible refine g_not ?_
  | with_reducible refine g_yes ?_
  | with_reducible refine g_chain ?_
  | with_reducible refine g_cg ?_
  | with_reducible refine g_mg ?_
  | with_reducible refine g_kg ?_
  | with_reducible refine g_pg ?_
  | ((with_reducible refine' g_call ?obh ?obj ?_); (case obh => rfl); (case obj => rfl))
  | with_reducible refine g_par ?_
  | with_reducible refine g_par2 ?_
  | with_reducible refine g_par3 ?_
  | with_reducible refine g_par33 ?_
  | with_reducible refine g_gnil ?_
  | with_reducible refine g_gcons ?_
  | with_reducible refine g_gsub ?_
  | with_reducible refine g_ipI ?_
  | with_reducible refine g_rAdd ?_
  | with_reducible refine g_rSub ?_
  | ((with_reducible refine' g_aug ?obh ?_); (case obh => rfl))
  | with_reducible refine g_tup ?_
  | with_reducible refine g_lst ?_
  | with_reducible refine g_bm ?_
  | with_reducible refine g_bm0 ?_
  | with_reducible refine g_sl ?_
  | with_reducible refine g_nopart ?_
  | with_reducible refine g_part ?_
  | with_reducible refine g_pint ?_
  | with_reducible refine isi_int ?_
  | with_reducible refine isi_intB ?_
  | ((with_reducible refine' g_I ?obh ?_); (case obh => walk_at "obc"))
  | ((with_reducible refine' g_tyl ?obh ?_); (case obh => walk_at "obl"))
  | ((with_reducible refine' g_lenL ?obh ?_); (case obh => walk_at "obl"))
  | with_reducible refine g_ne ?_
  | ((with_reducible refine' g_neN' ?obh ?_); (case obh => rfl))
  | with_reducible refine g_ntt ?_
  | with_reducible refine g_nff ?_
  | with_reducible refine g_star ?_
  | with_reducible refine g_att ?_
  | with_reducible refine g_sfld ?_
  | with_reducible refine g_faug ?_
  | with_reducible refine g_fld ?_
  | ((with_reducible refine' g_nF ?obh ?_); (case obh => omega))
  | ((with_reducible refine' g_nT ?obh ?_); (case obh => omega))
  | ((with_reducible refine' g_TD ?obh ?_); (case obh => omega))
  | ((with_reducible refine' g_FD ?obh ?_); (case obh => omega))
  | ((with_reducible refine' g_ixUL ?obh ?obi ?_); (case obh => walk_at "obl"); (case obi => exact atI_nn (by omega) (by rfl)))
  | ((with_reducible refine' g_setLS ?obs ?obh ?obi ?_); (case obs => assumption); (case obh => assumption); (case obi => rfl); intro _ _ _)
  | ((with_reducible refine' g_newT ?obs ?obh ?obi ?obj ?_); (case obs => assumption); (case obh => walk_at "obds"); (case obi => rfl); (case obj => exact Nat.le_of_ble_eq_true rfl); intro _ _ _ _)
  | ((with_reducible refine' g_newL ?obs ?obj ?_); (case obs => assumption); (case obj => exact Nat.le_of_ble_eq_true rfl); intro _ _ _ _)
  | ((with_reducible refine' isi_tup ?obh ?_); (case obh => walk_at "obt"))
  | ((with_reducible refine' g_lenT ?obh ?_); (case obh => walk_at "obt"))
  | ((with_reducible refine' g_unpT ?obh ?obi ?_); (case obh => walk_at "obt"); (case obi => rfl))
  | ((with_reducible refine' g_divmod ?obs ?obh ?_); (case obs => assumption); (case obh => exact cdivp_ok (by omega) (by omega) (by omega)); intro _ _ _ _)
  | ((with_reducible refine' g_unpD ?obh ?obi ?obj ?_); (case obh => walk_at "obd"); (case obi => walk_at "obsc"); (case obj => rfl))
  | with_reducible refine g_att ?_)
local macro_rules | `(tactic| walk_at "ob") => `(tactic| first
  | walk_at "ob1"
  | with_reducible refine use_is_integer ?_
  | with_reducible refine use_is_within ?_
  | with_reducible refine g_lstRg ?_
  | with_reducible refine g_rg1 ?_
  | with_reducible refine g_rg2 ?_
  | with_reducible refine g_tTru ?_
  | ((with_reducible refine' g_truL ?obh ?_); (case obh => walk_at "obl"))
  | ((with_reducible refine' g_ixUT ?obh ?obi ?_); (case obh => walk_at "obt"); (case obi => rfl))
  | with_reducible refine g_forZ ?_
  | with_reducible refine g_forR2 ?_
  | with_reducible refine g_forE ?_
  | with_reducible refine g_lcZ ?_)
section
variable {P : Program} {w : World} {K : Frag} {mg : Str → Option Value} {base : Heap}
def sp_law (K : Frag) : Sp := fun vs H Q E => vs.length = 1 ∧ ∃ (a : Addr) (ns : List Int), vs = [.ref a] ∧ Sy K [] [.sq a (ns.map V.int)] H ∧ ns.length ≤ 63 ∧ ∀ H', Q (.bl true) H'
abbrev names_law : List Str := ["script", "place"]
theorem sc_law : FnScope names_law ["script"] (defScope (top 54)) := ⟨rfl, rfl, rfl, by decide +kernel, rfl, by decide +kernel, by decide +kernel⟩
set_option maxHeartbeats 4000000 in
theorem ok_law (T : Tx K mg) : FG P w K mg base CX0 10 T.a_law T.d_law ["script"] (sp_law K) := by
  refine OB.Fun.fg T.F_law sc_law (fun vs H Q E h => h.1) (fun cdv A out s H vs Q E g h => ?_)
  obtain ⟨_, a, ns, rfl, S, hn, k⟩ := h
  refine ⟨_, (pss_one (ps_ret (pe_callB (toK (r := rAll) (K := K) rfl (cr_all rfl)) (by rfl) T.n_all (by decide +kernel) (pa_cons (pe_lc (own := [("place", 1)]) (tt := tYes) rfl sc_law.nd (pi_seq (pe_cg (ok_law_cells T) (g.mono (by decide : 1 ≤ 9)) (by rfl) T.m_law_cells T.F_law_cells.kp (OB.Fun.bd T.F_law_cells (ps := ["script", "most"]) (n := 2) (ks := []) (ix := [0, 1]) (fun _ _ _ _ _ _ us ws h1 h2 => match us, ws, h1, h2 with | [_, _], [], _, _ => rfl)) pass0 (pa_cons (pv 0) (pa_cons pe_int pa_nil)) pk_nil)) (blkOk_by (N := names_law) (sc := defScope (top 54)) (own := [("place", 1)]) (by decide +kernel)) (fun _ _ _ _ _ => (pg_name (i := 1) sc_law.nd rfl (by first | exact Or.inl rfl | exact Or.inr rfl))) (fun _ _ _ _ _ => pts_nil) (fun _ _ _ _ _ => (pe_cg (ok_law_right T) (g.mono (by decide : 9 ≤ 9)) (by rfl) T.m_law_right T.F_law_right.kp (OB.Fun.bd T.F_law_right (ps := ["pot"]) (n := 1) (ks := []) (ix := [0]) (fun _ _ _ _ _ _ us ws h1 h2 => match us, ws, h1, h2 with | [_], [], _, _ => rfl)) pass0 (pa_cons (pe_cg (ok_law_pot T) (g.mono (by decide : 1 ≤ 9)) (by rfl) T.m_law_pot T.F_law_pot.kp (OB.Fun.bd T.F_law_pot (ps := ["script", "place"]) (n := 2) (ks := []) (ix := [0, 1]) (fun _ _ _ _ _ _ us ws h1 h2 => match us, ws, h1, h2 with | [_, _], [], _, _ => rfl)) pass0 (pa_cons (pv 0) (pa_cons (pv 1) pa_nil)) pk_nil) pa_nil) pk_nil))) pa_nil)))), ?_⟩
  refine g_start (σ := [some _, none]) rfl ?_
  repeat walk_at "ob"
  refine g_lcE2 ?_
  repeat walk_at "ob"
  refine ⟨rfl, [], [], a, ns, 2, rfl, S, hn, by decide, by decide, fun ms p H1 hms hml S1 => ?_⟩
  repeat walk_at "ob"
  refine g_lcS (a := p) (xs := ms.map V.int) true (fun i F' ds => F' = [(p, .lst (ms.map V.int))] ∧ ds = List.replicate i (.bool true) ∧ i ≤ ms.length) S1 (fun Q' q => q) ⟨rfl, rfl, Nat.zero_le _⟩ (fun i F' ds H' hi S3 => SqL.of ((hi.1 ▸ S3).at 0 rfl)) (fun i F' ds hi => by
      rw [hi.2.1, List.length_replicate]
      omega) ?_ ?_
  · intro i x hx Dp H2 F2 vs ds QE QR hi S3 kE kR
    obtain ⟨rfl, rfl, hi2⟩ := hi
    have hi3 : i < ms.length := by
      have := (List.getElem?_eq_some_iff.mp hx).1
      rw [List.length_map] at this
      exact this
    rw [List.getElem?_map] at hx
    obtain ⟨m, hm, rfl⟩ := Option.map_eq_some_iff.mp hx
    obtain ⟨m0, m1⟩ := hms m (List.mem_of_getElem? hm)
    repeat walk_at "ob"
    refine ⟨rfl, ?_⟩
    repeat walk_at "ob"
    refine ⟨rfl, _, _, a, ns, m, rfl, S3.add (.sq a (ns.map V.int)) (S3.ft _ (by simp)), hn, m0, m1, fun x y z q H4 o S4 => ?_⟩
    repeat walk_at "ob"
    refine ⟨rfl, _, _, q, x, y, z, rfl, S4, o, fun H5 S5 => ?_⟩
    repeat walk_at "ob"
    exact kE _ (.bool true) _ _ ⟨rfl, by rw [List.replicate_succ'], hi3⟩ (S5.drop.fact (dps_one (L2.Dp.bl true)) rfl)
  · rintro Dp H2 F2 vs ds hD ⟨rfl, rfl, _⟩ S3
    have hv : vs = (List.replicate (ms.map V.int).length true).map V.bl := by
      rw [dps_scal (S3.dps 0 rfl) fun d hd => by rw [(List.mem_replicate.mp hd).2]; rfl, List.map_replicate, List.map_replicate]
      rfl
    subst hv
    repeat walk_at "ob"
    refine g_all (by walk_at "obl") ?_
    have e : ((List.replicate (ms.map V.int).length true).all id) = true := List.all_eq_true.mpr fun b hb => (List.mem_replicate.mp hb).2
    rw [e]
    exact k H2
end
theorem sy_script {K : Frag} {H : Hp} {a : Addr} {xs : List V} (o : Only H) (h : SqL K H a xs) : Sy K [] [.sq a xs] H := by
  refine Sy.nil.add _ ?_
  rcases h with (h | h) | h
  · rcases o a with e | ⟨ob, ys, e⟩
    · rw [e] at h; cases h
    · rw [e] at h; cases h
  · exact .inl h
  · exact .inr h
theorem law_in (K : Frag) (H : Hp) (a : Addr) (ns : List Int) (hn : ns.length ≤ 63) (o : Only H) (h : SqL K H a (ns.map V.int)) : sp_law K [.ref a] H (fun v _ => v = .bl true) fun _ _ _ => False :=
  ⟨rfl, a, ns, rfl, sy_script o h, hn, fun _ => rfl⟩
theorem law_fin {l : PySem.W.OpenLaw} {w : World} {K : Frag} {h : Heap} {mg : Str → Option Value} {fa : Addr} (X : K.In h) (G : h.Ns mainGlobals mg) (hfa : mg "law" = some (.ref fa)) (T : Tx K mg) :
    ∃ fd : FuncData, (∀ (s : Shared) (u : Value), BindsTo s fd ⟨[u], []⟩ [("script", u)]) ∧ ∀ base : Heap, K.In base → base.Ns mainGlobals mg → FG l.prog w K mg base CX0 10 fa fd ["script"] (sp_law K) := by
  have e := hfa.symm.trans T.m_law
  cases e
  refine ⟨T.d_law, fun s u => ?_, fun base _ _ => ok_law T⟩
  exact .of_eq ((OB.Fun.bd T.F_law (ps := ["script"]) (n := 1) (ks := []) (ix := [0]) (fun _ _ _ _ _ _ us ws h1 h2 => match us, ws, h1, h2 with | [_], [], _, _ => rfl)).to [u] [] rfl rfl)
end LAW

set_option Elab.async false
set_option linter.all false
set_option maxRecDepth 100000
namespace LAW
open PySem PySem.Spec PyProof.Rows L2 PySem.W OB
theorem walk {l : PySem.W.OpenLaw} {q : Program} {loose : List Str} {XP : (Str → Option Value) → Heap → Prop} {YP : World → Heap → Prop} {d : DefRec} {K : Params → PySem.W.Frag} (hn : l.most = some 63) (hdf : d.params.defaults = [])
    (hY : ∀ (w : World) (h : Heap), YP w h → (K w.params).In h)
    (F : ∀ (w : World) (mg : Str → Option Value) (fa : Addr) (h : Heap), (K w.params).In h → h.Ns mainGlobals mg → mg d.name = some (.ref fa) →
      ∃ fd : FuncData, (∀ (s : Shared) (u : Value), BindsTo s fd ⟨[u], []⟩ [("script", u)]) ∧ ∀ base : Heap, (K w.params).In base → base.Ns mainGlobals mg → FG l.prog w (K w.params) mg base CX0 10 fa fd ["script"] (sp_law (K w.params))) :
    PySem.W.WalkO q loose XP YP l.row.toRowW d [] (fun f vs => PySem.call f vs) :=
  walk_g (n := 63) (k := 10) (x := "script") (sp := sp_law) hn (by decide) hdf ⟨⟨rfl, by decide, by decide⟩, rfl⟩ hY F law_in
end LAW
open PySem PySem.W PyProof.Rows
set_option maxRecDepth 100000 in
set_option maxHeartbeats 0 in
theorem PySem.Challenge.cw_oncebooked_k00_whole_shelves_deed_by_dee_holds : PySem.Challenge.rw_oncebooked_k00_whole_shelves_deed_by_dee.Holds := by
  w_on; o_law; k_head; (case hw => w_witness2)
  k_fill
  refine LAW.walk (l := PySem.Challenge.rw_oncebooked_k00_whole_shelves_deed_by_dee) rfl rfl (fun w h Y => PySem.W.kIn_of Y) ?F
  case F =>
    intro w mg fa h KX G hmg
    refine' LAW.law_fin KX G hmg (LAW.mkTx KX G ?x_n_Cut ?x_pg_Cut ?x_hd_Cut ?x_po_Cut ?x_sa_Cut ?x_na_Cut_own_known ?x_na_Cut_own_now ?x_na_Cut_own_since ?x_na_Cut_own_sure ?x_n_Shelf ?x_pg_Shelf ?x_hd_Shelf ?x_po_Shelf ?x_sa_Shelf ?x_na_Shelf_own_files ?x_na_Shelf_own_log ?x_n_lists_of ?x_l_lists_of ?x_c_lists_of ?x_k_lists_of ?x_n_is_name ?x_l_is_name ?x_c_is_name ?x_k_is_name ?x_n_is_line ?x_l_is_line ?x_c_is_line ?x_k_is_line ?x_n_has_room ?x_l_has_room ?x_c_has_room ?x_k_has_room ?x_n_files_of ?x_l_files_of ?x_c_files_of ?x_k_files_of ?x_n_do_deed ?x_l_do_deed ?x_c_do_deed ?x_k_do_deed ?x_n_law_take ?x_l_law_take ?x_c_law_take ?x_k_law_take ?x_f_Shelf_log ?x_g_Shelf_log ?x_t_Shelf_log ?x_r_Shelf_log_ ?x_l_Shelf_log ?x_c_Shelf_log ?x_k_Shelf_log ?x_n_law_deed_done ?x_l_law_deed_done ?x_c_law_deed_done ?x_k_law_deed_done ?x_n_law_file_tuple ?x_l_law_file_tuple ?x_c_law_file_tuple ?x_k_law_file_tuple ?x_n_law_pot ?x_l_law_pot ?x_c_law_pot ?x_k_law_pot ?x_n_law_cells ?x_l_law_cells ?x_c_law_cells ?x_k_law_cells ?x_n_is_kept_line ?x_l_is_kept_line ?x_c_is_kept_line ?x_k_is_kept_line ?x_n_are_lines ?x_l_are_lines ?x_c_are_lines ?x_k_are_lines ?x_f_Shelf_files ?x_g_Shelf_files ?x_t_Shelf_files ?x_r_Shelf_files_ ?x_l_Shelf_files ?x_c_Shelf_files ?x_k_Shelf_files ?x_n_law_files_behind ?x_l_law_files_behind ?x_c_law_files_behind ?x_k_law_files_behind ?x_n_law_of ?x_l_law_of ?x_c_law_of ?x_k_law_of ?x_n_is_file ?x_l_is_file ?x_c_is_file ?x_k_is_file ?x_n_is_deed ?x_l_is_deed ?x_c_is_deed ?x_k_is_deed ?x_n_law_line ?x_l_law_line ?x_c_law_line ?x_k_law_line ?x_n_law_names ?x_l_law_names ?x_c_law_names ?x_k_law_names ?x_n_are_files ?x_l_are_files ?x_c_are_files ?x_k_are_files ?x_f_Shelf_read ?x_i_Shelf_read ?x_l_Shelf_read ?x_c_Shelf_read ?x_k_Shelf_read ?x_n_law_shelf_deeds ?x_l_law_shelf_deeds ?x_c_law_shelf_deeds ?x_k_law_shelf_deeds ?x_f_Shelf_done ?x_i_Shelf_done ?x_l_Shelf_done ?x_c_Shelf_done ?x_k_Shelf_done ?x_n_law_files ?x_l_law_files ?x_c_law_files ?x_k_law_files ?x_n_check_files ?x_l_check_files ?x_c_check_files ?x_k_check_files ?x_n_law_stands_right ?x_l_law_stands_right ?x_c_law_stands_right ?x_k_law_stands_right ?x_f_Shelf_sync ?x_i_Shelf_sync ?x_l_Shelf_sync ?x_c_Shelf_sync ?x_k_Shelf_sync ?x_f_Shelf_lay ?x_i_Shelf_lay ?x_l_Shelf_lay ?x_c_Shelf_lay ?x_k_Shelf_lay ?x_f_Shelf_add ?x_i_Shelf_add ?x_l_Shelf_add ?x_c_Shelf_add ?x_k_Shelf_add ?x_n_law_are_values_told ?x_l_law_are_values_told ?x_c_law_are_values_told ?x_k_law_are_values_told ?x_f_Shelf___init__ ?x_i_Shelf___init__ ?x_l_Shelf___init__ ?x_c_Shelf___init__ ?x_k_Shelf___init__ ?x_mk_Shelf ?x_kc_Shelf ?x_f_Cut___init__ ?x_i_Cut___init__ ?x_l_Cut___init__ ?x_c_Cut___init__ ?x_k_Cut___init__ ?x_mk_Cut ?x_kc_Cut ?x_n_law_is_done_right ?x_l_law_is_done_right ?x_c_law_is_done_right ?x_k_law_is_done_right ?x_n_done_deeds ?x_l_done_deeds ?x_c_done_deeds ?x_k_done_deeds ?x_f_Shelf_copy ?x_i_Shelf_copy ?x_l_Shelf_copy ?x_c_Shelf_copy ?x_k_Shelf_copy ?x_n_law_right ?x_l_law_right ?x_c_law_right ?x_k_law_right ?x_n_law ?x_l_law ?x_c_law ?x_k_law ?x_g_LETTERS ?x_g_MOST_LETTERS ?x_g_MOST_FILES ?x_g_MOST_LINES ?x_g_MOST_SIGNS ?x_g_MOST_DEEDS ?x_g_ADD ?x_g_LAY ?x_g_SYNC ?x_g_PAIR ?x_g_DEED_PARTS ?x_n_ValueError ?x_n_abs ?x_n_all ?x_n_dict ?x_n_enumerate ?x_n_int ?x_n_isinstance ?x_n_len ?x_n_list ?x_n_max ?x_n_min ?x_n_range ?x_n_repr ?x_n_sorted ?x_n_str ?x_n_sum ?x_n_tuple ?x_n_zip)
    (case x_n_Cut => k_is)
    (case x_pg_Cut => k_is)
    (case x_hd_Cut => k_is)
    (case x_po_Cut => k_is)
    (case x_sa_Cut => k_is)
    (case x_na_Cut_own_known => k_is)
    (case x_na_Cut_own_now => k_is)
    (case x_na_Cut_own_since => k_is)
    (case x_na_Cut_own_sure => k_is)
    (case x_n_Shelf => k_is)
    (case x_pg_Shelf => k_is)
    (case x_hd_Shelf => k_is)
    (case x_po_Shelf => k_is)
    (case x_sa_Shelf => k_is)
    (case x_na_Shelf_own_files => k_is)
    (case x_na_Shelf_own_log => k_is)
    (case x_n_lists_of => k_is)
    (case x_l_lists_of => k_is)
    (case x_c_lists_of => k_is)
    (case x_k_lists_of => k_is)
    (case x_n_is_name => k_is)
    (case x_l_is_name => k_is)
    (case x_c_is_name => k_is)
    (case x_k_is_name => k_is)
    (case x_n_is_line => k_is)
    (case x_l_is_line => k_is)
    (case x_c_is_line => k_is)
    (case x_k_is_line => k_is)
    (case x_n_has_room => k_is)
    (case x_l_has_room => k_is)
    (case x_c_has_room => k_is)
    (case x_k_has_room => k_is)
    (case x_n_files_of => k_is)
    (case x_l_files_of => k_is)
    (case x_c_files_of => k_is)
    (case x_k_files_of => k_is)
    (case x_n_do_deed => k_is)
    (case x_l_do_deed => k_is)
    (case x_c_do_deed => k_is)
    (case x_k_do_deed => k_is)
    (case x_n_law_take => k_is)
    (case x_l_law_take => k_is)
    (case x_c_law_take => k_is)
    (case x_k_law_take => k_is)
    (case x_f_Shelf_log => k_is)
    (case x_g_Shelf_log => k_is)
    (case x_t_Shelf_log => k_is)
    (case x_r_Shelf_log_ => k_is)
    (case x_l_Shelf_log => k_is)
    (case x_c_Shelf_log => k_is)
    (case x_k_Shelf_log => k_is)
    (case x_n_law_deed_done => k_is)
    (case x_l_law_deed_done => k_is)
    (case x_c_law_deed_done => k_is)
    (case x_k_law_deed_done => k_is)
    (case x_n_law_file_tuple => k_is)
    (case x_l_law_file_tuple => k_is)
    (case x_c_law_file_tuple => k_is)
    (case x_k_law_file_tuple => k_is)
    (case x_n_law_pot => k_is)
    (case x_l_law_pot => k_is)
    (case x_c_law_pot => k_is)
    (case x_k_law_pot => k_is)
    (case x_n_law_cells => k_is)
    (case x_l_law_cells => k_is)
    (case x_c_law_cells => k_is)
    (case x_k_law_cells => k_is)
    (case x_n_is_kept_line => k_is)
    (case x_l_is_kept_line => k_is)
    (case x_c_is_kept_line => k_is)
    (case x_k_is_kept_line => k_is)
    (case x_n_are_lines => k_is)
    (case x_l_are_lines => k_is)
    (case x_c_are_lines => k_is)
    (case x_k_are_lines => k_is)
    (case x_f_Shelf_files => k_is)
    (case x_g_Shelf_files => k_is)
    (case x_t_Shelf_files => k_is)
    (case x_r_Shelf_files_ => k_is)
    (case x_l_Shelf_files => k_is)
    (case x_c_Shelf_files => k_is)
    (case x_k_Shelf_files => k_is)
    (case x_n_law_files_behind => k_is)
    (case x_l_law_files_behind => k_is)
    (case x_c_law_files_behind => k_is)
    (case x_k_law_files_behind => k_is)
    (case x_n_law_of => k_is)
    (case x_l_law_of => k_is)
    (case x_c_law_of => k_is)
    (case x_k_law_of => k_is)
    (case x_n_is_file => k_is)
    (case x_l_is_file => k_is)
    (case x_c_is_file => k_is)
    (case x_k_is_file => k_is)
    (case x_n_is_deed => k_is)
    (case x_l_is_deed => k_is)
    (case x_c_is_deed => k_is)
    (case x_k_is_deed => k_is)
    (case x_n_law_line => k_is)
    (case x_l_law_line => k_is)
    (case x_c_law_line => k_is)
    (case x_k_law_line => k_is)
    (case x_n_law_names => k_is)
    (case x_l_law_names => k_is)
    (case x_c_law_names => k_is)
    (case x_k_law_names => k_is)
    (case x_n_are_files => k_is)
    (case x_l_are_files => k_is)
    (case x_c_are_files => k_is)
    (case x_k_are_files => k_is)
    (case x_f_Shelf_read => k_is)
    (case x_i_Shelf_read => k_is)
    (case x_l_Shelf_read => k_is)
    (case x_c_Shelf_read => k_is)
    (case x_k_Shelf_read => k_is)
    (case x_n_law_shelf_deeds => k_is)
    (case x_l_law_shelf_deeds => k_is)
    (case x_c_law_shelf_deeds => k_is)
    (case x_k_law_shelf_deeds => k_is)
    (case x_f_Shelf_done => k_is)
    (case x_i_Shelf_done => k_is)
    (case x_l_Shelf_done => k_is)
    (case x_c_Shelf_done => k_is)
    (case x_k_Shelf_done => k_is)
    (case x_n_law_files => k_is)
    (case x_l_law_files => k_is)
    (case x_c_law_files => k_is)
    (case x_k_law_files => k_is)
    (case x_n_check_files => k_is)
    (case x_l_check_files => k_is)
    (case x_c_check_files => k_is)
    (case x_k_check_files => k_is)
    (case x_n_law_stands_right => k_is)
    (case x_l_law_stands_right => k_is)
    (case x_c_law_stands_right => k_is)
    (case x_k_law_stands_right => k_is)
    (case x_f_Shelf_sync => k_is)
    (case x_i_Shelf_sync => k_is)
    (case x_l_Shelf_sync => k_is)
    (case x_c_Shelf_sync => k_is)
    (case x_k_Shelf_sync => k_is)
    (case x_f_Shelf_lay => k_is)
    (case x_i_Shelf_lay => k_is)
    (case x_l_Shelf_lay => k_is)
    (case x_c_Shelf_lay => k_is)
    (case x_k_Shelf_lay => k_is)
    (case x_f_Shelf_add => k_is)
    (case x_i_Shelf_add => k_is)
    (case x_l_Shelf_add => k_is)
    (case x_c_Shelf_add => k_is)
    (case x_k_Shelf_add => k_is)
    (case x_n_law_are_values_told => k_is)
    (case x_l_law_are_values_told => k_is)
    (case x_c_law_are_values_told => k_is)
    (case x_k_law_are_values_told => k_is)
    (case x_f_Shelf___init__ => k_is)
    (case x_i_Shelf___init__ => k_is)
    (case x_l_Shelf___init__ => k_is)
    (case x_c_Shelf___init__ => k_is)
    (case x_k_Shelf___init__ => k_is)
    (case x_mk_Shelf => k_is)
    (case x_kc_Shelf => k_is)
    (case x_f_Cut___init__ => k_is)
    (case x_i_Cut___init__ => k_is)
    (case x_l_Cut___init__ => k_is)
    (case x_c_Cut___init__ => k_is)
    (case x_k_Cut___init__ => k_is)
    (case x_mk_Cut => k_is)
    (case x_kc_Cut => k_is)
    (case x_n_law_is_done_right => k_is)
    (case x_l_law_is_done_right => k_is)
    (case x_c_law_is_done_right => k_is)
    (case x_k_law_is_done_right => k_is)
    (case x_n_done_deeds => k_is)
    (case x_l_done_deeds => k_is)
    (case x_c_done_deeds => k_is)
    (case x_k_done_deeds => k_is)
    (case x_f_Shelf_copy => k_is)
    (case x_i_Shelf_copy => k_is)
    (case x_l_Shelf_copy => k_is)
    (case x_c_Shelf_copy => k_is)
    (case x_k_Shelf_copy => k_is)
    (case x_n_law_right => k_is)
    (case x_l_law_right => k_is)
    (case x_c_law_right => k_is)
    (case x_k_law_right => k_is)
    (case x_n_law => k_is)
    (case x_l_law => k_is)
    (case x_c_law => k_is)
    (case x_k_law => k_is)
    (case x_g_LETTERS => k_is)
    (case x_g_MOST_LETTERS => k_is)
    (case x_g_MOST_FILES => k_is)
    (case x_g_MOST_LINES => k_is)
    (case x_g_MOST_SIGNS => k_is)
    (case x_g_MOST_DEEDS => k_is)
    (case x_g_ADD => k_is)
    (case x_g_LAY => k_is)
    (case x_g_SYNC => k_is)
    (case x_g_PAIR => k_is)
    (case x_g_DEED_PARTS => k_is)
    (case x_n_ValueError => k_is)
    (case x_n_abs => k_is)
    (case x_n_all => k_is)
    (case x_n_dict => k_is)
    (case x_n_enumerate => k_is)
    (case x_n_int => k_is)
    (case x_n_isinstance => k_is)
    (case x_n_len => k_is)
    (case x_n_list => k_is)
    (case x_n_max => k_is)
    (case x_n_min => k_is)
    (case x_n_range => k_is)
    (case x_n_repr => k_is)
    (case x_n_sorted => k_is)
    (case x_n_str => k_is)
    (case x_n_sum => k_is)
    (case x_n_tuple => k_is)
    (case x_n_zip => k_is)
#print axioms PySem.Challenge.cw_oncebooked_k00_whole_shelves_deed_by_dee_holds

