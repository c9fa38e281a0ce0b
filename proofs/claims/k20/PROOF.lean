import PyProof.Rows.All
import Wide.All
import OpenK.AllK
import Wide.FinOn
import PyProof.ReprRoads
import HandS.ForMost
import HandS.Exc
import HandS.Wide
import HandS.WideBits
import HandS.Star
import HandS.Defaults
import HandS.Property
import HandS.IsInst
import HandS.Deep
import KE.GoesMore
import KE.GoesZip
import KE.GoesEnum
import PyProof.NoPylong
import PyProof.EnumMake
import HandS.TupAny
import HandS.Style
import PyProof.ReprLen
import HandS.Conv
import HandS.Dict
import HandS.DictComp
import HandS.More
import HandS.Walk
import PyProof.DictUpdate
import KE.KTupSum
import PySem.Challenge.RW_oncebooked_k20_tables_first_days_and_sha
set_option Elab.async false
set_option linter.all false
set_option maxRecDepth 100000
set_option maxHeartbeats 4000000
/-! OB, part a: calls where no repr is under way (so that repr of any data may be asked), by position and by name. -/
namespace OB
open PySem PySem.Spec PyProof.Rows L2 PySem.W

/-- room, and no guard around -/
structure RG (k : Nat) (A : Around) : Prop where
  rm : Room k A
  gd : A.guards = some []
theorem RG.mono {j k : Nat} {A : Around} (g : RG k A) (h : j ≤ k) : RG j A := ⟨g.rm.mono h, g.gd⟩
theorem RG.deeper {k : Nat} {A : Around} (g : RG (k + 1) A) (en : Env) : RG k (A.deeper en) := ⟨g.rm.deeper en, g.gd⟩
theorem RG.in1 {k : Nat} {A : Around} (g : RG (k + 1) A) : RG k A.in1 := ⟨g.rm.in1, g.gd⟩
theorem RG.make {k : Nat} {A : Around} (g : RG (k + 1) A) (C : Addr) (us : List Value) (kw : List (Str × Value)) :
    RG k (A.under (.builtin "type.__call__" ⟨.ref C :: us, kw⟩)) := by
  refine ⟨g.rm.make C us kw, ?_⟩
  have e : Code.guards (.builtin "type.__call__" ⟨.ref C :: us, kw⟩) = [] := by
    unfold Code.guards
    rw [if_neg]
    intro z
    have z2 : guardIds.contains "type.__call__" = true := by simpa [Code.isGuard] using z
    exact absurd z2 (by decide +kernel)
  show pushGuards (Code.guards (.builtin "type.__call__" ⟨.ref C :: us, kw⟩)) A.guards = some []
  rw [e]
  exact g.gd

/-- a def's promise where no guard is around -/
structure FG (P : Program) (w : World) (K : PySem.W.Frag) (mg : Str → Option Value) (base : Heap) (CX : CXT) (k : Nat) (f : Addr) (fd : FuncData) (ps : List Str) (sp : Sp) : Prop where
  len : ∀ vs H Q E, sp vs H Q E → vs.length = ps.length
  go : ∀ (A : Around) (out : List Env) (s : Shared) (H : Hp) (ar : Args) (us : List Value) (vs : List V) (Q : VK) (E : XK), RG k A → Env0 P w K mg base A out s H →
    BindsTo s fd ar (ps.zip us) → Vals vs us → sp vs H Q E → codeAny (model P w) A (.call (.ref f) ar) (CR CX out P w H s Q E) s
section
variable {P : Program} {w : World} {K : PySem.W.Frag} {mg : Str → Option Value} {base : Heap} {CX : CXT} {f : Addr} {fd : FuncData} {ps : List Str} {sp : Sp}
theorem FG.mono {j k : Nat} (F : FG P w K mg base CX j f fd ps sp) (h : j ≤ k) : FG P w K mg base CX k f fd ps sp :=
  ⟨F.len, fun A out s H ar us vs Q E g => F.go A out s H ar us vs Q E (g.mono h)⟩
theorem FG.imp {k : Nat} {sp' : Sp} (F : FG P w K mg base CX k f fd ps sp) (h : ∀ vs H Q E, sp' vs H Q E → sp vs H Q E) : FG P w K mg base CX k f fd ps sp' :=
  ⟨fun vs H Q E q => F.len vs H Q E (h _ _ _ _ q), fun A out s H ar us vs Q E g e0 hb hv q => F.go A out s H ar us vs Q E g e0 hb hv (h _ _ _ _ q)⟩
/-- the rule for a def: as L2.fn_of, the room without guards handed on -/
theorem fg_of {k : Nat} {name qual : Str} {params : Arguments} {body : List Stmt} {sc : Scope} {dV kV doc pm cdv ct oc : Value} {an od : Option Addr}
    {osl : Array (Option Value)} {N : List Str} (lk : K.lookup f = some ⟨oc, od, .func (PySem.W.fnOf name qual params body sc dV kV doc pm an cdv ct), osl⟩)
    (hcd : PySem.W.codeIn K cdv qual = true) (S : FnScope N ps sc) (len : ∀ vs H Q E, sp vs H Q E → vs.length = ps.length)
    (hbody : ∀ (A : Around) (out : List Env) (s : Shared) (H : Hp) (vs : List V) (Q : VK) (E : XK), RG k (A.deeper (envOfC qual sc s.heap.objs.size f cdv)) → sp vs H Q E →
      ∃ t, PSs (cxOf CX P w K mg base N qual sc f cdv A out s H E) body t ∧ t { nx := fun _ H' => Q .non H', rt := Q } (start N vs) H) :
    FG P w K mg base CX (k + 1) f (PySem.W.fnOf name qual params body sc dV kV doc pm an cdv ct) ps sp := by
  refine ⟨len, fun A out s H ar us vs Q E g e0 hb r hsp => ?_⟩
  have hlen := len _ _ _ _ hsp
  have KI : K.In s.heap := e0.mod.kin.keeps fun b o e => (e0.bs b o e).1
  have nl : s.heap.NoLimit := e0.mod.nolimit.keeps fun b o e => (e0.bs b o e).1
  have kinds : ∀ y ∈ ps.zip us, sc.names.lookup y.1 = some .local ∨ (sc.names.lookup y.1 = some .cell ∧ ((cellsFrom (s.heap.objs.size + 1) sc.names []).lookup y.1).isSome = true) := fun ⟨n, v⟩ hy => by
    rcases S.par n (List.of_mem_zip hy).1 with q | q
    · exact .inl q
    · exact .inr ⟨q, PySem.W.cellsFrom_some _ _ _ (.inl q)⟩
  refine codeAny_call_function g.rm.depth (KI _ _ lk) rfl S.co S.gen rfl (PySem.W.codeRec_of KI hcd) (hb _ _ _ _ ?_)
  refine wpAny_newFunctionEnv_cells S.kind kinds fun env he s1 x => ?_
  subst he
  refine ⟨nl.keeps x.toInCall.keep, codeAny_func ?_⟩
  obtain ⟨t, ht, hq⟩ := hbody A out s H vs Q E (g.deeper _) hsp
  have I : Inv (cxOf CX P w K mg base N qual sc f cdv A out s H E) [] (start N vs) H s1 := inv_start S g.rm.hd e0 hlen r x
  refine wpAny_mono (ht.run [] s1 (start N vs) H _ I hq) (fun fl s' hs => ?_) fun e s' hs => hs
  have fin : ∀ {σ' : L2.St} {H' : Hp} {v : V} {u : Value}, Inv (cxOf CX P w K mg base N qual sc f cdv A out s H E) [] σ' H' s' → RelV v u → Q v H' → CE out P w H s Q u s' :=
    fun {σ' H' v u} J rv q => ⟨v, H', J.os, J.bare, J.base, J.hok, rv, q⟩
  match fl, hs with
  | .ret u, ⟨v, σ', H', J, rv, q⟩ => exact fin J rv q
  | .next, ⟨σ', H', J, q⟩ => exact fin (v := V.non) (u := Value.none) J rfl q
  | .brk, ⟨_, _, _, q⟩ => exact False.elim q
  | .cont, ⟨_, _, _, q⟩ => exact False.elim q
/-- .. of a def of the text, no exception leaving -/
theorem Fun.fg {x qual : Str} {st : Stmt} {N : List Str} {k : Nat} (F : Fun K x qual st f fd) (S : FnScope N ps (defScope st)) (len : ∀ vs H Q E, sp vs H Q E → vs.length = ps.length)
    (hbody : ∀ (cdv : Value) (A : Around) (out : List Env) (s : Shared) (H : Hp) (vs : List V) (Q : VK) (E : XK), RG k (A.deeper (envOfC qual (defScope st) s.heap.objs.size f cdv)) → sp vs H Q E →
      ∃ t, PSs (cxOf CX0 P w K mg base N qual (defScope st) f cdv A out s H E).nox (defBody st) t ∧ t { nx := fun _ H' => Q .non H', rt := Q } (start N vs) H) : FG P w K mg base CX0 (k + 1) f fd ps sp := by
  obtain ⟨oc, od, kV, doc, pm, an, cdv, ct, osl, rfl, lk, hcd⟩ := F.ex
  refine fg_of lk hcd S len fun A out s H vs Q E g hsp => ?_
  obtain ⟨t, h, q⟩ := hbody cdv A out s H vs Q E g hsp
  exact ⟨t, h.nox, q⟩
end

/-! ### how arguments bind -/
def pick {α : Type} (ix : List Nat) (l : List α) : List α := ix.filterMap (l[·]?)
theorem vals_pick {vs : List V} {us : List Value} (r : Vals vs us) : ∀ ix : List Nat, Vals (pick ix vs) (pick ix us)
  | [] => .nil
  | i :: ix => by
    unfold pick
    rw [List.filterMap_cons, List.filterMap_cons]
    cases e : vs[i]? with
    | none =>
      rw [r.none_of e]
      exact vals_pick r ix
    | some v =>
      obtain ⟨u, e2, r2⟩ := r.get e
      rw [e2]
      exact .cons r2 (vals_pick r ix)
/-- n values by position, those named ks by name; ix: the parameters' places among all of them -/
structure Bd (K : PySem.W.Frag) (fd : FuncData) (ps : List Str) (n : Nat) (ks : List Str) (ix : List Nat) : Prop where
  to : ∀ (us ws : List Value), us.length = n → ws.length = ks.length → bindArgs fd ⟨us, ks.zip ws⟩ = pure (ps.zip (pick ix (us ++ ws)))
theorem Fun.bd {K : PySem.W.Frag} {x qual : Str} {st : Stmt} {f : Addr} {fd : FuncData} {ps : List Str} {n : Nat} {ks : List Str} {ix : List Nat} (F : Fun K x qual st f fd)
    (h : ∀ (kV doc pm : Value) (an : Option Addr) (cdv ct : Value) (us ws : List Value), us.length = n → ws.length = ks.length →
      bindArgs (PySem.W.fnOf x qual (defArgs st) (defBody st) (defScope st) .none kV doc pm an cdv ct) ⟨us, ks.zip ws⟩ = pure (ps.zip (pick ix (us ++ ws)))) : Bd K fd ps n ks ix := by
  obtain ⟨oc, od, kV, doc, pm, an, cdv, ct, osl, rfl, lk, hcd⟩ := F.ex
  exact ⟨h kV doc pm an cdv ct⟩

/-! ### calls -/
def tCg (n m : Nat) (ix : List Nat) (sp : Sp) (E : XK) (t tk : TA) : TE := fun σ H Q => t σ H fun vs H1 => tk σ H1 fun zs H2 => vs.length = n ∧ zs.length = m ∧ sp (pick ix (vs ++ zs)) H2 Q E
def tMg (C : Addr) (mn : Str) (n m : Nat) (ix : List Nat) (sp : Sp) (E : XK) (ta : TE) (t tk : TA) : TE := fun σ H Q => ta σ H fun x H1 => ∃ a dx fs, x = .ref a ∧ H1 a = some (.ins C dx fs) ∧ fs.lookup mn = none ∧
  t σ H1 fun vs H2 => tk σ H2 fun zs H3 => (x :: vs).length = n ∧ zs.length = m ∧ sp (pick ix ((x :: vs) ++ zs)) H3 Q E
def tKg (C : Addr) (n m : Nat) (ix : List Nat) (sp : Sp) (E : XK) (t tk : TA) : TE := fun σ H Q => t σ H fun vs H1 => tk σ H1 fun zs H2 => vs.length + 1 = n ∧ zs.length = m ∧
  ∀ x dx, H2 x = none → H2 dx = none → dx ≠ x → sp (pick ix ((.ref x :: vs) ++ zs)) (upd (upd H2 dx (.own x)) x (.ins C dx [])) (fun v H3 => v = .non ∧ Q (.ref x) H3) E
section
variable {X : Cx} {CX : CXT} {k n : Nat} {f C : Addr} {fd : FuncData} {ps ks : List Str} {ix : List Nat} {sp : Sp} {E : XK} {x mn : Str} {p pos apos : Pos} {e o : Expr} {es : List Expr} {kws : List Keyword} {ta : TE} {t tk : TA}
theorem run_g {pins : List (Addr × Obj)} {σ : L2.St} {H : Hp} {s : Shared} {Q : VK} {us ws : List Value} {vs zs : List V} (F : FG X.prog X.w X.K X.mg X.base CX k f fd ps sp) (g : RG k X.A) (hb : Bd X.K fd ps n ks ix) (hx : Passes CX X E)
    (I : Inv X pins σ H s) (r : Vals vs us) (rz : Vals zs ws) (l1 : vs.length = n) (l2 : zs.length = ks.length) (h : sp (pick ix (vs ++ zs)) H Q E) :
    wpAny (model X.prog X.w) X.A (call (.ref f) us (ks.zip ws)) (EP X pins σ Q) X.xe s := by
  refine wpAny_call (codeAny_mono (F.go X.A X.stack s H ⟨us, ks.zip ws⟩ (pick ix (us ++ ws)) (pick ix (vs ++ zs)) Q E g I.env0 (.of_eq (hb.to us ws (r.length.symm.trans l1) (rz.length.symm.trans l2))) (vals_pick (r.append rz) ix) h) fun r s' hq => ?_)
  match r, hq with
  | .error e, hq => exact hx pins σ H s e s' I hq
  | .ok (.ret u), hq => exact I.after hq
  | .ok .next, hq => exact False.elim hq
  | .ok .brk, hq => exact False.elim hq
  | .ok .cont, hq => exact False.elim hq
/-- f(e, .., k = v, ..) -/
theorem pe_cg (F : FG X.prog X.w X.K X.mg X.base CX k f fd ps sp) (g : RG k X.A) (hg : Gl X x) (hm : X.mg x = some (.ref f)) (hk : PySem.W.keepIn X.K (.ref f) = true) (hb : Bd X.K fd ps n ks ix) (hx : Passes CX X E)
    (ha : PA X (e :: es) t) (hkw : PK X kws tk) (hall : (backToKw pos (keywordEach kws X.env)).all (·.1.isSome) = true := by rfl) (hks : (backToKw pos (keywordEach kws X.env)).filterMap (·.1) = ks := by rfl)
    (hdb : (x == ("__debug__" : Str)) = false := by decide) (he : starEach (e :: es) X.env = (false, eval e X.env) :: starEach es X.env := by rfl)
    (hpl : ((backTo pos (starEach (e :: es) X.env)).any (·.1) || (backToKw pos (keywordEach kws X.env)).any (·.1.isNone)) = false := by rfl) : PE X (.Call (.Name x p) (e :: es) kws pos) (tCg n ks.length ix sp E t tk) := by
  refine ⟨fun pins s σ H Q I h => wpAny_Call_Name_kw (ld_glob I hg hm ?_ hdb)⟩
  refine PySem.W.callWith_KW (h₀ := X.base) I.ok.mod.kin hk hall (thn (ha.run pos pins s σ H _ I h) fun us s1 ⟨vs, H1, I1, r, q⟩ => ?_) hpl he
  refine thn (hkw.run pos pins s1 σ H1 _ I1 q) fun ws s2 ⟨zs, H2, I2, rz, l1, l2, q2⟩ => ⟨I2.kIn, ?_⟩
  rw [hks]
  exact run_g F g hb hx I2 r rz l1 l2 q2
/-- f(k = v, ..), f() -/
theorem pe_cg0 (F : FG X.prog X.w X.K X.mg X.base CX k f fd ps sp) (g : RG k X.A) (hg : Gl X x) (hm : X.mg x = some (.ref f)) (hk : PySem.W.keepIn X.K (.ref f) = true) (hb : Bd X.K fd ps 0 ks ix) (hx : Passes CX X E)
    (hkw : PK X kws tk) (hall : (backToKw pos (keywordEach kws X.env)).all (·.1.isSome) = true := by rfl) (hks : (backToKw pos (keywordEach kws X.env)).filterMap (·.1) = ks := by rfl)
    (hdb : (x == ("__debug__" : Str)) = false := by decide)
    (hpl : ((backTo pos (starEach [] X.env)).any (·.1) || (backToKw pos (keywordEach kws X.env)).any (·.1.isNone)) = false := by rfl) : PE X (.Call (.Name x p) [] kws pos) (tCg 0 ks.length ix sp E tNil tk) := by
  refine ⟨fun pins s σ H Q I h => wpAny_Call_Name_kw (ld_glob I hg hm ?_ hdb)⟩
  refine PySem.W.callWith_KW0 (h₀ := X.base) I.ok.mod.kin hk hall ?_ hpl
  refine thn (hkw.run pos pins s σ H _ I h) fun ws s2 ⟨zs, H2, I2, rz, l1, l2, q2⟩ => ⟨I2.kIn, ?_⟩
  rw [hks]
  exact run_g (us := []) (vs := []) F g hb hx I2 .nil rz l1 l2 q2
/-- o.m(e, .., k = v, ..) -/
theorem pe_mg {pl : Sem Bool} (ho : PE X o ta) (c : Cls X.K C) (hm : Meth X.K C mn f) (F : FG X.prog X.w X.K X.mg X.base CX k f fd ps sp) (g : RG k X.A) (hb : Bd X.K fd ps n ks ix) (hx : Passes CX X E) (ha : PA X (e :: es) t) (hkw : PK X kws tk)
    (hall : (backToKw pos (keywordEach kws X.env)).all (·.1.isSome) = true := by rfl) (hks : (backToKw pos (keywordEach kws X.env)).filterMap (·.1) = ks := by rfl)
    (he : starEach (e :: es) X.env = (false, eval e X.env) :: starEach es X.env := by rfl) (hpl : ((backTo pos (starEach (e :: es) X.env)).any (·.1) || (backToKw pos (keywordEach kws X.env)).any (·.1.isNone)) = false := by rfl)
    (ht : eval (.Call (.Attribute o mn apos) (e :: es) kws pos) X.env = (do
      let ov ← eval o X.env
      standAt apos.atName
      let (fv, first) ← holding [ov] (getMethod ov mn pl)
      callWith pos fv first (backTo pos (starEach (e :: es) X.env)) (backToKw pos (keywordEach kws X.env))) := by rfl) : PE X (.Call (.Attribute o mn apos) (e :: es) kws pos) (tMg C mn n ks.length ix sp E ta t tk) := by
  refine ⟨fun pins s σ H Q I h => ?_⟩
  refine PySem.W.methodCall_KW (pl := pl) (thn (ho.run pins s σ H _ I h) fun u s1 ⟨y, H1, I1, ry, a, dx, fs, ey, ea, l, q⟩ => ?_) ht
  subst ey
  obtain rfl : u = Value.ref a := ry
  refine getmeth_ok I1 ea c hm l ?_
  refine PySem.W.callWith_KW (first := [.ref a]) (h₀ := X.base) I.ok.mod.kin hm.kp hall (thn (ha.run pos pins s1 σ H1 _ I1 q) fun us s2 ⟨vs, H2, I2, r, q2⟩ => ?_) hpl he
  refine thn (hkw.run pos pins s2 σ H2 _ I2 q2) fun ws s3 ⟨zs, H3, I3, rz, l1, l2, q3⟩ => ⟨I3.kIn, ?_⟩
  rw [hks]
  exact run_g (us := .ref a :: us) (vs := .ref a :: vs) F g hb hx I3 (.cons rfl r) rz l1 l2 q3
/-- o.m(k = v, ..), o.m() -/
theorem pe_mg0 {pl : Sem Bool} (ho : PE X o ta) (c : Cls X.K C) (hm : Meth X.K C mn f) (F : FG X.prog X.w X.K X.mg X.base CX k f fd ps sp) (g : RG k X.A) (hb : Bd X.K fd ps 1 ks ix) (hx : Passes CX X E) (hkw : PK X kws tk)
    (hall : (backToKw pos (keywordEach kws X.env)).all (·.1.isSome) = true := by rfl) (hks : (backToKw pos (keywordEach kws X.env)).filterMap (·.1) = ks := by rfl)
    (hpl : ((backTo pos (starEach [] X.env)).any (·.1) || (backToKw pos (keywordEach kws X.env)).any (·.1.isNone)) = false := by rfl)
    (ht : eval (.Call (.Attribute o mn apos) [] kws pos) X.env = (do
      let ov ← eval o X.env
      standAt apos.atName
      let (fv, first) ← holding [ov] (getMethod ov mn pl)
      callWith pos fv first (backTo pos (starEach [] X.env)) (backToKw pos (keywordEach kws X.env))) := by rfl) : PE X (.Call (.Attribute o mn apos) [] kws pos) (tMg C mn 1 ks.length ix sp E ta tNil tk) := by
  refine ⟨fun pins s σ H Q I h => ?_⟩
  refine PySem.W.methodCall_KW (pl := pl) (thn (ho.run pins s σ H _ I h) fun u s1 ⟨y, H1, I1, ry, a, dx, fs, ey, ea, l, q⟩ => ?_) ht
  subst ey
  obtain rfl : u = Value.ref a := ry
  refine getmeth_ok I1 ea c hm l ?_
  refine PySem.W.callWith_KW0 (first := [.ref a]) (h₀ := X.base) I.ok.mod.kin hm.kp hall ?_ hpl
  refine thn (hkw.run pos pins s1 σ H1 _ I1 q) fun ws s3 ⟨zs, H3, I3, rz, l1, l2, q3⟩ => ⟨I3.kIn, ?_⟩
  rw [hks]
  exact run_g (us := [.ref a]) (vs := [.ref a]) F g hb hx I3 (.cons rfl .nil) rz l1 l2 q3

theorem run_kg {pins : List (Addr × Obj)} {σ : L2.St} {H : Hp} {s : Shared} {Q : VK} {us ws : List Value} {vs zs : List V} (M : Mk X.K C f) (F : FG X.prog X.w X.K X.mg X.base CX k f fd ps sp) (g : RG (k + 1) X.A) (hb : Bd X.K fd ps n ks ix) (hx : Passes CX X E)
    (I : Inv X pins σ H s) (r : Vals vs us) (rz : Vals zs ws) (l1 : vs.length + 1 = n) (l2 : zs.length = ks.length)
    (h : ∀ x dx, H x = none → H dx = none → dx ≠ x → sp (pick ix ((.ref x :: vs) ++ zs)) (upd (upd H dx (.own x)) x (.ins C dx [])) (fun v H2 => v = .non ∧ Q (.ref x) H2) E) :
    wpAny (model X.prog X.w) X.A (call (.ref C) us (ks.zip ws)) (EP X pins σ Q) X.xe s := by
  have hq := h (s.heap.objs.size + 1) s.heap.objs.size (I.hok.fresh (Nat.le_succ _)) (I.hok.fresh (Nat.le_refl _)) (Nat.ne_of_lt (Nat.lt_succ_self _))
  have I2 := Inv.made (C := C) I
  have r1 : Vals (V.ref (s.heap.objs.size + 1) :: vs) (Value.ref (s.heap.objs.size + 1) :: us) := .cons rfl r
  have e1 : (Value.ref (s.heap.objs.size + 1) :: us).length = n := by
    rw [← r1.length]
    exact l1
  refine wpAny_call (make_map (f := f) I.kIn M.makes M.init (beq_iff_eq.mp M.fn) (codeAny_mono (F.go _ X.stack _ _ ⟨Value.ref (s.heap.objs.size + 1) :: us, ks.zip ws⟩ (pick ix ((Value.ref (s.heap.objs.size + 1) :: us) ++ ws)) _ _ E (g.make C us (ks.zip ws))
    (I2.env0.make C us (ks.zip ws)) (.of_eq (hb.to _ _ e1 (rz.length.symm.trans l2))) (vals_pick (r1.append rz) ix) hq) fun r s' hq' => ?_))
  match r, hq' with
  | .error e, hq' => exact hx pins σ _ _ e s' I2 hq'
  | .ok (.ret u), hq' =>
    obtain ⟨v, H', I3, rv, ev, q3⟩ := I2.after hq'
    subst ev
    exact ⟨rv, ⟨V.ref (s.heap.objs.size + 1), H', I3, rfl, q3⟩⟩
  | .ok .next, hq' => exact False.elim hq'
  | .ok .brk, hq' => exact False.elim hq'
  | .ok .cont, hq' => exact False.elim hq'
/-- C(e, .., k = v, ..) -/
theorem pe_kg (M : Mk X.K C f) (F : FG X.prog X.w X.K X.mg X.base CX k f fd ps sp) (g : RG (k + 1) X.A) (hg : Gl X x) (hm : X.mg x = some (.ref C)) (hb : Bd X.K fd ps n ks ix) (hx : Passes CX X E) (ha : PA X (e :: es) t) (hkw : PK X kws tk)
    (hall : (backToKw pos (keywordEach kws X.env)).all (·.1.isSome) = true := by rfl) (hks : (backToKw pos (keywordEach kws X.env)).filterMap (·.1) = ks := by rfl)
    (hdb : (x == ("__debug__" : Str)) = false := by decide) (he : starEach (e :: es) X.env = (false, eval e X.env) :: starEach es X.env := by rfl)
    (hpl : ((backTo pos (starEach (e :: es) X.env)).any (·.1) || (backToKw pos (keywordEach kws X.env)).any (·.1.isNone)) = false := by rfl) : PE X (.Call (.Name x p) (e :: es) kws pos) (tKg C n ks.length ix sp E t tk) := by
  refine ⟨fun pins s σ H Q I h => wpAny_Call_Name_kw (ld_glob I hg hm ?_ hdb)⟩
  refine PySem.W.callWith_KW (h₀ := X.base) I.ok.mod.kin M.kp hall (thn (ha.run pos pins s σ H _ I h) fun us s1 ⟨vs, H1, I1, r, q⟩ => ?_) hpl he
  refine thn (hkw.run pos pins s1 σ H1 _ I1 q) fun ws s2 ⟨zs, H2, I2, rz, l1, l2, q2⟩ => ⟨I2.kIn, ?_⟩
  rw [hks]
  exact run_kg M F g hb hx I2 r rz l1 l2 q2
/-- C(k = v, ..), C() -/
theorem pe_kg0 (M : Mk X.K C f) (F : FG X.prog X.w X.K X.mg X.base CX k f fd ps sp) (g : RG (k + 1) X.A) (hg : Gl X x) (hm : X.mg x = some (.ref C)) (hb : Bd X.K fd ps 1 ks ix) (hx : Passes CX X E) (hkw : PK X kws tk)
    (hall : (backToKw pos (keywordEach kws X.env)).all (·.1.isSome) = true := by rfl) (hks : (backToKw pos (keywordEach kws X.env)).filterMap (·.1) = ks := by rfl)
    (hdb : (x == ("__debug__" : Str)) = false := by decide)
    (hpl : ((backTo pos (starEach [] X.env)).any (·.1) || (backToKw pos (keywordEach kws X.env)).any (·.1.isNone)) = false := by rfl) : PE X (.Call (.Name x p) [] kws pos) (tKg C 1 ks.length ix sp E tNil tk) := by
  refine ⟨fun pins s σ H Q I h => wpAny_Call_Name_kw (ld_glob I hg hm ?_ hdb)⟩
  refine PySem.W.callWith_KW0 (h₀ := X.base) I.ok.mod.kin M.kp hall ?_ hpl
  refine thn (hkw.run pos pins s σ H _ I h) fun ws s2 ⟨zs, H2, I2, rz, l1, l2, q2⟩ => ⟨I2.kIn, ?_⟩
  rw [hks]
  exact run_kg (us := []) (vs := []) M F g hb hx I2 .nil rz l1 l2 q2

/-- e.f, a property -/
def tPg (C : Addr) (sp : Sp) (E : XK) (ta : TE) : TE := fun σ H Q => ta σ H fun y H1 => ∃ a dx fs, y = .ref a ∧ H1 a = some (.ins C dx fs) ∧ sp [.ref a] H1 Q E
theorem pe_pg {pa : Addr} {nm : Str} (ho : PE X o ta) (c : Cls X.K C) (hp : PropOf X.K C nm pa f) (F : FG X.prog X.w X.K X.mg X.base CX k f fd ["self"] sp) (g : RG (k + 1) X.A) (hb : Bd X.K fd ["self"] 1 [] [0]) (hx : Passes CX X.nox E)
    (hab : attributeBase o nm X.env (eval o X.env) = eval o X.env := by rfl) : PE X (.Attribute o nm pos) (tPg C sp E ta) := by
  refine ⟨fun pins s σ H Q I h => ?_⟩
  refine attr_of hab (thn (ho.run pins s σ H _ I h) fun u s1 ⟨y, H1, I1, ry, a, dx, fs, ey, ea, q⟩ => ?_)
  subst ey
  obtain rfl : u = Value.ref a := ry
  obtain ⟨mA, O, _, _, _, _⟩ := ins_get I1.hok ea
  obtain ⟨od, J, _⟩ := O.look
  obtain ⟨more, hrec⟩ := hp.rec_
  have I2 := I1.tok (s1.toks + 1)
  have hc : (PySem.W.clsIn X.K C).isSome = true := by
    obtain ⟨cd, hc, _⟩ := PySem.W.any_some c.hd
    rw [hc]
    rfl
  refine PySem.W.get_bind I1.kIn J (PySem.W.plainGet_of (c.get nm)).1 (PySem.W.findObj_data hc hp.at_ hp.get hp.tak) (PySem.W.plainGet_of (c.get nm)).2 (wpAny_call (PySem.W.prop_get (s := { s1 with toks := s1.toks + 1 }) I1.kIn hrec ?_))
  refine codeAny_mono (F.go X.A.in1 X.stack { s1 with toks := s1.toks + 1 } H1 ⟨[.ref a], []⟩ [.ref a] [.ref a] Q E g.in1 I2.env0.in1 (.of_eq (hb.to [.ref a] [] rfl rfl)) (.cons rfl .nil) q) fun r s' hq => ?_
  match r, hq with
  | .error er, hq => exact False.elim (hx pins σ H1 { s1 with toks := s1.toks + 1 } er s' (I2.wish _) hq)
  | .ok (.ret u), hq =>
    obtain ⟨v, H', I3, rv, q3⟩ := I2.after hq
    show wpAny _ _ (handedOut u) _ _ _
    rw [PySem.W.handedOut_of (handed_of rv)]
    exact wpAny_pure ⟨v, H', I3, rv, q3⟩
  | .ok .next, hq => exact False.elim hq
  | .ok .brk, hq => exact False.elim hq
  | .ok .cont, hq => exact False.elim hq
end

/-! ### repr of data -/
def rRepr (K : PySem.W.Frag) : List V → Hp → VK → Prop := fun xs H Q => ∃ v d, xs = [v] ∧ Dp K H v d ∧ d.showable = true ∧ d.hasDict = false ∧ d.depth ≤ 60 ∧ d.shown.length ≤ sizeLine ∧ Q (.str d.shown) H
section
variable {X : Cx}
theorem call_repr {k : Nat} (g : RG k X.A) : CallR X (.builtin "repr") (rRepr X.K) := by
  intro pins s σ H xs us Q I r h
  obtain ⟨v, d, rfl, hd, hs, hn, hdep, hsz, q⟩ := h
  obtain ⟨u, rfl, ru⟩ := vals1 r
  have hun := g.rm.un
  obtain ⟨as, rd⟩ := Dp.reads I d v u hd ru
  cases hd with
  | non =>
    cases ru
    exact PySem.P.repr_of_none ⟨.str _, H, I.tok _, ⟨_, rfl⟩, q⟩
  | bl b =>
    cases ru
    exact PySem.P.repr_of_bool ⟨.str _, H, I.tok _, ⟨_, rfl⟩, q⟩
  | int i =>
    obtain ⟨t, rfl⟩ := ru
    exact PySem.P.repr_of_int (of_decide_eq_true hs) ⟨.str _, H, I.tok _, ⟨_, rfl⟩, q⟩
  | str x =>
    obtain ⟨t, rfl⟩ := ru
    exact PySem.P.repr_of_str ⟨.str _, H, I.tok _, ⟨_, rfl⟩, q⟩ hsz
  | lst h1 h2 =>
    cases ru
    exact repr_of_reads' rd hs (PyData.noDict_hsm hn) g.gd (by omega) (fun _ _ e => e) (fun h' u tk hk => ⟨.str _, H, I.kept hk, ⟨_, rfl⟩, q⟩) hsz
  | tup h1 h2 =>
    cases ru
    exact repr_of_reads' rd hs (PyData.noDict_hsm hn) g.gd (by omega) (fun _ _ e => e) (fun h' u tk hk => ⟨.str _, H, I.kept hk, ⟨_, rfl⟩, q⟩) hsz
end

/-! ### the end of a law -/
theorem law_cg {P : Program} {w : World} {s₁ : Shared} {K : PySem.W.Frag} {mg mb : Str → Option Value} {a : Addr} {vs : List Value} {ns : List Int} {fa : Addr} {fd : FuncData} {x : Str} {k : Nat} {sp : Sp}
    (KX : K.In s₁.heap) (hns : s₁.heap.Ns mainGlobals mg) (hbl : s₁.heap.Ns builtinsNs mb) (hbb : ∀ x : Str, x ≠ "__name__" → mb x = bootBuiltins x) (lim : s₁.heap.NoLimit) (gn : s₁.gens = #[])
    (ha : s₁.heap.get? a = some { cls := .type "list", data := .seq vs.toArray }) (hi : IntsAre vs ns) (hl : ns.length ≤ sizeLine)
    (hr : RG k callerA) (F : ∀ base : Heap, K.In base → base.Ns mainGlobals mg → FG P w K mg base CX0 k fa fd [x] sp) (hbind : ∀ (s : Shared) (u : Value), BindsTo s fd ⟨[u], []⟩ [(x, u)])
    (hsp : ∀ H : Hp, Only H → SqL K H a (ns.map V.int) → sp [.ref a] H (fun v _ => v = .bl true) fun _ _ _ => False) :
    codeAny (model P w) callerA (.call (.ref fa) ⟨[.ref a], []⟩) (fun r s' => r = .ok (.ret (.bool true)) ∧ OldK s₁.heap s'.heap ∧ s'.os = s₁.os ∧ AllBare s'.gens) s₁ := by
  have rv := vals_ints hi
  have lv := hi.length
  -- whatever abstract heap tells of the script alone
  have main : ∀ H : Hp, (∀ b, H b ≠ none → b = a) → (H a ≠ none → K.lookup a = none) → Only H → HOk P w H s₁.heap → SqL K H a (ns.map V.int) →
      codeAny (model P w) callerA (.call (.ref fa) ⟨[.ref a], []⟩) (fun r s' => r = .ok (.ret (.bool true)) ∧ OldK s₁.heap s'.heap ∧ s'.os = s₁.os ∧ AllBare s'.gens) s₁ := by
    intro H alone apart only hok hS
    have free : ∀ {b : Addr} {o : Obj}, s₁.heap.get? b = some o → (b = a → False) → H b = none := fun {b o} e ne => by
      cases q : H b with
      | none => rfl
      | some u => exact (ne (alone b (by rw [q]; exact fun z => nomatch z))).elim
    have keepNs : ∀ {b : Addr} {m : Str → Option Value}, s₁.heap.Ns b m → (hidT s₁.heap H).Ns b m := by
      rintro b m ⟨o, es, ep, e, d, r⟩
      refine ⟨o, es, ep, hidT_get e (free e ?_), d, r⟩
      rintro rfl
      rw [ha] at e
      cases e
      exact nomatch d
    have keepK : K.In (hidT s₁.heap H) := fun b o e => by
      refine hidT_get (KX b o e) ?_
      cases q : H b with
      | none => rfl
      | some u =>
        have hb : H b ≠ none := by rw [q]; exact fun z => nomatch z
        have eb := alone b hb
        rw [eb] at hb e
        rw [apart hb] at e
        cases e
    have hM : Mod K mg (hidT s₁.heap H) := by
      obtain ⟨mc, c1, c2⟩ := lim
      exact ⟨keepK, keepNs hns, ⟨mb, keepNs hbl, hbb⟩, ⟨mc, keepNs c1, c2⟩⟩
    have e0 : Env0 P w K mg (hidT s₁.heap H) callerA [] s₁ H := ⟨rfl, hM, fun b o e => of_hidT e, Nat.le_of_eq (hidT_size _ _), trivial, (fun b hb => (nomatch hb)), hok, .of_eq gn⟩
    have fin := (F _ keepK (keepNs hns)).go callerA [] s₁ H ⟨[.ref a], []⟩ [.ref a] [.ref a] _ _ hr e0 (hbind s₁ (.ref a)) (.cons rfl .nil) (hsp H only hS)
    refine codeAny_mono fin fun r s' h => ?_
    match r, h with
    | .error e, h => exact False.elim h
    | .ok .next, h => exact False.elim h
    | .ok .brk, h => exact False.elim h
    | .ok .cont, h => exact False.elim h
    | .ok (.ret u), ⟨v, H', os, bare, un, hok', ru, q⟩ =>
      have qv : v = .bl true := q
      subst qv
      obtain rfl : u = Value.bool true := ru
      refine ⟨rfl, OldK.of_keep fun b o e => ?_, os, bare⟩
      rcases only b with z | ⟨ob, xs, z⟩
      · exact un.keep b o e z (fun y => nomatch y) (fun y => nomatch y)
      · obtain ⟨e1, _⟩ := hok b _ z
        obtain ⟨e2, _⟩ := hok' b _ (un.frzs b ob _ z)
        rw [e] at e1
        cases e1
        exact e2
  cases hk : K.lookup a with
  | some o =>
    have e := KX a o hk
    rw [ha] at e
    cases e
    refine main (fun _ => none) (fun b z => absurd rfl z) (fun z => absurd rfl z) (fun _ => .inl rfl) (fun b u z => nomatch z) (.inr ⟨_, vs.toArray, _, hk, rfl, rfl, rfl, ?_, by simpa using rv⟩)
    rw [List.size_toArray, lv]
    exact hl
  | none =>
    have one : ∀ b u, (if b = a then some (HO.frz { cls := .type "list", data := .seq vs.toArray } (.lst (ns.map V.int))) else none) = some u → b = a ∧ u = .frz { cls := .type "list", data := .seq vs.toArray } (.lst (ns.map V.int)) := fun b u z => by
      by_cases hb : b = a
      · rw [if_pos hb] at z
        exact ⟨hb, (Option.some.inj z).symm⟩
      · rw [if_neg hb] at z
        cases z
    refine main (fun b => if b = a then some (.frz { cls := .type "list", data := .seq vs.toArray } (.lst (ns.map V.int))) else none) (fun b z => ?_) (fun _ => hk) (fun b => ?_) (fun b u z => ?_) (.inl (.inr ⟨_, if_pos rfl⟩))
    · by_cases hb : b = a
      · exact hb
      · exact (z (if_neg hb)).elim
    · by_cases hb : b = a
      · exact .inr ⟨_, _, if_pos hb⟩
      · exact .inl (if_neg hb)
    · obtain ⟨hb, hu⟩ := one b u z
      subst hb hu
      exact ⟨ha, by rw [List.length_map]; exact hl, vs, _, rv, ha⟩
theorem walk_g {l : PySem.W.OpenLaw} {n k : Nat} {q : Program} {loose : List Str} {XP : (Str → Option Value) → Heap → Prop} {YP : World → Heap → Prop} {d : DefRec} {K : Params → PySem.W.Frag} {sp : PySem.W.Frag → Sp} {x : Str}
    (hn : l.most = some n) (hn2 : n ≤ sizeLine) (hdf : d.params.defaults = []) (hr : RG k callerA) (hY : ∀ (w : World) (h : Heap), YP w h → (K w.params).In h)
    (F : ∀ (w : World) (mg : Str → Option Value) (fa : Addr) (h : Heap), (K w.params).In h → h.Ns mainGlobals mg → mg d.name = some (.ref fa) → ∃ fd : FuncData,
      (∀ (s : Shared) (u : Value), BindsTo s fd ⟨[u], []⟩ [(x, u)]) ∧ ∀ base : Heap, (K w.params).In base → base.Ns mainGlobals mg → FG l.prog w (K w.params) mg base CX0 k fa fd [x] (sp (K w.params)))
    (hsp : ∀ (K : PySem.W.Frag) (H : Hp) (a : Addr) (ns : List Int), ns.length ≤ n → Only H → SqL K H a (ns.map V.int) → sp K [.ref a] H (fun v _ => v = .bl true) fun _ _ _ => False) :
    PySem.W.WalkO q loose XP YP l.row.toRowW d [] (fun f vs => PySem.call f vs) := by
  refine Att.attach_call hn hdf fun w s₀ s₁ mg mb fa o pm cd doc a vs ns G Y ho hd hcd hmg hobj hints hlen hg => ?_
  have KX := hY w _ Y
  obtain ⟨fd, hb, hF⟩ := F w mg fa _ KX G.T.g hmg
  exact law_cg KX G.T.g G.T.b G.T.builtins G.T.nolimit hg hobj hints (Nat.le_trans hlen hn2) hr hF hb fun H hO hS => hsp (K w.params) H a ns hlen hO hS
end OB

set_option Elab.async false
set_option linter.all false
set_option maxRecDepth 100000
set_option maxHeartbeats 4000000
/-! OB, part b: what is known of the heap (Sy): objects that stand exactly so (F), data that lasts (G); the steps of a reading. -/
namespace OB
open PySem PySem.Spec PyProof.Rows L2 PySem.W

/-! ### data that lasts: no list, no dict in it -/
mutual
def imm : PyData → Bool
  | .none | .bool _ | .int _ | .str _ => true
  | .tuple xs => immAll xs
  | .list _ | .dict _ => false
def immAll : List PyData → Bool
  | [] => true
  | x :: xs => imm x && immAll xs
end
/-- tuples and what is locked stay -/
def Tx (H H' : Hp) : Prop := (∀ a xs, H a = some (.tup xs) → H' a = some (.tup xs)) ∧ ∀ a o u, H a = some (.frz o u) → H' a = some (.frz o u)
theorem Tx.refl (H : Hp) : Tx H H := ⟨fun _ _ h => h, fun _ _ _ h => h⟩
theorem Tx.trans {H H1 H2 : Hp} (a : Tx H H1) (b : Tx H1 H2) : Tx H H2 := ⟨fun c xs h => b.1 c xs (a.1 c xs h), fun c o u h => b.2 c o u (a.2 c o u h)⟩
theorem Tx.new {H : Hp} {p : Addr} {o : HO} (h : H p = none) : Tx H (upd H p o) := by
  refine ⟨fun a xs e => ?_, fun a o u e => ?_⟩
  · rw [upd_ne (ne_of_none e h)]
    exact e
  · rw [upd_ne (ne_of_none e h)]
    exact e
def isMut : HO → Bool
  | .tup _ | .frz _ _ => false
  | _ => true
theorem Tx.put {H : Hp} {p : Addr} {o o' : HO} (h : H p = some o) (m : isMut o = true) : Tx H (upd H p o') := by
  refine ⟨fun a xs e => ?_, fun a ob u e => ?_⟩
  · rw [upd_ne]
    · exact e
    · rintro rfl
      rw [h] at e
      cases e
      cases m
  · rw [upd_ne]
    · exact e
    · rintro rfl
      rw [h] at e
      cases e
      cases m
theorem sqt_keep {K : Frag} {H H' : Hp} (t : Tx H H') {a : Addr} {xs : List V} (h : SqT K H a xs) : SqT K H' a xs := by
  rcases h with (h | ⟨o, h⟩) | h
  · exact .inl (.inl (t.1 _ _ h))
  · exact .inl (.inr ⟨o, t.2 _ _ _ h⟩)
  · exact .inr h
mutual
theorem dp_keep {K : Frag} {H H' : Hp} (t : Tx H H') : ∀ (d : PyData) (v : V), imm d = true → Dp K H v d → Dp K H' v d
  | .none, _, _, h => by cases h; exact .non
  | .bool b, _, _, h => by cases h; exact .bl b
  | .int i, _, _, h => by cases h; exact .int i
  | .str x, _, _, h => by cases h; exact .str x
  | .tuple ds, _, m, h => by
    cases h with
    | tup h1 h2 => exact .tup (sqt_keep t h1) (dps_keep t ds _ (by simpa [imm] using m) h2)
  | .list _, _, m, _ => by simp [imm] at m
  | .dict _, _, m, _ => by simp [imm] at m
theorem dps_keep {K : Frag} {H H' : Hp} (t : Tx H H') : ∀ (ds : List PyData) (vs : List V), immAll ds = true → DpAll K H vs ds → DpAll K H' vs ds
  | [], _, _, h => by cases h; exact .nil
  | d :: ds, _, m, h => by
    have m2 : imm d = true ∧ immAll ds = true := by simpa [immAll] using m
    cases h with
    | cons h1 h2 => exact .cons (dp_keep t d _ m2.1 h1) (dps_keep t ds _ m2.2 h2)
end
theorem immAll_append {xs ys : List PyData} : immAll (xs ++ ys) = (immAll xs && immAll ys) := by
  induction xs with
  | nil => rfl
  | cons x xs ih =>
    show (imm x && immAll (xs ++ ys)) = (imm x && immAll xs && immAll ys)
    rw [ih, Bool.and_assoc]
theorem immAll_of {xs : List PyData} (h : ∀ x ∈ xs, imm x = true) : immAll xs = true := by
  induction xs with
  | nil => rfl
  | cons x xs ih =>
    show (imm x && immAll xs) = true
    rw [h x (List.mem_cons_self ..), ih fun y hy => h y (List.mem_cons_of_mem _ hy)]
    rfl
theorem immAll_mem {xs : List PyData} (h : immAll xs = true) : ∀ x ∈ xs, imm x = true := by
  induction xs with
  | nil => intro x hx; cases hx
  | cons y xs ih =>
    have m2 : imm y = true ∧ immAll xs = true := by simpa [immAll] using h
    intro x hx
    rcases List.mem_cons.mp hx with rfl | hx
    · exact m2.1
    · exact ih m2.2 x hx

/-! ### DpAll -/
section
variable {K : Frag} {H : Hp}
theorem dps_length {vs : List V} {ds : List PyData} (h : DpAll K H vs ds) : vs.length = ds.length := by
  induction ds generalizing vs with
  | nil => cases h; rfl
  | cons d ds ih =>
    cases h with
    | cons h1 h2 => simp [ih h2]
theorem dps_get : ∀ {ds : List PyData} {vs : List V} {i : Nat} {v : V}, DpAll K H vs ds → vs[i]? = some v → ∃ d, ds[i]? = some d ∧ Dp K H v d
  | [], _, _, _, .nil, e => by simp at e
  | d :: ds, _, 0, v, .cons h1 h2, e => by
    simp at e
    subst e
    exact ⟨d, rfl, h1⟩
  | d :: ds, _, i + 1, v, .cons h1 h2, e => by
    obtain ⟨d', e1, e2⟩ := dps_get (i := i) h2 (by simpa using e)
    exact ⟨d', by simpa using e1, e2⟩
theorem dps_getD : ∀ {ds : List PyData} {vs : List V} {i : Nat} {d : PyData}, DpAll K H vs ds → ds[i]? = some d → ∃ v, vs[i]? = some v ∧ Dp K H v d
  | [], _, _, _, .nil, e => by simp at e
  | d :: ds, _, 0, v, .cons h1 h2, e => by
    simp at e
    subst e
    exact ⟨_, rfl, h1⟩
  | d :: ds, _, i + 1, v, .cons h1 h2, e => by
    obtain ⟨d', e1, e2⟩ := dps_getD (i := i) h2 (by simpa using e)
    exact ⟨d', by simpa using e1, e2⟩
theorem dps_append : ∀ {ds : List PyData} {vs : List V} {es : List PyData} {ws : List V}, DpAll K H vs ds → DpAll K H ws es → DpAll K H (vs ++ ws) (ds ++ es)
  | [], _, _, _, .nil, h => h
  | _ :: _, _, _, _, .cons h1 h2, h => .cons h1 (dps_append h2 h)
theorem dps_drop : ∀ (n : Nat) {ds : List PyData} {vs : List V}, DpAll K H vs ds → DpAll K H (vs.drop n) (ds.drop n)
  | 0, _, _, h => h
  | _ + 1, [], _, .nil => .nil
  | n + 1, _ :: _, _, .cons _ h2 => dps_drop n h2
theorem dps_take : ∀ (n : Nat) {ds : List PyData} {vs : List V}, DpAll K H vs ds → DpAll K H (vs.take n) (ds.take n)
  | 0, _, _, _ => .nil
  | _ + 1, [], _, .nil => .nil
  | n + 1, _ :: _, _, .cons h1 h2 => .cons h1 (dps_take n h2)
theorem dps_one {v : V} {d : PyData} (h : Dp K H v d) : DpAll K H [v] [d] := .cons h .nil
theorem dps_un {v : V} {d : PyData} (h : DpAll K H [v] [d]) : Dp K H v d := by
  cases h with
  | cons h1 _ => exact h1
theorem dps_ints : ∀ (ns : List Int), DpAll K H (ns.map V.int) (ns.map PyData.int)
  | [] => .nil
  | n :: ns => .cons (.int n) (dps_ints ns)
theorem dps_map {α : Type} {f : α → PyData} {ss : List α} {xs : List V} {i : Nat} {x : V} (h : DpAll K H xs (ss.map f)) (e : xs[i]? = some x) : ∃ s, ss[i]? = some s ∧ Dp K H x (f s) := by
  obtain ⟨d, e2, h2⟩ := dps_get h e
  rw [List.getElem?_map] at e2
  cases q : ss[i]? with
  | none => rw [q] at e2; cases e2
  | some s =>
    rw [q] at e2
    cases e2
    exact ⟨s, rfl, h2⟩
theorem dp_tuple {v : V} {ds : List PyData} (h : Dp K H v (.tuple ds)) : ∃ a xs, v = .ref a ∧ SqT K H a xs ∧ DpAll K H xs ds := by
  cases h with
  | tup h1 h2 => exact ⟨_, _, rfl, h1, h2⟩
theorem dp_int {v : V} {i : Int} (h : Dp K H v (.int i)) : v = .int i := by cases h; rfl
theorem dp_str {v : V} {i : Str} (h : Dp K H v (.str i)) : v = .str i := by cases h; rfl
end

/-! ### what is known -/
/-- the script: locked, or the module's own -/
def Scr (K : Frag) (H : Hp) (a : Addr) (xs : List V) : Prop := SqL K H a xs ∧ ∀ o, H a = some o → ∃ ob, o = .frz ob (.lst xs)
theorem scr_keep {K : Frag} {H H' : Hp} (t : Tx H H') {a : Addr} {xs : List V} (h : Scr K H a xs) (hn : H a = none → H' a = none) : Scr K H' a xs := by
  obtain ⟨h1, h2⟩ := h
  cases e : H a with
  | none =>
    refine ⟨?_, fun o q => by rw [hn e] at q; cases q⟩
    rcases h1 with (h1 | ⟨o, h1⟩) | h1
    · rw [e] at h1; cases h1
    · rw [e] at h1; cases h1
    · exact .inr h1
  | some o =>
    obtain ⟨ob, rfl⟩ := h2 o e
    have e2 := t.2 _ _ _ e
    exact ⟨.inl (.inr ⟨ob, e2⟩), fun o q => by rw [e2] at q; cases q; exact ⟨ob, rfl⟩⟩
inductive Ft where
  | dat (vs : List V) (ds : List PyData)
  | sq (a : Addr) (xs : List V)
  | tq (a : Addr) (xs : List V)
def Ft.ok (K : Frag) (H : Hp) : Ft → Prop
  | .dat vs ds => DpAll K H vs ds ∧ immAll ds = true
  | .sq a xs => (∃ o, H a = some (.frz o (.lst xs))) ∨ ∃ (o : Obj) (its : Array Value) (n : Nat), K.lookup a = some o ∧ o.cls = .type "list" ∧ o.dict = none ∧ o.data = .seq its n ∧ its.size ≤ sizeLine ∧ Vals xs its.toList
  | .tq a xs => SqT K H a xs
theorem Ft.keep {K : Frag} {H H' : Hp} (t : Tx H H') : ∀ g : Ft, g.ok K H → g.ok K H'
  | .dat vs ds, ⟨h, m⟩ => ⟨dps_keep t ds vs m h, m⟩
  | .sq a xs, .inl ⟨o, h⟩ => .inl ⟨o, t.2 _ _ _ h⟩
  | .sq a xs, .inr h => .inr h
  | .tq a xs, h => sqt_keep t h
structure Sy (K : Frag) (F : List (Addr × HO)) (G : List Ft) (H : Hp) : Prop where
  st : ∀ p ∈ F, H p.1 = some p.2
  nd : (F.map (·.1)).Nodup
  ft : ∀ g ∈ G, g.ok K H
section
variable {K : Frag} {F : List (Addr × HO)} {G : List Ft} {H H' : Hp} {p : Addr} {o o' : HO} {i : Nat} {v : V} {vs : List V} {d : PyData} {ds : List PyData}
theorem Sy.nil : Sy K [] [] H := ⟨fun _ h => (nomatch h), .nil, fun _ h => (nomatch h)⟩
theorem Sy.at (S : Sy K F G H) (i : Nat) (h : F[i]? = some (p, o)) : H p = some o := S.st _ (List.mem_of_getElem? h)
theorem Sy.dps (S : Sy K F G H) (i : Nat) (h : G[i]? = some (.dat vs ds)) : DpAll K H vs ds := (S.ft _ (List.mem_of_getElem? h)).1
theorem Sy.dpi (S : Sy K F G H) (i : Nat) (h : G[i]? = some (.dat vs ds)) : immAll ds = true := (S.ft _ (List.mem_of_getElem? h)).2
theorem Sy.dp (S : Sy K F G H) (i : Nat) (h : G[i]? = some (.dat [v] [d])) : Dp K H v d := dps_un (S.dps i h)
theorem Sy.sq {xs : List V} (S : Sy K F G H) (i : Nat) (h : G[i]? = some (.sq p xs)) : SqL K H p xs := by
  rcases S.ft _ (List.mem_of_getElem? h) with ⟨o, q⟩ | q
  · exact .inl (.inr ⟨o, q⟩)
  · exact .inr q
theorem Sy.tqs {xs : List V} (S : Sy K F G H) (i : Nat) (h : G[i]? = some (.tq p xs)) : SqT K H p xs := S.ft _ (List.mem_of_getElem? h)
/-- a new object -/
theorem Sy.push (S : Sy K F G H) (h : H p = none) : Sy K ((p, o) :: F) G (upd H p o) := by
  refine ⟨fun q hq => ?_, ?_, fun g hg => Ft.keep (Tx.new h) g (S.ft g hg)⟩
  · rcases List.mem_cons.mp hq with rfl | hq
    · exact upd_same
    · have e := S.st q hq
      rw [upd_ne (ne_of_none e h)]
      exact e
  · show (p :: F.map (·.1)).Nodup
    refine List.nodup_cons.mpr ⟨fun hm => ?_, S.nd⟩
    obtain ⟨q, hq, e⟩ := List.mem_map.mp hm
    have e2 := S.st q hq
    rw [e, h] at e2
    cases e2
/-- a new object that is not kept in mind -/
theorem Sy.over (S : Sy K F G H) (h : H p = none) : Sy K F G (upd H p o) := by
  obtain ⟨a, b, c⟩ := S.push (o := o) h
  exact ⟨fun q hq => a q (List.mem_cons_of_mem _ hq), S.nd, c⟩
theorem Sy.fact (S : Sy K F G H) (h : DpAll K H vs ds) (m : immAll ds = true) : Sy K F (.dat vs ds :: G) H :=
  ⟨S.st, S.nd, fun g hg => (List.mem_cons.mp hg).elim (fun e => by rw [e]; exact ⟨h, m⟩) (S.ft g)⟩
theorem Sy.add (S : Sy K F G H) (g : Ft) (h : g.ok K H) : Sy K F (g :: G) H :=
  ⟨S.st, S.nd, fun f hf => (List.mem_cons.mp hf).elim (fun e => by rw [e]; exact h) (S.ft f)⟩
/-- a tuple of data opened -/
theorem Sy.opn (S : Sy K F G H) (h : Dp K H v (.tuple ds)) (m : immAll ds = true) : ∃ a xs, v = .ref a ∧ Sy K F (.tq a xs :: .dat xs ds :: G) H := by
  obtain ⟨a, xs, e, h1, h2⟩ := dp_tuple h
  exact ⟨a, xs, e, (S.fact h2 m).add _ h1⟩
theorem Sy.lay (S : Sy K F G H) (h : H p = none) (hd : DpAll K H vs ds) (m : immAll ds = true) : Sy K F (.dat [.ref p] [.tuple ds] :: G) (upd H p (.tup vs)) := by
  refine (S.over h).fact (dps_one (.tup (.inl (.inl upd_same)) (dps_keep (Tx.new h) ds vs m hd))) ?_
  show (imm (.tuple ds) && true) = true
  rw [Bool.and_true]
  exact m
/-- an object changed -/
theorem Sy.put (S : Sy K F G H) (i : Nat) (h : F[i]? = some (p, o)) (m : isMut o = true) : Sy K (F.set i (p, o')) G (upd H p o') := by
  have hp := S.at i h
  have hi : i < F.length := (List.getElem?_eq_some_iff.mp h).1
  refine ⟨fun q hq => ?_, ?_, fun g hg => Ft.keep (Tx.put hp m) g (S.ft g hg)⟩
  · obtain ⟨j, hj⟩ := List.mem_iff_getElem?.mp hq
    by_cases e : i = j
    · subst e
      rw [List.getElem?_set_self hi] at hj
      cases hj
      exact upd_same
    · rw [List.getElem?_set_ne e] at hj
      have e2 := S.st q (List.mem_of_getElem? hj)
      rw [upd_ne]
      · exact e2
      · intro z
        have n := S.nd
        have h1 : (F.map (·.1))[i]? = some p := by rw [List.getElem?_map, h]; rfl
        have h2 : (F.map (·.1))[j]? = some p := by rw [List.getElem?_map, hj, ← z]; rfl
        exact e ((List.getElem_inj n).mp ((List.getElem?_eq_some_iff.mp h1).2.trans (List.getElem?_eq_some_iff.mp h2).2.symm))
  · have e : (F.set i (p, o')).map (·.1) = F.map (·.1) := by
      rw [List.map_set]
      refine List.ext_getElem? fun j => ?_
      by_cases e : i = j
      · subst e
        rw [List.getElem?_set_self (by simpa using hi), List.getElem?_map, h]
        rfl
      · rw [List.getElem?_set_ne e]
    rw [e]
    exact S.nd
theorem Sy.less {x : Addr × HO} (S : Sy K (x :: F) G H) : Sy K F G H := ⟨fun q hq => S.st q (List.mem_cons_of_mem _ hq), (List.nodup_cons.mp (show (x.1 :: F.map (·.1)).Nodup from S.nd)).2, S.ft⟩
theorem Sy.drop {x : Ft} (S : Sy K F (x :: G) H) : Sy K F G H := ⟨S.st, S.nd, fun g hg => S.ft g (List.mem_cons_of_mem _ hg)⟩
/-- other facts, all of them among those known -/
theorem Sy.facts {G' : List Ft} (S : Sy K F G H) (h : ∀ g ∈ G', g ∈ G) : Sy K F G' H := ⟨S.st, S.nd, fun g hg => S.ft g (h g hg)⟩
theorem Sy.drop2 {x y : Ft} (S : Sy K F (x :: y :: G) H) : Sy K F (x :: G) H := S.facts fun g hg => by
  rcases List.mem_cons.mp hg with rfl | h
  · exact List.mem_cons_self ..
  · exact List.mem_cons_of_mem _ (List.mem_cons_of_mem _ h)
theorem Sy.drop3 {x y z : Ft} (S : Sy K F (x :: y :: z :: G) H) : Sy K F (x :: y :: G) H := S.facts fun g hg => by
  rcases List.mem_cons.mp hg with rfl | h
  · exact List.mem_cons_self ..
  · rcases List.mem_cons.mp h with rfl | h
    · exact List.mem_cons_of_mem _ (List.mem_cons_self ..)
    · exact List.mem_cons_of_mem _ (List.mem_cons_of_mem _ (List.mem_cons_of_mem _ h))
theorem Sy.swap {x y : Addr × HO} (S : Sy K (x :: y :: F) G H) : Sy K (y :: x :: F) G H := by
  refine ⟨fun q hq => S.st q ?_, ?_, S.ft⟩
  · rcases List.mem_cons.mp hq with rfl | hq
    · exact List.mem_cons_of_mem _ (List.mem_cons_self ..)
    · rcases List.mem_cons.mp hq with rfl | hq
      · exact List.mem_cons_self ..
      · exact List.mem_cons_of_mem _ (List.mem_cons_of_mem _ hq)
  · have n : (x.1 :: y.1 :: F.map (·.1)).Nodup := S.nd
    show (y.1 :: x.1 :: F.map (·.1)).Nodup
    obtain ⟨n1, n2⟩ := List.nodup_cons.mp n
    obtain ⟨n3, n4⟩ := List.nodup_cons.mp n2
    refine List.nodup_cons.mpr ⟨fun z => ?_, List.nodup_cons.mpr ⟨fun z => n1 (List.mem_cons_of_mem _ z), n4⟩⟩
    rcases List.mem_cons.mp z with e | z
    · exact n1 (by rw [e]; exact List.mem_cons_self ..)
    · exact n3 z
end
end OB

set_option Elab.async false
set_option linter.all false
set_option maxRecDepth 100000
set_option maxHeartbeats 4000000
/-! OB, part c: more rules: walks over lists and tuples alike, zip and enumerate of both, a written dict of ints, powers, attributes as targets. -/
namespace OB
open PySem PySem.Spec PyProof.Rows L2 PySem.W

/-! ### a list or a tuple -/
def SqA (K : Frag) (H : Hp) (a : Addr) (xs : List V) : Prop := SqL K H a xs ∨ SqT K H a xs
/-- k: it is a list -/
def SqK (K : Frag) (H : Hp) (k : Bool) (a : Addr) (xs : List V) : Prop := match k with
  | true => SqL K H a xs
  | false => SqT K H a xs
def IsK (h : Heap) (k : Bool) (a : Addr) (its : Array Value) : Prop := match k with
  | true => h.IsList a its
  | false => h.IsTuple a its
def ItK (h : Heap) (k : Bool) (it a : Addr) (i : Nat) : Prop := match k with
  | true => h.IsListIter it a i
  | false => h.IsTupleIter it a i
theorem ItK.at {h h' : Heap} {k : Bool} {it a : Addr} {i : Nat} (x : ItK h k it a i) (e : ∀ o, h.get? it = some o → h'.get? it = some o) : ItK h' k it a i := by
  cases k with
  | true => exact Heap.IsListIter.at x e
  | false => exact Heap.IsTupleIter.at x e
theorem ItK.obj {h : Heap} {k : Bool} {it a : Addr} {i : Nat} (x : ItK h k it a i) : ∃ o, h.get? it = some o ∧ ∀ v, o.data ≠ .cell v := by
  cases k with
  | true =>
    obtain ⟨o, e, c, d⟩ := x
    exact ⟨o, e, fun v z => by rw [d] at z; cases z⟩
  | false =>
    obtain ⟨o, e, c, d⟩ := x
    exact ⟨o, e, fun v z => by rw [d] at z; cases z⟩
def itObj (k : Bool) (a : Addr) : Obj := match k with
  | true => { cls := .type "list_iterator", data := .fields #[.ref a, .int 0 0] }
  | false => { cls := .type "tuple_iterator", data := .fields #[.ref a, .int 0 0] }
theorem beginsK (k : Bool) (a : Addr) (its : Array Value) : Begins (.ref a) (itObj k a) fun h => IsK h k a its := match k with
  | true => begins_list a its
  | false => begins_tuple a its
theorem itK_new {h : Heap} {k : Bool} {it a : Addr} (e : h.get? it = some (itObj k a)) : ItK h k it a 0 := match k, e with
  | true, e => ⟨_, e, rfl, rfl⟩
  | false, e => ⟨_, e, rfl, rfl⟩
theorem drawsK {prog : Program} {w : World} {A : Around} (hh : A.handled = none) (k : Bool) (it a : Addr) (hne : a ≠ it) (its : Array Value) :
    Draws prog w A it [it, a] its.size (fun i v => its[i]? = some v) (fun i h => ItK h k it a i ∧ IsK h k a its) := match k with
  | true => Draws.list hh it a hne its
  | false => Draws.tuple hh it a hne its
section
variable {X : Cx} {pins : List (Addr × Obj)} {σ : L2.St} {H : Hp} {s : Shared} {a : Addr} {xs ys : List V} {k : Bool}
theorem inv_sqk (I : Inv X pins σ H s) (h : SqK X.K H k a xs) : ∃ its : List Value, Vals xs its ∧ IsK s.heap k a its.toArray ∧ a < s.heap.objs.size := by
  cases k with
  | true =>
    obtain ⟨its, r, p, _⟩ := I.list h
    exact ⟨its, r, p.isList, p.lt⟩
  | false =>
    obtain ⟨its, r, p, _⟩ := I.tuple h
    exact ⟨its, r, p, p.lt⟩
theorem sqk_inj (I : Inv X pins σ H s) (h : SqK X.K H k a xs) (h' : SqK X.K H k a ys) : xs = ys := by
  cases k with
  | true => exact I.list_inj h h'
  | false => exact I.tuple_inj h h'
end
theorem isK_le {h : Heap} {k : Bool} {a : Addr} {its : Array Value} (x : IsK h k a its) : ∃ o, h.get? a = some o ∧ ∃ n, o.data = .seq its n := by
  cases k with
  | true =>
    obtain ⟨o, e, _, n, d⟩ := x
    exact ⟨o, e, n, d⟩
  | false =>
    obtain ⟨o, e, _, n, d⟩ := x
    exact ⟨o, e, n, d⟩

/-! ### zip of two, each a list or a tuple -/
def ItzK (K : Frag) (k l : Bool) (a b : Addr) : It :=
  ⟨fun i H => ∃ (xs ys : List V) (x y : V), SqK K H k a xs ∧ SqK K H l b ys ∧ xs[i]? = some x ∧ ys[i]? = some y,
    fun i H v H' => ∃ T x y, v = .ref T ∧ H T = none ∧ H' = upd H T (.tup [x, y]) ∧ (∀ xs, SqK K H k a xs → xs[i]? = some x) ∧ ∀ ys, SqK K H l b ys → ys[i]? = some y,
    fun i H => ∃ xs ys : List V, SqK K H k a xs ∧ SqK K H l b ys ∧ i ≤ xs.length ∧ i ≤ ys.length ∧ (i = xs.length ∨ i = ys.length)⟩
theorem turn_zipK {P : Program} {w : World} {K : Frag} {elts : List Expr} {kk : Nat} {tpos : Pos} {k l : Bool} {a b z TI TO i1 i2 : Addr} (D : ZipSep2 z TI TO i1 i2 [i1, a] [i2, b]) :
    Turn P w K (.Tuple elts kk tpos) (ItzK K k l a b) [z, TI, TO, i1, i2] z
      (fun i h => IsZip h z TI TO .none ∧ IsTupOf2 h TI (.ref i1) (.ref i2) ∧ (∃ x y, IsTupOf2 h TO x y) ∧ ItK h k i1 a i ∧ ItK h l i2 b i) where
  mem := List.mem_cons_self ..
  obj := fun i h st c hc => by
    obtain ⟨hz, hTI, ⟨x, y, hTO⟩, h1, h2⟩ := st
    have cs : c = z ∨ c = TI ∨ c = TO ∨ c = i1 ∨ c = i2 := by simpa using hc
    rcases cs with rfl | rfl | rfl | rfl | rfl
    · exact ⟨_, hz, fun v q => nomatch q⟩
    · exact ⟨_, hTI, fun v q => nomatch q⟩
    · exact ⟨_, hTO, fun v q => nomatch q⟩
    · exact h1.obj
    · exact h2.obj
  keep := fun i h h' st kp => by
    obtain ⟨hz, hTI, ⟨x, y, hTO⟩, h1, h2⟩ := st
    exact ⟨kp z (by simp) _ hz, kp TI (by simp) _ hTI, ⟨x, y, kp TO (by simp) _ hTO⟩, h1.at fun o q => kp i1 (by simp) o q, h2.at fun o q => kp i2 (by simp) o q⟩
  item := by
    intro X hP hw hK hc i pins s σ H E I hf st hg
    subst hP hw hK
    obtain ⟨hz, hTI, ⟨x0, y0, hTO⟩, h1, h2⟩ := st
    obtain ⟨xs, ys, x, y, qa, qb, hx, hy⟩ := hg
    obtain ⟨its, ra, pa, _⟩ := inv_sqk I qa
    obtain ⟨jts, rb, pb, _⟩ := inv_sqk I qb
    obtain ⟨u, hu, ru⟩ := ra.get hx
    obtain ⟨u2, hu2, ru2⟩ := rb.get hy
    have zlt : z < s.heap.objs.size := Heap.lt_size hz
    have hh : X.A.in1.handled = none := I.ok.hd hc
    have la : i < its.toArray.size := by
      rw [List.size_toArray]
      exact (List.getElem?_eq_some_iff.mp hu).1
    have lb : i < jts.toArray.size := by
      rw [List.size_toArray]
      exact (List.getElem?_eq_some_iff.mp hu2).1
    have nea : a ≠ i1 := fun e => by
      obtain ⟨o, e1, n, d1⟩ := isK_le pa
      rw [e] at e1
      cases k with
      | true => obtain ⟨o2, e2, _, d2⟩ := h1; rw [e1] at e2; cases e2; rw [d1] at d2; cases d2
      | false => obtain ⟨o2, e2, _, d2⟩ := h1; rw [e1] at e2; cases e2; rw [d1] at d2; cases d2
    have neb : b ≠ i2 := fun e => by
      obtain ⟨o, e1, n, d1⟩ := isK_le pb
      rw [e] at e1
      cases l with
      | true => obtain ⟨o2, e2, _, d2⟩ := h2; rw [e1] at e2; cases e2; rw [d1] at d2; cases d2
      | false => obtain ⟨o2, e2, _, d2⟩ := h2; rw [e1] at e2; cases e2; rw [d1] at d2; cases d2
    refine wpAny_pyNext_zipD2_item D (drawsK hh k i1 a nea its.toArray) (drawsK hh l i2 b neb jts.toArray) hz hTI hTO ⟨h1, pa⟩ ⟨h2, pb⟩ la lb fun v1 v2 h' tk e1 e2 z' TO' g1 g2 hT hsz kp => ?_
    have q1 : v1 = u := Option.some.inj (e1.symm.trans (by simpa using hu))
    have q2 : v2 = u2 := Option.some.inj (e2.symm.trans (by simpa using hu2))
    subst q1 q2
    refine ⟨_, rfl, wpAny_letOwnedTupleGo_zip (s := { s with heap := h', toks := tk }) z' fun h'' z'' sb => ?_⟩
    have hT2 : h''.get? s.heap.objs.size = some { cls := .type "tuple", data := .seq #[v1, v2] } := (sb.2 _ (Nat.ne_of_gt zlt)).trans hT
    have fresh : ObjOk X.prog X.w (upd H s.heap.objs.size (.tup [x, y])) h'' s.heap.objs.size (.tup [x, y]) :=
      ⟨by show 2 ≤ sizeLine; decide, [v1, v2], .cons ru (.cons ru2 .nil), ⟨_, hT2, rfl, _, rfl⟩⟩
    have kp2 : ∀ c o, c ∉ [z, TI, TO, i1, i2] → s.heap.get? c = some o → h''.get? c = some o := fun c o hb q =>
      (sb.2 c (fun e => hb (by simp [e]))).trans (kp c o (fun e => hb (by simp [e])) (fun e => hb (by simp [e])) (fun e => hb (by simp [e])) (fun e => hb (by simp [e])) q)
    have I1 : Inv X pins σ (upd H s.heap.objs.size (.tup [x, y])) { s with heap := h'', toks := tk } := I.turnedNew (ch := [z, TI, TO, i1, i2]) kp2 hf (Nat.le_refl _) fresh
    have neTI : TI ≠ z ∧ TI ≠ TO ∧ TI ≠ i1 ∧ TI ≠ i2 := ⟨D.TIz, D.TITO, D.TIi1, D.TIi2⟩
    refine ⟨.ref s.heap.objs.size, _, I1, rfl, ⟨_, x, y, rfl, I.hok.fresh (Nat.le_refl _), rfl, fun m hm => by rw [sqk_inj I hm qa]; exact hx, fun m hm => by rw [sqk_inj I hm qb]; exact hy⟩, ⟨z'', ?_, ⟨v1, v2, ?_⟩, ?_, ?_⟩, fun c hcm => ?_⟩
    · exact (sb.2 _ D.TIz).trans (kp _ _ D.TIz D.TITO D.TIi1 D.TIi2 hTI)
    · exact (sb.2 _ D.TOz).trans TO'
    · exact g1.1.at fun o q => (sb.2 _ (Ne.symm D.zi1)).trans q
    · exact g2.1.at fun o q => (sb.2 _ (Ne.symm D.zi2)).trans q
    · have lt : c < s.heap.objs.size := by
        have cs : c = z ∨ c = TI ∨ c = TO ∨ c = i1 ∨ c = i2 := by simpa using hcm
        rcases cs with rfl | rfl | rfl | rfl | rfl
        · exact zlt
        · exact Heap.lt_size hTI
        · exact Heap.lt_size hTO
        · obtain ⟨o, q, _⟩ := h1.obj; exact Heap.lt_size q
        · obtain ⟨o, q, _⟩ := h2.obj; exact Heap.lt_size q
      rw [upd_ne (Nat.ne_of_lt lt)]
      exact (hf c hcm).1
  done := by
    intro X hP hw hK hc i pins s σ H E I hf st hg
    subst hP hw hK
    obtain ⟨hz, hTI, ⟨x0, y0, hTO⟩, h1, h2⟩ := st
    obtain ⟨xs, ys, qa, qb, l1, l2, le⟩ := hg
    obtain ⟨its, ra, pa, _⟩ := inv_sqk I qa
    obtain ⟨jts, rb, pb, _⟩ := inv_sqk I qb
    have hh : X.A.in1.handled = none := I.ok.hd hc
    have e1 := ra.length
    have e2 := rb.length
    have nea : a ≠ i1 := fun e => by
      obtain ⟨o, e1, n, d1⟩ := isK_le pa
      rw [e] at e1
      cases k with
      | true => obtain ⟨o2, e2, _, d2⟩ := h1; rw [e1] at e2; cases e2; rw [d1] at d2; cases d2
      | false => obtain ⟨o2, e2, _, d2⟩ := h1; rw [e1] at e2; cases e2; rw [d1] at d2; cases d2
    have neb : b ≠ i2 := fun e => by
      obtain ⟨o, e1, n, d1⟩ := isK_le pb
      rw [e] at e1
      cases l with
      | true => obtain ⟨o2, e2, _, d2⟩ := h2; rw [e1] at e2; cases e2; rw [d1] at d2; cases d2
      | false => obtain ⟨o2, e2, _, d2⟩ := h2; rw [e1] at e2; cases e2; rw [d1] at d2; cases d2
    refine wpAny_pyNext_zipD2_end D (drawsK hh k i1 a nea its.toArray) (drawsK hh l i2 b neb jts.toArray) hz hTI hTO ⟨h1, pa⟩ ⟨h2, pb⟩ (by rw [List.size_toArray]; omega) (by rw [List.size_toArray]; omega) (by rw [List.size_toArray, List.size_toArray]; omega) fun h' tk kp => ?_
    exact ⟨rfl, I.turnedL (t' := tk) (ch := [z, TI, TO, i1, i2]) (fun c o hb q => kp c o (fun e => hb (by simp [e])) (fun e => hb (by simp [e])) (fun e => hb (by simp [e])) (fun e => hb (by simp [e])) q) hf⟩
  self := fun A i s Q E st h => wpAny_pyIter_zip st.1 h
def iZipK (K : Frag) (ta : TA) : TI := fun σ H R => ta σ H fun vs H1 => ∃ k l a b xs ys, vs = [.ref a, .ref b] ∧ SqK K H1 k a xs ∧ SqK K H1 l b ys ∧ R (ItzK K k l a b) H1
theorem pi_zipK {X : Cx} {e e2 : Expr} {ta : TA} {p pos tpos : Pos} {elts : List Expr} {kk : Nat} (hg : Gl X "zip") (hm : X.mg "zip" = none) (ha : PA X [e, e2] ta)
    (hs : starEach [e, e2] X.env = (false, eval e X.env) :: starEach [e2] X.env := by rfl) (hpl : (backTo pos (starEach [e2] X.env)).any (·.1) = false := by rfl) :
    PI X (.Tuple elts kk tpos) (.Call (.Name "zip" p) [e, e2] [] pos) (iZipK X.K ta) := by
  refine ⟨fun pins s σ H R I h => Call_ (ld_blt I hg hm PyProof.Rows.boot_zip (PyProof.Rows.callWith_type1 (thn (ha.run pos pins s σ H _ I h) fun us s1 ⟨vs, H1, I1, r1, q1⟩ => ?_) hs hpl))⟩
  obtain ⟨k, l, a, b, xs, ys, rfl, qa, qb, q⟩ := q1
  cases r1 with
  | cons r rr =>
    cases rr with
    | cons r' rr =>
      cases rr
      cases r
      cases r'
      obtain ⟨its, ra, pa, la⟩ := inv_sqk I1 qa
      obtain ⟨jts, rb, pb, lb⟩ := inv_sqk I1 qb
      refine zip_begins2 (beginsK k a its.toArray) (beginsK l b jts.toArray) pa pb fun h' hz hTI hTO g1 g2 hsz kp => wpAny_pyIter_zip hz ?_
      have I2 : Inv X pins σ H1 { s1 with heap := h' } := I1.kept (t' := s1.toks) kp
      refine ⟨s1.heap.objs.size + 4, [s1.heap.objs.size + 4, s1.heap.objs.size + 2, s1.heap.objs.size + 3, s1.heap.objs.size, s1.heap.objs.size + 1], _, _, H1, rfl, I2,
        turn_zipK (zip_sep2 (fp1 := [a]) (fp2 := [b]) (fun c hc => by rw [List.mem_singleton.mp hc]; exact la) (fun c hc => by rw [List.mem_singleton.mp hc]; exact lb)), ⟨hz, hTI, ⟨_, _, hTO⟩, itK_new g1, itK_new g2⟩, fun c hcm => ?_, q⟩
      have cs : c = s1.heap.objs.size + 4 ∨ c = s1.heap.objs.size + 2 ∨ c = s1.heap.objs.size + 3 ∨ c = s1.heap.objs.size ∨ c = s1.heap.objs.size + 1 := by simpa using hcm
      have le : s1.heap.objs.size ≤ c := by
        rcases cs with rfl | rfl | rfl | rfl | rfl
        · exact Nat.le_add_right _ _
        · exact Nat.le_add_right _ _
        · exact Nat.le_add_right _ _
        · exact Nat.le_refl _
        · exact Nat.le_add_right _ _
      exact I1.fpOk le (I1.hok.fresh le)
theorem for_zipK {K : Frag} {k l : Bool} {a b : Addr} {xs ys : List V} {g : TG} {tb : TS} {D : Ends} {σ : L2.St} {H : Hp} (hl : xs.length = ys.length) (Pv : Nat → L2.St → Hp → Prop) (h0 : Pv 0 σ H) (hq : ∀ i σ H, Pv i σ H → SqK K H k a xs ∧ SqK K H l b ys)
    (hs : ∀ i x y T σ H, xs[i]? = some x → ys[i]? = some y → Pv i σ H → H T = none → g (.ref T) σ (upd H T (.tup [x, y])) fun σ2 H2 => tb { D with nx := Pv (i + 1), ct := Pv (i + 1), bk := D.nx } σ2 H2) (hd : ∀ σ H, Pv xs.length σ H → D.nx σ H) :
    ∃ W : Nat → Nat → L2.St → Hp → Prop, (∃ m, W 0 m σ H) ∧ ∀ i m σ H, W i m σ H →
      ((ItzK K k l a b).stop i H ∧ D.nx σ H) ∨ ((ItzK K k l a b).go i H ∧ ∃ N : L2.St → Hp → Prop, (∀ σ' H', N σ' H' → ∃ m', m' < m ∧ W (i + 1) m' σ' H') ∧ ∀ x H', (ItzK K k l a b).yld i H x H' → g x σ H' fun σ2 H2 => tb { D with nx := N, ct := N, bk := D.nx } σ2 H2) := by
  refine ⟨fun i m σ H => m = xs.length - i ∧ i ≤ xs.length ∧ Pv i σ H, ⟨_, rfl, Nat.zero_le _, h0⟩, ?_⟩
  rintro i m σ H ⟨rfl, hi, p⟩
  obtain ⟨qa, qb⟩ := hq i σ H p
  by_cases lt : i < xs.length
  · have hx : xs[i]? = some xs[i] := List.getElem?_eq_getElem lt
    have hy : ys[i]? = some (ys[i]'(hl ▸ lt)) := List.getElem?_eq_getElem _
    refine .inr ⟨⟨xs, ys, _, _, qa, qb, hx, hy⟩, Pv (i + 1), fun σ' H' p' => ⟨xs.length - (i + 1), by omega, rfl, lt, p'⟩, fun v H' yl => ?_⟩
    obtain ⟨T, x, y, rfl, hT, rfl, e1, e2⟩ := yl
    exact hs i x y T σ H (e1 xs qa) (e2 ys qb) p hT
  · have e : i = xs.length := by omega
    subst e
    exact .inl ⟨⟨xs, ys, qa, qb, hi, by omega, .inl rfl⟩, hd σ H p⟩

/-! ### for over a list or a tuple -/
def iSeq (K : Frag) (tl : TE) : TI := fun σ H R => tl σ H fun x H1 => ∃ a, x = .ref a ∧ (((∃ xs, SqL K H1 a xs) ∧ R (Itl K a) H1) ∨ ((∃ xs, SqT K H1 a xs) ∧ R (Itt K a) H1))
theorem pi_seq {X : Cx} {tg l : Expr} {tl : TE} (hl : PE X l tl) : PI X tg l (iSeq X.K tl) := by
  refine ⟨fun pins s σ H R I h => thn (hl.run pins s σ H _ I h) fun v s1 ⟨x, H1, I1, r1, a, ex, q⟩ => ?_⟩
  subst ex
  cases r1
  have fresh : ∀ b ∈ [s1.heap.objs.size], FpOk X pins H1 b := fun b hb => by
    rw [List.mem_singleton.mp hb]
    exact I1.fpOk (Nat.le_refl _) (I1.hok.fresh (Nat.le_refl _))
  rcases q with ⟨⟨xs, hq⟩, q⟩ | ⟨⟨xs, hq⟩, q⟩
  · obtain ⟨its, rv, p, _⟩ := I1.list hq
    exact wpAny_pyIter_list p.isList ⟨s1.heap.objs.size, [s1.heap.objs.size], _, _, H1, rfl, I1.kept (t' := s1.toks) fun b o e => Heap.get?_push_of_some _ e, turn_list a _, ⟨_, Heap.get?_push_size _ rfl, rfl, rfl⟩, fresh, q⟩
  · obtain ⟨its, rv, p, _⟩ := I1.tuple hq
    exact wpAny_pyIter_tuple (show s1.heap.IsTuple a its.toArray from p) ⟨s1.heap.objs.size, [s1.heap.objs.size], _, _, H1, rfl, I1.kept (t' := s1.toks) fun b o e => Heap.get?_push_of_some _ e, turn_tuple a _, ⟨_, Heap.get?_push_size _ rfl, rfl, rfl⟩, fresh, q⟩
end OB

set_option Elab.async false
set_option linter.all false
set_option maxRecDepth 100000
set_option maxHeartbeats 4000000
/-! OB, part d: enumerate of lists and tuples alike, a written dict of ints, powers, attributes as targets. -/
namespace OB
open PySem PySem.Spec PyProof.Rows L2 PySem.W

/-! ### enumerate -/
theorem meets_enum1 {v : Value} {o : Obj} {B : Heap → Prop} (bg : Begins v o B) :
    Meets (Builtin.«enumerate.__new__» ⟨[.type "enumerate", v], []⟩) (fun _ R s => B s.heap ∧
      R (.ok (.ret (.ref (s.heap.push o).objs.size))) { s with heap := (s.heap.push o).push { cls := .type "enumerate", data := .fields #[.none, .bool false, .ref s.heap.objs.size, rawInt 0, .none, .none] } }) :=
  .of_wp fun prog w A R s h => by
    obtain ⟨hp, gn, dr, tk, os⟩ := s
    obtain ⟨hb, h⟩ := h
    have hsub := sub_enumerate
    have walk : ∀ {A' : Around} {E : Value → Shared → Prop} {Q : Value → Shared → Prop}, Q (.ref hp.objs.size) ⟨hp.push o, gn, dr, tk, os⟩ → wpAny (model prog w) A' (pyIter v) Q E ⟨hp, gn, dr, tk, os⟩ :=
      fun q => bg.iter prog w _ _ ⟨hp, gn, dr, tk, os⟩ _ hb q
    wp_walk using walk
    refine wpAny_stack_any fun st => wpAny_pure ?_
    split
    · rename_i c _ _ _ _ _
      cases (c == Value.type "enumerate")
      · wp_walk using walk
        exact ⟨_, rfl, h⟩
      · wp_walk using walk
        exact ⟨_, rfl, h⟩
    · wp_walk using walk
      exact ⟨_, rfl, h⟩
theorem call_enum1 {prog : Program} {w : World} {A : Around} {E : Value → Shared → Prop} {s : Shared} {v : Value} {o : Obj} {B : Heap → Prop} {Q : Value → Shared → Prop} (bg : Begins v o B) (hb : B s.heap)
    (h : ∀ h', IsEnum h' (s.heap.objs.size + 1) s.heap.objs.size 0 .none → h'.get? s.heap.objs.size = some o → (∀ b o, s.heap.get? b = some o → h'.get? b = some o) → Q (.ref (s.heap.objs.size + 1)) { s with heap := h' }) :
    wpAny (model prog w) A (call (.type "enumerate") [v]) Q E s := by
  refine callType_new F.called_enumerate (by decide) (F.typeCall_enumerate_1 _) (F.newCall_enumerate_1 _) (fun obj => F.args_object_init_2 obj _) F.entry_enumerate_new (meets_enum1 bg) ⟨hb, ?_⟩
  have hz : (s.heap.push o).objs.size = s.heap.objs.size + 1 := Heap.size_push ..
  show _ ∧ _
  rw [hz]
  have he : IsEnum ((s.heap.push o).push { cls := .type "enumerate", data := .fields #[.none, .bool false, .ref s.heap.objs.size, rawInt 0, .none, .none] }) (s.heap.objs.size + 1) s.heap.objs.size 0 .none := by
    have q := Heap.get?_push_size (s.heap.push o) (o := { cls := .type "enumerate", data := .fields #[.none, .bool false, .ref s.heap.objs.size, rawInt 0, .none, .none] }) rfl
    rw [hz] at q
    exact q
  exact ⟨⟨_, he, rfl⟩, h _ he (Heap.get?_push_of_some _ (Heap.get?_push_size _ bg.free)) fun b o x => Heap.get?_push_of_some _ (Heap.get?_push_of_some _ x)⟩
def IteK (K : Frag) (k : Bool) (a : Addr) : It :=
  ⟨fun i H => ∃ (xs : List V) (x : V), SqK K H k a xs ∧ xs[i]? = some x,
    fun i H v H' => ∃ T x, v = .ref T ∧ H T = none ∧ H' = upd H T (.tup [.int (i : Nat), x]) ∧ ∀ xs, SqK K H k a xs → xs[i]? = some x,
    fun i H => ∃ xs : List V, SqK K H k a xs ∧ i = xs.length⟩
theorem turn_enumK {P : Program} {w : World} {K : Frag} {elts : List Expr} {kk : Nat} {tpos : Pos} {k : Bool} {a e it : Addr} (hea : e ≠ a) :
    Turn P w K (.Tuple elts kk tpos) (IteK K k a) [e, it] e (fun i h => (∃ old, IsEnum h e it ((i : Nat) : Int) old) ∧ ItK h k it a i ∧ e ≠ it) where
  mem := List.mem_cons_self ..
  obj := fun i h st b hb => by
    obtain ⟨⟨old, he⟩, h1, _⟩ := st
    have cs : b = e ∨ b = it := by simpa using hb
    rcases cs with rfl | rfl
    · exact ⟨_, he, fun v q => nomatch q⟩
    · exact h1.obj
  keep := fun i h h' st kp => by
    obtain ⟨⟨old, he⟩, h1, ne⟩ := st
    exact ⟨⟨old, kp e (by simp) _ he⟩, h1.at fun o q => kp it (by simp) o q, ne⟩
  item := by
    intro X hP hw hK hc i pins s σ H E I hf st hg
    subst hP hw hK
    obtain ⟨⟨old, he⟩, h1, ne⟩ := st
    obtain ⟨xs, x, qa, hx⟩ := hg
    obtain ⟨its, ra, pa, _⟩ := inv_sqk I qa
    obtain ⟨u, hu, ru⟩ := ra.get hx
    have elt : e < s.heap.objs.size := Heap.lt_size he
    have hh : X.A.in1.handled = none := I.ok.hd hc
    have la : i < its.toArray.size := by
      rw [List.size_toArray]
      exact (List.getElem?_eq_some_iff.mp hu).1
    have nea : a ≠ it := fun z => by
      obtain ⟨o, e1, n, d1⟩ := isK_le pa
      rw [z] at e1
      cases k with
      | true => obtain ⟨o2, e2, _, d2⟩ := h1; rw [e1] at e2; cases e2; rw [d1] at d2; cases d2
      | false => obtain ⟨o2, e2, _, d2⟩ := h1; rw [e1] at e2; cases e2; rw [d1] at d2; cases d2
    have nin : e ∉ [it, a] := fun z => by
      have cs : e = it ∨ e = a := by simpa using z
      exact cs.elim ne hea
    refine wpAny_pyNext_enum_itemD (drawsK hh k it a nea its.toArray) he ⟨h1, pa⟩ la ne nin fun v1 h' tk e1 he' g1 hT hsz kp => ?_
    have q1 : v1 = u := Option.some.inj (e1.symm.trans (by simpa using hu))
    subst q1
    refine ⟨_, rfl, wpAny_letOwnedTupleGo_enum (s := { s with heap := h', toks := tk + 1 }) he' fun h'' he'' sb => ?_⟩
    have hT2 : h''.get? s.heap.objs.size = some { cls := .type "tuple", data := .seq #[.int i tk, v1] } := (sb.2 _ (Nat.ne_of_gt elt)).trans hT
    have fresh : ObjOk X.prog X.w (upd H s.heap.objs.size (.tup [.int (i : Nat), x])) h'' s.heap.objs.size (.tup [.int (i : Nat), x]) :=
      ⟨by show 2 ≤ sizeLine; decide, [.int i tk, v1], .cons ⟨_, rfl⟩ (.cons ru .nil), ⟨_, hT2, rfl, _, rfl⟩⟩
    have I1 : Inv X pins σ (upd H s.heap.objs.size (.tup [.int (i : Nat), x])) { s with heap := h'', toks := tk + 1 } :=
      I.turnedNew (ch := [e, it]) (fun c o hb q => (sb.2 c (fun z => hb (by simp [z]))).trans (kp c o (fun z => hb (by simp [z])) (fun z => hb (by simp [z])) q)) hf (Nat.le_refl _) fresh
    refine ⟨.ref s.heap.objs.size, _, I1, rfl, ⟨_, x, rfl, I.hok.fresh (Nat.le_refl _), rfl, fun m hm => by rw [sqk_inj I hm qa]; exact hx⟩, ⟨⟨v1, ?_⟩, g1.1.at fun o q => (sb.2 _ (Ne.symm ne)).trans q, ne⟩, fun c hcm => ?_⟩
    · have ei : ((i + 1 : Nat) : Int) = (i : Int) + 1 := by omega
      rw [ei]
      exact he''
    · have lt : c < s.heap.objs.size := by
        have cs : c = e ∨ c = it := by simpa using hcm
        rcases cs with rfl | rfl
        · exact elt
        · obtain ⟨o, q, _⟩ := h1.obj; exact Heap.lt_size q
      rw [upd_ne (Nat.ne_of_lt lt)]
      exact (hf c hcm).1
  done := by
    intro X hP hw hK hc i pins s σ H E I hf st hg
    subst hP hw hK
    obtain ⟨⟨old, he⟩, h1, ne⟩ := st
    obtain ⟨xs, qa, le⟩ := hg
    obtain ⟨its, ra, pa, _⟩ := inv_sqk I qa
    have hh : X.A.in1.handled = none := I.ok.hd hc
    have e1 := ra.length
    have nea : a ≠ it := fun z => by
      obtain ⟨o, e1, n, d1⟩ := isK_le pa
      rw [z] at e1
      cases k with
      | true => obtain ⟨o2, e2, _, d2⟩ := h1; rw [e1] at e2; cases e2; rw [d1] at d2; cases d2
      | false => obtain ⟨o2, e2, _, d2⟩ := h1; rw [e1] at e2; cases e2; rw [d1] at d2; cases d2
    have ei : i = its.toArray.size := by
      rw [List.size_toArray]
      omega
    subst ei
    obtain ⟨f0, f1, f2, f3, f4, f5⟩ := hf it (by simp)
    exact wpAny_pyNext_enum_endD (drawsK hh k it a nea its.toArray) he ⟨h1, pa⟩ fun h' eb => ⟨rfl, I.turned (t' := s.toks) (fun b o hb q => eb b o hb q) f0 f1 f3 f4 f5⟩
  self := fun A i s Q E st h => by
    obtain ⟨⟨_, he⟩, _⟩ := st
    exact wpAny_pyIter_enum he h
def iEnumK (K : Frag) (ta : TA) : TI := fun σ H R => ta σ H fun vs H1 => ∃ k a xs, vs = [.ref a] ∧ SqK K H1 k a xs ∧ R (IteK K k a) H1
theorem pi_enumK {X : Cx} {e : Expr} {ta : TA} {p pos tpos : Pos} {elts : List Expr} {kk : Nat} (hg : Gl X "enumerate") (hm : X.mg "enumerate" = none) (ha : PA X [e] ta)
    (hs : starEach [e] X.env = [(false, eval e X.env)] := by rfl) : PI X (.Tuple elts kk tpos) (.Call (.Name "enumerate" p) [e] [] pos) (iEnumK X.K ta) := by
  refine ⟨fun pins s σ H R I h => Call_ (ld_blt I hg hm boot_enumerate (PyProof.Rows.callWith_type1 (thn (ha.run pos pins s σ H _ I h) fun us s1 ⟨vs, H1, I1, r1, q1⟩ => ?_) hs rfl))⟩
  obtain ⟨k, a, xs, rfl, qa, q⟩ := q1
  cases r1 with
  | cons r rr =>
    cases rr
    cases r
    obtain ⟨its, ra, pa, la⟩ := inv_sqk I1 qa
    refine call_enum1 (beginsK k a its.toArray) pa fun h' he g1 kp => wpAny_pyIter_enum he ?_
    have I2 : Inv X pins σ H1 { s1 with heap := h' } := I1.kept (t' := s1.toks) kp
    refine ⟨s1.heap.objs.size + 1, [s1.heap.objs.size + 1, s1.heap.objs.size], _, _, H1, rfl, I2, turn_enumK (Nat.ne_of_gt (Nat.lt_succ_of_lt la)), ⟨⟨_, he⟩, itK_new g1, Nat.succ_ne_self _⟩, fun c hcm => ?_, q⟩
    have cs : c = s1.heap.objs.size + 1 ∨ c = s1.heap.objs.size := by simpa using hcm
    have le : s1.heap.objs.size ≤ c := by
      rcases cs with rfl | rfl
      · exact Nat.le_add_right _ _
      · exact Nat.le_refl _
    exact I1.fpOk le (I1.hok.fresh le)
theorem for_enumK {K : Frag} {k : Bool} {a : Addr} {xs : List V} {g : TG} {tb : TS} {D : Ends} {σ : L2.St} {H : Hp} (Pv : Nat → L2.St → Hp → Prop) (h0 : Pv 0 σ H) (hq : ∀ i σ H, Pv i σ H → SqK K H k a xs)
    (hs : ∀ i x T σ H, xs[i]? = some x → Pv i σ H → H T = none → g (.ref T) σ (upd H T (.tup [.int (i : Nat), x])) fun σ2 H2 => tb { D with nx := Pv (i + 1), ct := Pv (i + 1), bk := D.nx } σ2 H2) (hd : ∀ σ H, Pv xs.length σ H → D.nx σ H) :
    ∃ W : Nat → Nat → L2.St → Hp → Prop, (∃ m, W 0 m σ H) ∧ ∀ i m σ H, W i m σ H →
      ((IteK K k a).stop i H ∧ D.nx σ H) ∨ ((IteK K k a).go i H ∧ ∃ N : L2.St → Hp → Prop, (∀ σ' H', N σ' H' → ∃ m', m' < m ∧ W (i + 1) m' σ' H') ∧ ∀ x H', (IteK K k a).yld i H x H' → g x σ H' fun σ2 H2 => tb { D with nx := N, ct := N, bk := D.nx } σ2 H2) := by
  refine ⟨fun i m σ H => m = xs.length - i ∧ i ≤ xs.length ∧ Pv i σ H, ⟨_, rfl, Nat.zero_le _, h0⟩, ?_⟩
  rintro i m σ H ⟨rfl, hi, p⟩
  have qa := hq i σ H p
  by_cases lt : i < xs.length
  · have hx : xs[i]? = some xs[i] := List.getElem?_eq_getElem lt
    refine .inr ⟨⟨xs, _, qa, hx⟩, Pv (i + 1), fun σ' H' p' => ⟨xs.length - (i + 1), by omega, rfl, lt, p'⟩, fun v H' yl => ?_⟩
    obtain ⟨T, x, rfl, hT, rfl, e1⟩ := yl
    exact hs i x T σ H (e1 xs qa) p hT
  · have e : i = xs.length := by omega
    subst e
    exact .inl ⟨⟨xs, qa, rfl⟩, hd σ H p⟩

/-! ### powers -/
def CPowX (i j : Int) : Prop := 0 ≤ j ∧ (Builtin.Int.intBits i : Int) * j ≤ 2 ^ 27
theorem op_powX {X : Cx} : OpR X (binaryOp .Pow) (rI CPowX fun i j => .int (i ^ j.toNat)) := opI fun _ _ _ _ _ _ _ hc q => pow_int hc.1 hc.2 q

/-! ### a written dict of ints -/
def KDi (K : Frag) (a : Addr) (kvs : List (Int × V)) : Prop := ∃ (es : Array DictEntry) (n : Nat), K.lookup a = some ⟨.type "dict", none, .dict es n, #[]⟩ ∧ (a == sysModules) = false ∧
  Paired (fun (p : Int × V) (e : DictEntry) => Value.isInt p.1 e.key = true ∧ e.hash = hashInt p.1 ∧ RelV p.2 e.val) kvs es.toList
theorem kdi_find {kvs : List (Int × V)} : ∀ {es : List DictEntry}, Paired (fun (p : Int × V) (e : DictEntry) => Value.isInt p.1 e.key = true ∧ e.hash = hashInt p.1 ∧ RelV p.2 e.val) kvs es → ∀ i : Int,
    match kvs.lookup i with
    | some v => ∃ u, (es.find? fun d => Value.isInt i d.key).map (·.val) = some u ∧ RelV v u
    | none => (es.find? fun d => Value.isInt i d.key).map (·.val) = none := by
  induction kvs with
  | nil =>
    intro es h i
    cases h
    rfl
  | cons p kvs ih =>
    intro es h i
    cases h with
    | cons h1 h2 =>
      rename_i e es
      obtain ⟨k1, _, k3⟩ := h1
      obtain ⟨t, ek⟩ := Value.isInt_shape k1
      rw [List.lookup_cons, List.find?_cons, ek]
      by_cases q : i = p.1
      · subst q
        rw [beq_self_eq_true]
        have z : Value.isInt p.1 (.int p.1 t) = true := by rw [← ek]; exact k1
        rw [z]
        exact ⟨_, rfl, k3⟩
      · have z : Value.isInt i (.int p.1 t) = false := by
          cases hz : Value.isInt i (.int p.1 t) with
          | false => rfl
          | true =>
            obtain ⟨t2, e2⟩ := Value.isInt_shape hz
            injection e2 with e3 _
            exact absurd e3.symm q
        have z2 : (i == p.1) = false := beq_eq_false_iff_ne.mpr q
        rw [z, z2]
        exact ih h2 i
theorem kdi_keys {kvs : List (Int × V)} : ∀ {es : List DictEntry}, Paired (fun (p : Int × V) (e : DictEntry) => Value.isInt p.1 e.key = true ∧ e.hash = hashInt p.1 ∧ RelV p.2 e.val) kvs es → ∀ e ∈ es, ∃ i, Value.isInt i e.key = true ∧ e.hash = hashInt i := by
  induction kvs with
  | nil =>
    intro es h e he
    cases h
    cases he
  | cons p kvs ih =>
    intro es h e he
    cases h with
    | cons h1 h2 =>
      rcases List.mem_cons.mp he with rfl | he
      · exact ⟨p.1, h1.1, h1.2.1⟩
      · exact ih h2 e he
section
variable {X : Cx}
theorem kdi_map {kvs : List (Int × V)} {a : Addr} {h : Heap} (kin : X.K.In h) (d : KDi X.K a kvs) : ∃ f : Int → Option Value, h.MapOf (PySem.intKind X.prog X.w) a f ∧ (a == sysModules) = false ∧
    ∀ i, match kvs.lookup i with
      | some v => ∃ u, f i = some u ∧ RelV v u
      | none => f i = none := by
  obtain ⟨es, n, lk, low, pr⟩ := d
  refine ⟨fun i => findBy Value.isInt es i, ⟨_, es, n, kin _ _ lk, ⟨rfl, rfl, rfl⟩, rfl, fun e he => kdi_keys pr e (Array.mem_toList_iff.mpr he), fun _ => rfl⟩, low, fun i => ?_⟩
  have q := kdi_find pr i
  obtain ⟨l⟩ := es
  unfold findBy
  have key : ∀ g : DictEntry → Bool, Array.find? g (⟨l⟩ : Array DictEntry) = l.find? g := fun g => List.find?_toArray ..
  simp only [key]
  exact q
def rIxI (K : Frag) : R2 := fun x y H Q => ∃ p i v kvs, x = .ref p ∧ y = .int i ∧ KDi K p kvs ∧ kvs.lookup i = some v ∧ Q v H
theorem ix_kdi : IxR X (rIxI X.K) := by
  intro value slice pins s σ H x y v u Q I rx ry h hs
  obtain ⟨p, i, r, kvs, rfl, rfl, kd, lk, q⟩ := h
  obtain rfl : v = Value.ref p := rx
  obtain ⟨t, rfl⟩ := ry
  obtain ⟨f, hm, low, hf⟩ := kdi_map I.kIn kd
  have hi := hf i
  rw [lk] at hi
  obtain ⟨w, e, rw'⟩ := hi
  exact tail_any hm.typeIs slot_dict_getitem.lookup (wpAny_getItem_of (show (PySem.intKind X.prog X.w).is i (.int i t) = true by simp [PySem.intKind, Value.isInt]) hm e ⟨r, H, I.tok _, rw', q⟩) hs
def rInI (K : Frag) : R2 := fun x y H Q => ∃ p i kvs, x = .int i ∧ y = .ref p ∧ KDi K p kvs ∧ Q (.bl (kvs.lookup i).isSome) H
theorem op_inI : OpR X (compareOp .In) (rInI X.K) := by
  intro pins s σ H x y v u Q I rx ry h
  obtain ⟨p, i, kvs, rfl, rfl, kd, q⟩ := h
  obtain rfl : u = Value.ref p := ry
  obtain ⟨t, rfl⟩ := rx
  obtain ⟨f, hm, low, hf⟩ := kdi_map I.kIn kd
  have hi := hf i
  refine wpAny_in_of (show (PySem.intKind X.prog X.w).is i (.int i t) = true by simp [PySem.intKind, Value.isInt]) low hm ?_
  cases e : kvs.lookup i with
  | none =>
    rw [e] at hi q
    rw [hi]
    exact ⟨.bl _, H, I.tok _, rfl, q⟩
  | some r =>
    rw [e] at hi q
    obtain ⟨z, e2, _⟩ := hi
    rw [e2]
    exact ⟨.bl _, H, I.tok _, rfl, q⟩

/-! ### o.f as a target -/
def gAtt (K : Frag) (ta : TE) (f : Str) : TG := fun v σ H Q => ta σ H fun x H1 => ∃ a C dx fs, x = .ref a ∧ H1 a = some (.ins C dx fs) ∧ Cls K C ∧ NoAttr K C f ∧ fs.length < 1000 ∧ Q σ (upd H1 a (.ins C dx (putF f v fs)))
theorem pg_att {o : Expr} {ta : TE} {f : Str} {pos : Pos} (ho : PE X o ta)
    (ha : ∀ v, assign (.Attribute o f pos) X.env v = (do
      let ov ← holding [v] (eval o X.env)
      standAt pos
      holding [v, ov] (setAttr ov f v)
      release [v, ov] []) := by intro _; rfl) : PG X (.Attribute o f pos) (gAtt X.K ta f) := by
  refine ⟨fun pins s σ H v u Q I r h => ?_⟩
  rw [ha]
  refine wpAny_bind (wpAny_holding (thn (ho.run pins s σ H _ I h) fun ov s1 ⟨x, H1, I1, r1, a, C, dx, fs, ex, ea, c, n, l, q⟩ => ?_))
  subst ex
  obtain rfl : ov = Value.ref a := r1
  refine wpAny_bind (wpAny_standAt (wpAny_bind (wpAny_holding (setattr_ok I1 ea c n l r fun s2 I2 => ?_))))
  exact wpAny_release ⟨σ, _, I2, q⟩
end
end OB

set_option Elab.async false
set_option linter.all false
set_option maxRecDepth 100000
set_option maxHeartbeats 4000000
/-! OB, part e: a reading gone through step by step. -/
namespace OB
open PySem PySem.Spec PyProof.Rows L2 PySem.W
def rInt : List V → Hp → VK → Prop := fun xs H Q => (∃ i, xs = [.int i] ∧ Q (.int i) H) ∨ ∃ k, xs = [.bl k] ∧ Q (.int (if k then 1 else 0)) H
def rAbs : List V → Hp → VK → Prop := fun xs H Q => ∃ i, xs = [.int i] ∧ Q (.int (if i < 0 then -i else i)) H
def rMax2 : List V → Hp → VK → Prop := fun xs H Q => ∃ i j, xs = [.int i, .int j] ∧ Q (.int (if j > i then j else i)) H
def rMin2 : List V → Hp → VK → Prop := fun xs H Q => ∃ i j, xs = [.int i, .int j] ∧ Q (.int (if j < i then j else i)) H
def rLen (K : Frag) : List V → Hp → VK → Prop := fun xs H Q => ∃ p ys, xs = [.ref p] ∧ (SqL K H p ys ∨ SqT K H p ys) ∧ Q (.int ys.length) H
def rTuple (K : Frag) : List V → Hp → VK → Prop := fun xs H Q => ∃ p ys, xs = [.ref p] ∧ ((SqL K H p ys ∧ ∀ l, H l = none → Q (.ref l) (upd H l (.tup ys))) ∨ (SqT K H p ys ∧ Q (.ref p) H))
def rList (K : Frag) : List V → Hp → VK → Prop := fun xs H Q => ∃ p ys, xs = [.ref p] ∧ (SqL K H p ys ∨ SqT K H p ys) ∧ ∀ l, H l = none → Q (.ref l) (upd H l (.lst ys))
def rDivmod : List V → Hp → VK → Prop := fun xs H Q => ∃ i j, xs = [.int i, .int j] ∧ CDivP i j ∧ ∀ p, H p = none → Q (.ref p) (upd H p (.tup [.int (i / j), .int (i % j)]))
def rNewT (xs : List V) (H : Hp) (Q : VK) : Prop := xs.length ≤ sizeLine ∧ ∀ p, H p = none → Q (.ref p) (upd H p (.tup xs))
def rNewL (xs : List V) (H : Hp) (Q : VK) : Prop := xs.length ≤ sizeLine ∧ ∀ p, H p = none → Q (.ref p) (upd H p (.lst xs))
def rFld (K : Frag) (f : Str) (x : V) (H : Hp) (Q : VK) : Prop := ∃ a C dx fs v, x = .ref a ∧ H a = some (.ins C dx fs) ∧ Cls K C ∧ NoAttr K C f ∧ fs.lookup f = some v ∧ Q v H
def rPut (K : Frag) (f : Str) (v x : V) (H : Hp) (QH : Hp → Prop) : Prop := ∃ a C dx fs, x = .ref a ∧ H a = some (.ins C dx fs) ∧ Cls K C ∧ NoAttr K C f ∧ fs.length < 1000 ∧ QH (upd H a (.ins C dx (putF f v fs)))
section
variable {X : Cx}
theorem c_int : CallR X (.type "int") rInt := call_int1
theorem c_abs : CallR X (.builtin "abs") rAbs := call_abs
theorem c_max (hc : X.calm = true) : CallR X (.builtin "max") rMax2 := call_max2 hc
theorem c_min (hc : X.calm = true) : CallR X (.builtin "min") rMin2 := call_min2 hc
theorem c_len : CallR X (.builtin "len") (OB.rLen X.K) := call_len_seq
theorem c_tuple : CallR X (.type "tuple") (rTuple X.K) := call_tuple_of
theorem c_list : CallR X (.type "list") (rList X.K) := call_list_of
theorem c_divmod : CallR X (.builtin "divmod") rDivmod := call_divmodW
end
section
variable {K : Frag} {F : List (Addr × HO)} {G : List Ft} {σ : L2.St} {H : Hp} {Q : VK} {D : Ends} {v x y : V} {vs ws zs : List V} {i j n m : Nat} {a b c : Int} {p q : Bool} {P R : Prop}
  {ta tb tc te tv : TE} {t tk : TA} {tt u : TT} {t1 t2 : TS} {r r' : R2} {rc : List V → Hp → VK → Prop} {ru : V → Hp → VK → Prop} {rm : V → List V → Hp → VK → Prop} {sp : Sp} {E : XK} {ix : List Nat} {ad : Addr} {mn : Str} {T : String}
  {QB : Bool → Hp → Prop} {QL : List V → Hp → Prop} {QS : L2.St → Hp → Prop} {tg : TG} {tgs : TGs} {QI : It → Hp → Prop} {g : Int → Int → V} {C : Int → Int → Prop} {ds : List PyData} {d e : PyData}
/-! expressions -/
theorem g_start {ts : TS} {τ : L2.St} (e : τ = σ) (k : ts D σ H) : ts D τ H := e ▸ k
theorem g_var (h : σ[i]? = some (some v)) (k : Q v H) : tVar i σ H Q := ⟨v, h, k⟩
theorem g_c (k : Q v H) : tC v σ H Q := k
theorem g_op (k : ta σ H fun x H1 => tb σ H1 fun y H2 => r x y H2 Q) : tOp r ta tb σ H Q := k
theorem g_un (k : ta σ H fun x H1 => ru x H1 Q) : tUn ru ta σ H Q := k
theorem g_nil (k : QL [] H) : tNil σ H QL := k
theorem g_cons (k : ta σ H fun x H1 => t σ H1 fun xs H2 => QL (x :: xs) H2) : tCons ta t σ H QL := k
theorem g_cb (k : t σ H fun vs H1 => rc vs H1 Q) : tCB rc t σ H Q := k
theorem g_if (k : tt σ H fun c H1 => if c = true then ta σ H1 Q else tb σ H1 Q) : tIf tt ta tb σ H Q := k
theorem g_andV (k : ta σ H fun x H1 => ∃ c, x = .bl c ∧ if c = true then tb σ H1 Q else Q (.bl false) H1) : tAndV ta tb σ H Q := k
theorem g_orV (k : ta σ H fun x H1 => ∃ c, x = .bl c ∧ if c = true then Q (.bl true) H1 else tb σ H1 Q) : tOrV ta tb σ H Q := k
theorem g_notV (k : ta σ H fun x H1 => ∃ c, x = .bl c ∧ Q (.bl (!c)) H1) : tNotV ta σ H Q := k
theorem g_chain (k : ta σ H fun x H1 => tb σ H1 fun y H2 => r x y H2 fun z H3 => ∃ k, z = .bl k ∧ (if k = true then tc σ H3 fun w H4 => r' y w H4 Q else Q (.bl false) H3)) : tChain r r' ta tb tc σ H Q := k
theorem g_tup (k : t σ H fun xs H1 => rNewT xs H1 Q) : tTup t σ H Q := k
theorem g_lst (k : t σ H fun xs H1 => rNewL xs H1 Q) : tLst t σ H Q := k
theorem g_cg (k : t σ H fun vs H1 => tk σ H1 fun zs H2 => vs.length = n ∧ zs.length = m ∧ sp (pick ix (vs ++ zs)) H2 Q E) : tCg n m ix sp E t tk σ H Q := k
theorem g_mg (k : ta σ H fun x H1 => ∃ a dx fs, x = .ref a ∧ H1 a = some (.ins ad dx fs) ∧ fs.lookup mn = none ∧
  t σ H1 fun vs H2 => tk σ H2 fun zs H3 => (x :: vs).length = n ∧ zs.length = m ∧ sp (pick ix ((x :: vs) ++ zs)) H3 Q E) : tMg ad mn n m ix sp E ta t tk σ H Q := k
theorem g_kg (k : t σ H fun vs H1 => tk σ H1 fun zs H2 => vs.length + 1 = n ∧ zs.length = m ∧
  ∀ x dx, H2 x = none → H2 dx = none → dx ≠ x → sp (pick ix ((.ref x :: vs) ++ zs)) (upd (upd H2 dx (.own x)) x (.ins ad dx [])) (fun v H3 => v = .non ∧ Q (.ref x) H3) E) : tKg ad n m ix sp E t tk σ H Q := k
theorem g_pg (k : ta σ H fun y H1 => ∃ a dx fs, y = .ref a ∧ H1 a = some (.ins ad dx fs) ∧ sp [.ref a] H1 Q E) : tPg ad sp E ta σ H Q := k
theorem g_bm (k : ta σ H fun x H1 => tyV K T x H1 ∧ t σ H1 fun xs H2 => rm x xs H2 Q) : tBM K T rm ta t σ H Q := k
theorem g_bm0 (k : ta σ H fun x H1 => tyV K T x H1 ∧ rm x [] H1 Q) : tBM0 K T rm ta σ H Q := k
theorem g_fld {f : Str} (k : ta σ H fun x H1 => rFld K f x H1 Q) : tFld K ta f σ H Q := k
theorem g_sl {rs : V → Option Int → Option Int → Hp → VK → Prop} {tl th : TO} (k : te σ H fun x H1 => tl σ H1 fun l H2 => th σ H2 fun u H3 => rs x l u H3 Q) : tSl rs te tl th σ H Q := k
theorem g_nopart {QO : Option Int → Hp → Prop} (k : QO none H) : tNoPart σ H QO := k
theorem g_part {QO : Option Int → Hp → Prop} (k : te σ H fun x H1 => ∃ i, x = .int i ∧ QO (some i) H1) : tPart te σ H QO := k
theorem g_pint {a : Int} {f : Int → Prop} (k : f a) : ∃ i, V.int a = .int i ∧ f i := ⟨a, rfl, k⟩
theorem g_star (k : te σ H fun x H1 => ∃ p xs, x = V.ref p ∧ (SqT K H1 p xs ∨ SqL K H1 p xs) ∧ t σ H1 fun ys H2 => QL (xs ++ ys) H2) : StX.tStar K te t σ H QL := k
/-! tests -/
theorem g_test (k : te σ H fun x H' => ∃ k, x = .bl k ∧ QB k H') : tTest te σ H QB := k
theorem g_B (k : te σ H fun x H' => ∃ k, x = .bl k ∧ QB k H') : tB te σ H QB := k
theorem g_and (k : tt σ H fun c H1 => if c = true then u σ H1 QB else QB false H1) : tAnd tt u σ H QB := k
theorem g_or (k : tt σ H fun c H1 => if c = true then QB true H1 else u σ H1 QB) : tOr tt u σ H QB := k
theorem g_not (k : tt σ H fun c H1 => QB (!c) H1) : tNot tt σ H QB := k
theorem g_yes (k : QB true H) : tYes σ H QB := k
theorem g_bl (k : QB p H) : ∃ c, V.bl p = .bl c ∧ QB c H := ⟨p, rfl, k⟩
theorem g_blx {f : Bool → Prop} (k : f p) : ∃ c, V.bl p = .bl c ∧ f c := ⟨p, rfl, k⟩
/-! statements -/
theorem g_seq (k : t1 { D with nx := t2 D } σ H) : tSeq t1 t2 D σ H := k
theorem g_asg (k : te σ H fun x H1 => tg x σ H1 D.nx) : tAsg te tg D σ H := k
theorem g_name (k : QS (σ.set i (some v)) H) : gName i v σ H QS := k
theorem g_drop (k : te σ H fun _ H1 => D.nx σ H1) : tDrop te D σ H := k
theorem g_ret (k : te σ H D.rt) : tRet te D σ H := k
theorem g_retN (k : D.rt .non H) : tRetN D σ H := k
theorem g_ifS (k : tt σ H fun b H1 => if b = true then t1 D σ H1 else t2 D σ H1) : tIfS tt t1 t2 D σ H := k
theorem g_next (k : D.nx σ H) : tNext D σ H := k
theorem g_cont (k : D.ct σ H) : tCont D σ H := k
theorem g_break (k : D.bk σ H) : tBreak D σ H := k
theorem g_par (k : t σ H fun vs H1 => ∃ v w, vs = [v, w] ∧ D.nx ((σ.set i (some v)).set j (some w)) H1) : tPar i j t D σ H := k
theorem g_par2 {N : V → V → Prop} (k : N x y) : ∃ v w, [x, y] = [v, w] ∧ N v w := ⟨x, y, rfl, k⟩
theorem g_par3 {l : Nat} (k : t σ H fun vs H1 => ∃ u v w, vs = [u, v, w] ∧ D.nx (((σ.set i (some u)).set j (some v)).set l (some w)) H1) : tPar3 i j l t D σ H := k
theorem g_par33 {z : V} {N : V → V → V → Prop} (k : N x y z) : ∃ u v w, [x, y, z] = [u, v, w] ∧ N u v w := ⟨x, y, z, rfl, k⟩
theorem g_aug {ti : TIp} (h : σ[i]? = some (some v)) (k : te σ H fun y H1 => ti v y H1 fun z H2 => D.nx (σ.set i (some z)) H2) : tAug i te ti D σ H := ⟨v, h, k⟩
theorem g_gnil (k : QS σ H) : gNil [] σ H QS := ⟨rfl, k⟩
theorem g_gcons (k : tg v σ H fun σ' H' => tgs vs σ' H' QS) : gCons tg tgs (v :: vs) σ H QS := ⟨v, vs, rfl, k⟩
theorem g_nx {A B C : L2.St → Hp → Prop} {R : VK} (k : A σ H) : Ends.nx ⟨A, R, B, C⟩ σ H := k
theorem g_rt {A B C : L2.St → Hp → Prop} {R : VK} (k : R v H) : Ends.rt ⟨A, R, B, C⟩ v H := k
theorem g_bk {A B C : L2.St → Hp → Prop} {R : VK} (k : B σ H) : Ends.bk ⟨A, R, B, C⟩ σ H := k
theorem g_ct {A B C : L2.St → Hp → Prop} {R : VK} (k : C σ H) : Ends.ct ⟨A, R, B, C⟩ σ H := k
/-! operators by values -/
theorem g_I0 (k : Q (g a b) H) : rI0 g (.int a) (.int b) H Q := ⟨a, b, rfl, rfl, k⟩
theorem g_I (h : C a b) (k : Q (g a b) H) : rI C g (.int a) (.int b) H Q := ⟨a, b, rfl, rfl, h, k⟩
theorem g_U {f : Int → V} (k : Q (f a) H) : rU f (.int a) H Q := ⟨a, rfl, k⟩
theorem g_ipI {f : Int → Int → Int} (k : Q (.int (f a b)) H) : ipI f (.int a) (.int b) H Q := ⟨a, b, rfl, rfl, k⟩
theorem g_rAdd (k : Q (.int (a + b)) H) : L2.rAdd (.int a) (.int b) H Q := ⟨a, b, rfl, rfl, k⟩
theorem g_rSub (k : Q (.int (a - b)) H) : L2.rSub (.int a) (.int b) H Q := ⟨a, b, rfl, rfl, k⟩
theorem g_eqI (k : Q (.bl (decide (a = b))) H) : rEq (.int a) (.int b) H Q := ⟨rfl, by
  have e : decide (V.int a = V.int b) = decide (a = b) := by simp
  rw [e]
  exact k⟩
theorem g_neI (k : Q (.bl (decide (a ≠ b))) H) : rNe (.int a) (.int b) H Q := ⟨rfl, by
  have e : (!decide (V.int a = V.int b)) = decide (a ≠ b) := by simp
  rw [e]
  exact k⟩
theorem g_eqS {s z : Str} (k : Q (.bl (decide (s = z))) H) : rEq (.str s) (.str z) H Q := ⟨rfl, by
  have e : decide (V.str s = V.str z) = decide (s = z) := by simp
  rw [e]
  exact k⟩
theorem g_neS {s z : Str} (k : Q (.bl (decide (s ≠ z))) H) : rNe (.str s) (.str z) H Q := ⟨rfl, by
  have e : (!decide (V.str s = V.str z)) = decide (s ≠ z) := by simp
  rw [e]
  exact k⟩
theorem g_ite (h1 : p = true → P) (h2 : p = false → R) : if p = true then P else R := by
  cases p with
  | true => rw [if_pos rfl]; exact h1 rfl
  | false => rw [if_neg Bool.false_ne_true]; exact h2 rfl
theorem g_iteD {A : Prop} [Decidable A] (h1 : A → P) (h2 : ¬ A → R) : if decide A = true then P else R := by
  by_cases h : A
  · rw [if_pos (decide_eq_true h)]; exact h1 h
  · rw [if_neg (by rw [decide_eq_false h]; exact Bool.false_ne_true)]; exact h2 h
theorem g_T (h : p = true) (k : P) : if p = true then P else R := by rw [if_pos h]; exact k
theorem g_F (h : p = false) (k : R) : if p = true then P else R := by rw [if_neg (by rw [h]; exact Bool.false_ne_true)]; exact k
theorem g_TD {A : Prop} [Decidable A] (h : A) (k : P) : if decide A = true then P else R := g_T (decide_eq_true h) k
theorem g_FD {A : Prop} [Decidable A] (h : ¬ A) (k : R) : if decide A = true then P else R := g_F (decide_eq_false h) k
theorem g_tt (k : P) : if true = true then P else R := g_T rfl k
theorem g_ff (k : R) : if false = true then P else R := g_F rfl k
/-! built-in functions by values -/
theorem g_int (k : Q (.int a) H) : rInt [.int a] H Q := .inl ⟨a, rfl, k⟩
theorem g_intB (k : Q (.int (if p then 1 else 0)) H) : rInt [.bl p] H Q := .inr ⟨p, rfl, k⟩
theorem g_abs (k : Q (.int (if a < 0 then -a else a)) H) : rAbs [.int a] H Q := ⟨a, rfl, k⟩
theorem g_max (k : Q (.int (if b > a then b else a)) H) : rMax2 [.int a, .int b] H Q := ⟨a, b, rfl, k⟩
theorem g_min (k : Q (.int (if b < a then b else a)) H) : rMin2 [.int a, .int b] H Q := ⟨a, b, rfl, k⟩
theorem g_lenL {l : Addr} (h : SqL K H l vs) (k : Q (.int vs.length) H) : OB.rLen K [.ref l] H Q := ⟨l, vs, rfl, .inl h, k⟩
theorem g_lenT {l : Addr} (h : SqT K H l vs) (k : Q (.int vs.length) H) : OB.rLen K [.ref l] H Q := ⟨l, vs, rfl, .inr h, k⟩
theorem g_divmod (S : Sy K F G H) (h : CDivP a b) (k : ∀ p H', H p = none → Sy K F (.dat [.ref p] [.tuple [.int (a / b), .int (a % b)]] :: G) H' → Q (.ref p) H') : rDivmod [.int a, .int b] H Q :=
  ⟨a, b, rfl, h, fun p hp => k p _ hp (S.lay hp (.cons (.int _) (.cons (.int _) .nil)) rfl)⟩
/-! what stands -/
theorem g_ixL {l : Addr} (h : SqL K H l vs) (e : atI vs a = some v) (k : Q v H) : rIxL K (.ref l) (.int a) H Q := ⟨l, vs, a, v, rfl, rfl, h, e, k⟩
theorem g_ixT {l : Addr} (h : SqT K H l vs) (e : atI vs a = some v) (k : Q v H) : rIxT K (.ref l) (.int a) H Q := ⟨l, vs, a, v, rfl, rfl, h, e, k⟩
theorem g_setL {l : Addr} {QH : Hp → Prop} (h : H l = some (.lst vs)) (e : ixN vs.length a = some j) (k : QH (upd H l (.lst (vs.set j v)))) : rSetL (.ref l) (.int a) v H QH := ⟨l, vs, a, j, rfl, rfl, h, e, k⟩
theorem g_gsub {ts : TSet} {to ti : TE} (k : to σ H fun o H1 => ti σ H1 fun i H2 => ts o i v H2 fun H3 => QS σ H3) : gSub to ti ts v σ H QS := k
/-- a new tuple of data -/
theorem g_newT (S : Sy K F G H) (hd : DpAll K H vs ds) (hi : immAll ds = true) (hl : vs.length ≤ 100000) (k : ∀ p H', H p = none → Sy K F (.dat [.ref p] [.tuple ds] :: G) H' → Q (.ref p) H') :
    rNewT vs H Q :=
  ⟨Nat.le_trans hl (by decide), fun p hp => k p _ hp (S.lay hp hd hi)⟩
/-- a new list -/
theorem g_newL (S : Sy K F G H) (hl : vs.length ≤ 100000) (k : ∀ p H', H p = none → Sy K ((p, .lst vs) :: F) G H' → Q (.ref p) H') :
    rNewL vs H Q :=
  ⟨Nat.le_trans hl (by decide), fun p hp => k p _ hp (S.push hp)⟩
/-- a call -/
theorem g_call (h1 : vs.length = n) (h2 : zs.length = m) (k : sp (pick ix (vs ++ zs)) H Q E) : vs.length = n ∧ zs.length = m ∧ sp (pick ix (vs ++ zs)) H Q E := ⟨h1, h2, k⟩
/-- data unpacked -/
theorem g_unp {l : Addr} (S : Sy K F G H) (h : Dp K H (.ref l) (.tuple ds)) (m : immAll ds = true) (hl : ds.length = n) (k : ∀ xs, DpAll K H xs ds → Sy K F (.dat xs ds :: G) H → tgs xs σ H QS) : gTup K n tgs (.ref l) σ H QS := by
  obtain ⟨a, xs, e, h1, h2⟩ := dp_tuple h
  cases e
  exact ⟨l, xs, rfl, h1, (dps_length h2).trans hl, k xs h2 (S.fact h2 m)⟩
theorem g_unpT {l : Addr} (h : SqT K H l vs) (hl : vs.length = n) (k : tgs vs σ H QS) : gTup K n tgs (.ref l) σ H QS := ⟨l, vs, rfl, h, hl, k⟩
/-- a pair that an iterator has just made -/
theorem g_pair {l : Addr} (S : Sy K F G H) (hl : H l = none) (k : ∀ H', Sy K F (.tq l [x, y] :: G) H' → tgs [x, y] σ H' QS) : gTup K 2 tgs (.ref l) σ (upd H l (.tup [x, y])) QS :=
  g_unpT (.inl (.inl upd_same)) rfl (k _ ((S.over hl).add (.tq l [x, y]) (.inl (.inl upd_same))))
theorem g_neN {a b : Nat} (h : a = b) (k : R) : if decide ((a : Int) ≠ (b : Int)) = true then P else R := g_FD (fun z => z (by rw [h])) k
theorem g_neN' {a : Nat} {c : Int} (h : (a : Int) = c) (k : R) : if decide ((a : Int) ≠ c) = true then P else R := g_FD (fun z => z h) k
/-- append, extend -/
theorem g_app {l : Addr} (h : H l = some (.lst vs)) (hl : vs.length < 100000) (k : Q .non (upd H l (.lst (vs ++ [v])))) : rAppend (.ref l) [v] H Q := ⟨l, vs, v, rfl, rfl, h, Nat.lt_of_lt_of_le hl (by decide), k⟩
theorem g_ext {l o : Addr} (h : H l = some (.lst vs)) (h2 : H o = some (.lst ws)) (hl : vs.length + ws.length ≤ 100000) (k : Q .non (upd H l (.lst (vs ++ ws)))) : rExtend (.ref l) [.ref o] H Q := ⟨l, o, vs, ws, rfl, rfl, h, h2, Nat.le_trans hl (by decide), k⟩
/-- the same, what stands carried on -/
theorem g_setLS {l : Addr} {QH : Hp → Prop} {f : Nat} (S : Sy K F G H) (h : F[f]? = some (l, .lst vs)) (e : ixN vs.length a = some j) (k : ∀ H', Sy K (F.set f (l, .lst (vs.set j v))) G H' → (F.set f (l, .lst (vs.set j v)))[f]? = some (l, .lst (vs.set j v)) → QH H') : rSetL (.ref l) (.int a) v H QH :=
  g_setL (S.at f h) e (k _ (S.put f h rfl) (List.getElem?_set_self (List.getElem?_eq_some_iff.mp h).1))
theorem g_appS {l : Addr} {f : Nat} (S : Sy K F G H) (h : F[f]? = some (l, .lst vs)) (hl : vs.length < 100000) (k : ∀ H', Sy K (F.set f (l, .lst (vs ++ [v]))) G H' → Q .non H') : rAppend (.ref l) [v] H Q :=
  g_app (S.at f h) hl (k _ (S.put f h rfl))
theorem g_extS {l o : Addr} {f : Nat} (S : Sy K F G H) (h : F[f]? = some (l, .lst vs)) (h2 : H o = some (.lst ws)) (hl : vs.length + ws.length ≤ 100000) (k : ∀ H', Sy K (F.set f (l, .lst (vs ++ ws))) G H' → Q .non H') : rExtend (.ref l) [.ref o] H Q :=
  g_ext (S.at f h) h2 hl (k _ (S.put f h rfl))
theorem g_fldS {l : Addr} {f : Str} {C dx : Addr} {fs : List (Str × V)} (h : H l = some (.ins C dx fs)) (c : Cls K C) (n : NoAttr K C f) (e : fs.lookup f = some v) (k : Q v H) :
    rFld K f (.ref l) H Q := ⟨l, C, dx, fs, v, rfl, h, c, n, e, k⟩
theorem g_att {f : Str} (k : ta σ H fun x H1 => rPut K f v x H1 fun H2 => QS σ H2) : gAtt K ta f v σ H QS := k
theorem g_sfld {f : Str} (k : tv σ H fun y H1 => ta σ H1 fun x H2 => rPut K f y x H2 fun H3 => D.nx σ H3) : sFld K ta tv f D σ H := k
theorem g_attS {l : Addr} {f : Str} {C dx : Addr} {fs : List (Str × V)} {i : Nat} {QH : Hp → Prop} (S : Sy K F G H) (h : F[i]? = some (l, .ins C dx fs)) (c : Cls K C) (n : NoAttr K C f) (hl : fs.length < 1000) (k : ∀ H', Sy K (F.set i (l, .ins C dx (putF f v fs))) G H' → (F.set i (l, .ins C dx (putF f v fs)))[i]? = some (l, .ins C dx (putF f v fs)) → QH H') :
    rPut K f v (.ref l) H QH :=
  ⟨l, C, dx, fs, rfl, S.at i h, c, n, hl, k _ (S.put i h rfl) (List.getElem?_set_self (List.getElem?_eq_some_iff.mp h).1)⟩
def rAugE (C a : Addr) (f : Str) (z : V) (H : Hp) (QH : Hp → Prop) : Prop := ∃ dx' fs', H a = some (.ins C dx' fs') ∧ fs'.length < 1000 ∧ QH (upd H a (.ins C dx' (putF f z fs')))
def rAugF (K : Frag) (f : Str) (x : V) (H : Hp) (R : Addr → Addr → V → Prop) : Prop := ∃ a C dx fs v, x = .ref a ∧ H a = some (.ins C dx fs) ∧ Cls K C ∧ NoAttr K C f ∧ fs.lookup f = some v ∧ R C a v
theorem g_faug {f : Str} {ta tv : TE} {rd : V → V → Hp → VK → Prop} (k : ta σ H fun x H1 => rAugF K f x H1 fun C a v => tv σ H1 fun y H2 => rd v y H2 fun z H3 => rAugE C a f z H3 fun H4 => D.nx σ H4) : sFldAug K ta tv rd f D σ H := k
theorem g_augS {l : Addr} {f : Str} {C dx : Addr} {fs : List (Str × V)} {R : Addr → Addr → V → Prop} (h : H l = some (.ins C dx fs)) (c : Cls K C) (n : NoAttr K C f) (e : fs.lookup f = some v) (k : R C l v) : rAugF K f (.ref l) H R := ⟨l, C, dx, fs, v, rfl, h, c, n, e, k⟩
theorem g_augE {l : Addr} {f : Str} {C dx : Addr} {fs : List (Str × V)} {i : Nat} {QH : Hp → Prop} (S : Sy K F G H) (h : F[i]? = some (l, .ins C dx fs)) (hl : fs.length < 1000) (k : ∀ H', Sy K (F.set i (l, .ins C dx (putF f v fs))) G H' → (F.set i (l, .ins C dx (putF f v fs)))[i]? = some (l, .ins C dx (putF f v fs)) → QH H') : rAugE C l f v H QH :=
  ⟨dx, fs, S.at i h, hl, k _ (S.put i h rfl) (List.getElem?_set_self (List.getElem?_eq_some_iff.mp h).1)⟩
theorem g_tyl {l : Addr} (h : SqL K H l vs) (k : P) : tyV K "list" (.ref l) H ∧ P := ⟨.inl ⟨rfl, _, h⟩, k⟩
theorem g_tup0 {l : Addr} (S : Sy K F G H) (h : SqL K H l vs) (hd : DpAll K H vs ds) (hi : immAll ds = true) (k : ∀ p H', H p = none → Sy K F (.dat [.ref p] [.tuple ds] :: G) H' → Q (.ref p) H') :
    rTuple K [.ref l] H Q :=
  ⟨l, vs, rfl, .inl ⟨h, fun p hp => k p _ hp (S.lay hp hd hi)⟩⟩
theorem g_sum {l : Addr} {ns : List Int} (h : SqL K H l (ns.map V.int)) (k : Q (.int ns.sum) H) : rSum K [.ref l] H Q := ⟨l, ns, rfl, h, k⟩
theorem g_all {l : Addr} {bs : List Bool} (h : SqL K H l (bs.map V.bl)) (k : Q (.bl (bs.all id)) H) : rAll K [.ref l] H Q := ⟨l, bs, rfl, h, k⟩
theorem g_repr (h : Dp K H v d) (s : d.showable = true) (hn : d.hasDict = false) (hd : d.depth ≤ 60) (hl : d.shown.length ≤ sizeLine) (k : Q (.str d.shown) H) : rRepr K [v] H Q := ⟨v, d, rfl, h, s, hn, hd, hl, k⟩
end
/-! any subscript -/
def rIxU (K : Frag) : R2 := fun x y H Q => rIxL K x y H Q ∨ rIxT K x y H Q ∨ rIxI K x y H Q ∨ rIxS x y H Q
theorem ix_U {X : Cx} : IxR X (rIxU X.K) := by
  intro value slice pins s σ H x y v u Q I rx ry h hs
  rcases h with h | h | h | h
  · exact ix_list value slice pins s σ H x y v u Q I rx ry h hs
  · exact ix_tup value slice pins s σ H x y v u Q I rx ry h hs
  · exact ix_kdi value slice pins s σ H x y v u Q I rx ry h hs
  · exact ix_str value slice pins s σ H x y v u Q I rx ry h hs
/-- any slice -/
def rSlU (K : Frag) : V → Option Int → Option Int → Hp → VK → Prop := fun x lo hi H Q => rSlA K x lo hi H Q ∨ rSlL K x lo hi H Q
theorem sl_U {X : Cx} : SlR X (rSlU X.K) := by
  intro pins s σ H x v vl vu lo hi sl Q I rx hs pl pu h
  rcases h with h | h
  · exact sl_tupA pins s σ H x v vl vu lo hi sl Q I rx hs pl pu h
  · exact sl_list pins s σ H x v vl vu lo hi sl Q I rx hs pl pu h
theorem pg_tupK {X : Cx} {K : Frag} (hK : X.K = K) {es : List Expr} {k pos : _} {t : TGs} {n : Nat} (hc : X.calm = true) (h : PGs X es t)
    (hn : (assignEach es X.env).length = n := by rfl) (hst : (assignEach es X.env).findIdx? (·.1) = none := by rfl) : PG X (.Tuple es k pos) (gTup K n t) := hK ▸ pg_tup hc h hn hst
theorem ix_UK {X : Cx} {K : Frag} (h : X.K = K) : IxR X (rIxU K) := h ▸ ix_U
theorem sl_UK {X : Cx} {K : Frag} (h : X.K = K) : SlR X (rSlU K) := h ▸ sl_U
theorem toK {X : Cx} {K : Frag} {f : Value} {r : Frag → List V → Hp → VK → Prop} (h : X.K = K) (c : CallR X f (r X.K)) : CallR X f (r K) := h ▸ c
section
variable {K : Frag} {F : List (Addr × HO)} {G : List Ft} {H : Hp} {Q : VK} {vs : List V} {v : V} {a : Int} {l : Addr}
theorem g_ixUL (h : SqL K H l vs) (e : atI vs a = some v) (k : Q v H) : rIxU K (.ref l) (.int a) H Q := .inl (g_ixL h e k)
theorem g_ixUT (h : SqT K H l vs) (e : atI vs a = some v) (k : Q v H) : rIxU K (.ref l) (.int a) H Q := .inr (.inl (g_ixT h e k))
theorem g_ixUI {kvs : List (Int × V)} (h : KDi K l kvs) (e : kvs.lookup a = some v) (k : Q v H) : rIxU K (.ref l) (.int a) H Q := .inr (.inr (.inl ⟨l, a, v, kvs, rfl, rfl, h, e, k⟩))
theorem g_slT {lo hi : Option Int} {ys : List V} (S : Sy K F G H) (h : SqT K H l vs) (hw : Nat.beq (HT.sIx vs.length 0 lo) 0 = false) (e : cutV vs lo hi = ys) (k : ∀ p H', Sy K F (.tq p ys :: G) H' → Q (.ref p) H') : rSlU K (.ref l) lo hi H Q := by
  subst e
  refine .inl ⟨l, vs, rfl, h, fun z => ?_, fun _ p hp => k p _ ((S.over hp).add (.tq p _) (.inl (.inl upd_same)))⟩
  rw [z.1] at hw
  exact Bool.noConfusion hw
theorem atI_nn {α : Type} {xs : List α} {i : Int} {x : α} (h0 : 0 ≤ i) (h : xs[i.toNat]? = some x) : atI xs i = some x := by
  have hl := (List.getElem?_eq_some_iff.mp h).1
  unfold atI ixN
  rw [if_pos h0, if_pos (by omega)]
  exact h
theorem atI_ints {ns : List Int} {i : Int} (h0 : 0 ≤ i) (h1 : i < ns.length) : ∃ n, n ∈ ns ∧ atI (ns.map V.int) i = some (.int n) := by
  have hl : i.toNat < ns.length := by omega
  refine ⟨ns[i.toNat], List.getElem_mem hl, atI_nn h0 ?_⟩
  rw [List.getElem?_map, List.getElem?_eq_getElem hl]
  rfl
theorem cpow_ok {i j : Int} {a : Nat} (h : i.natAbs < 2 ^ a) (h0 : 0 ≤ j) (h1 : (a : Int) * j ≤ 2 ^ 27) : CPowX i j :=
  ⟨h0, Int.le_trans (Int.mul_le_mul_of_nonneg_right (Int.ofNat_le.mpr (PyProof.Rows.intBits_le h)) h0) h1⟩
theorem cdiv_ok {i j : Int} (h : 0 < j) (h2 : j < 2 ^ 64) : CDivW i j := wide_div (b := 64) h (by omega) (by decide) (by decide)
end
/-! isinstance -/
section
variable {K : Frag} {H : Hp} {Q : VK}
theorem cdivp_ok {i j : Int} (h : 0 < j) (h0 : 0 ≤ i) (h1 : i < 2 ^ 200) : CDivP i j :=
  divp_ok h (Nat.le_trans (PyProof.Rows.intBits_le (k := 200) (by omega)) (by omega))
theorem isi_int {a : Int} (k : Q (.bl true) H) : rIsi K [.int a, .ty "int"] H Q := ⟨_, _, _, _, true, rfl, .ty "int", .base (.int a), kit_ty (by decide +kernel), k⟩
theorem isi_intB {a : Int} (k : Q (.bl false) H) : rIsi K [.int a, .ty "bool"] H Q := ⟨_, _, _, _, false, rfl, .ty "bool", .base (.int a), kit_ty (by decide +kernel), k⟩
theorem isi_tup {l : Addr} {xs : List V} (h : SqT K H l xs) (k : Q (.bl true) H) : rIsi K [.ref l, .ty "tuple"] H Q := by
  refine ⟨_, _, .type "tuple", _, true, rfl, .ty "tuple", ?_, kit_ty (by decide +kernel), k⟩
  rcases h with (h | ⟨o, h⟩) | ⟨o, its, n, e, c, _⟩
  · exact .base (.tup h)
  · exact .fTuple h
  · exact .kTuple e c
end
end OB

set_option Elab.async false
set_option linter.all false
set_option maxRecDepth 100000
set_option maxHeartbeats 4000000
/-! OB, part f: how long the text of data is. -/
namespace OB
open PySem PySem.Spec PyProof.Rows L2 PySem.W
/-- its text has at most n signs, it is at most k deep -/
structure Small (n k : Nat) (d : PyData) : Prop where
  sh : d.showable = true
  nd : d.hasDict = false
  dp : d.depth ≤ k
  ln : d.shown.length ≤ n
structure SmallL (n k : Nat) (xs : List PyData) : Prop where
  sh : PyData.showableAll xs = true
  nd : PyData.hasDictAll xs = false
  dp : PyData.depthAll xs ≤ k
  ln : ((PyData.shownAll xs).map (·.length)).sum + 2 * xs.length ≤ n
theorem Small.mono {n k m j : Nat} {d : PyData} (h : Small n k d) (h1 : n ≤ m) (h2 : k ≤ j) : Small m j d := ⟨h.sh, h.nd, Nat.le_trans h.dp h2, Nat.le_trans h.ln h1⟩
theorem SmallL.mono {n k m j : Nat} {d : List PyData} (h : SmallL n k d) (h1 : n ≤ m) (h2 : k ≤ j) : SmallL m j d := ⟨h.sh, h.nd, Nat.le_trans h.dp h2, Nat.le_trans h.ln h1⟩
theorem Small.int {i : Int} (h : i.natAbs < 10 ^ 60) : Small 61 0 (.int i) := by
  have h2 : i.natAbs < 2 ^ 200 := Nat.lt_of_lt_of_le h (by decide)
  refine ⟨decide_eq_true ?_, rfl, Nat.le_refl _, ?_⟩
  · have q := PySem.Flt.log2_lt_of (k := 200) (by decide) h2
    omega
  · show (Str.ofString (toString i)).length ≤ 61
    rw [PySem.ofString_length]
    exact int_text_length_le10 (k := 60) (by decide) h
theorem Small.non : Small 4 0 .none := ⟨rfl, rfl, Nat.le_refl _, by decide +kernel⟩
theorem Small.bl {b : Bool} : Small 5 0 (.bool b) := ⟨rfl, rfl, Nat.le_refl _, by cases b <;> decide +kernel⟩
theorem Small.str {x : Str} {n : Nat} (h : (reprText x).length ≤ n) : Small n 0 (.str x) := ⟨rfl, rfl, Nat.le_refl _, h⟩
theorem SmallL.nil {k : Nat} : SmallL 0 k [] := ⟨rfl, rfl, Nat.zero_le _, Nat.le_refl _⟩
theorem SmallL.cons {n m k : Nat} {x : PyData} {xs : List PyData} (h : Small n k x) (t : SmallL m k xs) : SmallL (n + 2 + m) k (x :: xs) := by
  refine ⟨?_, ?_, ?_, ?_⟩
  · show (PyData.showable x && PyData.showableAll xs) = true
    rw [h.sh, t.sh]; rfl
  · show (PyData.hasDict x || PyData.hasDictAll xs) = false
    rw [h.nd, t.nd]; rfl
  · exact Nat.max_le.mpr ⟨h.dp, t.dp⟩
  · have h1 := h.ln
    have h2 := t.ln
    show (x.shown.length + ((PyData.shownAll xs).map (·.length)).sum) + 2 * (xs.length + 1) ≤ _
    omega
theorem SmallL.all {n k : Nat} : ∀ {xs : List PyData}, (∀ x ∈ xs, Small n k x) → SmallL ((n + 2) * xs.length) k xs
  | [], _ => SmallL.nil
  | x :: xs, h => by
    have q := SmallL.cons (h x (List.mem_cons_self ..)) (SmallL.all fun y hy => h y (List.mem_cons_of_mem _ hy))
    refine q.mono ?_ (Nat.le_refl _)
    rw [List.length_cons, Nat.mul_succ]
    omega
theorem shownAll_length : ∀ xs : List PyData, (PyData.shownAll xs).length = xs.length
  | [] => rfl
  | x :: xs => by
    show (PyData.shownAll xs).length + 1 = xs.length + 1
    rw [shownAll_length xs]
theorem Small.tup {n k : Nat} {xs : List PyData} (h : SmallL n k xs) : Small (n + 3) (k + 1) (.tuple xs) := by
  refine ⟨h.sh, h.nd, Nat.succ_le_succ h.dp, ?_⟩
  have q := tupleText_len_le (PyData.shownAll xs)
  have l := h.ln
  rw [shownAll_length] at q
  show (tupleText (PyData.shownAll xs)).length ≤ _
  omega
theorem Small.lst {n k : Nat} {xs : List PyData} (h : SmallL n k xs) : Small (n + 3) (k + 1) (.list xs) := by
  refine ⟨h.sh, h.nd, Nat.succ_le_succ h.dp, ?_⟩
  have q := listText_len_le (PyData.shownAll xs)
  have l := h.ln
  rw [shownAll_length] at q
  show (listText (PyData.shownAll xs)).length ≤ _
  omega
theorem Small.up {n k : Nat} {d : PyData} (h : Small n k d) : Small n (k + 1) d := h.mono (Nat.le_refl _) (Nat.le_succ _)
theorem g_reprS {K : Frag} {H : Hp} {Q : VK} {v : V} {d : PyData} {n k : Nat} (h : Dp K H v d) (s : Small n k d) (hn : n ≤ 16777216) (hk : k ≤ 60) (q : Q (.str d.shown) H) : rRepr K [v] H Q :=
  g_repr h s.sh s.nd (Nat.le_trans s.dp hk) (Nat.le_trans s.ln hn) q
/-! ### scalars -/
def toV : PyData → V
  | .none => .non
  | .bool b => .bl b
  | .int i => .int i
  | .str x => .str x
  | _ => .non
def scal1 : PyData → Bool
  | .none | .bool _ | .int _ | .str _ => true
  | _ => false
theorem dp_scal {K : Frag} {H : Hp} {v : V} {d : PyData} (h : Dp K H v d) (s : scal1 d = true) : v = toV d := by
  cases h with
  | non => rfl
  | bl b => rfl
  | int i => rfl
  | str x => rfl
  | lst _ _ => cases s
  | tup _ _ => cases s
theorem dps_scal {K : Frag} {H : Hp} : ∀ {ds : List PyData} {vs : List V}, DpAll K H vs ds → (∀ d ∈ ds, scal1 d = true) → vs = ds.map toV
  | [], _, h, _ => by cases h; rfl
  | d :: ds, _, h, s => by
    cases h with
    | cons h1 h2 =>
      rw [dp_scal h1 (s d (List.mem_cons_self ..)), dps_scal h2 fun e he => s e (List.mem_cons_of_mem _ he)]
      rfl
theorem scal_dp {K : Frag} {H : Hp} {d : PyData} (s : scal1 d = true) : Dp K H (toV d) d := by
  cases d with
  | none => exact .non
  | bool b => exact .bl b
  | int i => exact .int i
  | str x => exact .str x
  | _ => cases s
theorem sqt_scal {K : Frag} {H : Hp} {p : Addr} {ds : List PyData} (h : Dp K H (.ref p) (.tuple ds)) (s : ∀ d ∈ ds, scal1 d = true) : SqT K H p (ds.map toV) := by
  obtain ⟨a, xs, e, h1, h2⟩ := dp_tuple h
  cases e
  rw [← dps_scal h2 s]
  exact h1
inductive ScL : List PyData → List V → Prop where
  | nil : ScL [] []
  | int {i : Int} {ds : List PyData} {vs : List V} : ScL ds vs → ScL (.int i :: ds) (.int i :: vs)
  | str {i : Str} {ds : List PyData} {vs : List V} : ScL ds vs → ScL (.str i :: ds) (.str i :: vs)
  | bl {i : Bool} {ds : List PyData} {vs : List V} : ScL ds vs → ScL (.bool i :: ds) (.bl i :: vs)
  | non {ds : List PyData} {vs : List V} : ScL ds vs → ScL (.none :: ds) (.non :: vs)
theorem ScL.sc {ds : List PyData} {vs : List V} (h : ScL ds vs) : (∀ d ∈ ds, scal1 d = true) ∧ vs = ds.map toV := by
  induction h with
  | nil => exact ⟨fun d hd => (nomatch hd), rfl⟩
  | int _ ih | str _ ih | bl _ ih | non _ ih =>
    refine ⟨fun d hd => ?_, by rw [ih.2]; rfl⟩
    rcases List.mem_cons.mp hd with rfl | hd
    · rfl
    · exact ih.1 d hd
theorem g_unpD {K : Frag} {H : Hp} {n : Nat} {tgs : TGs} {σ : L2.St} {QS : L2.St → Hp → Prop} {l : Addr} {ds : List PyData} {ws : List V} (h : Dp K H (.ref l) (.tuple ds)) (s : ScL ds ws) (hl : ds.length = n) (k : tgs ws σ H QS) : gTup K n tgs (.ref l) σ H QS := by
  obtain ⟨h1, rfl⟩ := s.sc
  exact g_unpT (sqt_scal h h1) (by rw [List.length_map]; exact hl) k
theorem g_ne {α : Type} {x : α} [Decidable (x ≠ x)] {P R : Prop} (k : R) : if decide (x ≠ x) = true then P else R := g_FD (fun h => h rfl) k
theorem dp_at {K : Frag} {H : Hp} {v : V} {ds : List PyData} (h : Dp K H v (.tuple ds)) : ∃ a xs, v = .ref a ∧ SqT K H a xs ∧ DpAll K H xs ds := dp_tuple h
end OB

set_option Elab.async false
set_option linter.all false
set_option maxRecDepth 100000
set_option maxHeartbeats 4000000
/-! OB, part g: comprehensions and loops by what is known. -/
namespace OB
open PySem PySem.Spec PyProof.Rows L2 PySem.W
section
variable {K : Frag} {G : List Ft} {σ : L2.St} {H : Hp} {Q : VK} {D : Ends} {P R : Prop} {A : Prop} [Decidable A]
theorem g_nT (h : ¬ A) (k : P) : if (!decide A) = true then P else R := g_T (by rw [decide_eq_false h]; rfl) k
theorem g_nF (h : A) (k : R) : if (!decide A) = true then P else R := g_F (by rw [decide_eq_true h]; rfl) k
theorem g_ntt (k : R) : if (!true) = true then P else R := g_F rfl k
theorem g_nff (k : P) : if (!false) = true then P else R := g_T rfl k
/-! a list comprehension: I tells of (turn, what stands, the data so far) -/
/-- one turn -/
abbrev Turn1 (K : Frag) (G : List Ft) (I : Nat → List (Addr × HO) → List PyData → Prop) (σ : L2.St) (own : List Nat) (g : TG) (tt : TT) (te : TE) (i : Nat) (x : V) : Prop :=
  ∀ (Dp : Addr) (H : Hp) (F : List (Addr × HO)) (vs : List V) (ds : List PyData) (QE : VK) (QR : Hp → Prop), I i F ds → Sy K ((Dp, .lst vs) :: F) (.dat vs ds :: G) H →
    (∀ y d F' H', I (i + 1) F' (ds ++ [d]) → Sy K ((Dp, .lst vs) :: F') (.dat [y] [d] :: .dat vs ds :: G) H' → QE y H') →
    (∀ F' H', I (i + 1) F' ds → Sy K ((Dp, .lst vs) :: F') (.dat vs ds :: G) H' → QR H') →
    g x (wipe σ own) H fun σ2 H2 => wipe σ2 own = wipe σ own ∧ tt σ2 H2 fun b H3 => if b = true then te σ2 H3 QE else QR H3
variable {I : Nat → List (Addr × HO) → List PyData → Prop} {F : List (Addr × HO)} {own : List Nat} {g : TG} {tt : TT} {te : TE}
/-- what is kept between the turns -/
def LcP (K : Frag) (G : List Ft) (I : Nat → List (Addr × HO) → List PyData → Prop) (Dp : Addr) (i : Nat) (H : Hp) : Prop :=
  ∃ (F : List (Addr × HO)) (vs : List V) (ds : List PyData), I i F ds ∧ Sy K ((Dp, .lst vs) :: F) (.dat vs ds :: G) H
theorem lcp_start {Dp : Addr} (S : Sy K F G H) (h0 : I 0 F []) (hD : H Dp = none) : LcP K G I Dp 0 (upd H Dp (.lst [])) :=
  ⟨F, [], [], h0, (S.push hD).fact .nil rfl⟩
theorem lcp_turn {Dp : Addr} {i : Nat} {x : V} (hl : ∀ i F ds, I i F ds → ds.length < 100000) (t : Turn1 K G I σ own g tt te i x) (p : LcP K G I Dp i H) :
    g x (wipe σ own) H fun σ2 H2 => wipe σ2 own = wipe σ own ∧ tt σ2 H2 fun b H3 =>
      if b = true then te σ2 H3 fun y H4 => ∃ acc, H4 Dp = some (.lst acc) ∧ acc.length < sizeLine ∧ LcP K G I Dp (i + 1) (upd H4 Dp (.lst (acc ++ [y]))) else LcP K G I Dp (i + 1) H3 := by
  obtain ⟨F, vs, ds, hi, S⟩ := p
  refine t Dp H F vs ds _ (LcP K G I Dp (i + 1)) hi S (fun y d F' H' hi' S' => ?_) fun F' H' hi' S' => ⟨F', vs, ds, hi', S'⟩
  have len := dps_length (S'.dps 1 rfl)
  have lt := hl _ _ _ hi'
  rw [List.length_append] at lt
  refine ⟨vs, S'.at 0 rfl, Nat.lt_of_lt_of_le (by omega) (show 100000 ≤ sizeLine by decide), F', vs ++ [y], ds ++ [d], hi', ?_⟩
  have S2 : Sy K ((Dp, .lst (vs ++ [y])) :: F') (.dat [y] [d] :: .dat vs ds :: G) (upd H' Dp (.lst (vs ++ [y]))) := S'.put (o' := .lst (vs ++ [y])) 0 rfl rfl
  have m1 := S'.dpi 1 rfl
  have m2 := S'.dpi 0 rfl
  exact (S2.drop.drop).fact (dps_append (S2.dps 1 rfl) (S2.dps 0 rfl)) (by rw [immAll_append, m1, m2]; rfl)
/-- over a list or a tuple -/
theorem g_lcS {tl : TE} {a : Addr} {xs : List V} (k : Bool) (I : Nat → List (Addr × HO) → List PyData → Prop) (S : Sy K F G H) (ht : ∀ Q' : VK, Q' (.ref a) H → tl σ H Q') (h0 : I 0 F [])
    (hq : ∀ i F' ds H', I i F' ds → Sy K F' G H' → SqK K H' k a xs) (hl : ∀ i F ds, I i F ds → ds.length < 100000)
    (turn : ∀ i x, xs[i]? = some x → Turn1 K G I σ own g tt te i x)
    (done : ∀ Dp H' F' vs ds, H Dp = none → I xs.length F' ds → Sy K ((Dp, .lst vs) :: F') (.dat vs ds :: G) H' → Q (.ref Dp) H') : tLc (iSeq K tl) g tt te own σ H Q := by
  refine ht _ ⟨a, rfl, ?_⟩
  have q0 := hq 0 F [] H h0 S
  have sub : ∀ {Dp i H'}, LcP K G I Dp i H' → SqK K H' k a xs := fun ⟨F', vs, ds, hi, S'⟩ => hq _ F' ds _ hi S'.drop.less
  cases k with
  | true =>
    refine .inl ⟨⟨xs, q0⟩, fun Dp hD => lc_list (K := K) (a := a) (xs := xs) (LcP K G I Dp) (lcp_start S h0 hD) (fun i H' _ p => sub p) (fun i x H' hx p => lcp_turn hl (turn i x hx) p) fun H' p => ?_⟩
    obtain ⟨F', vs, ds, hi, S'⟩ := p
    exact done Dp H' F' vs ds hD hi S'
  | false =>
    refine .inr ⟨⟨xs, q0⟩, fun Dp hD => lc_tup (K := K) (a := a) (xs := xs) (LcP K G I Dp) (lcp_start S h0 hD) (fun i H' _ p => sub p) (fun i x H' hx p => lcp_turn hl (turn i x hx) p) fun H' p => ?_⟩
    obtain ⟨F', vs, ds, hi, S'⟩ := p
    exact done Dp H' F' vs ds hD hi S'
/-- over range(n), behind what its argument does -/
def RgLc (K : Frag) (g : TG) (tt : TT) (te : TE) (own : List Nat) (σ : L2.St) (Q : VK) (n : Nat) (H : Hp) : Prop := ∀ Dp, H Dp = none → ∃ W : Nat → Nat → Hp → Prop, (∃ m, W 0 m (upd H Dp (.lst []))) ∧ ∀ i m H, W i m H →
  ((Itr 0 n).stop i H ∧ Q (.ref Dp) H) ∨ ((Itr 0 n).go i H ∧ ∃ Nx : Hp → Prop, (∀ H', Nx H' → ∃ m', m' < m ∧ W (i + 1) m' H') ∧ ∀ x H', (Itr 0 n).yld i H x H' → g x (wipe σ own) H' fun σ2 H2 => wipe σ2 own = wipe σ own ∧ tt σ2 H2 fun b H3 =>
    if b = true then te σ2 H3 fun y H4 => ∃ acc, H4 Dp = some (.lst acc) ∧ acc.length < sizeLine ∧ Nx (upd H4 Dp (.lst (acc ++ [y]))) else Nx H3)
theorem g_lcR {ta : TA} (k : ta σ H fun vs H1 => ∃ j : Int, vs = [.int j] ∧ -(2 ^ 62) ≤ j ∧ j < 2 ^ 62 ∧ RgLc K g tt te own σ Q j.toNat H1) : tLc (iRng1 ta) g tt te own σ H Q := k
theorem g_rgJ {a : Int} {f : Int → Prop} (h1 : -(2 ^ 62) ≤ a) (h2 : a < 2 ^ 62) (k : f a) : ∃ j : Int, [V.int a] = [.int j] ∧ -(2 ^ 62) ≤ j ∧ j < 2 ^ 62 ∧ f j := ⟨a, rfl, h1, h2, k⟩
theorem rglc_of {n : Nat} (I : Nat → List (Addr × HO) → List PyData → Prop) (S : Sy K F G H) (h0 : I 0 F []) (hl : ∀ i F ds, I i F ds → ds.length < 100000)
    (turn : ∀ i, i < n → Turn1 K G I σ own g tt te i (.int (0 + i)))
    (done : ∀ Dp H' F' vs ds, H Dp = none → I n F' ds → Sy K ((Dp, .lst vs) :: F') (.dat vs ds :: G) H' → Q (.ref Dp) H') : RgLc K g tt te own σ Q n H := fun Dp hD => by
  refine lc_range (lo := 0) (n := n) (LcP K G I Dp) (lcp_start S h0 hD) (fun i H' hi p => lcp_turn hl (turn i hi) p) fun H' p => ?_
  obtain ⟨F', vs, ds, hi, S'⟩ := p
  exact done Dp H' F' vs ds hD hi S'
/-! loops: W tells of (turn, slots, heap) -/
theorem g_forS {tl : TE} {tb : TS} {a : Addr} {xs : List V} (k : Bool) (Pv : Nat → L2.St → Hp → Prop) (ht : ∀ Q' : VK, Q' (.ref a) H → tl σ H Q') (h0 : Pv 0 σ H)
    (hq : ∀ i σ' H', Pv i σ' H' → SqK K H' k a xs)
    (turn : ∀ i x σ' H', xs[i]? = some x → Pv i σ' H' → g x σ' H' fun σ2 H2 => tb { D with nx := Pv (i + 1), ct := Pv (i + 1), bk := D.nx } σ2 H2)
    (done : ∀ σ' H', Pv xs.length σ' H' → D.nx σ' H') : tFor (iSeq K tl) g tb D σ H := by
  refine ht _ ⟨a, rfl, ?_⟩
  have q0 := hq 0 σ H h0
  cases k with
  | true => exact .inl ⟨⟨xs, q0⟩, for_list (K := K) (a := a) (xs := xs) Pv h0 (fun i σ' H' _ p => hq i σ' H' p) turn done⟩
  | false => exact .inr ⟨⟨xs, q0⟩, for_tup (K := K) (a := a) (xs := xs) Pv h0 (fun i σ' H' _ p => hq i σ' H' p) turn done⟩
def RgFor (g : TG) (tb : TS) (D : Ends) (σ : L2.St) (n : Nat) (H : Hp) : Prop := ∃ W : Nat → Nat → L2.St → Hp → Prop, (∃ m, W 0 m σ H) ∧ ∀ i m σ H, W i m σ H →
  ((Itr 0 n).stop i H ∧ D.nx σ H) ∨ ((Itr 0 n).go i H ∧ ∃ N : L2.St → Hp → Prop, (∀ σ' H', N σ' H' → ∃ m', m' < m ∧ W (i + 1) m' σ' H') ∧ ∀ x H', (Itr 0 n).yld i H x H' → g x σ H' fun σ2 H2 => tb { D with nx := N, ct := N, bk := D.nx } σ2 H2)
theorem g_forR {ta : TA} {tb : TS} (k : ta σ H fun vs H1 => ∃ j : Int, vs = [.int j] ∧ -(2 ^ 62) ≤ j ∧ j < 2 ^ 62 ∧ RgFor g tb D σ j.toNat H1) : tFor (iRng1 ta) g tb D σ H := k
theorem rgfor_of {tb : TS} {n : Nat} (Pv : Nat → L2.St → Hp → Prop) (h0 : Pv 0 σ H) (turn : ∀ i σ' H', i < n → Pv i σ' H' → g (.int (0 + i)) σ' H' fun σ2 H2 => tb { D with nx := Pv (i + 1), ct := Pv (i + 1), bk := D.nx } σ2 H2)
    (done : ∀ σ' H', Pv n σ' H' → D.nx σ' H') : RgFor g tb D σ n H := for_range (lo := 0) Pv h0 turn done
def rEnum (K : Frag) (vs : List V) (H : Hp) (R : It → Hp → Prop) : Prop := ∃ k a xs, vs = [.ref a] ∧ SqK K H k a xs ∧ R (IteK K k a) H
def rZip (K : Frag) (vs : List V) (H : Hp) (R : It → Hp → Prop) : Prop := ∃ k l a b xs ys, vs = [.ref a, .ref b] ∧ SqK K H k a xs ∧ SqK K H l b ys ∧ R (ItzK K k l a b) H
theorem g_forE {ta : TA} {tb : TS} (k : ta σ H fun vs H1 => rEnum K vs H1 fun J H1 => ∃ W : Nat → Nat → L2.St → Hp → Prop, (∃ m, W 0 m σ H1) ∧ ∀ i m σ H, W i m σ H →
  (J.stop i H ∧ D.nx σ H) ∨ (J.go i H ∧ ∃ N : L2.St → Hp → Prop, (∀ σ' H', N σ' H' → ∃ m', m' < m ∧ W (i + 1) m' σ' H') ∧ ∀ x H', J.yld i H x H' → g x σ H' fun σ2 H2 => tb { D with nx := N, ct := N, bk := D.nx } σ2 H2)) : tFor (iEnumK K ta) g tb D σ H := k
theorem g_forZ {ta : TA} {tb : TS} (k : ta σ H fun vs H1 => rZip K vs H1 fun J H1 => ∃ W : Nat → Nat → L2.St → Hp → Prop, (∃ m, W 0 m σ H1) ∧ ∀ i m σ H, W i m σ H →
  (J.stop i H ∧ D.nx σ H) ∨ (J.go i H ∧ ∃ N : L2.St → Hp → Prop, (∀ σ' H', N σ' H' → ∃ m', m' < m ∧ W (i + 1) m' σ' H') ∧ ∀ x H', J.yld i H x H' → g x σ H' fun σ2 H2 => tb { D with nx := N, ct := N, bk := D.nx } σ2 H2)) : tFor (iZipK K ta) g tb D σ H := k
/-- a loop without end in sight: m falls -/
theorem g_while {c : TT} {tb : TS} (W : Nat → L2.St → Hp → Prop) (m0 : Nat) (h0 : W m0 σ H)
    (turn : ∀ m σ' H', W m σ' H' → c σ' H' fun b H1 => if b = true then tb { D with nx := fun σ2 H2 => ∃ m', m' < m ∧ W m' σ2 H2, ct := fun σ2 H2 => ∃ m', m' < m ∧ W m' σ2 H2, bk := D.nx } σ' H1 else D.nx σ' H1)
    (mono : ∀ σ' H' (Q Q' : Bool → Hp → Prop), (∀ b H1, Q b H1 → Q' b H1) → c σ' H' Q → c σ' H' Q') : tWhile c tb D σ H := by
  refine ⟨W, ⟨m0, h0⟩, fun m σ' H' w => mono σ' H' _ _ (fun b H1 q => ?_) (turn m σ' H' w)⟩
  cases b with
  | true => exact ⟨_, fun _ _ h => h, q⟩
  | false => exact q
end
end OB

set_option Elab.async false
set_option linter.all false
set_option maxRecDepth 100000
set_option maxHeartbeats 4000000
/-! OB, part h: more steps. -/
namespace OB
open PySem PySem.Spec PyProof.Rows L2 PySem.W
section
variable {K : Frag} {G : List Ft} {σ : L2.St} {H : Hp} {Q : VK} {D : Ends} {P R : Prop}
/-- list(range(..)) -/
def rNewRg (a b : Int) (H : Hp) (Q : VK) : Prop := RgOk a b ∧ ∀ q, H q = none → Q (.ref q) (upd H q (.lst (rgV a b)))
theorem g_lstRg {te : L2.St → Hp → (Int → Int → Hp → Prop) → Prop} (k : te σ H fun a b H1 => rNewRg a b H1 Q) : tLstRg te σ H Q := k
theorem g_rg1 {ta : TE} {R : Int → Int → Hp → Prop} (k : ta σ H fun x H1 => ∃ n, x = .int n ∧ R 0 n H1) : tRg1 ta σ H R := k
theorem g_rg2 {ta tb : TE} {R : Int → Int → Hp → Prop} (k : ta σ H fun x H1 => tb σ H1 fun y H2 => ∃ i j, x = .int i ∧ y = .int j ∧ R i j H2) : tRg2 ta tb σ H R := k
theorem g_newRg {F : List (Addr × HO)} {a b : Int} (S : Sy K F G H) (h : RgOk a b) (k : ∀ p H', Sy K ((p, .lst (rgV a b)) :: F) G H' → Q (.ref p) H') : rNewRg a b H Q := ⟨h, fun p hp => k p _ (S.push hp)⟩
theorem rgV0 (b : Int) : rgV 0 b = ((List.range b.toNat).map fun i : Nat => (i : Int)).map V.int := by
  unfold rgV
  rw [List.map_map, Int.sub_zero]
  congr 1
  funext i
  show V.int (0 + (i : Int)) = V.int (i : Int)
  rw [Int.zero_add]
end
end OB

set_option Elab.async false
set_option linter.all false
set_option maxRecDepth 100000
set_option maxHeartbeats 4000000
/-! OB, part i: zip of unlike lengths, comprehensions over zip, dicts of ints updated and sorted, deep equality. -/
namespace OB
open PySem PySem.Spec PyProof.Rows L2 PySem.W
/-! ### zip: it ends with the shorter one -/
theorem walk_zipK {K : Frag} {k l : Bool} {a b : Addr} {xs ys : List V} : Walk (ItzK K k l a b) (min xs.length ys.length) (fun H => SqK K H k a xs ∧ SqK K H l b ys) (YPair (xs[·]?) (ys[·]?)) where
  goes := fun i H hi ⟨qa, qb⟩ => ⟨xs, ys, xs[i]'(by omega), ys[i]'(by omega), qa, qb, List.getElem?_eq_getElem _, List.getElem?_eq_getElem _⟩
  stops := fun H ⟨qa, qb⟩ => ⟨xs, ys, qa, qb, Nat.min_le_left .., Nat.min_le_right .., by omega⟩
  yields := fun i H x H' hi ⟨qa, qb⟩ ⟨T, u, v, e1, hT, e2, f1, f2⟩ => ⟨T, u, v, e1, hT, e2, f1 xs qa, f2 ys qb⟩
section
variable {K : Frag} {F : List (Addr × HO)} {G : List Ft} {σ : L2.St} {H : Hp} {Q : VK} {D : Ends} {g : TG} {tt : TT} {te : TE} {tb : TS} {own : List Nat}
def ZipLc (K : Frag) (g : TG) (tt : TT) (te : TE) (own : List Nat) (σ : L2.St) (Q : VK) (vs : List V) (H1 : Hp) : Prop := ∃ k l a b xs ys, vs = [.ref a, .ref b] ∧ SqK K H1 k a xs ∧ SqK K H1 l b ys ∧ ∀ Da, H1 Da = none → ∃ W : Nat → Nat → Hp → Prop, (∃ m, W 0 m (upd H1 Da (.lst []))) ∧ ∀ i m H, W i m H →
  ((ItzK K k l a b).stop i H ∧ Q (.ref Da) H) ∨ ((ItzK K k l a b).go i H ∧ ∃ Nx : Hp → Prop, (∀ H', Nx H' → ∃ m', m' < m ∧ W (i + 1) m' H') ∧ ∀ x H', (ItzK K k l a b).yld i H x H' → g x (wipe σ own) H' fun σ2 H2 => wipe σ2 own = wipe σ own ∧ tt σ2 H2 fun b H3 =>
    if b = true then te σ2 H3 fun y H4 => ∃ acc, H4 Da = some (.lst acc) ∧ acc.length < sizeLine ∧ Nx (upd H4 Da (.lst (acc ++ [y]))) else Nx H3)
theorem g_lcZ {ta : TA} (k : ta σ H fun vs H1 => ZipLc K g tt te own σ Q vs H1) : tLc (iZipK K ta) g tt te own σ H Q := k
/-- the pair at T was just made -/
def TurnZ (K : Frag) (G : List Ft) (I : Nat → List (Addr × HO) → List PyData → Prop) (σ : L2.St) (own : List Nat) (g : TG) (tt : TT) (te : TE) (i : Nat) (x y : V) : Prop :=
  ∀ (Da T : Addr) (H2 : Hp) (F2 : List (Addr × HO)) (vs : List V) (ds : List PyData) (QE : VK) (QR : Hp → Prop), I i F2 ds → H2 T = none → Sy K ((Da, .lst vs) :: F2) (.dat vs ds :: G) H2 →
    (∀ (z : V) (d : PyData) F' H', I (i + 1) F' (ds ++ [d]) → Sy K ((Da, .lst vs) :: F') (.dat [z] [d] :: .dat vs ds :: G) H' → QE z H') →
    (∀ F' H', I (i + 1) F' ds → Sy K ((Da, .lst vs) :: F') (.dat vs ds :: G) H' → QR H') →
    g (.ref T) (wipe σ own) (upd H2 T (.tup [x, y])) fun σ2 H2 => wipe σ2 own = wipe σ own ∧ tt σ2 H2 fun b H3 => if b = true then te σ2 H3 QE else QR H3
theorem ziplc_of {k l : Bool} {a b : Addr} {xs ys : List V} (I : Nat → List (Addr × HO) → List PyData → Prop) (S : Sy K F G H) (h0 : I 0 F [])
    (hq : ∀ i F' ds H', I i F' ds → Sy K F' G H' → SqK K H' k a xs ∧ SqK K H' l b ys) (hl : ∀ i F ds, I i F ds → ds.length < 100000)
    (turn : ∀ i x y, xs[i]? = some x → ys[i]? = some y → TurnZ K G I σ own g tt te i x y)
    (done : ∀ Da H' F' vs ds, H Da = none → I (min xs.length ys.length) F' ds → Sy K ((Da, .lst vs) :: F') (.dat vs ds :: G) H' → Q (.ref Da) H') : ZipLc K g tt te own σ Q [.ref a, .ref b] H := by
  obtain ⟨q1, q2⟩ := hq 0 F [] H h0 S
  refine ⟨k, l, a, b, xs, ys, rfl, q1, q2, fun Da hD => lc_it (walk_zipK (K := K) (xs := xs) (ys := ys)) (LcP K G I Da) (lcp_start S h0 hD) (fun i H' _ p => ?_) (fun i v H1 H' hi p y => ?_) fun H' p => ?_⟩
  · obtain ⟨F', vs, ds, hi, S'⟩ := p
    exact hq i F' ds _ hi S'.drop.less
  · obtain ⟨F', vs, ds, hI, S'⟩ := p
    obtain ⟨T, x, y, rfl, hT, rfl, e1, e2⟩ := y
    refine turn i x y e1 e2 Da T H1 F' vs ds _ (LcP K G I Da (i + 1)) hI hT S' (fun z d F2 H2 hi' S2 => ?_) fun F2 H2 hi' S2 => ⟨F2, vs, ds, hi', S2⟩
    have len := dps_length (S2.dps 1 rfl)
    have lt := hl _ _ _ hi'
    rw [List.length_append] at lt
    refine ⟨vs, S2.at 0 rfl, Nat.lt_of_lt_of_le (by omega) (show 100000 ≤ sizeLine by decide), F2, vs ++ [z], ds ++ [d], hi', ?_⟩
    have S3 : Sy K ((Da, .lst (vs ++ [z])) :: F2) (.dat [z] [d] :: .dat vs ds :: G) (upd H2 Da (.lst (vs ++ [z]))) := S2.put (o' := .lst (vs ++ [z])) 0 rfl rfl
    exact (S3.drop.drop).fact (dps_append (S3.dps 1 rfl) (S3.dps 0 rfl)) (by rw [immAll_append, S2.dpi 1 rfl, S2.dpi 0 rfl]; rfl)
  · obtain ⟨F', vs, ds, hI, S'⟩ := p
    exact done Da H' F' vs ds hD hI S'
/-- a for over zip -/
theorem for_zipM {k l : Bool} {a b : Addr} {xs ys : List V} (Pv : Nat → L2.St → Hp → Prop) (h0 : Pv 0 σ H) (hq : ∀ i σ H, Pv i σ H → SqK K H k a xs ∧ SqK K H l b ys)
    (hs : ∀ i x y T σ H, xs[i]? = some x → ys[i]? = some y → Pv i σ H → H T = none → g (.ref T) σ (upd H T (.tup [x, y])) fun σ2 H2 => tb { D with nx := Pv (i + 1), ct := Pv (i + 1), bk := D.nx } σ2 H2) (hd : ∀ σ H, Pv (min xs.length ys.length) σ H → D.nx σ H) :
    ∃ W : Nat → Nat → L2.St → Hp → Prop, (∃ m, W 0 m σ H) ∧ ∀ i m σ H, W i m σ H →
      ((ItzK K k l a b).stop i H ∧ D.nx σ H) ∨ ((ItzK K k l a b).go i H ∧ ∃ N : L2.St → Hp → Prop, (∀ σ' H', N σ' H' → ∃ m', m' < m ∧ W (i + 1) m' σ' H') ∧ ∀ x H', (ItzK K k l a b).yld i H x H' → g x σ H' fun σ2 H2 => tb { D with nx := N, ct := N, bk := D.nx } σ2 H2) :=
  for_it walk_zipK Pv h0 (fun i σ H _ p => hq i σ H p) (fun i v σ H H' hi p y => by
    obtain ⟨T, x, y, rfl, hT, rfl, e1, e2⟩ := y
    exact hs i x y T σ H e1 e2 p hT) hd
end
/-! ### dicts of ints -/
def rUpdD (x : V) (xs : List V) (H : Hp) (Q : VK) : Prop := ∃ a b kvs more, x = .ref a ∧ xs = [.ref b] ∧ a ≠ b ∧ H a = some (.dK kvs) ∧ H b = some (.dK more) ∧ kvs.length + more.length ≤ sizeLine ∧ Q .non (upd H a (.dK (mergeK kvs more)))
theorem mt_dupdate {X : Cx} : MtR X "dict.update" rUpdD := by
  intro pins s σ H x xs v us Q I rx rv h
  obtain ⟨a, b, kvs, more, rfl, rfl, hne, ha, hb, hz, q⟩ := h
  cases rx
  obtain ⟨u, rfl, ru⟩ := vals1 rv
  cases ru
  obtain ⟨z1, lo1, vs1, rel1, dd1⟩ := dk_of I.hok ha
  obtain ⟨z2, lo2, vs2, rel2, dd2⟩ := dk_of I.hok hb
  have e1 : vs1.length = kvs.length := rel1.length.symm
  have e2 : vs2.length = more.length := rel2.length.symm
  refine call_meetsIn PySem.F.slot_dict_update dd1.typeIs PySem.F.entry_dict_update (PySem.F.args_dict_update_2 _ _) (meets_dict_update (mixKind X.prog X.w) a b hne lo2) ⟨vs1, vs2, dd1, dd2, by omega, fun h' d1 d2 hs => ?_⟩
  have he : ∃ q, h'.get? a = some q := let ⟨q, _, _, hq, _⟩ := d1; ⟨q, hq⟩
  have hl : (mergeK kvs more).length ≤ sizeLine := Nat.le_trans (length_mergeK more kvs) hz
  exact ⟨.non, _, d_write I (by rw [ha]; exact True.intro) hs he (dk_new hl lo1 (rel2.merge rel1) d1), rfl, q⟩
end OB

set_option Elab.async false
set_option linter.all false
set_option maxRecDepth 100000
set_option maxHeartbeats 4000000
/-! OB, part j: steps for dicts of ints, deep equality of small tuples, truth of lists, last items. -/
namespace OB
open PySem PySem.Spec PyProof.Rows L2 PySem.W
section
variable {K : Frag} {F : List (Addr × HO)} {G : List Ft} {σ : L2.St} {H : Hp} {Q : VK} {D : Ends} {g : TG} {tt : TT} {te tk tv : TE} {tb : TS} {own : List Nat}
/-- {k: v} with a whole number and a value at hand -/
theorem g_disp1 {i : Int} {v : V} (S : Sy K F G H) (hk : ∀ H' (Q' : VK), Q' (.int i) H' → tk σ H' Q') (hv : ∀ H' (Q' : VK), Q' v H' → tv σ H' Q') (k : ∀ p H', Sy K ((p, .dK [(.inl i, v)]) :: F) G H' → Q (.ref p) H') : tDisp [(tk, tv)] σ H Q := by
  intro p hp
  refine hk _ _ (hv _ _ ⟨upd_same, [(.inl i, v)], rfl, Nat.le_of_ble_eq_true rfl, ?_⟩)
  rw [L2.upd_upd]
  exact k p _ (S.push hp)
/-- a dict comprehension over a tuple that stays, the objects around staying as they are -/
theorem g_dcT {tl : TE} {a : Addr} {xs : List V} (I : Nat → List (Key × V) → Prop) (S : Sy K F (.tq a xs :: G) H) (ht : ∀ Q' : VK, Q' (.ref a) H → tl σ H Q') (h0 : I 0 []) (hl : ∀ i kvs, I i kvs → kvs.length < 100000)
    (turn : ∀ i x, xs[i]? = some x → ∀ (Da : Addr) (H2 : Hp) (kvs : List (Key × V)) (QE : V → V → Hp → Prop) (QR : Hp → Prop), I i kvs → Sy K ((Da, .dK kvs) :: F) (.tq a xs :: G) H2 →
      (∀ (n : Int) z H', I (i + 1) (putK kvs (.inl n) z) → Sy K ((Da, .dK kvs) :: F) (.tq a xs :: G) H' → QE (.int n) z H') → (∀ H', I (i + 1) kvs → Sy K ((Da, .dK kvs) :: F) (.tq a xs :: G) H' → QR H') →
      g x (wipe σ own) H2 fun σ2 H3 => wipe σ2 own = wipe σ own ∧ tt σ2 H3 fun b H4 => if b = true then tk σ2 H4 fun y H5 => tv σ2 H5 fun z H6 => QE y z H6 else QR H4)
    (done : ∀ Da H' kvs, H Da = none → I xs.length kvs → Sy K ((Da, .dK kvs) :: F) (.tq a xs :: G) H' → Q (.ref Da) H') : tDc (iSeq K tl) g tt tk tv own σ H Q := by
  refine ht _ ⟨a, rfl, .inr ⟨⟨xs, S.tqs 0 rfl⟩, fun Da hD => ?_⟩⟩
  refine dc_tup (K := K) (a := a) (xs := xs) (fun i H' => ∃ kvs, I i kvs ∧ Sy K ((Da, .dK kvs) :: F) (.tq a xs :: G) H') ⟨[], h0, S.push hD⟩ (fun i H' _ ⟨kvs, _, S'⟩ => S'.tqs 0 rfl) (fun i x H' hx ⟨kvs, hi, S'⟩ => ?_) (fun H' ⟨kvs, hi, S'⟩ => done Da H' kvs hD hi S')
  have hz := hl i kvs hi
  refine turn i x hx Da H' kvs _ (fun H2 => ∃ kvs, I (i + 1) kvs ∧ Sy K ((Da, .dK kvs) :: F) (.tq a xs :: G) H2) hi S' (fun n z H2 hi2 S2 => ?_) fun H2 hi2 S2 => ⟨kvs, hi2, S2⟩
  exact ⟨kvs, .inl n, rfl, S2.at 0 rfl, Nat.lt_of_lt_of_le hz (by decide), _, hi2, S2.put (o' := .dK (putK kvs (.inl n) z)) 0 rfl rfl⟩
theorem Sy.ne {p q : Addr} {o u : HO} {i j : Nat} (S : Sy K F G H) (h1 : F[i]? = some (p, o)) (h2 : F[j]? = some (q, u)) (h : i ≠ j) : p ≠ q := by
  intro e
  subst e
  have nd := S.nd
  have g1 : (F.map (·.1))[i]? = some p := by rw [List.getElem?_map, h1]; rfl
  have g2 : (F.map (·.1))[j]? = some p := by rw [List.getElem?_map, h2]; rfl
  obtain ⟨l1, e1⟩ := List.getElem?_eq_some_iff.mp g1
  obtain ⟨l2, e2⟩ := List.getElem?_eq_some_iff.mp g2
  have pw := List.pairwise_iff_getElem.mp nd
  rcases Nat.lt_or_gt_of_ne h with c | c
  · exact pw i j l1 l2 c (e1.trans e2.symm)
  · exact pw j i l2 l1 c (e2.trans e1.symm)
theorem g_tyd {d : Addr} {kvs : List (Key × V)} {R : Prop} (h : H d = some (.dK kvs)) (k : R) : tyV K "dict" (.ref d) H ∧ R := ⟨.inr (.inr (.inl ⟨rfl, .inl ⟨kvs, h⟩⟩)), k⟩
theorem g_dupd {d o : Addr} {kvs more : List (Key × V)} {i j : Nat} (S : Sy K F G H) (h1 : F[i]? = some (d, .dK kvs)) (h2 : F[j]? = some (o, .dK more)) (hij : i ≠ j) (hl : kvs.length + more.length ≤ 100000)
    (k : ∀ H', Sy K (F.set i (d, .dK (mergeK kvs more))) G H' → Q .non H') : rUpdD (.ref d) [.ref o] H Q :=
  ⟨d, o, kvs, more, rfl, rfl, S.ne h1 h2 hij, S.at i h1, S.at j h2, Nat.le_trans hl (by decide), k _ (S.put i h1 rfl)⟩
/-- sorted of a dict of few ints -/
def rSortDI : List V → Hp → VK → Prop := fun xs H Q => ∃ (a : Addr) (kvs : List (Key × V)) (ks : List Int), xs = [.ref a] ∧ Rd H a (.dK kvs) ∧ kvs.map (·.1) = ks.map Sum.inl ∧ ks.length < 64 ∧
    ∀ (ys : List Int) (p : Addr), ys.Perm ks → ys.Pairwise (· ≤ ·) → H p = none → Q (.ref p) (upd H p (.lst (ys.map V.int)))
theorem c_sortDI {X : Cx} (hc : X.calm = true) : CallR X (.builtin "sorted") rSortDI := call_sortedDI hc
theorem g_sortDI {d : Addr} {kvs : List (Key × V)} {ks : List Int} {i : Nat} (S : Sy K F G H) (h : F[i]? = some (d, .dK kvs)) (hk : kvs.map (·.1) = ks.map Sum.inl) (hl : ks.length < 64)
    (k : ∀ (ys : List Int) p H', ys.Perm ks → ys.Pairwise (· ≤ ·) → Sy K ((p, .lst (ys.map V.int)) :: F) G H' → Q (.ref p) H') : rSortDI [.ref d] H Q :=
  ⟨d, kvs, ks, rfl, .inl (S.at i h), hk, hl, fun ys p e1 e2 hp => k ys p _ e1 e2 (S.push hp)⟩
/-- what keys a dict of ints has behind puts and merges -/
def KeysI (kvs : List (Key × V)) (ks : List Int) : Prop := kvs.map (·.1) = ks.map Sum.inl
theorem any_key {kvs : List (Key × V)} {ks : List Int} {n : Int} (h : KeysI kvs ks) : (kvs.any fun kv => decide (kv.1 = Sum.inl n)) = ks.contains n := by
  unfold KeysI at h
  induction ks generalizing kvs with
  | nil =>
    rw [List.map_nil, List.map_eq_nil_iff] at h
    subst h
    rfl
  | cons m ks ih =>
    cases kvs with
    | nil => cases h
    | cons p kvs =>
      rw [List.map_cons, List.map_cons] at h
      injection h with h1 h2
      rw [List.any_cons, List.contains_cons, ih h2, h1]
      congr 1
      by_cases e : m = n
      · subst e
        simp
      · have e2 : ¬ n = m := fun z => e z.symm
        have e3 : ¬ (Sum.inl m : Key) = Sum.inl n := fun z => e (Sum.inl.inj z)
        simp [e2, e3]
theorem keys_put {kvs : List (Key × V)} {ks : List Int} {n : Int} {z : V} (h : KeysI kvs ks) : KeysI (putK kvs (.inl n) z) (if ks.contains n then ks else ks ++ [n]) := by
  unfold putK
  rw [any_key h]
  by_cases e : ks.contains n = true
  · rw [if_pos e, if_pos e]
    show List.map _ (List.map _ _) = _
    rw [List.map_map, ← h]
    apply List.map_congr_left
    intro p _
    show (if p.1 = Sum.inl n then (p.1, z) else p).1 = p.1
    split <;> rfl
  · rw [if_neg e, if_neg e]
    show List.map _ (kvs ++ [(Sum.inl n, z)]) = _
    rw [List.map_append, h, List.map_append]
    rfl
/-- the keys of a merge: those of both, none twice -/
theorem keys_merge : ∀ {more kvs : List (Key × V)} {ms ks : List Int}, KeysI more ms → KeysI kvs ks → ∃ ls, KeysI (mergeK kvs more) ls ∧ (∀ x, x ∈ ls ↔ x ∈ ks ∨ x ∈ ms) ∧ (ks.Nodup → ls.Nodup) ∧ ls.length ≤ ks.length + ms.length
  | [], kvs, ms, ks, h1, h2 => by
    cases ms with
    | nil => exact ⟨ks, h2, fun x => by simp, id, by simp⟩
    | cons m ms => cases h1
  | p :: more, kvs, [], ks, h1, h2 => by cases h1
  | p :: more, kvs, m :: ms, ks, h1, h2 => by
    unfold KeysI at h1
    rw [List.map_cons, List.map_cons] at h1
    injection h1 with e1 e2
    obtain ⟨ls, f1, f2, f3, f4⟩ := keys_merge (more := more) (ms := ms) e2 (keys_put (n := m) (z := p.2) h2)
    refine ⟨ls, ?_, fun x => ?_, fun nd => f3 ?_, ?_⟩
    · have e3 : mergeK kvs (p :: more) = mergeK (putK kvs (.inl m) p.2) more := by
        show mergeK (putK kvs p.1 p.2) more = _
        rw [e1]
      rw [e3]
      exact f1
    · rw [f2]
      by_cases e : ks.contains m = true
      · rw [if_pos e]
        have hm : m ∈ ks := List.contains_iff_mem.mp e
        rw [List.mem_cons]
        constructor
        · rintro (h | h)
          · exact .inl h
          · exact .inr (.inr h)
        · rintro (h | h | h)
          · exact .inl h
          · subst h; exact .inl hm
          · exact .inr h
      · rw [if_neg e, List.mem_append, List.mem_singleton, List.mem_cons, or_assoc]
    · by_cases e : ks.contains m = true
      · rw [if_pos e]
        exact nd
      · rw [if_neg e]
        have hm : ¬ m ∈ ks := fun z => e (List.contains_iff_mem.mpr z)
        exact List.nodup_append.mpr ⟨nd, by simp, fun x hx y hy => by
          cases List.mem_singleton.mp hy
          exact fun z => hm (z ▸ hx)⟩
    · rw [List.length_cons]
      split at f4
      · omega
      · rw [List.length_append] at f4
        simp at f4
        omega
/-! truth and equality -/
def rTruK (K : Frag) (x : V) (H : Hp) (Q : Bool → Hp → Prop) : Prop := ∃ k, TruV K x H k ∧ Q k H
theorem g_tru {ta : TE} {QB : Bool → Hp → Prop} (k : ta σ H fun x H' => rTruK K x H' QB) : (fun σ H Q => ta σ H fun x H' => ∃ k, TruV K x H' k ∧ Q k H' : TT) σ H QB := k
def tTru (K : Frag) (ta : TE) : TT := fun σ H Q => ta σ H fun x H' => rTruK K x H' Q
theorem pt_tru {X : Cx} {K : Frag} {a : Expr} {ta : TE} (hK : X.K = K) (ha : PE X a ta) (he : ∀ whole, isTrue a X.env whole = (do let v ← whole; standAt a.pos; holding [v] (truthy v))) : PT X a (tTru K ta) := hK ▸ pt_truth ha he
theorem g_tTru {ta : TE} {QB : Bool → Hp → Prop} (k : ta σ H fun x H' => rTruK K x H' QB) : tTru K ta σ H QB := k
theorem g_truL {l : Addr} {vs : List V} {QB : Bool → Hp → Prop} (h : SqL K H l vs) (k : QB (!vs.isEmpty) H) : rTruK K (.ref l) H QB := ⟨_, .inl ⟨vs, h, rfl⟩, k⟩
theorem g_eqD {x y : V} {d e : PyData} (h1 : L2.Dp K H x d) (h2 : L2.Dp K H y e) (s1 : SeqAt.shaped d = true) (s2 : SeqAt.shaped e = true) (k : Q (.bl (PyData.eqv d e)) H) : rEqD K x y H Q := ⟨d, e, h1, h2, s1, s2, k⟩
theorem g_neD {x y : V} {d e : PyData} (h1 : L2.Dp K H x d) (h2 : L2.Dp K H y e) (s1 : SeqAt.shaped d = true) (s2 : SeqAt.shaped e = true) (k : Q (.bl (!PyData.eqv d e)) H) : rNeD K x y H Q := ⟨d, e, h1, h2, s1, s2, k⟩
theorem RG.hu64 {k : Nat} {A : Around} (g : RG k A) : A.units + 64 < cLine := by
  have := g.rm.un
  omega
/-- a tuple whose items need not last as data -/
theorem g_newTq {vs : List V} (S : Sy K F G H) (hl : vs.length ≤ 100000) (k : ∀ p H', H p = none → Sy K F (.tq p vs :: G) H' → Q (.ref p) H') : rNewT vs H Q :=
  ⟨Nat.le_trans hl (by decide), fun p hp => k p _ hp ((S.over hp).add (.tq p vs) (.inl (.inl upd_same)))⟩
/-- the last item -/
theorem atI_last {α : Type} {xs : List α} {x : α} : atI (xs ++ [x]) (-1) = some x := by
  have e : ixN (xs ++ [x]).length (-1) = some xs.length := by
    unfold ixN
    rw [List.length_append, List.length_singleton]
    rw [if_neg (by omega)]
    first
      | (rw [if_pos (by omega)]; congr 1; omega)
      | (simp; omega)
  unfold atI
  rw [e]
  show (xs ++ [x])[xs.length]? = some x
  rw [List.getElem?_append_right (Nat.le_refl _), Nat.sub_self]
  rfl
/-- for over range(a, b) -/
def Rg2For (g : TG) (tb : TS) (D : Ends) (σ : L2.St) (lo : Int) (n : Nat) (H : Hp) : Prop := ∃ W : Nat → Nat → L2.St → Hp → Prop, (∃ m, W 0 m σ H) ∧ ∀ i m σ H, W i m σ H →
  ((Itr lo n).stop i H ∧ D.nx σ H) ∨ ((Itr lo n).go i H ∧ ∃ N : L2.St → Hp → Prop, (∀ σ' H', N σ' H' → ∃ m', m' < m ∧ W (i + 1) m' σ' H') ∧ ∀ x H', (Itr lo n).yld i H x H' → g x σ H' fun σ2 H2 => tb { D with nx := N, ct := N, bk := D.nx } σ2 H2)
theorem g_forR2 {ta : TA} (k : ta σ H fun vs H1 => ∃ i j : Int, vs = [.int i, .int j] ∧ (-(2 ^ 62) ≤ i ∧ i < 2 ^ 62 ∧ -(2 ^ 62) ≤ j ∧ j < 2 ^ 62) ∧ Rg2For g tb D σ i (j - i).toNat H1) : tFor (iRng2 ta) g tb D σ H := k
theorem rg2for_of {lo : Int} {n : Nat} (Pv : Nat → L2.St → Hp → Prop) (h0 : Pv 0 σ H) (turn : ∀ i σ' H', i < n → Pv i σ' H' → g (.int (lo + i)) σ' H' fun σ2 H2 => tb { D with nx := Pv (i + 1), ct := Pv (i + 1), bk := D.nx } σ2 H2)
    (done : ∀ σ' H', Pv n σ' H' → D.nx σ' H') : Rg2For g tb D σ lo n H := for_range (lo := lo) Pv h0 turn done
end
end OB

set_option Elab.async false
set_option linter.all false
set_option maxRecDepth 100000
set_option maxHeartbeats 4000000
/-! OB, part k: sums of tuples, tuples turned round and joined, lists joined. -/
namespace OB
open PySem PySem.Spec PyProof.Rows L2 PySem.W
/-! sum of a list or a tuple of whole numbers -/
def rSumU (K : Frag) : List V → Hp → VK → Prop := fun vs H Q => ∃ (a : Addr) (ns : List Int), vs = [V.ref a] ∧ (SqL K H a (ns.map V.int) ∨ SqT K H a (ns.map V.int)) ∧ Q (.int ns.sum) H
section
variable {X : Cx}
theorem c_sumU (hc : X.calm = true) : CallR X (.builtin "sum") (rSumU X.K) := by
  intro pins s σ H vs us Q I r h
  obtain ⟨a, ns, rfl, hs | hs, q⟩ := h
  · exact cr_sum hc pins s σ H [.ref a] us Q I r ⟨a, ns, rfl, hs, q⟩
  · obtain ⟨its, rv, hl, _⟩ := I.tuple hs
    rw [Vals.ref1 r]
    obtain ⟨xs, hx⟩ := rv.ints.allInts.items
    have hn : numsOf its.toArray.toList = ns := by rw [show its.toArray.toList = its from rfl, rv.ints.numsOf]
    have hl2 : s.heap.IsTuple a (intItems xs) := hx ▸ hl
    rw [hx, nums_intItems] at hn
    refine ktm_sumG (I.ok.hd hc) hl2 fun h' tk t' hk => ?_
    rw [preSum_eq, List.take_of_length_le (by simp), hn]
    exact ⟨.int _, H, I.kept hk, ⟨_, rfl⟩, q⟩
end
section
variable {K : Frag} {F : List (Addr × HO)} {G : List Ft} {H : Hp} {Q : VK} {ns : List Int} {l : Addr}
theorem g_sumUL (h : SqL K H l (ns.map V.int)) (k : Q (.int ns.sum) H) : rSumU K [.ref l] H Q := ⟨l, ns, rfl, .inl h, k⟩
theorem g_sumUT (h : SqT K H l (ns.map V.int)) (k : Q (.int ns.sum) H) : rSumU K [.ref l] H Q := ⟨l, ns, rfl, .inr h, k⟩
end
/-! xs[::-1] of a tuple -/
section
open HT
theorem fm_congr {α β : Type} : ∀ {l : List α} {f g : α → Option β}, (∀ m ∈ l, f m = g m) → l.filterMap f = l.filterMap g
  | [], _, _, _ => rfl
  | x :: l, f, g, h => by
    rw [List.filterMap_cons, List.filterMap_cons, h x (List.mem_cons_self ..), fm_congr fun m hm => h m (List.mem_cons_of_mem _ hm)]
theorem pick_rev (items : Array Value) : ((List.range items.size).filterMap fun (m : Nat) => items[((items.size : Int) - 1 + (m : Int) * (-1)).toNat]?).toArray = items.toList.reverse.toArray := by
  have e : (List.range items.size).filterMap (fun (m : Nat) => items[((items.size : Int) - 1 + (m : Int) * (-1)).toNat]?) = items.toList.reverse := by
    have e1 : ∀ m ∈ List.range items.size, items[((items.size : Int) - 1 + (m : Int) * (-1)).toNat]? = (items.toList.reverse)[m]? := by
      intro m hm
      have hm := List.mem_range.mp hm
      rw [List.getElem?_reverse (by rw [Array.length_toList]; exact hm), Array.length_toList, Array.getElem?_toList]
      congr 1
      omega
    have e2 : (List.range items.size).filterMap (fun (m : Nat) => items[((items.size : Int) - 1 + (m : Int) * (-1)).toNat]?) = (List.range items.toList.reverse.length).filterMap fun m => (items.toList.reverse)[m]? := by
      rw [List.length_reverse, Array.length_toList]
      exact fm_congr e1
    rw [e2]
    generalize items.toList.reverse = l
    induction l with
    | nil => rfl
    | cons x l ih =>
      rw [List.length_cons, List.range_succ_eq_map, List.filterMap_cons]
      show x :: List.filterMap _ _ = _
      rw [List.filterMap_map]
      congr 1
  rw [e]
theorem adjust_rev (n : Nat) : Builtin.Slice.sliceAdjust none none (-1) (n : Int) = ((n : Int) - 1, -1) := rfl
theorem places_rev (n : Nat) : Builtin.Slice.slicePlaces ((n : Int) - 1) (-1) (-1) = n := by
  unfold Builtin.Slice.slicePlaces
  have h1 : ¬ ((-1 : Int) > 0) := by decide
  have h2 : (-(-1 : Int)) = 1 := by decide
  rw [if_neg h1, h2, Int.ediv_one]
  split <;> omega
variable {prog : Program} {w : World} {A : Around} {E : Value → Shared → Prop} {s : Shared}
theorem sliceApplied_rev {sl : Addr} {vl vu vk : Value} {n : Nat} {Q : Int × Int × Nat → Shared → Prop} (hs : s.heap.IsSliceOf sl vl vu vk) (pl : IsPart vl none) (pu : IsPart vu none) (pk : IsPart vk (some (-1)))
    (h : Q ((n : Int) - 1, -1, n) s) : wpAny (model prog w) A (Builtin.Slice.sliceApplied (.ref sl) (pure (n : Int))) Q E s := by
  obtain ⟨os, hos, hcs, hds⟩ := id hs
  unfold Builtin.Slice.sliceApplied Builtin.Slice.sliceFields
  refine wpAny_bind (wpAny_bind (wpAny_field hos hds (x := vl) rfl (wpAny_bind (wpAny_field hos hds (x := vu) rfl (wpAny_bind (wpAny_field hos hds (x := vk) rfl (wpAny_pure ?_)))))))
  refine wpAny_bind (slicePart_ pk ?_)
  show wpAny _ _ (if ((-1 : Int) == 0) = true then _ else _) _ _ s
  rw [if_neg (by decide)]
  refine wpAny_bind (slicePart_ pl (wpAny_bind (slicePart_ pu (wpAny_bind (wpAny_pure ?_)))))
  show wpAny _ _ (match Builtin.Slice.sliceAdjust none none (-1) (n : Int) with | (lo, hi) => pure (lo, (-1 : Int), Builtin.Slice.slicePlaces lo hi (-1))) _ _ s
  rw [adjust_rev n]
  show wpAny _ _ (pure ((n : Int) - 1, (-1 : Int), Builtin.Slice.slicePlaces ((n : Int) - 1) (-1) (-1))) _ _ s
  rw [places_rev]
  exact wpAny_pure h
theorem getItem_tuple_rev {t sl : Addr} {items : Array Value} {vl vu vk : Value} {Q : Value → Shared → Prop} (ht : IsTup s.heap t items) (hs : s.heap.IsSliceOf sl vl vu vk) (pl : IsPart vl none) (pu : IsPart vu none) (pk : IsPart vk (some (-1)))
    (h : Q (.ref s.heap.objs.size) { s with heap := s.heap.push { cls := .type "tuple", data := .seq items.toList.reverse.toArray } })
    (hsz : items.size ≤ sizeLine) : wpAny (model prog w) A (getItem (.ref t) (.ref sl)) Q E s := by
  have htake : sizeOk (.seq items.toList.reverse.toArray) := by
    show (items.toList.reverse.toArray).size ≤ sizeLine
    rw [List.size_toArray, List.length_reverse, Array.length_toList]
    omega
  obtain ⟨os, hos, hcs, hds⟩ := id hs
  have hTs : s.TypeIs (.ref sl) "slice" := ⟨os, hos, hcs⟩
  unfold getItem
  try with_reducible refine wpAny_holding ?_
  first | refine wpAny_bind (wpAny_pure ?_) | skip
  refine wpAny_bind (wpAny_sequenceKey ht.typeIs (by decide) ?_)
  refine wpAny_bind (wpAny_callSpecial?_slot (name := Str.ofString "__getitem__") ht.typeIs PyProof.Rows.slot_tuple_getitem
    (wpAny_call_entry PyProof.Rows.slot_tuple_getitem ht.typeIs entry_tuple_getitem ?_ (args_tuple_getitem _ _)))
  show wpAny _ _ (Builtin.Tuple.tupleItemsOf (.ref t) >>= _) _ _ s
  refine wpAny_bind (tupleItemsOf_ ht ?_)
  refine wpAny_bind (wpAny_typeOf hTs ?_)
  rw [if_pos (by decide)]
  refine wpAny_bind (sliceApplied_rev hs pl pu pk ?_)
  have hno : ¬ (((((items.size : Int) - 1) == 0) && (-1 : Int) == 1 && items.size == items.size) = true) := by
    intro q
    rw [Bool.and_eq_true, Bool.and_eq_true] at q
    exact absurd q.1.2 (by decide)
  show wpAny _ _ (if ((((items.size : Int) - 1) == 0) && (-1 : Int) == 1 && items.size == items.size) = true then _ else _) _ _ s
  rw [if_neg hno, pick_rev]
  first
    | exact wpAny_bind (m := Builtin.Tuple.tupleExact _) (wpAny_newObj_type (wpAny_pure ⟨_, rfl, wpAny_pure h⟩) htake)
    | exact wpAny_bind (m := Builtin.Tuple.tupleExact _) (wpAny_newObj_type (wpAny_bind (wpAny_pure (wpAny_pure ⟨_, rfl, wpAny_pure h⟩))) htake)
    | exact wpAny_bind (wpAny_bind (m := Builtin.Tuple.tupleExact _) (wpAny_newObj_type (wpAny_pure (wpAny_pure ⟨_, rfl, wpAny_pure h⟩)) htake))
    | exact wpAny_bind (wpAny_bind (m := Builtin.Tuple.tupleExact _) (wpAny_newObj_type (wpAny_pure ⟨_, rfl, wpAny_pure h⟩) htake))
end
def tRevT (K : Frag) (te : TE) : TE := fun σ H Q => te σ H fun x H1 => ∃ a xs, x = .ref a ∧ SqT K H1 a xs ∧ ∀ p, H1 p = none → Q (.ref p) (upd H1 p (.tup xs.reverse))
theorem pe_revT0 {X : Cx} {e : Expr} {te : TE} {k : Nat} {p1 p2 p3 pos : Pos} (he : PE X e te) : PE X (.Subscript e (.Slice none none (some (.UnaryOp .USub (.Constant (.int 1) k p1) p2)) p3) pos) (tRevT X.K te) := by
  refine ⟨fun pins s σ H Q I h => ?_⟩
  refine Subscript_ (thn (he.run pins s σ H _ I h) fun v s1 ⟨x, H1, I1, r1, q1⟩ => ?_)
  obtain ⟨a, xs, ex, hx, q⟩ := q1
  subst ex
  cases r1
  have hst : PO X (some (.UnaryOp .USub (.Constant (.int 1) k p1) p2)) (tPart (tUn (rU fun i => .int (-i)) (tC (.int 1)))) := po_some (pe_un un_neg pe_int)
  refine wpAny_Slice (thn (po_none.run pins s1 σ H1 (fun o H2 => o = none ∧ H2 = H1) I1 ⟨rfl, rfl⟩) fun vl s2 ⟨l, H2, I2, pl, el, e2⟩ => ?_)
  subst el e2
  refine thn (po_none.run pins s2 σ H2 (fun o H3 => o = none ∧ H3 = H2) I2 ⟨rfl, rfl⟩) fun vu s3 ⟨u, H3, I3, pu, eu, e3⟩ => ?_
  subst eu e3
  refine thn (hst.run pins s3 σ H3 (fun o H4 => o = some (-1) ∧ H4 = H3) I3 ⟨1, rfl, -1, rfl, rfl, rfl⟩) fun vs s4 ⟨o, H4, I4, ps, eo, e4⟩ => ?_
  subst eo e4
  have I5 : Inv X pins σ H4 { s4 with heap := s4.heap.push { cls := .type "slice", data := .fields #[vl, vu, vs] } } := I4.kept (t' := s4.toks) fun b ob q => Heap.get?_push_of_some _ q
  obtain ⟨its, r, ht, hz⟩ := I5.tuple hx
  have hlen := r.length
  show wpAny (model X.prog X.w) X.A (subscriptTail e (.Slice none none (some (.UnaryOp .USub (.Constant (.int 1) k p1) p2)) p3) (.ref a) (.ref s4.heap.objs.size)) (EP X pins σ Q) X.xe { s4 with heap := s4.heap.push { cls := .type "slice", data := .fields #[vl, vu, vs] } }
  refine tail_any (ops := [.ref a, .ref s4.heap.objs.size]) ht.typeIs (PyProof.Rows.slot_tuple_getitem.lookup) ?_ (by with_unfolding_all rfl)
  refine getItem_tuple_rev ht (Heap.IsSliceOf.new _ vl vu vs) pl pu ps ?_ (by rw [List.size_toArray]; omega)
  refine ⟨.ref _, _, I5.laid (t' := s4.toks) (o := .tup xs.reverse) (fun b ob q => Heap.get?_push_of_some _ q) (Nat.le_refl _) ?_, rfl, q _ (I5.hok.fresh (Nat.le_refl _))⟩
  exact ⟨by rw [List.length_reverse]; exact hz, _, r.reverse, IsTup.new _ _⟩
theorem pe_revT {X : Cx} {K : Frag} (h : X.K = K) {e : Expr} {te : TE} {k : Nat} {p1 p2 p3 pos : Pos} (he : PE X e te) : PE X (.Subscript e (.Slice none none (some (.UnaryOp .USub (.Constant (.int 1) k p1) p2)) p3) pos) (tRevT K te) := h ▸ pe_revT0 he
theorem op_catAK {X : Cx} {K : Frag} (h : X.K = K) : OpR X (binaryOp .Add) (rCatA K) := h ▸ op_catA
section
variable {K : Frag} {F : List (Addr × HO)} {G : List Ft} {σ : L2.St} {H : Hp} {Q : VK} {te : TE} {l b : Addr} {vs zs : List V} {ds : List PyData}
theorem g_revT (k : te σ H fun x H1 => ∃ a xs, x = .ref a ∧ SqT K H1 a xs ∧ ∀ p, H1 p = none → Q (.ref p) (upd H1 p (.tup xs.reverse))) : tRevT K te σ H Q := k
theorem g_rev1 (S : Sy K F G H) (h : SqT K H l vs) (hd : DpAll K H vs ds) (hi : immAll ds = true) (k : ∀ p H', Sy K F (.dat [.ref p] [.tuple ds.reverse] :: G) H' → Q (.ref p) H') : ∃ a xs, V.ref l = .ref a ∧ SqT K H a xs ∧ ∀ p, H p = none → Q (.ref p) (upd H p (.tup xs.reverse)) := by
  have rev : ∀ {vs : List V} {ds : List PyData}, DpAll K H vs ds → DpAll K H vs.reverse ds.reverse := by
    intro vs ds h
    induction vs generalizing ds with
    | nil =>
      cases h
      exact .nil
    | cons v vs ih =>
      cases h with
      | cons a b =>
        rw [List.reverse_cons, List.reverse_cons]
        exact dps_append (ih b) (dps_one a)
  have irev : immAll ds.reverse = true := immAll_of fun x hx => by
    have := List.mem_reverse.mp hx
    clear k hd rev
    induction ds with
    | nil => cases this
    | cons d ds ih =>
      have hi2 : (imm d && immAll ds) = true := hi
      rw [Bool.and_eq_true] at hi2
      rcases List.mem_cons.mp this with rfl | h3
      · exact hi2.1
      · exact ih hi2.2 (List.mem_reverse.mpr h3) h3
  exact ⟨l, vs, rfl, h, fun p hp => k p _ (S.lay hp (rev hd) irev)⟩
/-- two tuples joined: both of data, neither empty -/
theorem g_catA {d1 d2 : List PyData} (S : Sy K F G H) (h1 : SqT K H l vs) (h2 : SqT K H b zs) (e1 : DpAll K H vs d1) (e2 : DpAll K H zs d2) (i1 : immAll (d1 ++ d2) = true) (n1 : vs ≠ []) (n2 : zs ≠ []) (hl : vs.length + zs.length ≤ 100000)
    (k : ∀ p H', H p = none → Sy K F (.dat [.ref p] [.tuple (d1 ++ d2)] :: G) H' → Q (.ref p) H') : rCatA K (.ref l) (.ref b) H Q :=
  ⟨l, b, vs, zs, rfl, rfl, h1, h2, Nat.le_trans hl (by decide), fun z => absurd z n1, fun _ z => absurd z n2, fun _ _ p hp => k p _ hp (S.lay hp (dps_append e1 e2) i1)⟩
/-- two lists joined -/
theorem g_cat {i j : Nat} (S : Sy K F G H) (h1 : F[i]? = some (l, .lst vs)) (h2 : F[j]? = some (b, .lst zs)) (hl : vs.length + zs.length ≤ 100000)
    (k : ∀ p H', Sy K ((p, .lst (vs ++ zs)) :: F) G H' → Q (.ref p) H') : rCat (.ref l) (.ref b) H Q :=
  ⟨l, b, vs, zs, rfl, rfl, S.at i h1, S.at j h2, Nat.le_trans hl (by decide), fun p hp => k p _ (S.push hp)⟩
end
end OB

set_option Elab.async false
set_option linter.all false
set_option maxRecDepth 100000
namespace LAW
open PySem PySem.Spec PyProof.Rows L2 PySem.W OB
local macro_rules | `(tactic| walk_at "obc") => `(tactic| first
  | exact Or.inl ⟨by omega, by omega⟩
  | exact Or.inr ⟨by omega, by omega⟩
  | exact cdiv_ok (by omega) (by omega)
  | (show (0 : Int) < _; omega)
  | exact ⟨by omega, by decide⟩
  | exact ⟨by decide, by decide⟩)
local macro_rules | `(tactic| walk_at "obat") => `(tactic| first
  | exact Sy.at (by assumption) 0 rfl | exact Sy.at (by assumption) 1 rfl | exact Sy.at (by assumption) 2 rfl | exact Sy.at (by assumption) 3 rfl
  | exact Sy.at (by assumption) 4 rfl | exact Sy.at (by assumption) 5 rfl | exact Sy.at (by assumption) 6 rfl | exact Sy.at (by assumption) _ (by assumption) | exact Sy.at (by assumption) (_ + 1) (by assumption) | exact Sy.at (by assumption) (_ + 2) (by assumption))
local macro_rules | `(tactic| walk_at "obt") => `(tactic| first
  | exact Sy.tqs (by assumption) 0 rfl | exact Sy.tqs (by assumption) 1 rfl | exact Sy.tqs (by assumption) 2 rfl | exact Sy.tqs (by assumption) 3 rfl | exact Sy.tqs (by assumption) 4 rfl | exact Sy.tqs (by assumption) 5 rfl
  | exact Sy.tqs (by assumption) 6 rfl | exact Sy.tqs (by assumption) 7 rfl | assumption)
local macro_rules | `(tactic| walk_at "obl") => `(tactic| first
  | exact SqL.of (by walk_at "obat")
  | exact Sy.sq (by assumption) 0 rfl | exact Sy.sq (by assumption) 1 rfl | exact Sy.sq (by assumption) 2 rfl | exact Sy.sq (by assumption) 3 rfl | exact Sy.sq (by assumption) _ (by assumption))
local macro_rules | `(tactic| walk_at "obd") => `(tactic| first
  | exact Dp.int _ | exact Dp.bl _ | exact Dp.str _ | exact Dp.non
  | exact Sy.dp (by assumption) 0 rfl | exact Sy.dp (by assumption) 1 rfl | exact Sy.dp (by assumption) 2 rfl | exact Sy.dp (by assumption) 3 rfl
  | exact Sy.dp (by assumption) 4 rfl | exact Sy.dp (by assumption) 5 rfl | exact Sy.dp (by assumption) 6 rfl | exact Sy.dp (by assumption) 7 rfl
  | exact Sy.dp (by assumption) 8 rfl | exact Sy.dp (by assumption) 9 rfl | exact Sy.dp (by assumption) _ (by assumption) | assumption)
local macro_rules | `(tactic| walk_at "obds") => `(tactic| first
  | exact DpAll.nil
  | (refine' DpAll.cons ?ob1 ?ob2; (case ob1 => walk_at "obd"); (case ob2 => walk_at "obds"))
  | exact Sy.dps (by assumption) 0 rfl | exact Sy.dps (by assumption) 1 rfl | exact Sy.dps (by assumption) 2 rfl | exact Sy.dps (by assumption) 3 rfl | assumption)
local macro_rules | `(tactic| walk_at "obsc") => `(tactic| first
  | exact ScL.nil
  | ((first | refine' ScL.int ?obz | refine' ScL.str ?obz | refine' ScL.bl ?obz | refine' ScL.non ?obz); (case obz => walk_at "obsc")))
local macro_rules | `(tactic| walk_at "ob1") => `(tactic| first
  | ((with_reducible refine' g_var ?obh ?_); (case obh => rfl))
  | with_reducible refine g_c ?_
  | with_reducible refine g_nx ?_
  | with_reducible refine g_rt ?_
  | with_reducible refine g_bk ?_
  | with_reducible refine g_ct ?_
  | with_reducible refine g_op ?_
  | with_reducible refine g_I0 ?_
  | with_reducible refine g_test ?_
  | with_reducible refine g_bl ?_
  | with_reducible refine g_blx ?_
  | with_reducible refine g_B ?_
  | with_reducible refine g_seq ?_
  | with_reducible refine g_asg ?_
  | with_reducible refine g_name ?_
  | with_reducible refine g_ifS ?_
  | with_reducible refine g_ret ?_
  | with_reducible refine g_cb ?_
  | with_reducible refine g_cons ?_
  | with_reducible refine g_nil ?_
  | with_reducible refine g_int ?_
  | with_reducible refine g_intB ?_
  | with_reducible refine g_abs ?_
  | with_reducible refine g_max ?_
  | with_reducible refine g_min ?_
  | with_reducible refine g_un ?_
  | with_reducible refine g_U ?_
  | with_reducible refine g_eqI ?_
  | with_reducible refine g_neI ?_
  | with_reducible refine g_eqS ?_
  | with_reducible refine g_neS ?_
  | with_reducible refine g_tt ?_
  | with_reducible refine g_ff ?_
  | with_reducible refine g_next ?_
  | with_reducible refine g_drop ?_
  | with_reducible refine g_if ?_
  | with_reducible refine g_andV ?_
  | with_reducible refine g_orV ?_
  | with_reducible refine g_notV ?_
  | with_reducible refine g_and ?_
  | with_reducible refine g_or ?_
  | with_reducible refine g_not ?_
  | with_reducible refine g_yes ?_
  | with_reducible refine g_chain ?_
  | with_reducible refine g_cg ?_
  | with_reducible refine g_mg ?_
  | with_reducible refine g_kg ?_
  | with_reducible refine g_pg ?_
  | ((with_reducible refine' g_call ?obh ?obj ?_); (case obh => rfl); (case obj => rfl))
  | with_reducible refine g_par ?_
  | with_reducible refine g_par2 ?_
  | with_reducible refine g_par3 ?_
  | with_reducible refine g_par33 ?_
  | with_reducible refine g_gnil ?_
  | with_reducible refine g_gcons ?_
  | with_reducible refine g_gsub ?_
  | with_reducible refine g_ipI ?_
  | with_reducible refine g_rAdd ?_
  | with_reducible refine g_rSub ?_
  | ((with_reducible refine' g_aug ?obh ?_); (case obh => rfl))
  | with_reducible refine g_tup ?_
  | with_reducible refine g_lst ?_
  | with_reducible refine g_bm ?_
  | with_reducible refine g_bm0 ?_
  | with_reducible refine g_sl ?_
  | with_reducible refine g_nopart ?_
  | with_reducible refine g_part ?_
  | with_reducible refine g_pint ?_
  | with_reducible refine isi_int ?_
  | with_reducible refine isi_intB ?_
  | ((with_reducible refine' g_I ?obh ?_); (case obh => walk_at "obc"))
  | ((with_reducible refine' g_tyl ?obh ?_); (case obh => walk_at "obl"))
  | ((with_reducible refine' g_lenL ?obh ?_); (case obh => walk_at "obl"))
  | with_reducible refine g_ne ?_
  | ((with_reducible refine' g_neN' ?obh ?_); (case obh => rfl))
  | with_reducible refine g_ntt ?_
  | with_reducible refine g_nff ?_
  | with_reducible refine g_star ?_
  | with_reducible refine g_att ?_
  | with_reducible refine g_sfld ?_
  | with_reducible refine g_faug ?_
  | with_reducible refine g_fld ?_
  | ((with_reducible refine' g_nF ?obh ?_); (case obh => omega))
  | ((with_reducible refine' g_nT ?obh ?_); (case obh => omega))
  | ((with_reducible refine' g_TD ?obh ?_); (case obh => omega))
  | ((with_reducible refine' g_FD ?obh ?_); (case obh => omega))
  | ((with_reducible refine' g_ixUL ?obh ?obi ?_); (case obh => walk_at "obl"); (case obi => exact atI_nn (by omega) (by rfl)))
  | ((with_reducible refine' g_setLS ?obs ?obh ?obi ?_); (case obs => assumption); (case obh => assumption); (case obi => rfl); intro _ _ _)
  | ((with_reducible refine' g_newT ?obs ?obh ?obi ?obj ?_); (case obs => assumption); (case obh => walk_at "obds"); (case obi => rfl); (case obj => exact Nat.le_of_ble_eq_true rfl); intro _ _ _ _)
  | ((with_reducible refine' g_newL ?obs ?obj ?_); (case obs => assumption); (case obj => exact Nat.le_of_ble_eq_true rfl); intro _ _ _ _)
  | ((with_reducible refine' isi_tup ?obh ?_); (case obh => walk_at "obt"))
  | ((with_reducible refine' g_lenT ?obh ?_); (case obh => walk_at "obt"))
  | ((with_reducible refine' g_unpT ?obh ?obi ?_); (case obh => walk_at "obt"); (case obi => rfl))
  | ((with_reducible refine' g_divmod ?obs ?obh ?_); (case obs => assumption); (case obh => exact cdivp_ok (by omega) (by omega) (by omega)); intro _ _ _ _)
  | ((with_reducible refine' g_unpD ?obh ?obi ?obj ?_); (case obh => walk_at "obd"); (case obi => walk_at "obsc"); (case obj => rfl))
  | with_reducible refine g_att ?_)
def top (i : Nat) : Stmt := PySem.Challenge.pw_oncebooked_k20_tables_first_days_and_sha.main.body.getD i (.Pass ⟨0, 0, 0, 0⟩)
structure Tx (K : Frag) (mg : Str → Option Value) where
  a_is_integer : Addr
  d_is_integer : FuncData
  F_is_integer : Fun K "is_integer" "is_integer" (top 9) a_is_integer d_is_integer
  m_is_integer : mg "is_integer" = some (.ref a_is_integer)
  a_law_take : Addr
  d_law_take : FuncData
  F_law_take : Fun K "_law_take" "_law_take" (top 41) a_law_take d_law_take
  m_law_take : mg "_law_take" = some (.ref a_law_take)
  a_stretch_parts : Addr
  d_stretch_parts : FuncData
  F_stretch_parts : Fun K "stretch_parts" "stretch_parts" (top 30) a_stretch_parts d_stretch_parts
  m_stretch_parts : mg "stretch_parts" = some (.ref a_stretch_parts)
  a_law_unit : Addr
  d_law_unit : FuncData
  F_law_unit : Fun K "_law_unit" "_law_unit" (top 44) a_law_unit d_law_unit
  m_law_unit : mg "_law_unit" = some (.ref a_law_unit)
  a_law_day_parts : Addr
  d_law_day_parts : FuncData
  F_law_day_parts : Fun K "_law_day_parts" "_law_day_parts" (top 45) a_law_day_parts d_law_day_parts
  m_law_day_parts : mg "_law_day_parts" = some (.ref a_law_day_parts)
  a_value_on : Addr
  d_value_on : FuncData
  F_value_on : Fun K "value_on" "value_on" (top 35) a_value_on d_value_on
  m_value_on : mg "value_on" = some (.ref a_value_on)
  a_law_value_at : Addr
  d_law_value_at : FuncData
  F_law_value_at : Fun K "_law_value_at" "_law_value_at" (top 49) a_law_value_at d_law_value_at
  m_law_value_at : mg "_law_value_at" = some (.ref a_law_value_at)
  a_law_pot : Addr
  d_law_pot : FuncData
  F_law_pot : Fun K "_law_pot" "_law_pot" (top 40) a_law_pot d_law_pot
  m_law_pot : mg "_law_pot" = some (.ref a_law_pot)
  a_law_cells : Addr
  d_law_cells : FuncData
  F_law_cells : Fun K "_law_cells" "_law_cells" (top 43) a_law_cells d_law_cells
  m_law_cells : mg "_law_cells" = some (.ref a_law_cells)
  a_is_within : Addr
  d_is_within : FuncData
  F_is_within : Fun K "is_within" "is_within" (top 10) a_is_within d_is_within
  m_is_within : mg "is_within" = some (.ref a_is_within)
  a_law_of : Addr
  d_law_of : FuncData
  F_law_of : Fun K "_law_of" "_law_of" (top 42) a_law_of d_law_of
  m_law_of : mg "_law_of" = some (.ref a_law_of)
  a_is_year : Addr
  d_is_year : FuncData
  F_is_year : Fun K "is_year" "is_year" (top 26) a_is_year d_is_year
  m_is_year : mg "is_year" = some (.ref a_is_year)
  a_days_told : Addr
  d_days_told : FuncData
  F_days_told : Fun K "days_told" "days_told" (top 37) a_days_told d_days_told
  m_days_told : mg "days_told" = some (.ref a_days_told)
  a_law_stretches_in : Addr
  d_law_stretches_in : FuncData
  F_law_stretches_in : Fun K "_law_stretches_in" "_law_stretches_in" (top 51) a_law_stretches_in d_law_stretches_in
  m_law_stretches_in : mg "_law_stretches_in" = some (.ref a_law_stretches_in)
  a_check_number : Addr
  d_check_number : FuncData
  F_check_number : Fun K "check_number" "check_number" (top 29) a_check_number d_check_number
  m_check_number : mg "check_number" = some (.ref a_check_number)
  a_is_rate : Addr
  d_is_rate : FuncData
  F_is_rate : Fun K "is_rate" "is_rate" (top 25) a_is_rate d_is_rate
  m_is_rate : mg "is_rate" = some (.ref a_is_rate)
  a_is_balance : Addr
  d_is_balance : FuncData
  F_is_balance : Fun K "is_balance" "is_balance" (top 24) a_is_balance d_is_balance
  m_is_balance : mg "is_balance" = some (.ref a_is_balance)
  a_check_rest : Addr
  d_check_rest : FuncData
  F_check_rest : Fun K "check_rest" "check_rest" (top 28) a_check_rest d_check_rest
  m_check_rest : mg "check_rest" = some (.ref a_check_rest)
  a_law_stretch : Addr
  d_law_stretch : FuncData
  F_law_stretch : Fun K "_law_stretch" "_law_stretch" (top 47) a_law_stretch d_law_stretch
  m_law_stretch : mg "_law_stretch" = some (.ref a_law_stretch)
  a_law_rest : Addr
  d_law_rest : FuncData
  F_law_rest : Fun K "_law_rest" "_law_rest" (top 46) a_law_rest d_law_rest
  m_law_rest : mg "_law_rest" = some (.ref a_law_rest)
  a_is_table : Addr
  d_is_table : FuncData
  F_is_table : Fun K "is_table" "is_table" (top 33) a_is_table d_is_table
  m_is_table : mg "is_table" = some (.ref a_is_table)
  a_law_table : Addr
  d_law_table : FuncData
  F_law_table : Fun K "_law_table" "_law_table" (top 48) a_law_table d_law_table
  m_law_table : mg "_law_table" = some (.ref a_law_table)
  a_split : Addr
  d_split : FuncData
  F_split : Fun K "split" "split" (top 32) a_split d_split
  m_split : mg "split" = some (.ref a_split)
  a_is_stretch : Addr
  d_is_stretch : FuncData
  F_is_stretch : Fun K "is_stretch" "is_stretch" (top 27) a_is_stretch d_is_stretch
  m_is_stretch : mg "is_stretch" = some (.ref a_is_stretch)
  a_value_at : Addr
  d_value_at : FuncData
  F_value_at : Fun K "value_at" "value_at" (top 36) a_value_at d_value_at
  m_value_at : mg "value_at" = some (.ref a_value_at)
  a_check_tables : Addr
  d_check_tables : FuncData
  F_check_tables : Fun K "check_tables" "check_tables" (top 34) a_check_tables d_check_tables
  m_check_tables : mg "check_tables" = some (.ref a_check_tables)
  a_law_tables : Addr
  d_law_tables : FuncData
  F_law_tables : Fun K "_law_tables" "_law_tables" (top 50) a_law_tables d_law_tables
  m_law_tables : mg "_law_tables" = some (.ref a_law_tables)
  a_law_is_split_right : Addr
  d_law_is_split_right : FuncData
  F_law_is_split_right : Fun K "_law_is_split_right" "_law_is_split_right" (top 54) a_law_is_split_right d_law_is_split_right
  m_law_is_split_right : mg "_law_is_split_right" = some (.ref a_law_is_split_right)
  a_first_day : Addr
  d_first_day : FuncData
  F_first_day : Fun K "first_day" "first_day" (top 31) a_first_day d_first_day
  m_first_day : mg "first_day" = some (.ref a_first_day)
  a_stretches_of : Addr
  d_stretches_of : FuncData
  F_stretches_of : Fun K "stretches_of" "stretches_of" (top 38) a_stretches_of d_stretches_of
  m_stretches_of : mg "stretches_of" = some (.ref a_stretches_of)
  a_law_is_first_right : Addr
  d_law_is_first_right : FuncData
  F_law_is_first_right : Fun K "_law_is_first_right" "_law_is_first_right" (top 53) a_law_is_first_right d_law_is_first_right
  m_law_is_first_right : mg "_law_is_first_right" = some (.ref a_law_is_first_right)
  a_law_are_tables_right : Addr
  d_law_are_tables_right : FuncData
  F_law_are_tables_right : Fun K "_law_are_tables_right" "_law_are_tables_right" (top 52) a_law_are_tables_right d_law_are_tables_right
  m_law_are_tables_right : mg "_law_are_tables_right" = some (.ref a_law_are_tables_right)
  a_law_right : Addr
  d_law_right : FuncData
  F_law_right : Fun K "_law_right" "_law_right" (top 55) a_law_right d_law_right
  m_law_right : mg "_law_right" = some (.ref a_law_right)
  a_law : Addr
  d_law : FuncData
  F_law : Fun K "law" "law" (top 56) a_law d_law
  m_law : mg "law" = some (.ref a_law)
  t_PARTS : Tok
  g_PARTS : mg "PARTS" = some (.int 133590000000 t_PARTS)
  t_MOST_RATE : Tok
  g_MOST_RATE : mg "MOST_RATE" = some (.int 1000000 t_MOST_RATE)
  t_MOST_BALANCE : Tok
  g_MOST_BALANCE : mg "MOST_BALANCE" = some (.int 1000000000000 t_MOST_BALANCE)
  t_MOST_DAYS : Tok
  g_MOST_DAYS : mg "MOST_DAYS" = some (.int 100000 t_MOST_DAYS)
  t_MOST_STRETCHES : Tok
  g_MOST_STRETCHES : mg "MOST_STRETCHES" = some (.int 1000 t_MOST_STRETCHES)
  t_MOST_UNITS : Tok
  g_MOST_UNITS : mg "MOST_UNITS" = some (.int 1000000000000 t_MOST_UNITS)
  t_MOST_AMOUNT : Tok
  g_MOST_AMOUNT : mg "MOST_AMOUNT" = some (.int 1000000000000000 t_MOST_AMOUNT)
  t_MOST_WEIGHT : Tok
  g_MOST_WEIGHT : mg "MOST_WEIGHT" = some (.int 1000000000000 t_MOST_WEIGHT)
  t_MOST_TABLE : Tok
  g_MOST_TABLE : mg "MOST_TABLE" = some (.int 1000 t_MOST_TABLE)
  a_FACTORS : Addr
  g_FACTORS : mg "FACTORS" = some (.ref a_FACTORS)
  kd_FACTORS : KDi K a_FACTORS [(365, V.int 366), (366, V.int 365)]
  t_STRETCH_PARTS : Tok
  g_STRETCH_PARTS : mg "STRETCH_PARTS" = some (.int 4 t_STRETCH_PARTS)
  t_PAIR : Tok
  g_PAIR : mg "PAIR" = some (.int 2 t_PAIR)
  n_abs : mg "abs" = none
  n_all : mg "all" = none
  n_bool : mg "bool" = none
  n_int : mg "int" = none
  n_isinstance : mg "isinstance" = none
  n_len : mg "len" = none
  n_list : mg "list" = none
  n_max : mg "max" = none
  n_min : mg "min" = none
  n_range : mg "range" = none
  n_repr : mg "repr" = none
  n_sorted : mg "sorted" = none
  n_sum : mg "sum" = none
  n_tuple : mg "tuple" = none
  n_zip : mg "zip" = none
def mkTx {K : Frag} {h : Heap} {mg : Str → Option Value} {a_is_integer : Addr} {oc_is_integer kV_is_integer dc_is_integer pm_is_integer cd_is_integer ct_is_integer : Value} {od_is_integer an_is_integer : Option Addr} {sl_is_integer : Array (Option Value)} {a_law_take : Addr} {oc_law_take kV_law_take dc_law_take pm_law_take cd_law_take ct_law_take : Value} {od_law_take an_law_take : Option Addr} {sl_law_take : Array (Option Value)} {a_stretch_parts : Addr} {oc_stretch_parts kV_stretch_parts dc_stretch_parts pm_stretch_parts cd_stretch_parts ct_stretch_parts : Value} {od_stretch_parts an_stretch_parts : Option Addr} {sl_stretch_parts : Array (Option Value)} {a_law_unit : Addr} {oc_law_unit kV_law_unit dc_law_unit pm_law_unit cd_law_unit ct_law_unit : Value} {od_law_unit an_law_unit : Option Addr} {sl_law_unit : Array (Option Value)} {a_law_day_parts : Addr} {oc_law_day_parts kV_law_day_parts dc_law_day_parts pm_law_day_parts cd_law_day_parts ct_law_day_parts : Value} {od_law_day_parts an_law_day_parts : Option Addr} {sl_law_day_parts : Array (Option Value)} {a_value_on : Addr} {oc_value_on kV_value_on dc_value_on pm_value_on cd_value_on ct_value_on : Value} {od_value_on an_value_on : Option Addr} {sl_value_on : Array (Option Value)} {a_law_value_at : Addr} {oc_law_value_at kV_law_value_at dc_law_value_at pm_law_value_at cd_law_value_at ct_law_value_at : Value} {od_law_value_at an_law_value_at : Option Addr} {sl_law_value_at : Array (Option Value)} {a_law_pot : Addr} {oc_law_pot kV_law_pot dc_law_pot pm_law_pot cd_law_pot ct_law_pot : Value} {od_law_pot an_law_pot : Option Addr} {sl_law_pot : Array (Option Value)} {a_law_cells : Addr} {oc_law_cells kV_law_cells dc_law_cells pm_law_cells cd_law_cells ct_law_cells : Value} {od_law_cells an_law_cells : Option Addr} {sl_law_cells : Array (Option Value)} {a_is_within : Addr} {oc_is_within kV_is_within dc_is_within pm_is_within cd_is_within ct_is_within : Value} {od_is_within an_is_within : Option Addr} {sl_is_within : Array (Option Value)} {a_law_of : Addr} {oc_law_of kV_law_of dc_law_of pm_law_of cd_law_of ct_law_of : Value} {od_law_of an_law_of : Option Addr} {sl_law_of : Array (Option Value)} {a_is_year : Addr} {oc_is_year kV_is_year dc_is_year pm_is_year cd_is_year ct_is_year : Value} {od_is_year an_is_year : Option Addr} {sl_is_year : Array (Option Value)} {a_days_told : Addr} {oc_days_told kV_days_told dc_days_told pm_days_told cd_days_told ct_days_told : Value} {od_days_told an_days_told : Option Addr} {sl_days_told : Array (Option Value)} {a_law_stretches_in : Addr} {oc_law_stretches_in kV_law_stretches_in dc_law_stretches_in pm_law_stretches_in cd_law_stretches_in ct_law_stretches_in : Value} {od_law_stretches_in an_law_stretches_in : Option Addr} {sl_law_stretches_in : Array (Option Value)} {a_check_number : Addr} {oc_check_number kV_check_number dc_check_number pm_check_number cd_check_number ct_check_number : Value} {od_check_number an_check_number : Option Addr} {sl_check_number : Array (Option Value)} {a_is_rate : Addr} {oc_is_rate kV_is_rate dc_is_rate pm_is_rate cd_is_rate ct_is_rate : Value} {od_is_rate an_is_rate : Option Addr} {sl_is_rate : Array (Option Value)} {a_is_balance : Addr} {oc_is_balance kV_is_balance dc_is_balance pm_is_balance cd_is_balance ct_is_balance : Value} {od_is_balance an_is_balance : Option Addr} {sl_is_balance : Array (Option Value)} {a_check_rest : Addr} {oc_check_rest kV_check_rest dc_check_rest pm_check_rest cd_check_rest ct_check_rest : Value} {od_check_rest an_check_rest : Option Addr} {sl_check_rest : Array (Option Value)} {a_law_stretch : Addr} {oc_law_stretch kV_law_stretch dc_law_stretch pm_law_stretch cd_law_stretch ct_law_stretch : Value} {od_law_stretch an_law_stretch : Option Addr} {sl_law_stretch : Array (Option Value)} {a_law_rest : Addr} {oc_law_rest kV_law_rest dc_law_rest pm_law_rest cd_law_rest ct_law_rest : Value} {od_law_rest an_law_rest : Option Addr} {sl_law_rest : Array (Option Value)} {a_is_table : Addr} {oc_is_table kV_is_table dc_is_table pm_is_table cd_is_table ct_is_table : Value} {od_is_table an_is_table : Option Addr} {sl_is_table : Array (Option Value)} {a_law_table : Addr} {oc_law_table kV_law_table dc_law_table pm_law_table cd_law_table ct_law_table : Value} {od_law_table an_law_table : Option Addr} {sl_law_table : Array (Option Value)} {a_split : Addr} {oc_split kV_split dc_split pm_split cd_split ct_split : Value} {od_split an_split : Option Addr} {sl_split : Array (Option Value)} {a_is_stretch : Addr} {oc_is_stretch kV_is_stretch dc_is_stretch pm_is_stretch cd_is_stretch ct_is_stretch : Value} {od_is_stretch an_is_stretch : Option Addr} {sl_is_stretch : Array (Option Value)} {a_value_at : Addr} {oc_value_at kV_value_at dc_value_at pm_value_at cd_value_at ct_value_at : Value} {od_value_at an_value_at : Option Addr} {sl_value_at : Array (Option Value)} {a_check_tables : Addr} {oc_check_tables kV_check_tables dc_check_tables pm_check_tables cd_check_tables ct_check_tables : Value} {od_check_tables an_check_tables : Option Addr} {sl_check_tables : Array (Option Value)} {a_law_tables : Addr} {oc_law_tables kV_law_tables dc_law_tables pm_law_tables cd_law_tables ct_law_tables : Value} {od_law_tables an_law_tables : Option Addr} {sl_law_tables : Array (Option Value)} {a_law_is_split_right : Addr} {oc_law_is_split_right kV_law_is_split_right dc_law_is_split_right pm_law_is_split_right cd_law_is_split_right ct_law_is_split_right : Value} {od_law_is_split_right an_law_is_split_right : Option Addr} {sl_law_is_split_right : Array (Option Value)} {a_first_day : Addr} {oc_first_day kV_first_day dc_first_day pm_first_day cd_first_day ct_first_day : Value} {od_first_day an_first_day : Option Addr} {sl_first_day : Array (Option Value)} {a_stretches_of : Addr} {oc_stretches_of kV_stretches_of dc_stretches_of pm_stretches_of cd_stretches_of ct_stretches_of : Value} {od_stretches_of an_stretches_of : Option Addr} {sl_stretches_of : Array (Option Value)} {a_law_is_first_right : Addr} {oc_law_is_first_right kV_law_is_first_right dc_law_is_first_right pm_law_is_first_right cd_law_is_first_right ct_law_is_first_right : Value} {od_law_is_first_right an_law_is_first_right : Option Addr} {sl_law_is_first_right : Array (Option Value)} {a_law_are_tables_right : Addr} {oc_law_are_tables_right kV_law_are_tables_right dc_law_are_tables_right pm_law_are_tables_right cd_law_are_tables_right ct_law_are_tables_right : Value} {od_law_are_tables_right an_law_are_tables_right : Option Addr} {sl_law_are_tables_right : Array (Option Value)} {a_law_right : Addr} {oc_law_right kV_law_right dc_law_right pm_law_right cd_law_right ct_law_right : Value} {od_law_right an_law_right : Option Addr} {sl_law_right : Array (Option Value)} {a_law : Addr} {oc_law kV_law dc_law pm_law cd_law ct_law : Value} {od_law an_law : Option Addr} {sl_law : Array (Option Value)} {t_PARTS : Tok} {t_MOST_RATE : Tok} {t_MOST_BALANCE : Tok} {t_MOST_DAYS : Tok} {t_MOST_STRETCHES : Tok} {t_MOST_UNITS : Tok} {t_MOST_AMOUNT : Tok} {t_MOST_WEIGHT : Tok} {t_MOST_TABLE : Tok} {a_FACTORS : Addr} {t_STRETCH_PARTS : Tok} {t_PAIR : Tok} (X : K.In h) (G : h.Ns mainGlobals mg)
    (n_is_integer : nsIn K mainGlobals "is_integer" = some (some (.ref a_is_integer)))
    (l_is_integer : K.lookup a_is_integer = some ⟨oc_is_integer, od_is_integer, .func (fnOf "is_integer" "is_integer" (defArgs (top 9)) (defBody (top 9)) (defScope (top 9)) .none kV_is_integer dc_is_integer pm_is_integer an_is_integer cd_is_integer ct_is_integer), sl_is_integer⟩)
    (c_is_integer : codeIn K cd_is_integer "is_integer" = true)
    (k_is_integer : keepIn K (.ref a_is_integer) = true)
    (n_law_take : nsIn K mainGlobals "_law_take" = some (some (.ref a_law_take)))
    (l_law_take : K.lookup a_law_take = some ⟨oc_law_take, od_law_take, .func (fnOf "_law_take" "_law_take" (defArgs (top 41)) (defBody (top 41)) (defScope (top 41)) .none kV_law_take dc_law_take pm_law_take an_law_take cd_law_take ct_law_take), sl_law_take⟩)
    (c_law_take : codeIn K cd_law_take "_law_take" = true)
    (k_law_take : keepIn K (.ref a_law_take) = true)
    (n_stretch_parts : nsIn K mainGlobals "stretch_parts" = some (some (.ref a_stretch_parts)))
    (l_stretch_parts : K.lookup a_stretch_parts = some ⟨oc_stretch_parts, od_stretch_parts, .func (fnOf "stretch_parts" "stretch_parts" (defArgs (top 30)) (defBody (top 30)) (defScope (top 30)) .none kV_stretch_parts dc_stretch_parts pm_stretch_parts an_stretch_parts cd_stretch_parts ct_stretch_parts), sl_stretch_parts⟩)
    (c_stretch_parts : codeIn K cd_stretch_parts "stretch_parts" = true)
    (k_stretch_parts : keepIn K (.ref a_stretch_parts) = true)
    (n_law_unit : nsIn K mainGlobals "_law_unit" = some (some (.ref a_law_unit)))
    (l_law_unit : K.lookup a_law_unit = some ⟨oc_law_unit, od_law_unit, .func (fnOf "_law_unit" "_law_unit" (defArgs (top 44)) (defBody (top 44)) (defScope (top 44)) .none kV_law_unit dc_law_unit pm_law_unit an_law_unit cd_law_unit ct_law_unit), sl_law_unit⟩)
    (c_law_unit : codeIn K cd_law_unit "_law_unit" = true)
    (k_law_unit : keepIn K (.ref a_law_unit) = true)
    (n_law_day_parts : nsIn K mainGlobals "_law_day_parts" = some (some (.ref a_law_day_parts)))
    (l_law_day_parts : K.lookup a_law_day_parts = some ⟨oc_law_day_parts, od_law_day_parts, .func (fnOf "_law_day_parts" "_law_day_parts" (defArgs (top 45)) (defBody (top 45)) (defScope (top 45)) .none kV_law_day_parts dc_law_day_parts pm_law_day_parts an_law_day_parts cd_law_day_parts ct_law_day_parts), sl_law_day_parts⟩)
    (c_law_day_parts : codeIn K cd_law_day_parts "_law_day_parts" = true)
    (k_law_day_parts : keepIn K (.ref a_law_day_parts) = true)
    (n_value_on : nsIn K mainGlobals "value_on" = some (some (.ref a_value_on)))
    (l_value_on : K.lookup a_value_on = some ⟨oc_value_on, od_value_on, .func (fnOf "value_on" "value_on" (defArgs (top 35)) (defBody (top 35)) (defScope (top 35)) .none kV_value_on dc_value_on pm_value_on an_value_on cd_value_on ct_value_on), sl_value_on⟩)
    (c_value_on : codeIn K cd_value_on "value_on" = true)
    (k_value_on : keepIn K (.ref a_value_on) = true)
    (n_law_value_at : nsIn K mainGlobals "_law_value_at" = some (some (.ref a_law_value_at)))
    (l_law_value_at : K.lookup a_law_value_at = some ⟨oc_law_value_at, od_law_value_at, .func (fnOf "_law_value_at" "_law_value_at" (defArgs (top 49)) (defBody (top 49)) (defScope (top 49)) .none kV_law_value_at dc_law_value_at pm_law_value_at an_law_value_at cd_law_value_at ct_law_value_at), sl_law_value_at⟩)
    (c_law_value_at : codeIn K cd_law_value_at "_law_value_at" = true)
    (k_law_value_at : keepIn K (.ref a_law_value_at) = true)
    (n_law_pot : nsIn K mainGlobals "_law_pot" = some (some (.ref a_law_pot)))
    (l_law_pot : K.lookup a_law_pot = some ⟨oc_law_pot, od_law_pot, .func (fnOf "_law_pot" "_law_pot" (defArgs (top 40)) (defBody (top 40)) (defScope (top 40)) .none kV_law_pot dc_law_pot pm_law_pot an_law_pot cd_law_pot ct_law_pot), sl_law_pot⟩)
    (c_law_pot : codeIn K cd_law_pot "_law_pot" = true)
    (k_law_pot : keepIn K (.ref a_law_pot) = true)
    (n_law_cells : nsIn K mainGlobals "_law_cells" = some (some (.ref a_law_cells)))
    (l_law_cells : K.lookup a_law_cells = some ⟨oc_law_cells, od_law_cells, .func (fnOf "_law_cells" "_law_cells" (defArgs (top 43)) (defBody (top 43)) (defScope (top 43)) .none kV_law_cells dc_law_cells pm_law_cells an_law_cells cd_law_cells ct_law_cells), sl_law_cells⟩)
    (c_law_cells : codeIn K cd_law_cells "_law_cells" = true)
    (k_law_cells : keepIn K (.ref a_law_cells) = true)
    (n_is_within : nsIn K mainGlobals "is_within" = some (some (.ref a_is_within)))
    (l_is_within : K.lookup a_is_within = some ⟨oc_is_within, od_is_within, .func (fnOf "is_within" "is_within" (defArgs (top 10)) (defBody (top 10)) (defScope (top 10)) .none kV_is_within dc_is_within pm_is_within an_is_within cd_is_within ct_is_within), sl_is_within⟩)
    (c_is_within : codeIn K cd_is_within "is_within" = true)
    (k_is_within : keepIn K (.ref a_is_within) = true)
    (n_law_of : nsIn K mainGlobals "_law_of" = some (some (.ref a_law_of)))
    (l_law_of : K.lookup a_law_of = some ⟨oc_law_of, od_law_of, .func (fnOf "_law_of" "_law_of" (defArgs (top 42)) (defBody (top 42)) (defScope (top 42)) .none kV_law_of dc_law_of pm_law_of an_law_of cd_law_of ct_law_of), sl_law_of⟩)
    (c_law_of : codeIn K cd_law_of "_law_of" = true)
    (k_law_of : keepIn K (.ref a_law_of) = true)
    (n_is_year : nsIn K mainGlobals "is_year" = some (some (.ref a_is_year)))
    (l_is_year : K.lookup a_is_year = some ⟨oc_is_year, od_is_year, .func (fnOf "is_year" "is_year" (defArgs (top 26)) (defBody (top 26)) (defScope (top 26)) .none kV_is_year dc_is_year pm_is_year an_is_year cd_is_year ct_is_year), sl_is_year⟩)
    (c_is_year : codeIn K cd_is_year "is_year" = true)
    (k_is_year : keepIn K (.ref a_is_year) = true)
    (n_days_told : nsIn K mainGlobals "days_told" = some (some (.ref a_days_told)))
    (l_days_told : K.lookup a_days_told = some ⟨oc_days_told, od_days_told, .func (fnOf "days_told" "days_told" (defArgs (top 37)) (defBody (top 37)) (defScope (top 37)) .none kV_days_told dc_days_told pm_days_told an_days_told cd_days_told ct_days_told), sl_days_told⟩)
    (c_days_told : codeIn K cd_days_told "days_told" = true)
    (k_days_told : keepIn K (.ref a_days_told) = true)
    (n_law_stretches_in : nsIn K mainGlobals "_law_stretches_in" = some (some (.ref a_law_stretches_in)))
    (l_law_stretches_in : K.lookup a_law_stretches_in = some ⟨oc_law_stretches_in, od_law_stretches_in, .func (fnOf "_law_stretches_in" "_law_stretches_in" (defArgs (top 51)) (defBody (top 51)) (defScope (top 51)) .none kV_law_stretches_in dc_law_stretches_in pm_law_stretches_in an_law_stretches_in cd_law_stretches_in ct_law_stretches_in), sl_law_stretches_in⟩)
    (c_law_stretches_in : codeIn K cd_law_stretches_in "_law_stretches_in" = true)
    (k_law_stretches_in : keepIn K (.ref a_law_stretches_in) = true)
    (n_check_number : nsIn K mainGlobals "check_number" = some (some (.ref a_check_number)))
    (l_check_number : K.lookup a_check_number = some ⟨oc_check_number, od_check_number, .func (fnOf "check_number" "check_number" (defArgs (top 29)) (defBody (top 29)) (defScope (top 29)) .none kV_check_number dc_check_number pm_check_number an_check_number cd_check_number ct_check_number), sl_check_number⟩)
    (c_check_number : codeIn K cd_check_number "check_number" = true)
    (k_check_number : keepIn K (.ref a_check_number) = true)
    (n_is_rate : nsIn K mainGlobals "is_rate" = some (some (.ref a_is_rate)))
    (l_is_rate : K.lookup a_is_rate = some ⟨oc_is_rate, od_is_rate, .func (fnOf "is_rate" "is_rate" (defArgs (top 25)) (defBody (top 25)) (defScope (top 25)) .none kV_is_rate dc_is_rate pm_is_rate an_is_rate cd_is_rate ct_is_rate), sl_is_rate⟩)
    (c_is_rate : codeIn K cd_is_rate "is_rate" = true)
    (k_is_rate : keepIn K (.ref a_is_rate) = true)
    (n_is_balance : nsIn K mainGlobals "is_balance" = some (some (.ref a_is_balance)))
    (l_is_balance : K.lookup a_is_balance = some ⟨oc_is_balance, od_is_balance, .func (fnOf "is_balance" "is_balance" (defArgs (top 24)) (defBody (top 24)) (defScope (top 24)) .none kV_is_balance dc_is_balance pm_is_balance an_is_balance cd_is_balance ct_is_balance), sl_is_balance⟩)
    (c_is_balance : codeIn K cd_is_balance "is_balance" = true)
    (k_is_balance : keepIn K (.ref a_is_balance) = true)
    (n_check_rest : nsIn K mainGlobals "check_rest" = some (some (.ref a_check_rest)))
    (l_check_rest : K.lookup a_check_rest = some ⟨oc_check_rest, od_check_rest, .func (fnOf "check_rest" "check_rest" (defArgs (top 28)) (defBody (top 28)) (defScope (top 28)) .none kV_check_rest dc_check_rest pm_check_rest an_check_rest cd_check_rest ct_check_rest), sl_check_rest⟩)
    (c_check_rest : codeIn K cd_check_rest "check_rest" = true)
    (k_check_rest : keepIn K (.ref a_check_rest) = true)
    (n_law_stretch : nsIn K mainGlobals "_law_stretch" = some (some (.ref a_law_stretch)))
    (l_law_stretch : K.lookup a_law_stretch = some ⟨oc_law_stretch, od_law_stretch, .func (fnOf "_law_stretch" "_law_stretch" (defArgs (top 47)) (defBody (top 47)) (defScope (top 47)) .none kV_law_stretch dc_law_stretch pm_law_stretch an_law_stretch cd_law_stretch ct_law_stretch), sl_law_stretch⟩)
    (c_law_stretch : codeIn K cd_law_stretch "_law_stretch" = true)
    (k_law_stretch : keepIn K (.ref a_law_stretch) = true)
    (n_law_rest : nsIn K mainGlobals "_law_rest" = some (some (.ref a_law_rest)))
    (l_law_rest : K.lookup a_law_rest = some ⟨oc_law_rest, od_law_rest, .func (fnOf "_law_rest" "_law_rest" (defArgs (top 46)) (defBody (top 46)) (defScope (top 46)) .none kV_law_rest dc_law_rest pm_law_rest an_law_rest cd_law_rest ct_law_rest), sl_law_rest⟩)
    (c_law_rest : codeIn K cd_law_rest "_law_rest" = true)
    (k_law_rest : keepIn K (.ref a_law_rest) = true)
    (n_is_table : nsIn K mainGlobals "is_table" = some (some (.ref a_is_table)))
    (l_is_table : K.lookup a_is_table = some ⟨oc_is_table, od_is_table, .func (fnOf "is_table" "is_table" (defArgs (top 33)) (defBody (top 33)) (defScope (top 33)) .none kV_is_table dc_is_table pm_is_table an_is_table cd_is_table ct_is_table), sl_is_table⟩)
    (c_is_table : codeIn K cd_is_table "is_table" = true)
    (k_is_table : keepIn K (.ref a_is_table) = true)
    (n_law_table : nsIn K mainGlobals "_law_table" = some (some (.ref a_law_table)))
    (l_law_table : K.lookup a_law_table = some ⟨oc_law_table, od_law_table, .func (fnOf "_law_table" "_law_table" (defArgs (top 48)) (defBody (top 48)) (defScope (top 48)) .none kV_law_table dc_law_table pm_law_table an_law_table cd_law_table ct_law_table), sl_law_table⟩)
    (c_law_table : codeIn K cd_law_table "_law_table" = true)
    (k_law_table : keepIn K (.ref a_law_table) = true)
    (n_split : nsIn K mainGlobals "split" = some (some (.ref a_split)))
    (l_split : K.lookup a_split = some ⟨oc_split, od_split, .func (fnOf "split" "split" (defArgs (top 32)) (defBody (top 32)) (defScope (top 32)) .none kV_split dc_split pm_split an_split cd_split ct_split), sl_split⟩)
    (c_split : codeIn K cd_split "split" = true)
    (k_split : keepIn K (.ref a_split) = true)
    (n_is_stretch : nsIn K mainGlobals "is_stretch" = some (some (.ref a_is_stretch)))
    (l_is_stretch : K.lookup a_is_stretch = some ⟨oc_is_stretch, od_is_stretch, .func (fnOf "is_stretch" "is_stretch" (defArgs (top 27)) (defBody (top 27)) (defScope (top 27)) .none kV_is_stretch dc_is_stretch pm_is_stretch an_is_stretch cd_is_stretch ct_is_stretch), sl_is_stretch⟩)
    (c_is_stretch : codeIn K cd_is_stretch "is_stretch" = true)
    (k_is_stretch : keepIn K (.ref a_is_stretch) = true)
    (n_value_at : nsIn K mainGlobals "value_at" = some (some (.ref a_value_at)))
    (l_value_at : K.lookup a_value_at = some ⟨oc_value_at, od_value_at, .func (fnOf "value_at" "value_at" (defArgs (top 36)) (defBody (top 36)) (defScope (top 36)) .none kV_value_at dc_value_at pm_value_at an_value_at cd_value_at ct_value_at), sl_value_at⟩)
    (c_value_at : codeIn K cd_value_at "value_at" = true)
    (k_value_at : keepIn K (.ref a_value_at) = true)
    (n_check_tables : nsIn K mainGlobals "check_tables" = some (some (.ref a_check_tables)))
    (l_check_tables : K.lookup a_check_tables = some ⟨oc_check_tables, od_check_tables, .func (fnOf "check_tables" "check_tables" (defArgs (top 34)) (defBody (top 34)) (defScope (top 34)) .none kV_check_tables dc_check_tables pm_check_tables an_check_tables cd_check_tables ct_check_tables), sl_check_tables⟩)
    (c_check_tables : codeIn K cd_check_tables "check_tables" = true)
    (k_check_tables : keepIn K (.ref a_check_tables) = true)
    (n_law_tables : nsIn K mainGlobals "_law_tables" = some (some (.ref a_law_tables)))
    (l_law_tables : K.lookup a_law_tables = some ⟨oc_law_tables, od_law_tables, .func (fnOf "_law_tables" "_law_tables" (defArgs (top 50)) (defBody (top 50)) (defScope (top 50)) .none kV_law_tables dc_law_tables pm_law_tables an_law_tables cd_law_tables ct_law_tables), sl_law_tables⟩)
    (c_law_tables : codeIn K cd_law_tables "_law_tables" = true)
    (k_law_tables : keepIn K (.ref a_law_tables) = true)
    (n_law_is_split_right : nsIn K mainGlobals "_law_is_split_right" = some (some (.ref a_law_is_split_right)))
    (l_law_is_split_right : K.lookup a_law_is_split_right = some ⟨oc_law_is_split_right, od_law_is_split_right, .func (fnOf "_law_is_split_right" "_law_is_split_right" (defArgs (top 54)) (defBody (top 54)) (defScope (top 54)) .none kV_law_is_split_right dc_law_is_split_right pm_law_is_split_right an_law_is_split_right cd_law_is_split_right ct_law_is_split_right), sl_law_is_split_right⟩)
    (c_law_is_split_right : codeIn K cd_law_is_split_right "_law_is_split_right" = true)
    (k_law_is_split_right : keepIn K (.ref a_law_is_split_right) = true)
    (n_first_day : nsIn K mainGlobals "first_day" = some (some (.ref a_first_day)))
    (l_first_day : K.lookup a_first_day = some ⟨oc_first_day, od_first_day, .func (fnOf "first_day" "first_day" (defArgs (top 31)) (defBody (top 31)) (defScope (top 31)) .none kV_first_day dc_first_day pm_first_day an_first_day cd_first_day ct_first_day), sl_first_day⟩)
    (c_first_day : codeIn K cd_first_day "first_day" = true)
    (k_first_day : keepIn K (.ref a_first_day) = true)
    (n_stretches_of : nsIn K mainGlobals "stretches_of" = some (some (.ref a_stretches_of)))
    (l_stretches_of : K.lookup a_stretches_of = some ⟨oc_stretches_of, od_stretches_of, .func (fnOf "stretches_of" "stretches_of" (defArgs (top 38)) (defBody (top 38)) (defScope (top 38)) .none kV_stretches_of dc_stretches_of pm_stretches_of an_stretches_of cd_stretches_of ct_stretches_of), sl_stretches_of⟩)
    (c_stretches_of : codeIn K cd_stretches_of "stretches_of" = true)
    (k_stretches_of : keepIn K (.ref a_stretches_of) = true)
    (n_law_is_first_right : nsIn K mainGlobals "_law_is_first_right" = some (some (.ref a_law_is_first_right)))
    (l_law_is_first_right : K.lookup a_law_is_first_right = some ⟨oc_law_is_first_right, od_law_is_first_right, .func (fnOf "_law_is_first_right" "_law_is_first_right" (defArgs (top 53)) (defBody (top 53)) (defScope (top 53)) .none kV_law_is_first_right dc_law_is_first_right pm_law_is_first_right an_law_is_first_right cd_law_is_first_right ct_law_is_first_right), sl_law_is_first_right⟩)
    (c_law_is_first_right : codeIn K cd_law_is_first_right "_law_is_first_right" = true)
    (k_law_is_first_right : keepIn K (.ref a_law_is_first_right) = true)
    (n_law_are_tables_right : nsIn K mainGlobals "_law_are_tables_right" = some (some (.ref a_law_are_tables_right)))
    (l_law_are_tables_right : K.lookup a_law_are_tables_right = some ⟨oc_law_are_tables_right, od_law_are_tables_right, .func (fnOf "_law_are_tables_right" "_law_are_tables_right" (defArgs (top 52)) (defBody (top 52)) (defScope (top 52)) .none kV_law_are_tables_right dc_law_are_tables_right pm_law_are_tables_right an_law_are_tables_right cd_law_are_tables_right ct_law_are_tables_right), sl_law_are_tables_right⟩)
    (c_law_are_tables_right : codeIn K cd_law_are_tables_right "_law_are_tables_right" = true)
    (k_law_are_tables_right : keepIn K (.ref a_law_are_tables_right) = true)
    (n_law_right : nsIn K mainGlobals "_law_right" = some (some (.ref a_law_right)))
    (l_law_right : K.lookup a_law_right = some ⟨oc_law_right, od_law_right, .func (fnOf "_law_right" "_law_right" (defArgs (top 55)) (defBody (top 55)) (defScope (top 55)) .none kV_law_right dc_law_right pm_law_right an_law_right cd_law_right ct_law_right), sl_law_right⟩)
    (c_law_right : codeIn K cd_law_right "_law_right" = true)
    (k_law_right : keepIn K (.ref a_law_right) = true)
    (n_law : nsIn K mainGlobals "law" = some (some (.ref a_law)))
    (l_law : K.lookup a_law = some ⟨oc_law, od_law, .func (fnOf "law" "law" (defArgs (top 56)) (defBody (top 56)) (defScope (top 56)) .none kV_law dc_law pm_law an_law cd_law ct_law), sl_law⟩)
    (c_law : codeIn K cd_law "law" = true)
    (k_law : keepIn K (.ref a_law) = true)
    (g_PARTS : nsIn K mainGlobals "PARTS" = some (some (.int 133590000000 t_PARTS)))
    (g_MOST_RATE : nsIn K mainGlobals "MOST_RATE" = some (some (.int 1000000 t_MOST_RATE)))
    (g_MOST_BALANCE : nsIn K mainGlobals "MOST_BALANCE" = some (some (.int 1000000000000 t_MOST_BALANCE)))
    (g_MOST_DAYS : nsIn K mainGlobals "MOST_DAYS" = some (some (.int 100000 t_MOST_DAYS)))
    (g_MOST_STRETCHES : nsIn K mainGlobals "MOST_STRETCHES" = some (some (.int 1000 t_MOST_STRETCHES)))
    (g_MOST_UNITS : nsIn K mainGlobals "MOST_UNITS" = some (some (.int 1000000000000 t_MOST_UNITS)))
    (g_MOST_AMOUNT : nsIn K mainGlobals "MOST_AMOUNT" = some (some (.int 1000000000000000 t_MOST_AMOUNT)))
    (g_MOST_WEIGHT : nsIn K mainGlobals "MOST_WEIGHT" = some (some (.int 1000000000000 t_MOST_WEIGHT)))
    (g_MOST_TABLE : nsIn K mainGlobals "MOST_TABLE" = some (some (.int 1000 t_MOST_TABLE)))
    (g_FACTORS : nsIn K mainGlobals "FACTORS" = some (some (.ref a_FACTORS)))
    (kd_FACTORS : KDi K a_FACTORS [(365, V.int 366), (366, V.int 365)])
    (g_STRETCH_PARTS : nsIn K mainGlobals "STRETCH_PARTS" = some (some (.int 4 t_STRETCH_PARTS)))
    (g_PAIR : nsIn K mainGlobals "PAIR" = some (some (.int 2 t_PAIR)))
    (n_abs : nsIn K mainGlobals "abs" = some none)
    (n_all : nsIn K mainGlobals "all" = some none)
    (n_bool : nsIn K mainGlobals "bool" = some none)
    (n_int : nsIn K mainGlobals "int" = some none)
    (n_isinstance : nsIn K mainGlobals "isinstance" = some none)
    (n_len : nsIn K mainGlobals "len" = some none)
    (n_list : nsIn K mainGlobals "list" = some none)
    (n_max : nsIn K mainGlobals "max" = some none)
    (n_min : nsIn K mainGlobals "min" = some none)
    (n_range : nsIn K mainGlobals "range" = some none)
    (n_repr : nsIn K mainGlobals "repr" = some none)
    (n_sorted : nsIn K mainGlobals "sorted" = some none)
    (n_sum : nsIn K mainGlobals "sum" = some none)
    (n_tuple : nsIn K mainGlobals "tuple" = some none)
    (n_zip : nsIn K mainGlobals "zip" = some none) : Tx K mg where
  a_is_integer := a_is_integer
  d_is_integer := fnOf "is_integer" "is_integer" (defArgs (top 9)) (defBody (top 9)) (defScope (top 9)) .none kV_is_integer dc_is_integer pm_is_integer an_is_integer cd_is_integer ct_is_integer
  F_is_integer := fun_mk (st := (top 9)) l_is_integer c_is_integer k_is_integer
  m_is_integer := mg_of X G n_is_integer
  a_law_take := a_law_take
  d_law_take := fnOf "_law_take" "_law_take" (defArgs (top 41)) (defBody (top 41)) (defScope (top 41)) .none kV_law_take dc_law_take pm_law_take an_law_take cd_law_take ct_law_take
  F_law_take := fun_mk (st := (top 41)) l_law_take c_law_take k_law_take
  m_law_take := mg_of X G n_law_take
  a_stretch_parts := a_stretch_parts
  d_stretch_parts := fnOf "stretch_parts" "stretch_parts" (defArgs (top 30)) (defBody (top 30)) (defScope (top 30)) .none kV_stretch_parts dc_stretch_parts pm_stretch_parts an_stretch_parts cd_stretch_parts ct_stretch_parts
  F_stretch_parts := fun_mk (st := (top 30)) l_stretch_parts c_stretch_parts k_stretch_parts
  m_stretch_parts := mg_of X G n_stretch_parts
  a_law_unit := a_law_unit
  d_law_unit := fnOf "_law_unit" "_law_unit" (defArgs (top 44)) (defBody (top 44)) (defScope (top 44)) .none kV_law_unit dc_law_unit pm_law_unit an_law_unit cd_law_unit ct_law_unit
  F_law_unit := fun_mk (st := (top 44)) l_law_unit c_law_unit k_law_unit
  m_law_unit := mg_of X G n_law_unit
  a_law_day_parts := a_law_day_parts
  d_law_day_parts := fnOf "_law_day_parts" "_law_day_parts" (defArgs (top 45)) (defBody (top 45)) (defScope (top 45)) .none kV_law_day_parts dc_law_day_parts pm_law_day_parts an_law_day_parts cd_law_day_parts ct_law_day_parts
  F_law_day_parts := fun_mk (st := (top 45)) l_law_day_parts c_law_day_parts k_law_day_parts
  m_law_day_parts := mg_of X G n_law_day_parts
  a_value_on := a_value_on
  d_value_on := fnOf "value_on" "value_on" (defArgs (top 35)) (defBody (top 35)) (defScope (top 35)) .none kV_value_on dc_value_on pm_value_on an_value_on cd_value_on ct_value_on
  F_value_on := fun_mk (st := (top 35)) l_value_on c_value_on k_value_on
  m_value_on := mg_of X G n_value_on
  a_law_value_at := a_law_value_at
  d_law_value_at := fnOf "_law_value_at" "_law_value_at" (defArgs (top 49)) (defBody (top 49)) (defScope (top 49)) .none kV_law_value_at dc_law_value_at pm_law_value_at an_law_value_at cd_law_value_at ct_law_value_at
  F_law_value_at := fun_mk (st := (top 49)) l_law_value_at c_law_value_at k_law_value_at
  m_law_value_at := mg_of X G n_law_value_at
  a_law_pot := a_law_pot
  d_law_pot := fnOf "_law_pot" "_law_pot" (defArgs (top 40)) (defBody (top 40)) (defScope (top 40)) .none kV_law_pot dc_law_pot pm_law_pot an_law_pot cd_law_pot ct_law_pot
  F_law_pot := fun_mk (st := (top 40)) l_law_pot c_law_pot k_law_pot
  m_law_pot := mg_of X G n_law_pot
  a_law_cells := a_law_cells
  d_law_cells := fnOf "_law_cells" "_law_cells" (defArgs (top 43)) (defBody (top 43)) (defScope (top 43)) .none kV_law_cells dc_law_cells pm_law_cells an_law_cells cd_law_cells ct_law_cells
  F_law_cells := fun_mk (st := (top 43)) l_law_cells c_law_cells k_law_cells
  m_law_cells := mg_of X G n_law_cells
  a_is_within := a_is_within
  d_is_within := fnOf "is_within" "is_within" (defArgs (top 10)) (defBody (top 10)) (defScope (top 10)) .none kV_is_within dc_is_within pm_is_within an_is_within cd_is_within ct_is_within
  F_is_within := fun_mk (st := (top 10)) l_is_within c_is_within k_is_within
  m_is_within := mg_of X G n_is_within
  a_law_of := a_law_of
  d_law_of := fnOf "_law_of" "_law_of" (defArgs (top 42)) (defBody (top 42)) (defScope (top 42)) .none kV_law_of dc_law_of pm_law_of an_law_of cd_law_of ct_law_of
  F_law_of := fun_mk (st := (top 42)) l_law_of c_law_of k_law_of
  m_law_of := mg_of X G n_law_of
  a_is_year := a_is_year
  d_is_year := fnOf "is_year" "is_year" (defArgs (top 26)) (defBody (top 26)) (defScope (top 26)) .none kV_is_year dc_is_year pm_is_year an_is_year cd_is_year ct_is_year
  F_is_year := fun_mk (st := (top 26)) l_is_year c_is_year k_is_year
  m_is_year := mg_of X G n_is_year
  a_days_told := a_days_told
  d_days_told := fnOf "days_told" "days_told" (defArgs (top 37)) (defBody (top 37)) (defScope (top 37)) .none kV_days_told dc_days_told pm_days_told an_days_told cd_days_told ct_days_told
  F_days_told := fun_mk (st := (top 37)) l_days_told c_days_told k_days_told
  m_days_told := mg_of X G n_days_told
  a_law_stretches_in := a_law_stretches_in
  d_law_stretches_in := fnOf "_law_stretches_in" "_law_stretches_in" (defArgs (top 51)) (defBody (top 51)) (defScope (top 51)) .none kV_law_stretches_in dc_law_stretches_in pm_law_stretches_in an_law_stretches_in cd_law_stretches_in ct_law_stretches_in
  F_law_stretches_in := fun_mk (st := (top 51)) l_law_stretches_in c_law_stretches_in k_law_stretches_in
  m_law_stretches_in := mg_of X G n_law_stretches_in
  a_check_number := a_check_number
  d_check_number := fnOf "check_number" "check_number" (defArgs (top 29)) (defBody (top 29)) (defScope (top 29)) .none kV_check_number dc_check_number pm_check_number an_check_number cd_check_number ct_check_number
  F_check_number := fun_mk (st := (top 29)) l_check_number c_check_number k_check_number
  m_check_number := mg_of X G n_check_number
  a_is_rate := a_is_rate
  d_is_rate := fnOf "is_rate" "is_rate" (defArgs (top 25)) (defBody (top 25)) (defScope (top 25)) .none kV_is_rate dc_is_rate pm_is_rate an_is_rate cd_is_rate ct_is_rate
  F_is_rate := fun_mk (st := (top 25)) l_is_rate c_is_rate k_is_rate
  m_is_rate := mg_of X G n_is_rate
  a_is_balance := a_is_balance
  d_is_balance := fnOf "is_balance" "is_balance" (defArgs (top 24)) (defBody (top 24)) (defScope (top 24)) .none kV_is_balance dc_is_balance pm_is_balance an_is_balance cd_is_balance ct_is_balance
  F_is_balance := fun_mk (st := (top 24)) l_is_balance c_is_balance k_is_balance
  m_is_balance := mg_of X G n_is_balance
  a_check_rest := a_check_rest
  d_check_rest := fnOf "check_rest" "check_rest" (defArgs (top 28)) (defBody (top 28)) (defScope (top 28)) .none kV_check_rest dc_check_rest pm_check_rest an_check_rest cd_check_rest ct_check_rest
  F_check_rest := fun_mk (st := (top 28)) l_check_rest c_check_rest k_check_rest
  m_check_rest := mg_of X G n_check_rest
  a_law_stretch := a_law_stretch
  d_law_stretch := fnOf "_law_stretch" "_law_stretch" (defArgs (top 47)) (defBody (top 47)) (defScope (top 47)) .none kV_law_stretch dc_law_stretch pm_law_stretch an_law_stretch cd_law_stretch ct_law_stretch
  F_law_stretch := fun_mk (st := (top 47)) l_law_stretch c_law_stretch k_law_stretch
  m_law_stretch := mg_of X G n_law_stretch
  a_law_rest := a_law_rest
  d_law_rest := fnOf "_law_rest" "_law_rest" (defArgs (top 46)) (defBody (top 46)) (defScope (top 46)) .none kV_law_rest dc_law_rest pm_law_rest an_law_rest cd_law_rest ct_law_rest
  F_law_rest := fun_mk (st := (top 46)) l_law_rest c_law_rest k_law_rest
  m_law_rest := mg_of X G n_law_rest
  a_is_table := a_is_table
  d_is_table := fnOf "is_table" "is_table" (defArgs (top 33)) (defBody (top 33)) (defScope (top 33)) .none kV_is_table dc_is_table pm_is_table an_is_table cd_is_table ct_is_table
  F_is_table := fun_mk (st := (top 33)) l_is_table c_is_table k_is_table
  m_is_table := mg_of X G n_is_table
  a_law_table := a_law_table
  d_law_table := fnOf "_law_table" "_law_table" (defArgs (top 48)) (defBody (top 48)) (defScope (top 48)) .none kV_law_table dc_law_table pm_law_table an_law_table cd_law_table ct_law_table
  F_law_table := fun_mk (st := (top 48)) l_law_table c_law_table k_law_table
  m_law_table := mg_of X G n_law_table
  a_split := a_split
  d_split := fnOf "split" "split" (defArgs (top 32)) (defBody (top 32)) (defScope (top 32)) .none kV_split dc_split pm_split an_split cd_split ct_split
  F_split := fun_mk (st := (top 32)) l_split c_split k_split
  m_split := mg_of X G n_split
  a_is_stretch := a_is_stretch
  d_is_stretch := fnOf "is_stretch" "is_stretch" (defArgs (top 27)) (defBody (top 27)) (defScope (top 27)) .none kV_is_stretch dc_is_stretch pm_is_stretch an_is_stretch cd_is_stretch ct_is_stretch
  F_is_stretch := fun_mk (st := (top 27)) l_is_stretch c_is_stretch k_is_stretch
  m_is_stretch := mg_of X G n_is_stretch
  a_value_at := a_value_at
  d_value_at := fnOf "value_at" "value_at" (defArgs (top 36)) (defBody (top 36)) (defScope (top 36)) .none kV_value_at dc_value_at pm_value_at an_value_at cd_value_at ct_value_at
  F_value_at := fun_mk (st := (top 36)) l_value_at c_value_at k_value_at
  m_value_at := mg_of X G n_value_at
  a_check_tables := a_check_tables
  d_check_tables := fnOf "check_tables" "check_tables" (defArgs (top 34)) (defBody (top 34)) (defScope (top 34)) .none kV_check_tables dc_check_tables pm_check_tables an_check_tables cd_check_tables ct_check_tables
  F_check_tables := fun_mk (st := (top 34)) l_check_tables c_check_tables k_check_tables
  m_check_tables := mg_of X G n_check_tables
  a_law_tables := a_law_tables
  d_law_tables := fnOf "_law_tables" "_law_tables" (defArgs (top 50)) (defBody (top 50)) (defScope (top 50)) .none kV_law_tables dc_law_tables pm_law_tables an_law_tables cd_law_tables ct_law_tables
  F_law_tables := fun_mk (st := (top 50)) l_law_tables c_law_tables k_law_tables
  m_law_tables := mg_of X G n_law_tables
  a_law_is_split_right := a_law_is_split_right
  d_law_is_split_right := fnOf "_law_is_split_right" "_law_is_split_right" (defArgs (top 54)) (defBody (top 54)) (defScope (top 54)) .none kV_law_is_split_right dc_law_is_split_right pm_law_is_split_right an_law_is_split_right cd_law_is_split_right ct_law_is_split_right
  F_law_is_split_right := fun_mk (st := (top 54)) l_law_is_split_right c_law_is_split_right k_law_is_split_right
  m_law_is_split_right := mg_of X G n_law_is_split_right
  a_first_day := a_first_day
  d_first_day := fnOf "first_day" "first_day" (defArgs (top 31)) (defBody (top 31)) (defScope (top 31)) .none kV_first_day dc_first_day pm_first_day an_first_day cd_first_day ct_first_day
  F_first_day := fun_mk (st := (top 31)) l_first_day c_first_day k_first_day
  m_first_day := mg_of X G n_first_day
  a_stretches_of := a_stretches_of
  d_stretches_of := fnOf "stretches_of" "stretches_of" (defArgs (top 38)) (defBody (top 38)) (defScope (top 38)) .none kV_stretches_of dc_stretches_of pm_stretches_of an_stretches_of cd_stretches_of ct_stretches_of
  F_stretches_of := fun_mk (st := (top 38)) l_stretches_of c_stretches_of k_stretches_of
  m_stretches_of := mg_of X G n_stretches_of
  a_law_is_first_right := a_law_is_first_right
  d_law_is_first_right := fnOf "_law_is_first_right" "_law_is_first_right" (defArgs (top 53)) (defBody (top 53)) (defScope (top 53)) .none kV_law_is_first_right dc_law_is_first_right pm_law_is_first_right an_law_is_first_right cd_law_is_first_right ct_law_is_first_right
  F_law_is_first_right := fun_mk (st := (top 53)) l_law_is_first_right c_law_is_first_right k_law_is_first_right
  m_law_is_first_right := mg_of X G n_law_is_first_right
  a_law_are_tables_right := a_law_are_tables_right
  d_law_are_tables_right := fnOf "_law_are_tables_right" "_law_are_tables_right" (defArgs (top 52)) (defBody (top 52)) (defScope (top 52)) .none kV_law_are_tables_right dc_law_are_tables_right pm_law_are_tables_right an_law_are_tables_right cd_law_are_tables_right ct_law_are_tables_right
  F_law_are_tables_right := fun_mk (st := (top 52)) l_law_are_tables_right c_law_are_tables_right k_law_are_tables_right
  m_law_are_tables_right := mg_of X G n_law_are_tables_right
  a_law_right := a_law_right
  d_law_right := fnOf "_law_right" "_law_right" (defArgs (top 55)) (defBody (top 55)) (defScope (top 55)) .none kV_law_right dc_law_right pm_law_right an_law_right cd_law_right ct_law_right
  F_law_right := fun_mk (st := (top 55)) l_law_right c_law_right k_law_right
  m_law_right := mg_of X G n_law_right
  a_law := a_law
  d_law := fnOf "law" "law" (defArgs (top 56)) (defBody (top 56)) (defScope (top 56)) .none kV_law dc_law pm_law an_law cd_law ct_law
  F_law := fun_mk (st := (top 56)) l_law c_law k_law
  m_law := mg_of X G n_law
  t_PARTS := t_PARTS
  g_PARTS := mg_of X G g_PARTS
  t_MOST_RATE := t_MOST_RATE
  g_MOST_RATE := mg_of X G g_MOST_RATE
  t_MOST_BALANCE := t_MOST_BALANCE
  g_MOST_BALANCE := mg_of X G g_MOST_BALANCE
  t_MOST_DAYS := t_MOST_DAYS
  g_MOST_DAYS := mg_of X G g_MOST_DAYS
  t_MOST_STRETCHES := t_MOST_STRETCHES
  g_MOST_STRETCHES := mg_of X G g_MOST_STRETCHES
  t_MOST_UNITS := t_MOST_UNITS
  g_MOST_UNITS := mg_of X G g_MOST_UNITS
  t_MOST_AMOUNT := t_MOST_AMOUNT
  g_MOST_AMOUNT := mg_of X G g_MOST_AMOUNT
  t_MOST_WEIGHT := t_MOST_WEIGHT
  g_MOST_WEIGHT := mg_of X G g_MOST_WEIGHT
  t_MOST_TABLE := t_MOST_TABLE
  g_MOST_TABLE := mg_of X G g_MOST_TABLE
  a_FACTORS := a_FACTORS
  g_FACTORS := mg_of X G g_FACTORS
  kd_FACTORS := kd_FACTORS
  t_STRETCH_PARTS := t_STRETCH_PARTS
  g_STRETCH_PARTS := mg_of X G g_STRETCH_PARTS
  t_PAIR := t_PAIR
  g_PAIR := mg_of X G g_PAIR
  n_abs := mg_none_of X G n_abs
  n_all := mg_none_of X G n_all
  n_bool := mg_none_of X G n_bool
  n_int := mg_none_of X G n_int
  n_isinstance := mg_none_of X G n_isinstance
  n_len := mg_none_of X G n_len
  n_list := mg_none_of X G n_list
  n_max := mg_none_of X G n_max
  n_min := mg_none_of X G n_min
  n_range := mg_none_of X G n_range
  n_repr := mg_none_of X G n_repr
  n_sorted := mg_none_of X G n_sorted
  n_sum := mg_none_of X G n_sum
  n_tuple := mg_none_of X G n_tuple
  n_zip := mg_none_of X G n_zip
section
variable {P : Program} {w : World} {K : Frag} {mg : Str → Option Value} {base : Heap}
/-! ### words -/
def sp_is_integer (K : Frag) : Sp := fun vs H Q E => vs.length = 1 ∧ ∃ a : Int, vs = [.int a] ∧ Q (.bl true) H
abbrev names_is_integer : List Str := ["value"]
theorem sc_is_integer : FnScope names_is_integer ["value"] (defScope (top 9)) := ⟨rfl, rfl, rfl, by decide +kernel, rfl, by decide +kernel, by decide +kernel⟩
set_option maxHeartbeats 4000000 in
theorem ok_is_integer (T : Tx K mg) : FG P w K mg base CX0 1 T.a_is_integer T.d_is_integer ["value"] (sp_is_integer K) := by
  refine OB.Fun.fg T.F_is_integer sc_is_integer (fun vs H Q E h => h.1) (fun cdv A out s H vs Q E g h => ?_)
  obtain ⟨_, a, rfl, k⟩ := h
  refine ⟨_, (pss_one (ps_ret (pe_and (pe_callB (toK (r := rIsi) (K := K) rfl call_isi) (by rfl) T.n_isinstance (by decide +kernel) (pa_cons (pv 0) (pa_cons (pe_bltn (v := .ty "int") (by rfl) T.n_int (by decide +kernel) rfl) pa_nil))) (pe_one (pe_not (pe_callB (toK (r := rIsi) (K := K) rfl call_isi) (by rfl) T.n_isinstance (by decide +kernel) (pa_cons (pv 0) (pa_cons (pe_bltn (v := .ty "bool") (by rfl) T.n_bool (by decide +kernel) rfl) pa_nil)))))))), ?_⟩
  refine g_start (σ := [some _]) rfl ?_
  repeat walk_at "ob1"
  exact k
def sp_is_within (K : Frag) : Sp := fun vs H Q E => vs.length = 3 ∧ ∃ a b c : Int, vs = [.int a, .int b, .int c] ∧ Q (.bl (decide (b ≤ a ∧ a ≤ c))) H
abbrev names_is_within : List Str := ["value", "least", "most"]
theorem sc_is_within : FnScope names_is_within ["value", "least", "most"] (defScope (top 10)) := ⟨rfl, rfl, rfl, by decide +kernel, rfl, by decide +kernel, by decide +kernel⟩
set_option maxHeartbeats 4000000 in
theorem ok_is_within (T : Tx K mg) : FG P w K mg base CX0 2 T.a_is_within T.d_is_within ["value", "least", "most"] (sp_is_within K) := by
  refine OB.Fun.fg T.F_is_within sc_is_within (fun vs H Q E h => h.1) (fun cdv A out s H vs Q E g h => ?_)
  obtain ⟨_, a, b, c, rfl, k⟩ := h
  refine ⟨_, (pss_one (ps_ret (pe_and (pe_cg (ok_is_integer T) (g.mono (by decide : 1 ≤ 1)) (by rfl) T.m_is_integer T.F_is_integer.kp (OB.Fun.bd T.F_is_integer (ps := ["value"]) (n := 1) (ks := []) (ix := [0]) (fun _ _ _ _ _ _ us ws h1 h2 => match us, ws, h1, h2 with | [_], [], _, _ => rfl)) pass0 (pa_cons (pv 0) pa_nil) pk_nil) (pe_one (pe_chain op_le op_le (pv 1) (pv 0) (pv 2)))))), ?_⟩
  refine g_start (σ := [some _, some _, some _]) rfl ?_
  repeat walk_at "ob1"
  refine ⟨rfl, a, rfl, ?_⟩
  repeat walk_at "ob1"
  refine g_iteD (fun h1 => ?_) (fun h1 => ?_)
  · repeat walk_at "ob1"
    have e : decide (b ≤ a ∧ a ≤ c) = decide (a ≤ c) := by simp [h1]
    rw [← e]
    exact k
  · have e : decide (b ≤ a ∧ a ≤ c) = false := by simp [h1]
    rw [← e]
    exact k
/-! ### draws -/
/-- the pot: n draws were made at most -/
def potO (a b c : Int) : HO := .lst [.int a, .int b, .int c]
structure PotOk (n : Nat) (a b c : Int) : Prop where
  a0 : 0 ≤ a
  a1 : a.natAbs < 2 ^ 1000
  b0 : 0 ≤ b
  b1 : b < 2 ^ 61
  c0 : 0 ≤ c
  c1 : c ≤ n
theorem pot_div {n : Nat} {a b c u : Int} (o : PotOk n a b c) (u0 : 0 < u) : PotOk (n + 1) (a / u) b c := by
  obtain ⟨a0, a1, b0, b1, c0, c1⟩ := o
  have h1 : 0 ≤ a / u := Int.ediv_nonneg a0 (by omega)
  have h2 : a / u ≤ a := Int.ediv_le_self _ a0
  exact ⟨h1, by omega, b0, b1, c0, by omega⟩
def sp_law_take (K : Frag) : Sp := fun vs H Q E => vs.length = 2 ∧ ∃ (F : List (Addr × HO)) (G : List Ft) (i : Nat) (p : Addr) (n : Nat) (u a b c : Int), vs = [.ref p, .int u] ∧ Sy K F G H ∧ F[i]? = some (p, potO a b c) ∧ PotOk n a b c ∧ n < 1000000 ∧ 0 < u ∧ u < 2 ^ 60 ∧
  ∀ (r a' b' c' : Int) (H' : Hp), 0 ≤ r → r < u → PotOk (n + 1) a' b' c' → Sy K (F.set i (p, potO a' b' c')) G H' → Q (.int r) H'
abbrev names_law_take : List Str := ["pot", "upto", "digit", "prime", "blend"]
theorem sc_law_take : FnScope names_law_take ["pot", "upto"] (defScope (top 41)) := ⟨rfl, rfl, rfl, by decide +kernel, rfl, by decide +kernel, by decide +kernel⟩
set_option maxHeartbeats 4000000 in
theorem ok_law_take (T : Tx K mg) : FG P w K mg base CX0 1 T.a_law_take T.d_law_take ["pot", "upto"] (sp_law_take K) := by
  refine OB.Fun.fg T.F_law_take sc_law_take (fun vs H Q E h => h.1) (fun cdv A out s H vs Q E g h => ?_)
  obtain ⟨_, F, G, i, p, n, u, a, b, c, rfl, S, hF, ok, hn, u0, u1, k⟩ := h
  refine ⟨_, (pss_cons (ps_if (pt_cmpR op_gt (pe_ix (ix_UK (K := K) rfl) (pv 0) pe_int (fun _ _ => rfl)) pe_int (nomark _)) (pss_cons (ps_set (i := 2) sc_law_take.nd rfl (by first | exact Or.inl rfl | exact Or.inr rfl) (pe_op op_mod (pe_callTy c_int (by rfl) T.n_int (by decide +kernel) (pa_cons (pe_ix (ix_UK (K := K) rfl) (pv 0) pe_int (fun _ _ => rfl)) pa_nil)) (pv 1)))
      (pss_cons (ps_asg (pe_op op_fdivW (pe_ix (ix_UK (K := K) rfl) (pv 0) pe_int (fun _ _ => rfl)) (pv 1)) (pg_sub (pv 0) pe_int set_list))
      (pss_one (ps_ret (pv 2))))) pss_nil)
      (pss_cons (ps_asg (pe_op op_add (pe_ix (ix_UK (K := K) rfl) (pv 0) pe_int (fun _ _ => rfl)) pe_int) (pg_sub (pv 0) pe_int set_list))
      (pss_cons (ps_set (i := 3) sc_law_take.nd rfl (by first | exact Or.inl rfl | exact Or.inr rfl) (pe_ix (ix_UK (K := K) rfl) (pe_lst (pa_cons pe_int (pa_cons pe_int (pa_cons pe_int (pa_cons pe_int (pa_cons pe_int pa_nil)))))) (pe_op op_mod (pe_callTy c_int (by rfl) T.n_int (by decide +kernel) (pa_cons (pe_ix (ix_UK (K := K) rfl) (pv 0) pe_int (fun _ _ => rfl)) pa_nil)) pe_int) (fun _ _ => rfl)))
      (pss_cons (ps_set (i := 4) sc_law_take.nd rfl (by first | exact Or.inl rfl | exact Or.inr rfl) (pe_op op_mod (pe_callTy c_int (by rfl) T.n_int (by decide +kernel) (pa_cons (pe_op op_powX (pe_callTy c_int (by rfl) T.n_int (by decide +kernel) (pa_cons (pe_op op_add (pe_op op_add (pe_ix (ix_UK (K := K) rfl) (pv 0) pe_int (fun _ _ => rfl)) (pe_op op_mul (pe_op op_mul pe_int (pe_ix (ix_UK (K := K) rfl) (pv 0) pe_int (fun _ _ => rfl))) (pe_ix (ix_UK (K := K) rfl) (pv 0) pe_int (fun _ _ => rfl)))) pe_int) pa_nil)) pe_int) pa_nil)) (pv 3)))
      (pss_cons (ps_set (i := 4) sc_law_take.nd rfl (by first | exact Or.inl rfl | exact Or.inr rfl) (pe_op op_mod (pe_callTy c_int (by rfl) T.n_int (by decide +kernel) (pa_cons (pe_op op_mul (pv 4) (pe_op op_add (pe_op op_mod (pe_callTy c_int (by rfl) T.n_int (by decide +kernel) (pa_cons (pv 4) pa_nil)) pe_int) (pe_op op_mul pe_int (pe_ix (ix_UK (K := K) rfl) (pv 0) pe_int (fun _ _ => rfl))))) pa_nil)) pe_int))
      (pss_one (ps_ret (pe_op op_mod (pe_callTy c_int (by rfl) T.n_int (by decide +kernel) (pa_cons (pe_op op_fdivW (pv 4) pe_int) pa_nil)) (pv 1))))))))), ?_⟩
  refine g_start (σ := [some _, some _, none, none, none]) rfl ?_
  repeat walk_at "ob1"
  refine g_iteD (fun h1 => ?_) (fun h1 => ?_)
  · repeat walk_at "ob1"
    refine k (a % u) (a / u) b c _ ?_ ?_ ?_ (by assumption)
    · exact Int.emod_nonneg _ (by omega)
    · exact Int.emod_lt_of_pos _ u0
    · exact pot_div ok u0
  · obtain ⟨a0, a1, b0, b1, c0, c1⟩ := ok
    repeat walk_at "ob1"
    obtain ⟨pr, hm, hp⟩ := atI_ints (ns := [2147483647, 2147483629, 2147483587, 2147483579, 2147483563]) (i := (c + 1) % 5) (by omega) (by show _ < (5 : Int); omega)
    have hpr : 0 < pr ∧ pr < 2147483648 := (show ∀ n ∈ ([2147483647, 2147483629, 2147483587, 2147483579, 2147483563] : List Int), 0 < n ∧ n < 2147483648 by decide) pr hm
    refine g_ixUL (by walk_at "obl") hp ?_
    repeat walk_at "ob1"
    have hs : (c + 1) * (c + 1) ≤ 1000000 * 1000000 := Int.mul_le_mul (by omega) (by omega) (by omega) (by decide)
    have hs0 : 0 ≤ (c + 1) * (c + 1) := Int.mul_nonneg (by omega) (by omega)
    have hx : 98361 * (c + 1) * (c + 1) = 98361 * ((c + 1) * (c + 1)) := Int.mul_assoc ..
    refine g_I (cpow_ok (a := 64) (by omega) (by decide) (by decide)) ?_
    repeat walk_at "ob1"
    refine k _ a b (c + 1) _ ?_ ?_ ⟨a0, a1, b0, b1, by omega, by omega⟩ (Sy.less (by assumption))
    · exact Int.emod_nonneg _ (by omega)
    · exact Int.emod_lt_of_pos _ u0
theorem use_take {F : List (Addr × HO)} {G : List Ft} {H : Hp} {Q : VK} {E : XK} {i n : Nat} {p : Addr} {u a b c : Int} (S : Sy K F G H) (hF : F[i]? = some (p, potO a b c)) (ok : PotOk n a b c) (hn : n < 1000000) (u0 : 0 < u) (u1 : u < 2 ^ 60)
    (k : ∀ (r a' b' c' : Int) (H' : Hp), 0 ≤ r → r < u → PotOk (n + 1) a' b' c' → Sy K (F.set i (p, potO a' b' c')) G H' → (F.set i (p, potO a' b' c'))[i]? = some (p, potO a' b' c') → Q (.int r) H') : sp_law_take K [.ref p, .int u] H Q E :=
  ⟨rfl, F, G, i, p, n, u, a, b, c, rfl, S, hF, ok, hn, u0, u1, fun r a' b' c' H' h1 h2 h3 h4 => k r a' b' c' H' h1 h2 h3 h4 (List.getElem?_set_self (List.getElem?_eq_some_iff.mp hF).1)⟩
theorem use_is_integer {a : Int} {H : Hp} {Q : VK} {E : XK} (k : Q (.bl true) H) : sp_is_integer K [.int a] H Q E := ⟨rfl, a, rfl, k⟩
theorem use_is_within {a b c : Int} {H : Hp} {Q : VK} {E : XK} (k : Q (.bl (decide (b ≤ a ∧ a ≤ c))) H) : sp_is_within K [.int a, .int b, .int c] H Q E := ⟨rfl, a, b, c, rfl, k⟩
local macro_rules | `(tactic| walk_at "ob2") => `(tactic| first
  | walk_at "ob1"
  | refine use_is_integer ?_
  | refine use_is_within ?_)
/-! ### stretches -/
structure Str4 where
  d : Int
  b : Int
  r : Int
  y : Int
def enc (s : Str4) : PyData := .tuple [.int s.d, .int s.b, .int s.r, .int s.y]
structure Ok4 (s : Str4) : Prop where
  d0 : 1 ≤ s.d
  d1 : s.d ≤ 100000
  b0 : -1000000000000 ≤ s.b
  b1 : s.b ≤ 1000000000000
  r0 : 0 ≤ s.r
  r1 : s.r ≤ 1000000
  y0 : s.y = 365 ∨ s.y = 366
def dayP (s : Str4) : Int := (if s.b > 0 then s.b else 0) * s.r * (731 - s.y)
def parts (s : Str4) : Int := s.d * (if s.b > 0 then s.b else 0) * s.r * (731 - s.y)
def sp_is_balance (K : Frag) : Sp := fun vs H Q E => vs.length = 1 ∧ ∃ a : Int, vs = [.int a] ∧ Q (.bl (decide (-1000000000000 ≤ a ∧ a ≤ 1000000000000))) H
abbrev names_is_balance : List Str := ["value"]
theorem sc_is_balance : FnScope names_is_balance ["value"] (defScope (top 24)) := ⟨rfl, rfl, rfl, by decide +kernel, rfl, by decide +kernel, by decide +kernel⟩
set_option maxHeartbeats 4000000 in
theorem ok_is_balance (T : Tx K mg) : FG P w K mg base CX0 3 T.a_is_balance T.d_is_balance ["value"] (sp_is_balance K) := by
  refine OB.Fun.fg T.F_is_balance sc_is_balance (fun vs H Q E h => h.1) (fun cdv A out s H vs Q E g h => ?_)
  obtain ⟨_, a, rfl, k⟩ := h
  refine ⟨_, (pss_one (ps_ret (pe_cg (ok_is_within T) (g.mono (by decide : 2 ≤ 2)) (by rfl) T.m_is_within T.F_is_within.kp (OB.Fun.bd T.F_is_within (ps := ["value", "least", "most"]) (n := 3) (ks := []) (ix := [0, 1, 2]) (fun _ _ _ _ _ _ us ws h1 h2 => match us, ws, h1, h2 with | [_, _, _], [], _, _ => rfl)) pass0 (pa_cons (pv 0) (pa_cons (pe_un un_neg (pe_glob (v := .int 1000000000000) (by rfl) T.g_MOST_BALANCE ⟨_, rfl⟩)) (pa_cons (pe_glob (v := .int 1000000000000) (by rfl) T.g_MOST_BALANCE ⟨_, rfl⟩) pa_nil))) pk_nil))), ?_⟩
  refine g_start (σ := [some _]) rfl ?_
  repeat walk_at "ob2"
  exact k
def sp_is_rate (K : Frag) : Sp := fun vs H Q E => vs.length = 1 ∧ ∃ a : Int, vs = [.int a] ∧ Q (.bl (decide (0 ≤ a ∧ a ≤ 1000000))) H
abbrev names_is_rate : List Str := ["value"]
theorem sc_is_rate : FnScope names_is_rate ["value"] (defScope (top 25)) := ⟨rfl, rfl, rfl, by decide +kernel, rfl, by decide +kernel, by decide +kernel⟩
set_option maxHeartbeats 4000000 in
theorem ok_is_rate (T : Tx K mg) : FG P w K mg base CX0 3 T.a_is_rate T.d_is_rate ["value"] (sp_is_rate K) := by
  refine OB.Fun.fg T.F_is_rate sc_is_rate (fun vs H Q E h => h.1) (fun cdv A out s H vs Q E g h => ?_)
  obtain ⟨_, a, rfl, k⟩ := h
  refine ⟨_, (pss_one (ps_ret (pe_cg (ok_is_within T) (g.mono (by decide : 2 ≤ 2)) (by rfl) T.m_is_within T.F_is_within.kp (OB.Fun.bd T.F_is_within (ps := ["value", "least", "most"]) (n := 3) (ks := []) (ix := [0, 1, 2]) (fun _ _ _ _ _ _ us ws h1 h2 => match us, ws, h1, h2 with | [_, _, _], [], _, _ => rfl)) pass0 (pa_cons (pv 0) (pa_cons pe_int (pa_cons (pe_glob (v := .int 1000000) (by rfl) T.g_MOST_RATE ⟨_, rfl⟩) pa_nil))) pk_nil))), ?_⟩
  refine g_start (σ := [some _]) rfl ?_
  repeat walk_at "ob2"
  exact k
def sp_is_year (K : Frag) : Sp := fun vs H Q E => vs.length = 1 ∧ ∃ a : Int, vs = [.int a] ∧ (a = 365 ∨ a = 366) ∧ Q (.bl true) H
abbrev names_is_year : List Str := ["value"]
theorem sc_is_year : FnScope names_is_year ["value"] (defScope (top 26)) := ⟨rfl, rfl, rfl, by decide +kernel, rfl, by decide +kernel, by decide +kernel⟩
set_option maxHeartbeats 4000000 in
theorem ok_is_year (T : Tx K mg) : FG P w K mg base CX0 2 T.a_is_year T.d_is_year ["value"] (sp_is_year K) := by
  refine OB.Fun.fg T.F_is_year sc_is_year (fun vs H Q E h => h.1) (fun cdv A out s H vs Q E g h => ?_)
  obtain ⟨_, a, rfl, h, k⟩ := h
  refine ⟨_, (pss_one (ps_ret (pe_and (pe_cg (ok_is_integer T) (g.mono (by decide : 1 ≤ 1)) (by rfl) T.m_is_integer T.F_is_integer.kp (OB.Fun.bd T.F_is_integer (ps := ["value"]) (n := 1) (ks := []) (ix := [0]) (fun _ _ _ _ _ _ us ws h1 h2 => match us, ws, h1, h2 with | [_], [], _, _ => rfl)) pass0 (pa_cons (pv 0) pa_nil) pk_nil) (pe_one (pe_cmpR op_inI (pv 0) (pe_glob (v := .ref T.a_FACTORS) (by rfl) T.g_FACTORS rfl) (by rfl)))))), ?_⟩
  refine g_start (σ := [some _]) rfl ?_
  repeat walk_at "ob2"
  refine ⟨T.a_FACTORS, a, _, rfl, rfl, T.kd_FACTORS, ?_⟩
  have e : (List.lookup a [((365 : Int), V.int 366), (366, V.int 365)]).isSome = true := by
    rcases h with rfl | rfl <;> rfl
  rw [e]
  exact k
def sp_check_rest (K : Frag) : Sp := fun vs H Q E => vs.length = 1 ∧ ∃ a : Int, vs = [.int a] ∧ 0 ≤ a ∧ a ≤ 133589999999 ∧ Q .non H
abbrev names_check_rest : List Str := ["rest"]
theorem sc_check_rest : FnScope names_check_rest ["rest"] (defScope (top 28)) := ⟨rfl, rfl, rfl, by decide +kernel, rfl, by decide +kernel, by decide +kernel⟩
set_option maxHeartbeats 4000000 in
theorem ok_check_rest (T : Tx K mg) : FG P w K mg base CX0 3 T.a_check_rest T.d_check_rest ["rest"] (sp_check_rest K) := by
  refine OB.Fun.fg T.F_check_rest sc_check_rest (fun vs H Q E h => h.1) (fun cdv A out s H vs Q E g h => ?_)
  obtain ⟨_, a, rfl, h1, h2, k⟩ := h
  refine ⟨_, (pss_one (ps_if (pt_not (pt_val (pe_cg (ok_is_within T) (g.mono (by decide : 2 ≤ 2)) (by rfl) T.m_is_within T.F_is_within.kp (OB.Fun.bd T.F_is_within (ps := ["value", "least", "most"]) (n := 3) (ks := []) (ix := [0, 1, 2]) (fun _ _ _ _ _ _ us ws h1 h2 => match us, ws, h1, h2 with | [_, _, _], [], _, _ => rfl)) pass0 (pa_cons (pv 0) (pa_cons pe_int (pa_cons (pe_op op_sub (pe_glob (v := .int 133590000000) (by rfl) T.g_PARTS ⟨_, rfl⟩) pe_int) pa_nil))) pk_nil))) (pss_one ps_never) pss_nil)), ?_⟩
  refine g_start (σ := [some _]) rfl ?_
  repeat walk_at "ob2"
  exact k
theorem sqt_enc {H : Hp} {p : Addr} {s : Str4} (h : Dp K H (.ref p) (enc s)) : SqT K H p [.int s.d, .int s.b, .int s.r, .int s.y] :=
  sqt_scal (ds := [.int s.d, .int s.b, .int s.r, .int s.y]) h fun d hd => by
    rcases List.mem_cons.mp hd with rfl | hd
    · rfl
    rcases List.mem_cons.mp hd with rfl | hd
    · rfl
    rcases List.mem_cons.mp hd with rfl | hd
    · rfl
    rcases List.mem_cons.mp hd with rfl | hd
    · rfl
    cases hd
theorem fac_at {y : Int} (h : y = 365 ∨ y = 366) : List.lookup y [((365 : Int), V.int 366), (366, V.int 365)] = some (.int (731 - y)) := by
  rcases h with rfl | rfl <;> rfl
def sp_stretch_parts (K : Frag) : Sp := fun vs H Q E => vs.length = 1 ∧ ∃ (p : Addr) (s : Str4), vs = [.ref p] ∧ Dp K H (.ref p) (enc s) ∧ Ok4 s ∧ Q (.int (parts s)) H
abbrev names_stretch_parts : List Str := ["stretch", "days", "balance", "rate", "year"]
theorem sc_stretch_parts : FnScope names_stretch_parts ["stretch"] (defScope (top 30)) := ⟨rfl, rfl, rfl, by decide +kernel, rfl, by decide +kernel, by decide +kernel⟩
set_option maxHeartbeats 4000000 in
theorem ok_stretch_parts (T : Tx K mg) : FG P w K mg base CX0 1 T.a_stretch_parts T.d_stretch_parts ["stretch"] (sp_stretch_parts K) := by
  refine OB.Fun.fg T.F_stretch_parts sc_stretch_parts (fun vs H Q E h => h.1) (fun cdv A out s H vs Q E g h => ?_)
  obtain ⟨_, p, st, rfl, hd, ok, k⟩ := h
  refine ⟨_, (pss_cons (ps_asg (pv 0) (pg_tupK (K := K) rfl (n := 4) rfl (pgs_cons (pg_name (i := 1) sc_stretch_parts.nd rfl (by first | exact Or.inl rfl | exact Or.inr rfl)) (pgs_cons (pg_name (i := 2) sc_stretch_parts.nd rfl (by first | exact Or.inl rfl | exact Or.inr rfl)) (pgs_cons (pg_name (i := 3) sc_stretch_parts.nd rfl (by first | exact Or.inl rfl | exact Or.inr rfl)) (pgs_cons (pg_name (i := 4) sc_stretch_parts.nd rfl (by first | exact Or.inl rfl | exact Or.inr rfl)) pgs_nil))))))
      (pss_one (ps_ret (pe_op op_mul (pe_op op_mul (pe_op op_mul (pv 1) (pe_callB (c_max rfl) (by rfl) T.n_max (by decide +kernel) (pa_cons pe_int (pa_cons (pv 2) pa_nil)))) (pv 3)) (pe_ix (ix_UK (K := K) rfl) (pe_glob (v := .ref T.a_FACTORS) (by rfl) T.g_FACTORS rfl) (pv 4) (fun _ _ => rfl)))))), ?_⟩
  refine g_start (σ := [some _, none, none, none, none]) rfl ?_
  obtain ⟨d0, d1, b0, b1, r0, r1, y0⟩ := ok
  repeat walk_at "ob2"
  refine g_ixUI T.kd_FACTORS (fac_at y0) ?_
  repeat walk_at "ob2"
  exact k
def sp_law_unit (K : Frag) : Sp := fun vs H Q E => vs.length = 0 ∧ vs = [] ∧ Q (.int 133590000000) H
abbrev names_law_unit : List Str := []
theorem sc_law_unit : FnScope names_law_unit [] (defScope (top 44)) := ⟨rfl, rfl, rfl, by decide +kernel, rfl, by decide +kernel, by decide +kernel⟩
set_option maxHeartbeats 4000000 in
theorem ok_law_unit (T : Tx K mg) : FG P w K mg base CX0 1 T.a_law_unit T.d_law_unit [] (sp_law_unit K) := by
  refine OB.Fun.fg T.F_law_unit sc_law_unit (fun vs H Q E h => h.1) (fun cdv A out s H vs Q E g h => ?_)
  obtain ⟨_, rfl, k⟩ := h
  refine ⟨_, (pss_one (ps_ret pe_int)), ?_⟩
  refine g_start (σ := []) rfl ?_
  repeat walk_at "ob2"
  exact k
def sp_law_day_parts (K : Frag) : Sp := fun vs H Q E => vs.length = 3 ∧ ∃ s : Str4, vs = [.int s.b, .int s.r, .int s.y] ∧ Ok4 s ∧ Q (.int (dayP s)) H
abbrev names_law_day_parts : List Str := ["balance", "rate", "year"]
theorem sc_law_day_parts : FnScope names_law_day_parts ["balance", "rate", "year"] (defScope (top 45)) := ⟨rfl, rfl, rfl, by decide +kernel, rfl, by decide +kernel, by decide +kernel⟩
set_option maxHeartbeats 4000000 in
theorem ok_law_day_parts (T : Tx K mg) : FG P w K mg base CX0 1 T.a_law_day_parts T.d_law_day_parts ["balance", "rate", "year"] (sp_law_day_parts K) := by
  refine OB.Fun.fg T.F_law_day_parts sc_law_day_parts (fun vs H Q E h => h.1) (fun cdv A out s H vs Q E g h => ?_)
  obtain ⟨_, st, rfl, ok, k⟩ := h
  refine ⟨_, (pss_one (ps_ret (pe_callTy c_int (by rfl) T.n_int (by decide +kernel) (pa_cons (pe_op op_mul (pe_op op_mul (pe_callB (c_max rfl) (by rfl) T.n_max (by decide +kernel) (pa_cons pe_int (pa_cons (pv 0) pa_nil))) (pv 1)) (pe_op op_sub pe_int (pv 2))) pa_nil)))), ?_⟩
  refine g_start (σ := [some _, some _, some _]) rfl ?_
  obtain ⟨d0, d1, b0, b1, r0, r1, y0⟩ := ok
  repeat walk_at "ob2"
  exact k
theorem use_balance {a : Int} {H : Hp} {Q : VK} {E : XK} (k : Q (.bl (decide (-1000000000000 ≤ a ∧ a ≤ 1000000000000))) H) : sp_is_balance K [.int a] H Q E := ⟨rfl, a, rfl, k⟩
theorem use_rate {a : Int} {H : Hp} {Q : VK} {E : XK} (k : Q (.bl (decide (0 ≤ a ∧ a ≤ 1000000))) H) : sp_is_rate K [.int a] H Q E := ⟨rfl, a, rfl, k⟩
theorem use_year {a : Int} {H : Hp} {Q : VK} {E : XK} (h : a = 365 ∨ a = 366) (k : Q (.bl true) H) : sp_is_year K [.int a] H Q E := ⟨rfl, a, rfl, h, k⟩
theorem use_rest {a : Int} {H : Hp} {Q : VK} {E : XK} (h1 : 0 ≤ a) (h2 : a ≤ 133589999999) (k : Q .non H) : sp_check_rest K [.int a] H Q E := ⟨rfl, a, rfl, h1, h2, k⟩
theorem use_parts {p : Addr} {s : Str4} {H : Hp} {Q : VK} {E : XK} (h : Dp K H (.ref p) (enc s)) (o : Ok4 s) (k : Q (.int (parts s)) H) : sp_stretch_parts K [.ref p] H Q E := ⟨rfl, p, s, rfl, h, o, k⟩
theorem use_unit {H : Hp} {Q : VK} {E : XK} (k : Q (.int 133590000000) H) : sp_law_unit K [] H Q E := ⟨rfl, rfl, k⟩
local macro_rules | `(tactic| walk_at "ob3") => `(tactic| first
  | walk_at "ob2"
  | refine use_balance ?_
  | refine use_rate ?_
  | refine use_year (by assumption) ?_
  | refine use_unit ?_
  | refine use_rest (by omega) (by omega) ?_
  | refine isi_tup (sqt_enc (by assumption)) ?_
  | refine g_lenT (sqt_enc (by assumption)) ?_
  | refine g_unpT (sqt_enc (by assumption)) rfl ?_)
def sp_is_stretch (K : Frag) : Sp := fun vs H Q E => vs.length = 1 ∧ ∃ (p : Addr) (s : Str4), vs = [.ref p] ∧ Dp K H (.ref p) (enc s) ∧ Ok4 s ∧ Q (.bl true) H
abbrev names_is_stretch : List Str := ["value", "days", "balance", "rate", "year"]
theorem sc_is_stretch : FnScope names_is_stretch ["value"] (defScope (top 27)) := ⟨rfl, rfl, rfl, by decide +kernel, rfl, by decide +kernel, by decide +kernel⟩
set_option maxHeartbeats 4000000 in
theorem ok_is_stretch (T : Tx K mg) : FG P w K mg base CX0 4 T.a_is_stretch T.d_is_stretch ["value"] (sp_is_stretch K) := by
  refine OB.Fun.fg T.F_is_stretch sc_is_stretch (fun vs H Q E h => h.1) (fun cdv A out s H vs Q E g h => ?_)
  obtain ⟨_, p, st, rfl, hd, ok, k⟩ := h
  refine ⟨_, (pss_cons (ps_if (PW.pt (pw_or (pt_not (pt_val (pe_callB (toK (r := rIsi) (K := K) rfl call_isi) (by rfl) T.n_isinstance (by decide +kernel) (pa_cons (pv 0) (pa_cons (pe_bltn (v := .ty "tuple") (by rfl) T.n_tuple (by decide +kernel) rfl) pa_nil))))) (pw_or1 (pt_cmpR op_ne (pe_callB (toK (r := OB.rLen) (K := K) rfl c_len) (by rfl) T.n_len PySem.boot_len (pa_cons (pv 0) pa_nil)) (pe_glob (v := .int 4) (by rfl) T.g_STRETCH_PARTS ⟨_, rfl⟩) (nomark _))))) (pss_one (ps_ret pe_bl)) pss_nil)
      (pss_cons (ps_asg (pv 0) (pg_tupK (K := K) rfl (n := 4) rfl (pgs_cons (pg_name (i := 1) sc_is_stretch.nd rfl (by first | exact Or.inl rfl | exact Or.inr rfl)) (pgs_cons (pg_name (i := 2) sc_is_stretch.nd rfl (by first | exact Or.inl rfl | exact Or.inr rfl)) (pgs_cons (pg_name (i := 3) sc_is_stretch.nd rfl (by first | exact Or.inl rfl | exact Or.inr rfl)) (pgs_cons (pg_name (i := 4) sc_is_stretch.nd rfl (by first | exact Or.inl rfl | exact Or.inr rfl)) pgs_nil))))))
      (pss_one (ps_ret (pe_and (pe_cg (ok_is_within T) (g.mono (by decide : 2 ≤ 3)) (by rfl) T.m_is_within T.F_is_within.kp (OB.Fun.bd T.F_is_within (ps := ["value", "least", "most"]) (n := 3) (ks := []) (ix := [0, 1, 2]) (fun _ _ _ _ _ _ us ws h1 h2 => match us, ws, h1, h2 with | [_, _, _], [], _, _ => rfl)) pass0 (pa_cons (pv 1) (pa_cons pe_int (pa_cons (pe_glob (v := .int 100000) (by rfl) T.g_MOST_DAYS ⟨_, rfl⟩) pa_nil))) pk_nil) (pe_and (pe_cg (ok_is_balance T) (g.mono (by decide : 3 ≤ 3)) (by rfl) T.m_is_balance T.F_is_balance.kp (OB.Fun.bd T.F_is_balance (ps := ["value"]) (n := 1) (ks := []) (ix := [0]) (fun _ _ _ _ _ _ us ws h1 h2 => match us, ws, h1, h2 with | [_], [], _, _ => rfl)) pass0 (pa_cons (pv 2) pa_nil) pk_nil) (pe_and (pe_cg (ok_is_rate T) (g.mono (by decide : 3 ≤ 3)) (by rfl) T.m_is_rate T.F_is_rate.kp (OB.Fun.bd T.F_is_rate (ps := ["value"]) (n := 1) (ks := []) (ix := [0]) (fun _ _ _ _ _ _ us ws h1 h2 => match us, ws, h1, h2 with | [_], [], _, _ => rfl)) pass0 (pa_cons (pv 3) pa_nil) pk_nil) (pe_one (pe_cg (ok_is_year T) (g.mono (by decide : 2 ≤ 3)) (by rfl) T.m_is_year T.F_is_year.kp (OB.Fun.bd T.F_is_year (ps := ["value"]) (n := 1) (ks := []) (ix := [0]) (fun _ _ _ _ _ _ us ws h1 h2 => match us, ws, h1, h2 with | [_], [], _, _ => rfl)) pass0 (pa_cons (pv 4) pa_nil) pk_nil))))))))), ?_⟩
  refine g_start (σ := [some _, none, none, none, none]) rfl ?_
  obtain ⟨d0, d1, b0, b1, r0, r1, y0⟩ := ok
  repeat walk_at "ob3"
  have e : decide (st.r ≤ 1) = decide (st.r ≤ 1) := rfl
  exact k
theorem use_is_stretch {p : Addr} {s : Str4} {H : Hp} {Q : VK} {E : XK} (h : Dp K H (.ref p) (enc s)) (o : Ok4 s) (k : Q (.bl true) H) : sp_is_stretch K [.ref p] H Q E := ⟨rfl, p, s, rfl, h, o, k⟩
/-- stretches at an address: a tuple -/
def encs (ss : List Str4) : PyData := .tuple (ss.map enc)
theorem enc_imm (ss : List Str4) : immAll (ss.map enc) = true := immAll_of fun x hx => by
  obtain ⟨s, _, rfl⟩ := List.mem_map.mp hx
  rfl
def sp_check_stretches (K : Frag) : Sp := fun vs H Q E => vs.length = 1 ∧ ∃ (F : List (Addr × HO)) (G : List Ft) (p : Addr) (ss : List Str4), vs = [.ref p] ∧ Sy K F G H ∧ Dp K H (.ref p) (encs ss) ∧ (∀ s ∈ ss, Ok4 s) ∧ ss.length ≤ 1000 ∧ ∀ H', Sy K F G H' → Q .non H'
end
end LAW

set_option Elab.async false
set_option linter.all false
set_option maxRecDepth 100000
namespace LAW
open PySem PySem.Spec PyProof.Rows L2 PySem.W OB
local macro_rules | `(tactic| walk_at "obc") => `(tactic| first
  | exact Or.inl ⟨by omega, by omega⟩
  | exact Or.inr ⟨by omega, by omega⟩
  | exact cdiv_ok (by omega) (by omega)
  | (show (0 : Int) < _; omega)
  | exact ⟨by omega, by decide⟩
  | exact ⟨by decide, by decide⟩)
local macro_rules | `(tactic| walk_at "obat") => `(tactic| first
  | exact Sy.at (by assumption) 0 rfl | exact Sy.at (by assumption) 1 rfl | exact Sy.at (by assumption) 2 rfl | exact Sy.at (by assumption) 3 rfl
  | exact Sy.at (by assumption) 4 rfl | exact Sy.at (by assumption) 5 rfl | exact Sy.at (by assumption) 6 rfl | exact Sy.at (by assumption) _ (by assumption) | exact Sy.at (by assumption) (_ + 1) (by assumption) | exact Sy.at (by assumption) (_ + 2) (by assumption))
local macro_rules | `(tactic| walk_at "obt") => `(tactic| first
  | exact Sy.tqs (by assumption) 0 rfl | exact Sy.tqs (by assumption) 1 rfl | exact Sy.tqs (by assumption) 2 rfl | exact Sy.tqs (by assumption) 3 rfl | exact Sy.tqs (by assumption) 4 rfl | exact Sy.tqs (by assumption) 5 rfl
  | exact Sy.tqs (by assumption) 6 rfl | exact Sy.tqs (by assumption) 7 rfl | assumption)
local macro_rules | `(tactic| walk_at "obl") => `(tactic| first
  | exact SqL.of (by walk_at "obat")
  | exact Sy.sq (by assumption) 0 rfl | exact Sy.sq (by assumption) 1 rfl | exact Sy.sq (by assumption) 2 rfl | exact Sy.sq (by assumption) 3 rfl | exact Sy.sq (by assumption) _ (by assumption))
local macro_rules | `(tactic| walk_at "obd") => `(tactic| first
  | exact Dp.int _ | exact Dp.bl _ | exact Dp.str _ | exact Dp.non
  | exact Sy.dp (by assumption) 0 rfl | exact Sy.dp (by assumption) 1 rfl | exact Sy.dp (by assumption) 2 rfl | exact Sy.dp (by assumption) 3 rfl
  | exact Sy.dp (by assumption) 4 rfl | exact Sy.dp (by assumption) 5 rfl | exact Sy.dp (by assumption) 6 rfl | exact Sy.dp (by assumption) 7 rfl
  | exact Sy.dp (by assumption) 8 rfl | exact Sy.dp (by assumption) 9 rfl | exact Sy.dp (by assumption) _ (by assumption) | assumption)
local macro_rules | `(tactic| walk_at "obds") => `(tactic| first
  | exact DpAll.nil
  | (refine' DpAll.cons ?ob1 ?ob2; (case ob1 => walk_at "obd"); (case ob2 => walk_at "obds"))
  | exact Sy.dps (by assumption) 0 rfl | exact Sy.dps (by assumption) 1 rfl | exact Sy.dps (by assumption) 2 rfl | exact Sy.dps (by assumption) 3 rfl | assumption)
local macro_rules | `(tactic| walk_at "obsc") => `(tactic| first
  | exact ScL.nil
  | ((first | refine' ScL.int ?obz | refine' ScL.str ?obz | refine' ScL.bl ?obz | refine' ScL.non ?obz); (case obz => walk_at "obsc")))
local macro_rules | `(tactic| walk_at "ob1") => `(tactic| first
  | ((with_reducible refine' g_var ?obh ?_); (case obh => rfl))
  | with_reducible refine g_c ?_
  | with_reducible refine g_nx ?_
  | with_reducible refine g_rt ?_
  | with_reducible refine g_bk ?_
  | with_reducible refine g_ct ?_
  | with_reducible refine g_op ?_
  | with_reducible refine g_I0 ?_
  | with_reducible refine g_test ?_
  | with_reducible refine g_bl ?_
  | with_reducible refine g_blx ?_
  | with_reducible refine g_B ?_
  | with_reducible refine g_seq ?_
  | with_reducible refine g_asg ?_
  | with_reducible refine g_name ?_
  | with_reducible refine g_ifS ?_
  | with_reducible refine g_ret ?_
  | with_reducible refine g_cb ?_
  | with_reducible refine g_cons ?_
  | with_reducible refine g_nil ?_
  | with_reducible refine g_int ?_
  | with_reducible refine g_intB ?_
  | with_reducible refine g_abs ?_
  | with_reducible refine g_max ?_
  | with_reducible refine g_min ?_
  | with_reducible refine g_un ?_
  | with_reducible refine g_U ?_
  | with_reducible refine g_eqI ?_
  | with_reducible refine g_neI ?_
  | with_reducible refine g_eqS ?_
  | with_reducible refine g_neS ?_
  | with_reducible refine g_tt ?_
  | with_reducible refine g_ff ?_
  | with_reducible refine g_next ?_
  | with_reducible refine g_drop ?_
  | with_reducible refine g_if ?_
  | with_reducible refine g_andV ?_
  | with_reducible refine g_orV ?_
  | with_reducible refine g_notV ?_
  | with_reducible refine g_and ?_
  | with_reducible refine g_or ?_
  | with_reducible refine g_not ?_
  | with_reducible refine g_yes ?_
  | with_reducible refine g_chain ?_
  | with_reducible refine g_cg ?_
  | with_reducible refine g_mg ?_
  | with_reducible refine g_kg ?_
  | with_reducible refine g_pg ?_
  | ((with_reducible refine' g_call ?obh ?obj ?_); (case obh => rfl); (case obj => rfl))
  | with_reducible refine g_par ?_
  | with_reducible refine g_par2 ?_
  | with_reducible refine g_par3 ?_
  | with_reducible refine g_par33 ?_
  | with_reducible refine g_gnil ?_
  | with_reducible refine g_gcons ?_
  | with_reducible refine g_gsub ?_
  | with_reducible refine g_ipI ?_
  | with_reducible refine g_rAdd ?_
  | with_reducible refine g_rSub ?_
  | ((with_reducible refine' g_aug ?obh ?_); (case obh => rfl))
  | with_reducible refine g_tup ?_
  | with_reducible refine g_lst ?_
  | with_reducible refine g_bm ?_
  | with_reducible refine g_bm0 ?_
  | with_reducible refine g_sl ?_
  | with_reducible refine g_nopart ?_
  | with_reducible refine g_part ?_
  | with_reducible refine g_pint ?_
  | with_reducible refine isi_int ?_
  | with_reducible refine isi_intB ?_
  | ((with_reducible refine' g_I ?obh ?_); (case obh => walk_at "obc"))
  | ((with_reducible refine' g_tyl ?obh ?_); (case obh => walk_at "obl"))
  | ((with_reducible refine' g_lenL ?obh ?_); (case obh => walk_at "obl"))
  | with_reducible refine g_ne ?_
  | ((with_reducible refine' g_neN' ?obh ?_); (case obh => rfl))
  | with_reducible refine g_ntt ?_
  | with_reducible refine g_nff ?_
  | with_reducible refine g_star ?_
  | with_reducible refine g_att ?_
  | with_reducible refine g_sfld ?_
  | with_reducible refine g_faug ?_
  | with_reducible refine g_fld ?_
  | ((with_reducible refine' g_nF ?obh ?_); (case obh => omega))
  | ((with_reducible refine' g_nT ?obh ?_); (case obh => omega))
  | ((with_reducible refine' g_TD ?obh ?_); (case obh => omega))
  | ((with_reducible refine' g_FD ?obh ?_); (case obh => omega))
  | ((with_reducible refine' g_ixUL ?obh ?obi ?_); (case obh => walk_at "obl"); (case obi => exact atI_nn (by omega) (by rfl)))
  | ((with_reducible refine' g_setLS ?obs ?obh ?obi ?_); (case obs => assumption); (case obh => assumption); (case obi => rfl); intro _ _ _)
  | ((with_reducible refine' g_newT ?obs ?obh ?obi ?obj ?_); (case obs => assumption); (case obh => walk_at "obds"); (case obi => rfl); (case obj => exact Nat.le_of_ble_eq_true rfl); intro _ _ _ _)
  | ((with_reducible refine' g_newL ?obs ?obj ?_); (case obs => assumption); (case obj => exact Nat.le_of_ble_eq_true rfl); intro _ _ _ _)
  | ((with_reducible refine' isi_tup ?obh ?_); (case obh => walk_at "obt"))
  | ((with_reducible refine' g_lenT ?obh ?_); (case obh => walk_at "obt"))
  | ((with_reducible refine' g_unpT ?obh ?obi ?_); (case obh => walk_at "obt"); (case obi => rfl))
  | ((with_reducible refine' g_divmod ?obs ?obh ?_); (case obs => assumption); (case obh => exact cdivp_ok (by omega) (by omega) (by omega)); intro _ _ _ _)
  | ((with_reducible refine' g_unpD ?obh ?obi ?obj ?_); (case obh => walk_at "obd"); (case obi => walk_at "obsc"); (case obj => rfl))
  | with_reducible refine g_att ?_)
local macro_rules | `(tactic| walk_at "ob") => `(tactic| first
  | walk_at "ob1"
  | refine use_is_integer ?_
  | refine use_is_within ?_
  | refine use_balance ?_
  | refine use_rate ?_
  | refine use_year (by assumption) ?_
  | refine use_unit ?_
  | refine use_rest (by omega) (by omega) ?_
  | refine use_parts (by walk_at "obd") (by assumption) ?_
  | refine use_is_stretch (by walk_at "obd") (by assumption) ?_
  | refine g_unpT (sqt_enc (by walk_at "obd")) rfl ?_)
section
variable {P : Program} {w : World} {K : Frag} {mg : Str → Option Value} {base : Heap}
theorem use_check {F : List (Addr × HO)} {G : List Ft} {H : Hp} {Q : VK} {E : XK} {p : Addr} {ss : List Str4} (S : Sy K F G H) (hd : Dp K H (.ref p) (encs ss)) (ok : ∀ s ∈ ss, Ok4 s) (hn : ss.length ≤ 1000) (k : ∀ H', Sy K F G H' → Q .non H') : sp_check_stretches K [.ref p] H Q E :=
  ⟨rfl, F, G, p, ss, rfl, S, hd, ok, hn, k⟩
def sumP (ss : List Str4) : Int := (ss.map parts).sum
def sp_parts_of (K : Frag) : Sp := fun vs H Q E => vs.length = 1 ∧ ∃ (F : List (Addr × HO)) (G : List Ft) (p : Addr) (ss : List Str4), vs = [.ref p] ∧ Sy K F G H ∧ Dp K H (.ref p) (encs ss) ∧ (∀ s ∈ ss, Ok4 s) ∧ ss.length ≤ 1000 ∧ ∀ H', Sy K F G H' → Q (.int (sumP ss)) H'
end
end LAW

set_option Elab.async false
set_option linter.all false
set_option maxRecDepth 100000
namespace LAW
open PySem PySem.Spec PyProof.Rows L2 PySem.W OB
local macro_rules | `(tactic| walk_at "obc") => `(tactic| first
  | exact Or.inl ⟨by omega, by omega⟩
  | exact Or.inr ⟨by omega, by omega⟩
  | exact cdiv_ok (by omega) (by omega)
  | (show (0 : Int) < _; omega)
  | exact ⟨by omega, by decide⟩
  | exact ⟨by decide, by decide⟩)
local macro_rules | `(tactic| walk_at "obat") => `(tactic| first
  | exact Sy.at (by assumption) 0 rfl | exact Sy.at (by assumption) 1 rfl | exact Sy.at (by assumption) 2 rfl | exact Sy.at (by assumption) 3 rfl
  | exact Sy.at (by assumption) 4 rfl | exact Sy.at (by assumption) 5 rfl | exact Sy.at (by assumption) 6 rfl | exact Sy.at (by assumption) _ (by assumption) | exact Sy.at (by assumption) (_ + 1) (by assumption) | exact Sy.at (by assumption) (_ + 2) (by assumption))
local macro_rules | `(tactic| walk_at "obt") => `(tactic| first
  | exact Sy.tqs (by assumption) 0 rfl | exact Sy.tqs (by assumption) 1 rfl | exact Sy.tqs (by assumption) 2 rfl | exact Sy.tqs (by assumption) 3 rfl | exact Sy.tqs (by assumption) 4 rfl | exact Sy.tqs (by assumption) 5 rfl
  | exact Sy.tqs (by assumption) 6 rfl | exact Sy.tqs (by assumption) 7 rfl | assumption)
local macro_rules | `(tactic| walk_at "obl") => `(tactic| first
  | exact SqL.of (by walk_at "obat")
  | exact Sy.sq (by assumption) 0 rfl | exact Sy.sq (by assumption) 1 rfl | exact Sy.sq (by assumption) 2 rfl | exact Sy.sq (by assumption) 3 rfl | exact Sy.sq (by assumption) _ (by assumption))
local macro_rules | `(tactic| walk_at "obd") => `(tactic| first
  | exact Dp.int _ | exact Dp.bl _ | exact Dp.str _ | exact Dp.non
  | exact Sy.dp (by assumption) 0 rfl | exact Sy.dp (by assumption) 1 rfl | exact Sy.dp (by assumption) 2 rfl | exact Sy.dp (by assumption) 3 rfl
  | exact Sy.dp (by assumption) 4 rfl | exact Sy.dp (by assumption) 5 rfl | exact Sy.dp (by assumption) 6 rfl | exact Sy.dp (by assumption) 7 rfl
  | exact Sy.dp (by assumption) 8 rfl | exact Sy.dp (by assumption) 9 rfl | exact Sy.dp (by assumption) _ (by assumption) | assumption)
local macro_rules | `(tactic| walk_at "obds") => `(tactic| first
  | exact DpAll.nil
  | (refine' DpAll.cons ?ob1 ?ob2; (case ob1 => walk_at "obd"); (case ob2 => walk_at "obds"))
  | exact Sy.dps (by assumption) 0 rfl | exact Sy.dps (by assumption) 1 rfl | exact Sy.dps (by assumption) 2 rfl | exact Sy.dps (by assumption) 3 rfl | assumption)
local macro_rules | `(tactic| walk_at "obsc") => `(tactic| first
  | exact ScL.nil
  | ((first | refine' ScL.int ?obz | refine' ScL.str ?obz | refine' ScL.bl ?obz | refine' ScL.non ?obz); (case obz => walk_at "obsc")))
local macro_rules | `(tactic| walk_at "ob1") => `(tactic| first
  | ((with_reducible refine' g_var ?obh ?_); (case obh => rfl))
  | with_reducible refine g_c ?_
  | with_reducible refine g_nx ?_
  | with_reducible refine g_rt ?_
  | with_reducible refine g_bk ?_
  | with_reducible refine g_ct ?_
  | with_reducible refine g_op ?_
  | with_reducible refine g_I0 ?_
  | with_reducible refine g_test ?_
  | with_reducible refine g_bl ?_
  | with_reducible refine g_blx ?_
  | with_reducible refine g_B ?_
  | with_reducible refine g_seq ?_
  | with_reducible refine g_asg ?_
  | with_reducible refine g_name ?_
  | with_reducible refine g_ifS ?_
  | with_reducible refine g_ret ?_
  | with_reducible refine g_cb ?_
  | with_reducible refine g_cons ?_
  | with_reducible refine g_nil ?_
  | with_reducible refine g_int ?_
  | with_reducible refine g_intB ?_
  | with_reducible refine g_abs ?_
  | with_reducible refine g_max ?_
  | with_reducible refine g_min ?_
  | with_reducible refine g_un ?_
  | with_reducible refine g_U ?_
  | with_reducible refine g_eqI ?_
  | with_reducible refine g_neI ?_
  | with_reducible refine g_eqS ?_
  | with_reducible refine g_neS ?_
  | with_reducible refine g_tt ?_
  | with_reducible refine g_ff ?_
  | with_reducible refine g_next ?_
  | with_reducible refine g_drop ?_
  | with_reducible refine g_if ?_
  | with_reducible refine g_andV ?_
  | with_reducible refine g_orV ?_
  | with_reducible refine g_notV ?_
  | with_reducible refine g_and ?_
  | with_reducible refine g_or ?_
  | with_reducible refine g_not ?_
  | with_reducible refine g_yes ?_
  | with_reducible refine g_chain ?_
  | with_reducible refine g_cg ?_
  | with_reducible refine g_mg ?_
  | with_reducible refine g_kg ?_
  | with_reducible refine g_pg ?_
  | ((with_reducible refine' g_call ?obh ?obj ?_); (case obh => rfl); (case obj => rfl))
  | with_reducible refine g_par ?_
  | with_reducible refine g_par2 ?_
  | with_reducible refine g_par3 ?_
  | with_reducible refine g_par33 ?_
  | with_reducible refine g_gnil ?_
  | with_reducible refine g_gcons ?_
  | with_reducible refine g_gsub ?_
  | with_reducible refine g_ipI ?_
  | with_reducible refine g_rAdd ?_
  | with_reducible refine g_rSub ?_
  | ((with_reducible refine' g_aug ?obh ?_); (case obh => rfl))
  | with_reducible refine g_tup ?_
  | with_reducible refine g_lst ?_
  | with_reducible refine g_bm ?_
  | with_reducible refine g_bm0 ?_
  | with_reducible refine g_sl ?_
  | with_reducible refine g_nopart ?_
  | with_reducible refine g_part ?_
  | with_reducible refine g_pint ?_
  | with_reducible refine isi_int ?_
  | with_reducible refine isi_intB ?_
  | ((with_reducible refine' g_I ?obh ?_); (case obh => walk_at "obc"))
  | ((with_reducible refine' g_tyl ?obh ?_); (case obh => walk_at "obl"))
  | ((with_reducible refine' g_lenL ?obh ?_); (case obh => walk_at "obl"))
  | with_reducible refine g_ne ?_
  | ((with_reducible refine' g_neN' ?obh ?_); (case obh => rfl))
  | with_reducible refine g_ntt ?_
  | with_reducible refine g_nff ?_
  | with_reducible refine g_star ?_
  | with_reducible refine g_att ?_
  | with_reducible refine g_sfld ?_
  | with_reducible refine g_faug ?_
  | with_reducible refine g_fld ?_
  | ((with_reducible refine' g_nF ?obh ?_); (case obh => omega))
  | ((with_reducible refine' g_nT ?obh ?_); (case obh => omega))
  | ((with_reducible refine' g_TD ?obh ?_); (case obh => omega))
  | ((with_reducible refine' g_FD ?obh ?_); (case obh => omega))
  | ((with_reducible refine' g_ixUL ?obh ?obi ?_); (case obh => walk_at "obl"); (case obi => exact atI_nn (by omega) (by rfl)))
  | ((with_reducible refine' g_setLS ?obs ?obh ?obi ?_); (case obs => assumption); (case obh => assumption); (case obi => rfl); intro _ _ _)
  | ((with_reducible refine' g_newT ?obs ?obh ?obi ?obj ?_); (case obs => assumption); (case obh => walk_at "obds"); (case obi => rfl); (case obj => exact Nat.le_of_ble_eq_true rfl); intro _ _ _ _)
  | ((with_reducible refine' g_newL ?obs ?obj ?_); (case obs => assumption); (case obj => exact Nat.le_of_ble_eq_true rfl); intro _ _ _ _)
  | ((with_reducible refine' isi_tup ?obh ?_); (case obh => walk_at "obt"))
  | ((with_reducible refine' g_lenT ?obh ?_); (case obh => walk_at "obt"))
  | ((with_reducible refine' g_unpT ?obh ?obi ?_); (case obh => walk_at "obt"); (case obi => rfl))
  | ((with_reducible refine' g_divmod ?obs ?obh ?_); (case obs => assumption); (case obh => exact cdivp_ok (by omega) (by omega) (by omega)); intro _ _ _ _)
  | ((with_reducible refine' g_unpD ?obh ?obi ?obj ?_); (case obh => walk_at "obd"); (case obi => walk_at "obsc"); (case obj => rfl))
  | with_reducible refine g_att ?_)
local macro_rules | `(tactic| walk_at "ob") => `(tactic| first
  | walk_at "ob1"
  | refine use_is_integer ?_
  | refine use_is_within ?_
  | refine use_balance ?_
  | refine use_rate ?_
  | refine use_year (by assumption) ?_
  | refine use_unit ?_
  | refine use_rest (by omega) (by omega) ?_
  | refine use_parts (by walk_at "obd") (by assumption) ?_
  | refine use_is_stretch (by walk_at "obd") (by assumption) ?_
  | refine g_unpT (sqt_enc (by walk_at "obd")) rfl ?_)
section
variable {P : Program} {w : World} {K : Frag} {mg : Str → Option Value} {base : Heap}
theorem use_parts_of {F : List (Addr × HO)} {G : List Ft} {H : Hp} {Q : VK} {E : XK} {p : Addr} {ss : List Str4} (S : Sy K F G H) (hd : Dp K H (.ref p) (encs ss)) (ok : ∀ s ∈ ss, Ok4 s) (hn : ss.length ≤ 1000) (k : ∀ H', Sy K F G H' → Q (.int (sumP ss)) H') : sp_parts_of K [.ref p] H Q E :=
  ⟨rfl, F, G, p, ss, rfl, S, hd, ok, hn, k⟩
theorem parts_nn {s : Str4} (o : Ok4 s) : 0 ≤ parts s := by
  obtain ⟨d0, d1, b0, b1, r0, r1, y0⟩ := o
  unfold parts
  have h1 : 0 ≤ (if s.b > 0 then s.b else 0) := by split <;> omega
  exact Int.mul_nonneg (Int.mul_nonneg (Int.mul_nonneg (by omega) h1) r0) (by omega)
theorem sum_nn : ∀ {ns : List Int}, (∀ n ∈ ns, 0 ≤ n) → 0 ≤ ns.sum
  | [], _ => Int.le_refl _
  | n :: ns, h => by
    rw [List.sum_cons]
    have h1 := h n (List.mem_cons_self ..)
    have h2 := sum_nn (ns := ns) fun m hm => h m (List.mem_cons_of_mem _ hm)
    omega
theorem sumP_nn {ss : List Str4} (ok : ∀ s ∈ ss, Ok4 s) : 0 ≤ sumP ss := sum_nn fun n hn => by
  obtain ⟨s, hs, rfl⟩ := List.mem_map.mp hn
  exact parts_nn (ok s hs)
/-- the divisor of parts and a unit -/
def gU (a : Int) : Nat := Nat.gcd a.toNat 133590000000
theorem gU_pos (a : Int) : 0 < gU a := Nat.gcd_pos_of_pos_right _ (by decide)
theorem gU_le (a : Int) : gU a ≤ 133590000000 := Nat.gcd_le_right _ (by decide)
def lowest (a : Int) : PyData := .tuple [.int (a / gU a), .int (133590000000 / gU a)]
/-- one turn of the divisor's loop -/
def GcdI (g m n : Nat) : Prop := Nat.gcd m n = g ∧ n ≤ 133590000000
theorem gcd_turn {g m n : Nat} (h : GcdI g m n) (h0 : 0 < n) : GcdI g n (m % n) ∧ m % n < n := by
  refine ⟨⟨?_, ?_⟩, Nat.mod_lt _ h0⟩
  · rw [← h.1, Nat.gcd_comm m n, Nat.gcd_rec n m, Nat.gcd_comm]
  · have := Nat.mod_lt m h0
    have := h.2
    omega
theorem gcd_end {g m n : Nat} (h : GcdI g m n) (h0 : ¬ (0 < (n : Int))) : g = m := by
  have e : n = 0 := by omega
  subst e
  rw [← h.1, Nat.gcd_zero_right]
def sp_true_interest (K : Frag) : Sp := fun vs H Q E => vs.length = 1 ∧ ∃ (F : List (Addr × HO)) (G : List Ft) (p : Addr) (ss : List Str4), vs = [.ref p] ∧ Sy K F G H ∧ Dp K H (.ref p) (encs ss) ∧ (∀ s ∈ ss, Ok4 s) ∧ ss.length ≤ 1000 ∧
  ∀ q H', Sy K F (.dat [.ref q] [lowest (sumP ss)] :: G) H' → Q (.ref q) H'
end
end LAW

set_option Elab.async false
set_option linter.all false
set_option maxRecDepth 100000
namespace LAW
open PySem PySem.Spec PyProof.Rows L2 PySem.W OB
local macro_rules | `(tactic| walk_at "obc") => `(tactic| first
  | exact Or.inl ⟨by omega, by omega⟩
  | exact Or.inr ⟨by omega, by omega⟩
  | exact cdiv_ok (by omega) (by omega)
  | (show (0 : Int) < _; omega)
  | exact ⟨by omega, by decide⟩
  | exact ⟨by decide, by decide⟩)
local macro_rules | `(tactic| walk_at "obat") => `(tactic| first
  | exact Sy.at (by assumption) 0 rfl | exact Sy.at (by assumption) 1 rfl | exact Sy.at (by assumption) 2 rfl | exact Sy.at (by assumption) 3 rfl
  | exact Sy.at (by assumption) 4 rfl | exact Sy.at (by assumption) 5 rfl | exact Sy.at (by assumption) 6 rfl | exact Sy.at (by assumption) _ (by assumption) | exact Sy.at (by assumption) (_ + 1) (by assumption) | exact Sy.at (by assumption) (_ + 2) (by assumption))
local macro_rules | `(tactic| walk_at "obt") => `(tactic| first
  | exact Sy.tqs (by assumption) 0 rfl | exact Sy.tqs (by assumption) 1 rfl | exact Sy.tqs (by assumption) 2 rfl | exact Sy.tqs (by assumption) 3 rfl | exact Sy.tqs (by assumption) 4 rfl | exact Sy.tqs (by assumption) 5 rfl
  | exact Sy.tqs (by assumption) 6 rfl | exact Sy.tqs (by assumption) 7 rfl | assumption)
local macro_rules | `(tactic| walk_at "obl") => `(tactic| first
  | exact SqL.of (by walk_at "obat")
  | exact Sy.sq (by assumption) 0 rfl | exact Sy.sq (by assumption) 1 rfl | exact Sy.sq (by assumption) 2 rfl | exact Sy.sq (by assumption) 3 rfl | exact Sy.sq (by assumption) _ (by assumption))
local macro_rules | `(tactic| walk_at "obd") => `(tactic| first
  | exact Dp.int _ | exact Dp.bl _ | exact Dp.str _ | exact Dp.non
  | exact Sy.dp (by assumption) 0 rfl | exact Sy.dp (by assumption) 1 rfl | exact Sy.dp (by assumption) 2 rfl | exact Sy.dp (by assumption) 3 rfl
  | exact Sy.dp (by assumption) 4 rfl | exact Sy.dp (by assumption) 5 rfl | exact Sy.dp (by assumption) 6 rfl | exact Sy.dp (by assumption) 7 rfl
  | exact Sy.dp (by assumption) 8 rfl | exact Sy.dp (by assumption) 9 rfl | exact Sy.dp (by assumption) _ (by assumption) | assumption)
local macro_rules | `(tactic| walk_at "obds") => `(tactic| first
  | exact DpAll.nil
  | (refine' DpAll.cons ?ob1 ?ob2; (case ob1 => walk_at "obd"); (case ob2 => walk_at "obds"))
  | exact Sy.dps (by assumption) 0 rfl | exact Sy.dps (by assumption) 1 rfl | exact Sy.dps (by assumption) 2 rfl | exact Sy.dps (by assumption) 3 rfl | assumption)
local macro_rules | `(tactic| walk_at "obsc") => `(tactic| first
  | exact ScL.nil
  | ((first | refine' ScL.int ?obz | refine' ScL.str ?obz | refine' ScL.bl ?obz | refine' ScL.non ?obz); (case obz => walk_at "obsc")))
local macro_rules | `(tactic| walk_at "ob1") => `(tactic| first
  | ((with_reducible refine' g_var ?obh ?_); (case obh => rfl))
  | with_reducible refine g_c ?_
  | with_reducible refine g_nx ?_
  | with_reducible refine g_rt ?_
  | with_reducible refine g_bk ?_
  | with_reducible refine g_ct ?_
  | with_reducible refine g_op ?_
  | with_reducible refine g_I0 ?_
  | with_reducible refine g_test ?_
  | with_reducible refine g_bl ?_
  | with_reducible refine g_blx ?_
  | with_reducible refine g_B ?_
  | with_reducible refine g_seq ?_
  | with_reducible refine g_asg ?_
  | with_reducible refine g_name ?_
  | with_reducible refine g_ifS ?_
  | with_reducible refine g_ret ?_
  | with_reducible refine g_cb ?_
  | with_reducible refine g_cons ?_
  | with_reducible refine g_nil ?_
  | with_reducible refine g_int ?_
  | with_reducible refine g_intB ?_
  | with_reducible refine g_abs ?_
  | with_reducible refine g_max ?_
  | with_reducible refine g_min ?_
  | with_reducible refine g_un ?_
  | with_reducible refine g_U ?_
  | with_reducible refine g_eqI ?_
  | with_reducible refine g_neI ?_
  | with_reducible refine g_eqS ?_
  | with_reducible refine g_neS ?_
  | with_reducible refine g_tt ?_
  | with_reducible refine g_ff ?_
  | with_reducible refine g_next ?_
  | with_reducible refine g_drop ?_
  | with_reducible refine g_if ?_
  | with_reducible refine g_andV ?_
  | with_reducible refine g_orV ?_
  | with_reducible refine g_notV ?_
  | with_reducible refine g_and ?_
  | with_reducible refine g_or ?_
  | with_reducible refine g_not ?_
  | with_reducible refine g_yes ?_
  | with_reducible refine g_chain ?_
  | with_reducible refine g_cg ?_
  | with_reducible refine g_mg ?_
  | with_reducible refine g_kg ?_
  | with_reducible refine g_pg ?_
  | ((with_reducible refine' g_call ?obh ?obj ?_); (case obh => rfl); (case obj => rfl))
  | with_reducible refine g_par ?_
  | with_reducible refine g_par2 ?_
  | with_reducible refine g_par3 ?_
  | with_reducible refine g_par33 ?_
  | with_reducible refine g_gnil ?_
  | with_reducible refine g_gcons ?_
  | with_reducible refine g_gsub ?_
  | with_reducible refine g_ipI ?_
  | with_reducible refine g_rAdd ?_
  | with_reducible refine g_rSub ?_
  | ((with_reducible refine' g_aug ?obh ?_); (case obh => rfl))
  | with_reducible refine g_tup ?_
  | with_reducible refine g_lst ?_
  | with_reducible refine g_bm ?_
  | with_reducible refine g_bm0 ?_
  | with_reducible refine g_sl ?_
  | with_reducible refine g_nopart ?_
  | with_reducible refine g_part ?_
  | with_reducible refine g_pint ?_
  | with_reducible refine isi_int ?_
  | with_reducible refine isi_intB ?_
  | ((with_reducible refine' g_I ?obh ?_); (case obh => walk_at "obc"))
  | ((with_reducible refine' g_tyl ?obh ?_); (case obh => walk_at "obl"))
  | ((with_reducible refine' g_lenL ?obh ?_); (case obh => walk_at "obl"))
  | with_reducible refine g_ne ?_
  | ((with_reducible refine' g_neN' ?obh ?_); (case obh => rfl))
  | with_reducible refine g_ntt ?_
  | with_reducible refine g_nff ?_
  | with_reducible refine g_star ?_
  | with_reducible refine g_att ?_
  | with_reducible refine g_sfld ?_
  | with_reducible refine g_faug ?_
  | with_reducible refine g_fld ?_
  | ((with_reducible refine' g_nF ?obh ?_); (case obh => omega))
  | ((with_reducible refine' g_nT ?obh ?_); (case obh => omega))
  | ((with_reducible refine' g_TD ?obh ?_); (case obh => omega))
  | ((with_reducible refine' g_FD ?obh ?_); (case obh => omega))
  | ((with_reducible refine' g_ixUL ?obh ?obi ?_); (case obh => walk_at "obl"); (case obi => exact atI_nn (by omega) (by rfl)))
  | ((with_reducible refine' g_setLS ?obs ?obh ?obi ?_); (case obs => assumption); (case obh => assumption); (case obi => rfl); intro _ _ _)
  | ((with_reducible refine' g_newT ?obs ?obh ?obi ?obj ?_); (case obs => assumption); (case obh => walk_at "obds"); (case obi => rfl); (case obj => exact Nat.le_of_ble_eq_true rfl); intro _ _ _ _)
  | ((with_reducible refine' g_newL ?obs ?obj ?_); (case obs => assumption); (case obj => exact Nat.le_of_ble_eq_true rfl); intro _ _ _ _)
  | ((with_reducible refine' isi_tup ?obh ?_); (case obh => walk_at "obt"))
  | ((with_reducible refine' g_lenT ?obh ?_); (case obh => walk_at "obt"))
  | ((with_reducible refine' g_unpT ?obh ?obi ?_); (case obh => walk_at "obt"); (case obi => rfl))
  | ((with_reducible refine' g_divmod ?obs ?obh ?_); (case obs => assumption); (case obh => exact cdivp_ok (by omega) (by omega) (by omega)); intro _ _ _ _)
  | ((with_reducible refine' g_unpD ?obh ?obi ?obj ?_); (case obh => walk_at "obd"); (case obi => walk_at "obsc"); (case obj => rfl))
  | with_reducible refine g_att ?_)
section
variable {P : Program} {w : World} {K : Frag} {mg : Str → Option Value} {base : Heap}
/-! ### accruals -/
structure AccC (K : Frag) (C : Addr) : Prop where
  c : Cls K C
  n1 : NoAttr K C "own_rest"
  n2 : NoAttr K C "own_paid"
  n3 : NoAttr K C "own_days"
def accF (r p d : Int) : List (Str × V) := [("own_rest", .int r), ("own_paid", .int p), ("own_days", .int d)]
def accO (C dx : Addr) (r p d : Int) : HO := .ins C dx (accF r p d)
theorem acc_r (r p d x : Int) : putF "own_rest" (.int x) (accF r p d) = accF x p d := rfl
theorem acc_p (r p d x : Int) : putF "own_paid" (.int x) (accF r p d) = accF r x d := rfl
theorem acc_d (r p d x : Int) : putF "own_days" (.int x) (accF r p d) = accF r p x := rfl
local macro_rules | `(tactic| walk_at "obat19") => `(tactic| first | assumption | walk_at "obat")
local macro_rules | `(tactic| walk_at "ob") => `(tactic| first
  | walk_at "ob1"
  | refine use_is_integer ?_
  | refine use_is_within ?_
  | refine use_balance ?_
  | refine use_rate ?_
  | refine use_year (by assumption) ?_
  | refine use_unit ?_
  | refine use_rest (by omega) (by omega) ?_
  | refine use_parts (by walk_at "obd") (by assumption) ?_
  | refine use_is_stretch (by walk_at "obd") (by assumption) ?_
  | refine g_unpT (sqt_enc (by walk_at "obd")) rfl ?_
  | ((with_reducible refine' g_fldS ?obh ?obc ?obn ?obe ?_); (case obh => walk_at "obat19"); (case obc => exact AccC.c (by assumption)); (case obn => first | exact AccC.n1 (by assumption) | exact AccC.n2 (by assumption) | exact AccC.n3 (by assumption)); (case obe => rfl))
  | ((with_reducible refine' g_attS ?obs ?obh ?obc ?obn ?obl ?_); (case obs => assumption); (case obh => assumption); (case obc => exact AccC.c (by assumption)); (case obn => first | exact AccC.n1 (by assumption) | exact AccC.n2 (by assumption) | exact AccC.n3 (by assumption)); (case obl => exact Nat.le_of_ble_eq_true rfl); intro _ _ _)
  | ((with_reducible refine' g_augS ?obh ?obc ?obn ?obe ?_); (case obh => walk_at "obat19"); (case obc => exact AccC.c (by assumption)); (case obn => first | exact AccC.n1 (by assumption) | exact AccC.n2 (by assumption) | exact AccC.n3 (by assumption)); (case obe => rfl))
  | ((with_reducible refine' g_augE ?obs ?obh ?obl ?_); (case obs => assumption); (case obh => assumption); (case obl => exact Nat.le_of_ble_eq_true rfl); intro _ _ _)
  | ((with_reducible refine' g_ixUT ?obh ?obi ?_); (case obh => first | exact sqt_enc (by walk_at "obd") | walk_at "obt"); (case obi => rfl)))
def sp_Accrual___init__ (K : Frag) : Sp := fun vs H Q E => vs.length = 2 ∧ ∃ (F : List (Addr × HO)) (G : List Ft) (i : Nat) (p C dx : Addr) (r : Int), vs = [.ref p, .int r] ∧ Sy K F G H ∧ F[i]? = some (p, .ins C dx []) ∧ AccC K C ∧ 0 ≤ r ∧ r ≤ 133589999999 ∧
  ∀ H', Sy K (F.set i (p, accO C dx r 0 0)) G H' → Q .non H'
def sp_Accrual_rest (K : Frag) : Sp := fun vs H Q E => vs.length = 1 ∧ ∃ (p C dx : Addr) (r d e : Int), vs = [.ref p] ∧ H p = some (accO C dx r d e) ∧ AccC K C ∧ Q (.int r) H
def sp_Accrual_paid (K : Frag) : Sp := fun vs H Q E => vs.length = 1 ∧ ∃ (p C dx : Addr) (r d e : Int), vs = [.ref p] ∧ H p = some (accO C dx r d e) ∧ AccC K C ∧ Q (.int d) H
def sp_Accrual_days (K : Frag) : Sp := fun vs H Q E => vs.length = 1 ∧ ∃ (p C dx : Addr) (r d e : Int), vs = [.ref p] ∧ H p = some (accO C dx r d e) ∧ AccC K C ∧ Q (.int e) H
theorem parts_le {s : Str4} (o : Ok4 s) : parts s ≤ 36600000000000000000000000 := by
  obtain ⟨d0, d1, b0, b1, r0, r1, y0⟩ := o
  unfold parts
  have h0 : 0 ≤ (if s.b > 0 then s.b else 0) := by split <;> omega
  have h1 : (if s.b > 0 then s.b else 0) ≤ 1000000000000 := by split <;> omega
  have a1 := Int.mul_le_mul d1 h1 h0 (by decide)
  have a2 := Int.mul_le_mul a1 r1 r0 (by decide)
  have a3 := Int.mul_le_mul a2 (show 731 - s.y ≤ 366 by omega) (by omega) (by decide)
  omega
def sp_Accrual_go_on (K : Frag) : Sp := fun vs H Q E => vs.length = 2 ∧ ∃ (F : List (Addr × HO)) (G : List Ft) (i : Nat) (p q C dx : Addr) (r d e : Int) (s : Str4), vs = [.ref p, .ref q] ∧ Sy K F G H ∧ F[i]? = some (p, accO C dx r d e) ∧ AccC K C ∧ Dp K H (.ref q) (enc s) ∧ Ok4 s ∧ 0 ≤ r ∧ r ≤ 133589999999 ∧
  ∀ H', Sy K (F.set i (p, accO C dx ((r + parts s) % 133590000000) (d + (r + parts s) / 133590000000) (e + s.d))) G H' → Q (.int ((r + parts s) / 133590000000)) H'
end
end LAW

set_option Elab.async false
set_option linter.all false
set_option maxRecDepth 100000
namespace LAW
open PySem PySem.Spec PyProof.Rows L2 PySem.W OB
local macro_rules | `(tactic| walk_at "obc") => `(tactic| first
  | exact Or.inl ⟨by omega, by omega⟩
  | exact Or.inr ⟨by omega, by omega⟩
  | exact cdiv_ok (by omega) (by omega)
  | (show (0 : Int) < _; omega)
  | exact ⟨by omega, by decide⟩
  | exact ⟨by decide, by decide⟩)
local macro_rules | `(tactic| walk_at "obat") => `(tactic| first
  | exact Sy.at (by assumption) 0 rfl | exact Sy.at (by assumption) 1 rfl | exact Sy.at (by assumption) 2 rfl | exact Sy.at (by assumption) 3 rfl
  | exact Sy.at (by assumption) 4 rfl | exact Sy.at (by assumption) 5 rfl | exact Sy.at (by assumption) 6 rfl | exact Sy.at (by assumption) _ (by assumption) | exact Sy.at (by assumption) (_ + 1) (by assumption) | exact Sy.at (by assumption) (_ + 2) (by assumption))
local macro_rules | `(tactic| walk_at "obt") => `(tactic| first
  | exact Sy.tqs (by assumption) 0 rfl | exact Sy.tqs (by assumption) 1 rfl | exact Sy.tqs (by assumption) 2 rfl | exact Sy.tqs (by assumption) 3 rfl | exact Sy.tqs (by assumption) 4 rfl | exact Sy.tqs (by assumption) 5 rfl
  | exact Sy.tqs (by assumption) 6 rfl | exact Sy.tqs (by assumption) 7 rfl | assumption)
local macro_rules | `(tactic| walk_at "obl") => `(tactic| first
  | exact SqL.of (by walk_at "obat")
  | exact Sy.sq (by assumption) 0 rfl | exact Sy.sq (by assumption) 1 rfl | exact Sy.sq (by assumption) 2 rfl | exact Sy.sq (by assumption) 3 rfl | exact Sy.sq (by assumption) _ (by assumption))
local macro_rules | `(tactic| walk_at "obd") => `(tactic| first
  | exact Dp.int _ | exact Dp.bl _ | exact Dp.str _ | exact Dp.non
  | exact Sy.dp (by assumption) 0 rfl | exact Sy.dp (by assumption) 1 rfl | exact Sy.dp (by assumption) 2 rfl | exact Sy.dp (by assumption) 3 rfl
  | exact Sy.dp (by assumption) 4 rfl | exact Sy.dp (by assumption) 5 rfl | exact Sy.dp (by assumption) 6 rfl | exact Sy.dp (by assumption) 7 rfl
  | exact Sy.dp (by assumption) 8 rfl | exact Sy.dp (by assumption) 9 rfl | exact Sy.dp (by assumption) _ (by assumption) | assumption)
local macro_rules | `(tactic| walk_at "obds") => `(tactic| first
  | exact DpAll.nil
  | (refine' DpAll.cons ?ob1 ?ob2; (case ob1 => walk_at "obd"); (case ob2 => walk_at "obds"))
  | exact Sy.dps (by assumption) 0 rfl | exact Sy.dps (by assumption) 1 rfl | exact Sy.dps (by assumption) 2 rfl | exact Sy.dps (by assumption) 3 rfl | assumption)
local macro_rules | `(tactic| walk_at "obsc") => `(tactic| first
  | exact ScL.nil
  | ((first | refine' ScL.int ?obz | refine' ScL.str ?obz | refine' ScL.bl ?obz | refine' ScL.non ?obz); (case obz => walk_at "obsc")))
local macro_rules | `(tactic| walk_at "ob1") => `(tactic| first
  | ((with_reducible refine' g_var ?obh ?_); (case obh => rfl))
  | with_reducible refine g_c ?_
  | with_reducible refine g_nx ?_
  | with_reducible refine g_rt ?_
  | with_reducible refine g_bk ?_
  | with_reducible refine g_ct ?_
  | with_reducible refine g_op ?_
  | with_reducible refine g_I0 ?_
  | with_reducible refine g_test ?_
  | with_reducible refine g_bl ?_
  | with_reducible refine g_blx ?_
  | with_reducible refine g_B ?_
  | with_reducible refine g_seq ?_
  | with_reducible refine g_asg ?_
  | with_reducible refine g_name ?_
  | with_reducible refine g_ifS ?_
  | with_reducible refine g_ret ?_
  | with_reducible refine g_cb ?_
  | with_reducible refine g_cons ?_
  | with_reducible refine g_nil ?_
  | with_reducible refine g_int ?_
  | with_reducible refine g_intB ?_
  | with_reducible refine g_abs ?_
  | with_reducible refine g_max ?_
  | with_reducible refine g_min ?_
  | with_reducible refine g_un ?_
  | with_reducible refine g_U ?_
  | with_reducible refine g_eqI ?_
  | with_reducible refine g_neI ?_
  | with_reducible refine g_eqS ?_
  | with_reducible refine g_neS ?_
  | with_reducible refine g_tt ?_
  | with_reducible refine g_ff ?_
  | with_reducible refine g_next ?_
  | with_reducible refine g_drop ?_
  | with_reducible refine g_if ?_
  | with_reducible refine g_andV ?_
  | with_reducible refine g_orV ?_
  | with_reducible refine g_notV ?_
  | with_reducible refine g_and ?_
  | with_reducible refine g_or ?_
  | with_reducible refine g_not ?_
  | with_reducible refine g_yes ?_
  | with_reducible refine g_chain ?_
  | with_reducible refine g_cg ?_
  | with_reducible refine g_mg ?_
  | with_reducible refine g_kg ?_
  | with_reducible refine g_pg ?_
  | ((with_reducible refine' g_call ?obh ?obj ?_); (case obh => rfl); (case obj => rfl))
  | with_reducible refine g_par ?_
  | with_reducible refine g_par2 ?_
  | with_reducible refine g_par3 ?_
  | with_reducible refine g_par33 ?_
  | with_reducible refine g_gnil ?_
  | with_reducible refine g_gcons ?_
  | with_reducible refine g_gsub ?_
  | with_reducible refine g_ipI ?_
  | with_reducible refine g_rAdd ?_
  | with_reducible refine g_rSub ?_
  | ((with_reducible refine' g_aug ?obh ?_); (case obh => rfl))
  | with_reducible refine g_tup ?_
  | with_reducible refine g_lst ?_
  | with_reducible refine g_bm ?_
  | with_reducible refine g_bm0 ?_
  | with_reducible refine g_sl ?_
  | with_reducible refine g_nopart ?_
  | with_reducible refine g_part ?_
  | with_reducible refine g_pint ?_
  | with_reducible refine isi_int ?_
  | with_reducible refine isi_intB ?_
  | ((with_reducible refine' g_I ?obh ?_); (case obh => walk_at "obc"))
  | ((with_reducible refine' g_tyl ?obh ?_); (case obh => walk_at "obl"))
  | ((with_reducible refine' g_lenL ?obh ?_); (case obh => walk_at "obl"))
  | with_reducible refine g_ne ?_
  | ((with_reducible refine' g_neN' ?obh ?_); (case obh => rfl))
  | with_reducible refine g_ntt ?_
  | with_reducible refine g_nff ?_
  | with_reducible refine g_star ?_
  | with_reducible refine g_att ?_
  | with_reducible refine g_sfld ?_
  | with_reducible refine g_faug ?_
  | with_reducible refine g_fld ?_
  | ((with_reducible refine' g_nF ?obh ?_); (case obh => omega))
  | ((with_reducible refine' g_nT ?obh ?_); (case obh => omega))
  | ((with_reducible refine' g_TD ?obh ?_); (case obh => omega))
  | ((with_reducible refine' g_FD ?obh ?_); (case obh => omega))
  | ((with_reducible refine' g_ixUL ?obh ?obi ?_); (case obh => walk_at "obl"); (case obi => exact atI_nn (by omega) (by rfl)))
  | ((with_reducible refine' g_setLS ?obs ?obh ?obi ?_); (case obs => assumption); (case obh => assumption); (case obi => rfl); intro _ _ _)
  | ((with_reducible refine' g_newT ?obs ?obh ?obi ?obj ?_); (case obs => assumption); (case obh => walk_at "obds"); (case obi => rfl); (case obj => exact Nat.le_of_ble_eq_true rfl); intro _ _ _ _)
  | ((with_reducible refine' g_newL ?obs ?obj ?_); (case obs => assumption); (case obj => exact Nat.le_of_ble_eq_true rfl); intro _ _ _ _)
  | ((with_reducible refine' isi_tup ?obh ?_); (case obh => walk_at "obt"))
  | ((with_reducible refine' g_lenT ?obh ?_); (case obh => walk_at "obt"))
  | ((with_reducible refine' g_unpT ?obh ?obi ?_); (case obh => walk_at "obt"); (case obi => rfl))
  | ((with_reducible refine' g_divmod ?obs ?obh ?_); (case obs => assumption); (case obh => exact cdivp_ok (by omega) (by omega) (by omega)); intro _ _ _ _)
  | ((with_reducible refine' g_unpD ?obh ?obi ?obj ?_); (case obh => walk_at "obd"); (case obi => walk_at "obsc"); (case obj => rfl))
  | with_reducible refine g_att ?_)
local macro_rules | `(tactic| walk_at "obat19") => `(tactic| first | assumption | walk_at "obat")
local macro_rules | `(tactic| walk_at "ob") => `(tactic| first
  | walk_at "ob1"
  | refine use_is_integer ?_
  | refine use_is_within ?_
  | refine use_balance ?_
  | refine use_rate ?_
  | refine use_year (by assumption) ?_
  | refine use_unit ?_
  | refine use_rest (by omega) (by omega) ?_
  | refine use_parts (by walk_at "obd") (by assumption) ?_
  | refine use_is_stretch (by walk_at "obd") (by assumption) ?_
  | refine g_unpT (sqt_enc (by walk_at "obd")) rfl ?_
  | ((with_reducible refine' g_fldS ?obh ?obc ?obn ?obe ?_); (case obh => walk_at "obat19"); (case obc => exact AccC.c (by assumption)); (case obn => first | exact AccC.n1 (by assumption) | exact AccC.n2 (by assumption) | exact AccC.n3 (by assumption)); (case obe => rfl))
  | ((with_reducible refine' g_attS ?obs ?obh ?obc ?obn ?obl ?_); (case obs => assumption); (case obh => assumption); (case obc => exact AccC.c (by assumption)); (case obn => first | exact AccC.n1 (by assumption) | exact AccC.n2 (by assumption) | exact AccC.n3 (by assumption)); (case obl => exact Nat.le_of_ble_eq_true rfl); intro _ _ _)
  | ((with_reducible refine' g_augS ?obh ?obc ?obn ?obe ?_); (case obh => walk_at "obat19"); (case obc => exact AccC.c (by assumption)); (case obn => first | exact AccC.n1 (by assumption) | exact AccC.n2 (by assumption) | exact AccC.n3 (by assumption)); (case obe => rfl))
  | ((with_reducible refine' g_augE ?obs ?obh ?obl ?_); (case obs => assumption); (case obh => assumption); (case obl => exact Nat.le_of_ble_eq_true rfl); intro _ _ _)
  | ((with_reducible refine' g_ixUT ?obh ?obi ?_); (case obh => first | exact sqt_enc (by walk_at "obd") | walk_at "obt"); (case obi => rfl)))
section
variable {P : Program} {w : World} {K : Frag} {mg : Str → Option Value} {base : Heap}
/-! ### rows of what is paid -/
def rows : List Int → Int → List (Int × Int)
  | [], _ => []
  | p :: ps, r => ((r + p) / 133590000000, (r + p) % 133590000000) :: rows ps ((r + p) % 133590000000)
def endR : List Int → Int → Int
  | [], r => r
  | p :: ps, r => endR ps ((r + p) % 133590000000)
theorem endR_snoc : ∀ (ps : List Int) (r p : Int), endR (ps ++ [p]) r = (endR ps r + p) % 133590000000
  | [], _, _ => rfl
  | q :: ps, r, p => by
    show endR (ps ++ [p]) _ = _
    rw [endR_snoc]
    rfl
theorem rows_snoc : ∀ (ps : List Int) (r p : Int), rows (ps ++ [p]) r = rows ps r ++ [((endR ps r + p) / 133590000000, (endR ps r + p) % 133590000000)]
  | [], _, _ => rfl
  | q :: ps, r, p => by
    show _ :: rows (ps ++ [p]) _ = _
    rw [rows_snoc]
    rfl
theorem rows_length : ∀ (ps : List Int) (r : Int), (rows ps r).length = ps.length
  | [], _ => rfl
  | p :: ps, r => by
    show (rows ps _).length + 1 = _
    rw [rows_length]
    rfl
theorem endR_in : ∀ (ps : List Int) {r : Int}, 0 ≤ r → r ≤ 133589999999 → 0 ≤ endR ps r ∧ endR ps r ≤ 133589999999
  | [], _, h1, h2 => ⟨h1, h2⟩
  | p :: ps, r, _, _ => endR_in ps (r := (r + p) % 133590000000) (by omega) (by omega)
def rowD (x : Int × Int) : PyData := .tuple [.int x.1, .int x.2]
def rowsD (ps : List Int) (r : Int) : List PyData := (rows ps r).map rowD
theorem rowsD_imm (ps : List Int) (r : Int) : immAll (rowsD ps r) = true := immAll_of fun x hx => by
  obtain ⟨s, _, rfl⟩ := List.mem_map.mp hx
  rfl
theorem rowsD_snoc (ps : List Int) (r p : Int) : rowsD (ps ++ [p]) r = rowsD ps r ++ [.tuple [.int ((endR ps r + p) / 133590000000), .int ((endR ps r + p) % 133590000000)]] := by
  unfold rowsD
  rw [rows_snoc, List.map_append]
  rfl
theorem rowsD_length (ps : List Int) (r : Int) : (rowsD ps r).length = ps.length := by
  unfold rowsD
  rw [List.length_map, rows_length]
/-- the parts of each day -/
def flat (ss : List Str4) : List Int := ss.flatMap fun s => List.replicate s.d.toNat (dayP s)
theorem flat_length : ∀ {ss : List Str4}, (∀ s ∈ ss, Ok4 s) → ((flat ss).length : Int) = (ss.map Str4.d).sum
  | [], _ => rfl
  | s :: ss, h => by
    have e := flat_length (ss := ss) fun x hx => h x (List.mem_cons_of_mem _ hx)
    have o := h s (List.mem_cons_self ..)
    have d0 := o.d0
    unfold flat at e ⊢
    rw [List.flatMap_cons, List.length_append, List.length_replicate, List.map_cons, List.sum_cons]
    omega
theorem flat_take {ss : List Str4} {i : Nat} {s : Str4} (h : ss[i]? = some s) : flat (ss.take (i + 1)) = flat (ss.take i) ++ List.replicate s.d.toNat (dayP s) := by
  rw [List.take_add_one, h]
  unfold flat
  rw [List.flatMap_append]
  simp
theorem flat_take_length {ss : List Str4} {i j : Nat} {s : Str4} (h : ss[i]? = some s) (hj : j < s.d.toNat) : (flat (ss.take i) ++ List.replicate j (dayP s)).length < (flat ss).length := by
  have e : flat ss = flat (ss.take (i + 1)) ++ flat (ss.drop (i + 1)) := by
    conv => lhs; rw [← List.take_append_drop (i + 1) ss]
    unfold flat
    rw [List.flatMap_append]
  rw [e, flat_take h]
  simp only [List.length_append, List.length_replicate]
  omega
theorem dayP_eq (s : Str4) : parts { s with d := 1 } = dayP s := by
  unfold parts dayP
  rw [Int.one_mul]
theorem Ok4.one {s : Str4} (o : Ok4 s) : Ok4 { s with d := 1 } := ⟨Int.le_refl _, (by decide : (1 : Int) ≤ 100000), o.b0, o.b1, o.r0, o.r1, o.y0⟩
def sp_daily (K : Frag) : Sp := fun vs H Q E => vs.length = 2 ∧ ∃ (F : List (Addr × HO)) (G : List Ft) (p : Addr) (ss : List Str4) (r : Int), vs = [.ref p, .int r] ∧ Sy K F G H ∧ Dp K H (.ref p) (encs ss) ∧ (∀ s ∈ ss, Ok4 s) ∧ ss.length ≤ 1000 ∧ 0 ≤ r ∧ r ≤ 133589999999 ∧ (flat ss).length ≤ 20000 ∧
  ∀ q H', Sy K F (.dat [.ref q] [.tuple (rowsD (flat ss) r)] :: G) H' → Q (.ref q) H'
end
end LAW

set_option Elab.async false
set_option linter.all false
set_option maxRecDepth 100000
namespace LAW
open PySem PySem.Spec PyProof.Rows L2 PySem.W OB
local macro_rules | `(tactic| walk_at "obc") => `(tactic| first
  | exact Or.inl ⟨by omega, by omega⟩
  | exact Or.inr ⟨by omega, by omega⟩
  | exact cdiv_ok (by omega) (by omega)
  | (show (0 : Int) < _; omega)
  | exact ⟨by omega, by decide⟩
  | exact ⟨by decide, by decide⟩)
local macro_rules | `(tactic| walk_at "obat") => `(tactic| first
  | exact Sy.at (by assumption) 0 rfl | exact Sy.at (by assumption) 1 rfl | exact Sy.at (by assumption) 2 rfl | exact Sy.at (by assumption) 3 rfl
  | exact Sy.at (by assumption) 4 rfl | exact Sy.at (by assumption) 5 rfl | exact Sy.at (by assumption) 6 rfl | exact Sy.at (by assumption) _ (by assumption) | exact Sy.at (by assumption) (_ + 1) (by assumption) | exact Sy.at (by assumption) (_ + 2) (by assumption))
local macro_rules | `(tactic| walk_at "obt") => `(tactic| first
  | exact Sy.tqs (by assumption) 0 rfl | exact Sy.tqs (by assumption) 1 rfl | exact Sy.tqs (by assumption) 2 rfl | exact Sy.tqs (by assumption) 3 rfl | exact Sy.tqs (by assumption) 4 rfl | exact Sy.tqs (by assumption) 5 rfl
  | exact Sy.tqs (by assumption) 6 rfl | exact Sy.tqs (by assumption) 7 rfl | assumption)
local macro_rules | `(tactic| walk_at "obl") => `(tactic| first
  | exact SqL.of (by walk_at "obat")
  | exact Sy.sq (by assumption) 0 rfl | exact Sy.sq (by assumption) 1 rfl | exact Sy.sq (by assumption) 2 rfl | exact Sy.sq (by assumption) 3 rfl | exact Sy.sq (by assumption) _ (by assumption))
local macro_rules | `(tactic| walk_at "obd") => `(tactic| first
  | exact Dp.int _ | exact Dp.bl _ | exact Dp.str _ | exact Dp.non
  | exact Sy.dp (by assumption) 0 rfl | exact Sy.dp (by assumption) 1 rfl | exact Sy.dp (by assumption) 2 rfl | exact Sy.dp (by assumption) 3 rfl
  | exact Sy.dp (by assumption) 4 rfl | exact Sy.dp (by assumption) 5 rfl | exact Sy.dp (by assumption) 6 rfl | exact Sy.dp (by assumption) 7 rfl
  | exact Sy.dp (by assumption) 8 rfl | exact Sy.dp (by assumption) 9 rfl | exact Sy.dp (by assumption) _ (by assumption) | assumption)
local macro_rules | `(tactic| walk_at "obds") => `(tactic| first
  | exact DpAll.nil
  | (refine' DpAll.cons ?ob1 ?ob2; (case ob1 => walk_at "obd"); (case ob2 => walk_at "obds"))
  | exact Sy.dps (by assumption) 0 rfl | exact Sy.dps (by assumption) 1 rfl | exact Sy.dps (by assumption) 2 rfl | exact Sy.dps (by assumption) 3 rfl | assumption)
local macro_rules | `(tactic| walk_at "obsc") => `(tactic| first
  | exact ScL.nil
  | ((first | refine' ScL.int ?obz | refine' ScL.str ?obz | refine' ScL.bl ?obz | refine' ScL.non ?obz); (case obz => walk_at "obsc")))
local macro_rules | `(tactic| walk_at "ob1") => `(tactic| first
  | ((with_reducible refine' g_var ?obh ?_); (case obh => rfl))
  | with_reducible refine g_c ?_
  | with_reducible refine g_nx ?_
  | with_reducible refine g_rt ?_
  | with_reducible refine g_bk ?_
  | with_reducible refine g_ct ?_
  | with_reducible refine g_op ?_
  | with_reducible refine g_I0 ?_
  | with_reducible refine g_test ?_
  | with_reducible refine g_bl ?_
  | with_reducible refine g_blx ?_
  | with_reducible refine g_B ?_
  | with_reducible refine g_seq ?_
  | with_reducible refine g_asg ?_
  | with_reducible refine g_name ?_
  | with_reducible refine g_ifS ?_
  | with_reducible refine g_ret ?_
  | with_reducible refine g_cb ?_
  | with_reducible refine g_cons ?_
  | with_reducible refine g_nil ?_
  | with_reducible refine g_int ?_
  | with_reducible refine g_intB ?_
  | with_reducible refine g_abs ?_
  | with_reducible refine g_max ?_
  | with_reducible refine g_min ?_
  | with_reducible refine g_un ?_
  | with_reducible refine g_U ?_
  | with_reducible refine g_eqI ?_
  | with_reducible refine g_neI ?_
  | with_reducible refine g_eqS ?_
  | with_reducible refine g_neS ?_
  | with_reducible refine g_tt ?_
  | with_reducible refine g_ff ?_
  | with_reducible refine g_next ?_
  | with_reducible refine g_drop ?_
  | with_reducible refine g_if ?_
  | with_reducible refine g_andV ?_
  | with_reducible refine g_orV ?_
  | with_reducible refine g_notV ?_
  | with_reducible refine g_and ?_
  | with_reducible refine g_or ?_
  | with_reducible refine g_not ?_
  | with_reducible refine g_yes ?_
  | with_reducible refine g_chain ?_
  | with_reducible refine g_cg ?_
  | with_reducible refine g_mg ?_
  | with_reducible refine g_kg ?_
  | with_reducible refine g_pg ?_
  | ((with_reducible refine' g_call ?obh ?obj ?_); (case obh => rfl); (case obj => rfl))
  | with_reducible refine g_par ?_
  | with_reducible refine g_par2 ?_
  | with_reducible refine g_par3 ?_
  | with_reducible refine g_par33 ?_
  | with_reducible refine g_gnil ?_
  | with_reducible refine g_gcons ?_
  | with_reducible refine g_gsub ?_
  | with_reducible refine g_ipI ?_
  | with_reducible refine g_rAdd ?_
  | with_reducible refine g_rSub ?_
  | ((with_reducible refine' g_aug ?obh ?_); (case obh => rfl))
  | with_reducible refine g_tup ?_
  | with_reducible refine g_lst ?_
  | with_reducible refine g_bm ?_
  | with_reducible refine g_bm0 ?_
  | with_reducible refine g_sl ?_
  | with_reducible refine g_nopart ?_
  | with_reducible refine g_part ?_
  | with_reducible refine g_pint ?_
  | with_reducible refine isi_int ?_
  | with_reducible refine isi_intB ?_
  | ((with_reducible refine' g_I ?obh ?_); (case obh => walk_at "obc"))
  | ((with_reducible refine' g_tyl ?obh ?_); (case obh => walk_at "obl"))
  | ((with_reducible refine' g_lenL ?obh ?_); (case obh => walk_at "obl"))
  | with_reducible refine g_ne ?_
  | ((with_reducible refine' g_neN' ?obh ?_); (case obh => rfl))
  | with_reducible refine g_ntt ?_
  | with_reducible refine g_nff ?_
  | with_reducible refine g_star ?_
  | with_reducible refine g_att ?_
  | with_reducible refine g_sfld ?_
  | with_reducible refine g_faug ?_
  | with_reducible refine g_fld ?_
  | ((with_reducible refine' g_nF ?obh ?_); (case obh => omega))
  | ((with_reducible refine' g_nT ?obh ?_); (case obh => omega))
  | ((with_reducible refine' g_TD ?obh ?_); (case obh => omega))
  | ((with_reducible refine' g_FD ?obh ?_); (case obh => omega))
  | ((with_reducible refine' g_ixUL ?obh ?obi ?_); (case obh => walk_at "obl"); (case obi => exact atI_nn (by omega) (by rfl)))
  | ((with_reducible refine' g_setLS ?obs ?obh ?obi ?_); (case obs => assumption); (case obh => assumption); (case obi => rfl); intro _ _ _)
  | ((with_reducible refine' g_newT ?obs ?obh ?obi ?obj ?_); (case obs => assumption); (case obh => walk_at "obds"); (case obi => rfl); (case obj => exact Nat.le_of_ble_eq_true rfl); intro _ _ _ _)
  | ((with_reducible refine' g_newL ?obs ?obj ?_); (case obs => assumption); (case obj => exact Nat.le_of_ble_eq_true rfl); intro _ _ _ _)
  | ((with_reducible refine' isi_tup ?obh ?_); (case obh => walk_at "obt"))
  | ((with_reducible refine' g_lenT ?obh ?_); (case obh => walk_at "obt"))
  | ((with_reducible refine' g_unpT ?obh ?obi ?_); (case obh => walk_at "obt"); (case obi => rfl))
  | ((with_reducible refine' g_divmod ?obs ?obh ?_); (case obs => assumption); (case obh => exact cdivp_ok (by omega) (by omega) (by omega)); intro _ _ _ _)
  | ((with_reducible refine' g_unpD ?obh ?obi ?obj ?_); (case obh => walk_at "obd"); (case obi => walk_at "obsc"); (case obj => rfl))
  | with_reducible refine g_att ?_)
local macro_rules | `(tactic| walk_at "obat19") => `(tactic| first | assumption | walk_at "obat")
local macro_rules | `(tactic| walk_at "ob") => `(tactic| first
  | walk_at "ob1"
  | refine use_is_integer ?_
  | refine use_is_within ?_
  | refine use_balance ?_
  | refine use_rate ?_
  | refine use_year (by assumption) ?_
  | refine use_unit ?_
  | refine use_rest (by omega) (by omega) ?_
  | refine use_parts (by walk_at "obd") (by assumption) ?_
  | refine use_is_stretch (by walk_at "obd") (by assumption) ?_
  | refine g_unpT (sqt_enc (by walk_at "obd")) rfl ?_
  | ((with_reducible refine' g_fldS ?obh ?obc ?obn ?obe ?_); (case obh => walk_at "obat19"); (case obc => exact AccC.c (by assumption)); (case obn => first | exact AccC.n1 (by assumption) | exact AccC.n2 (by assumption) | exact AccC.n3 (by assumption)); (case obe => rfl))
  | ((with_reducible refine' g_attS ?obs ?obh ?obc ?obn ?obl ?_); (case obs => assumption); (case obh => assumption); (case obc => exact AccC.c (by assumption)); (case obn => first | exact AccC.n1 (by assumption) | exact AccC.n2 (by assumption) | exact AccC.n3 (by assumption)); (case obl => exact Nat.le_of_ble_eq_true rfl); intro _ _ _)
  | ((with_reducible refine' g_augS ?obh ?obc ?obn ?obe ?_); (case obh => walk_at "obat19"); (case obc => exact AccC.c (by assumption)); (case obn => first | exact AccC.n1 (by assumption) | exact AccC.n2 (by assumption) | exact AccC.n3 (by assumption)); (case obe => rfl))
  | ((with_reducible refine' g_augE ?obs ?obh ?obl ?_); (case obs => assumption); (case obh => assumption); (case obl => exact Nat.le_of_ble_eq_true rfl); intro _ _ _)
  | ((with_reducible refine' g_ixUT ?obh ?obi ?_); (case obh => first | exact sqt_enc (by walk_at "obd") | walk_at "obt"); (case obi => rfl)))
section
variable {P : Program} {w : World} {K : Frag} {mg : Str → Option Value} {base : Heap}
def sp_law_divisor (K : Frag) : Sp := fun vs H Q E => vs.length = 2 ∧ ∃ a : Int, vs = [.int a, .int 133590000000] ∧ 0 ≤ a ∧ Q (.int (gU a)) H
/-- what a draw leaves -/
def PotK (K : Frag) (F : List (Addr × HO)) (G : List Ft) (i : Nat) (p : Addr) (n : Nat) (R : Hp → Prop) : Prop :=
  ∀ (a' b' c' : Int) (H' : Hp), PotOk n a' b' c' → Sy K (F.set i (p, potO a' b' c')) G H' → (F.set i (p, potO a' b' c'))[i]? = some (p, potO a' b' c') → R H'
def sp_law_of (K : Frag) : Sp := fun vs H Q E => vs.length = 2 ∧ ∃ (F : List (Addr × HO)) (G : List Ft) (i j : Nat) (p q : Addr) (n : Nat) (ns : List Int) (a b c : Int), vs = [.ref p, .ref q] ∧ Sy K F G H ∧ F[i]? = some (p, potO a b c) ∧ F[j]? = some (q, .lst (ns.map V.int)) ∧ i ≠ j ∧ PotOk n a b c ∧ n < 1000000 ∧ 0 < ns.length ∧ ns.length < 100 ∧
  ∀ r ∈ ns, PotK K F G i p (n + 1) (Q (.int r))
abbrev names_law_of : List Str := ["pot", "some"]
theorem sc_law_of : FnScope names_law_of ["pot", "some"] (defScope (top 42)) := ⟨rfl, rfl, rfl, by decide +kernel, rfl, by decide +kernel, by decide +kernel⟩
set_option maxHeartbeats 4000000 in
theorem ok_law_of (T : Tx K mg) : FG P w K mg base CX0 2 T.a_law_of T.d_law_of ["pot", "some"] (sp_law_of K) := by
  refine OB.Fun.fg T.F_law_of sc_law_of (fun vs H Q E h => h.1) (fun cdv A out s H vs Q E g h => ?_)
  obtain ⟨_, F, G, i, j, p, q, n, ns, a, b, c, rfl, S, hF, hj, hij, ok, hn, l0, l1, k⟩ := h
  refine ⟨_, (pss_one (ps_ret (pe_ix (ix_UK (K := K) rfl) (pv 1) (pe_cg (ok_law_take T) (g.mono (by decide : 1 ≤ 1)) (by rfl) T.m_law_take T.F_law_take.kp (OB.Fun.bd T.F_law_take (ps := ["pot", "upto"]) (n := 2) (ks := []) (ix := [0, 1]) (fun _ _ _ _ _ _ us ws h1 h2 => match us, ws, h1, h2 with | [_, _], [], _, _ => rfl)) pass0 (pa_cons (pv 0) (pa_cons (pe_callB (toK (r := OB.rLen) (K := K) rfl c_len) (by rfl) T.n_len PySem.boot_len (pa_cons (pv 1) pa_nil)) pa_nil)) pk_nil) (fun _ _ => rfl)))), ?_⟩
  refine g_start (σ := [some _, some _]) rfl ?_
  have hij' : ∀ x, (F.set i x)[j]? = some (q, .lst (ns.map V.int)) := fun x => by rw [List.getElem?_set_ne hij]; exact hj
  have e : (((ns.map V.int).length : Nat) : Int) = ns.length := by rw [List.length_map]
  repeat walk_at "ob"
  refine use_take S hF ok hn (by omega) (by omega) fun r a' b' c' H' h1 h2 o2 S2 hF2 => ?_
  obtain ⟨x, hm, hx⟩ := atI_ints (ns := ns) h1 (by omega)
  refine g_ixUL (SqL.of (S2.at j (hij' _))) hx ?_
  repeat walk_at "ob"
  exact k x hm a' b' c' H' o2 S2 hF2
theorem pot_less {F : List (Addr × HO)} {G : List Ft} {H : Hp} {i : Nat} {x : Addr × HO} {y z : Addr × HO} (S : Sy K ((x :: F.set i y).set (i + 1) z) G H) : Sy K (F.set i z) G H := by
  have S5 : Sy K (x :: (F.set i y).set i z) G H := S
  have S6 := S5.less
  rw [List.set_set] at S6
  exact S6
theorem set_at {F : List (Addr × HO)} {i : Nat} {x y : Addr × HO} (h : F[i]? = some x) : (F.set i y)[i]? = some y := List.getElem?_set_self (List.getElem?_eq_some_iff.mp h).1
theorem PotK.use {F : List (Addr × HO)} {G : List Ft} {H : Hp} {i n : Nat} {p : Addr} {R : Hp → Prop} {x : Addr × HO} {a b c : Int} (k : PotK K F G i p n R) (hF : F[i]? = some x) (o : PotOk n a b c) (S : Sy K (F.set i (p, potO a b c)) G H) : R H := k a b c H o S (set_at hF)
theorem use_take2 {F : List (Addr × HO)} {G : List Ft} {H : Hp} {Q : VK} {E : XK} {i n : Nat} {p : Addr} {u a b c : Int} {x : Addr × HO} (S : Sy K (F.set i (p, potO a b c)) G H) (hF : F[i]? = some x) (ok : PotOk n a b c) (hn : n < 1000000) (u0 : 0 < u) (u1 : u < 2 ^ 60)
    (k : ∀ (r a' b' c' : Int) (H' : Hp), 0 ≤ r → r < u → PotOk (n + 1) a' b' c' → Sy K (F.set i (p, potO a' b' c')) G H' → Q (.int r) H') : sp_law_take K [.ref p, .int u] H Q E :=
  use_take S (set_at hF) ok hn u0 u1 fun r a' b' c' H' h1 h2 o S' _ => k r a' b' c' H' h1 h2 o (by rw [List.set_set] at S'; exact S')
/-- behind a list that was just made: it falls away -/
theorem use_of2 {F : List (Addr × HO)} {G : List Ft} {H : Hp} {Q : VK} {E : XK} {i n : Nat} {p q : Addr} {ns : List Int} {vs : List V} {a b c : Int} {x : Addr × HO} (S : Sy K ((q, .lst vs) :: F.set i (p, potO a b c)) G H) (e : vs = ns.map V.int) (hF : F[i]? = some x) (ok : PotOk n a b c) (hn : n < 1000000) (l0 : Nat.ble 1 ns.length = true) (l1 : Nat.ble ns.length 99 = true)
    (k : ∀ r ∈ ns, ∀ (a' b' c' : Int) (H' : Hp), PotOk (n + 1) a' b' c' → Sy K (F.set i (p, potO a' b' c')) G H' → Q (.int r) H') : sp_law_of K [.ref p, .ref q] H Q E := by
  subst e
  refine ⟨rfl, _, G, i + 1, 0, p, q, n, ns, a, b, c, rfl, S, set_at hF, rfl, by omega, ok, hn, Nat.le_of_ble_eq_true l0, Nat.lt_succ_of_le (Nat.le_of_ble_eq_true l1), fun r hr a' b' c' H' o S' _ => ?_⟩
  exact k r hr a' b' c' H' o (pot_less S')
theorem use_of {F : List (Addr × HO)} {G : List Ft} {H : Hp} {Q : VK} {E : XK} {i j n : Nat} {p q : Addr} {ns : List Int} {a b c : Int} (S : Sy K F G H) (hF : F[i]? = some (p, potO a b c)) (hj : F[j]? = some (q, .lst (ns.map V.int))) (hij : i ≠ j) (ok : PotOk n a b c) (hn : n < 1000000) (l0 : 0 < ns.length) (l1 : ns.length < 100)
    (k : ∀ r ∈ ns, PotK K F G i p (n + 1) (Q (.int r))) : sp_law_of K [.ref p, .ref q] H Q E := ⟨rfl, F, G, i, j, p, q, n, ns, a, b, c, rfl, S, hF, hj, hij, ok, hn, l0, l1, k⟩
def sp_law_rest (K : Frag) : Sp := fun vs H Q E => vs.length = 1 ∧ ∃ (F : List (Addr × HO)) (G : List Ft) (i : Nat) (p : Addr) (n : Nat) (a b c : Int), vs = [.ref p] ∧ Sy K F G H ∧ F[i]? = some (p, potO a b c) ∧ PotOk n a b c ∧ n < 900000 ∧
  ∀ r : Int, 0 ≤ r → r ≤ 133589999999 → PotK K F G i p (n + 2) (Q (.int r))
abbrev names_law_rest : List Str := ["pot", "half"]
theorem sc_law_rest : FnScope names_law_rest ["pot"] (defScope (top 46)) := ⟨rfl, rfl, rfl, by decide +kernel, rfl, by decide +kernel, by decide +kernel⟩
set_option maxHeartbeats 4000000 in
theorem ok_law_rest (T : Tx K mg) : FG P w K mg base CX0 3 T.a_law_rest T.d_law_rest ["pot"] (sp_law_rest K) := by
  refine OB.Fun.fg T.F_law_rest sc_law_rest (fun vs H Q E h => h.1) (fun cdv A out s H vs Q E g h => ?_)
  obtain ⟨_, F, G, i, p, n, a, b, c, rfl, S, hF, ok, hn, k⟩ := h
  refine ⟨_, (pss_cons (ps_set (i := 1) sc_law_rest.nd rfl (by first | exact Or.inl rfl | exact Or.inr rfl) (pe_op op_fdivW (pe_cg0 (ok_law_unit T) (g.mono (by decide : 1 ≤ 2)) (by rfl) T.m_law_unit T.F_law_unit.kp (OB.Fun.bd T.F_law_unit (ps := []) (n := 0) (ks := []) (ix := []) (fun _ _ _ _ _ _ us ws h1 h2 => match us, ws, h1, h2 with | [], [], _, _ => rfl)) pass0 pk_nil) pe_int))
      (pss_one (ps_ret (pe_callTy c_int (by rfl) T.n_int (by decide +kernel) (pa_cons (pe_cg (ok_law_of T) (g.mono (by decide : 2 ≤ 2)) (by rfl) T.m_law_of T.F_law_of.kp (OB.Fun.bd T.F_law_of (ps := ["pot", "some"]) (n := 2) (ks := []) (ix := [0, 1]) (fun _ _ _ _ _ _ us ws h1 h2 => match us, ws, h1, h2 with | [_, _], [], _, _ => rfl)) pass0 (pa_cons (pv 0) (pa_cons (pe_lst (pa_cons pe_int (pa_cons pe_int (pa_cons (pe_op op_sub (pe_cg0 (ok_law_unit T) (g.mono (by decide : 1 ≤ 2)) (by rfl) T.m_law_unit T.F_law_unit.kp (OB.Fun.bd T.F_law_unit (ps := []) (n := 0) (ks := []) (ix := []) (fun _ _ _ _ _ _ us ws h1 h2 => match us, ws, h1, h2 with | [], [], _, _ => rfl)) pass0 pk_nil) pe_int) (pa_cons (pe_cg (ok_law_take T) (g.mono (by decide : 1 ≤ 2)) (by rfl) T.m_law_take T.F_law_take.kp (OB.Fun.bd T.F_law_take (ps := ["pot", "upto"]) (n := 2) (ks := []) (ix := [0, 1]) (fun _ _ _ _ _ _ us ws h1 h2 => match us, ws, h1, h2 with | [_, _], [], _, _ => rfl)) pass0 (pa_cons (pv 0) (pa_cons (pe_cg0 (ok_law_unit T) (g.mono (by decide : 1 ≤ 2)) (by rfl) T.m_law_unit T.F_law_unit.kp (OB.Fun.bd T.F_law_unit (ps := []) (n := 0) (ks := []) (ix := []) (fun _ _ _ _ _ _ us ws h1 h2 => match us, ws, h1, h2 with | [], [], _, _ => rfl)) pass0 pk_nil) pa_nil)) pk_nil) (pa_cons (pv 1) (pa_cons (pe_op op_sub (pv 1) pe_int) pa_nil))))))) pa_nil)) pk_nil) pa_nil))))), ?_⟩
  refine g_start (σ := [some _, none]) rfl ?_
  repeat walk_at "ob"
  refine use_take S hF ok (by omega) (by omega) (by omega) fun r a' b' c' H' h1 h2 o2 S2 hF2 => ?_
  repeat walk_at "ob"
  rename_i q H2 hq S3
  refine use_of2 (ns := [0, 0, 133589999999, r, 66795000000, 66794999999]) S3 rfl hF o2 (by omega) rfl rfl fun x hx a3 b3 c3 H3 o3 S4 => ?_
  repeat walk_at "ob"
  simp only [List.mem_cons, List.not_mem_nil, or_false] at hx
  exact (k x (by omega) (by omega)).use hF o3 S4
theorem use_rest_draw {F : List (Addr × HO)} {G : List Ft} {H : Hp} {Q : VK} {E : XK} {i n : Nat} {p : Addr} {a b c : Int} (S : Sy K F G H) (hF : F[i]? = some (p, potO a b c)) (ok : PotOk n a b c) (hn : n < 900000)
    (k : ∀ r : Int, 0 ≤ r → r ≤ 133589999999 → PotK K F G i p (n + 2) (Q (.int r))) : sp_law_rest K [.ref p] H Q E := ⟨rfl, F, G, i, p, n, a, b, c, rfl, S, hF, ok, hn, k⟩
def sp_law_stretch (K : Frag) : Sp := fun vs H Q E => vs.length = 2 ∧ ∃ (F : List (Addr × HO)) (G : List Ft) (i : Nat) (p : Addr) (n : Nat) (m a b c : Int), vs = [.ref p, .int m] ∧ Sy K F G H ∧ F[i]? = some (p, potO a b c) ∧ PotOk n a b c ∧ n < 900000 ∧ 0 < m ∧ m ≤ 100000 ∧
  ∀ (s : Str4) (q : Addr), Ok4 s → s.d ≤ m → PotK K F (.dat [.ref q] [enc s] :: G) i p (n + 7) (Q (.ref q))
abbrev names_law_stretch : List Str := ["pot", "most", "some", "balance", "rate"]
theorem sc_law_stretch : FnScope names_law_stretch ["pot", "most"] (defScope (top 47)) := ⟨rfl, rfl, rfl, by decide +kernel, rfl, by decide +kernel, by decide +kernel⟩
set_option maxHeartbeats 4000000 in
theorem ok_law_stretch (T : Tx K mg) : FG P w K mg base CX0 3 T.a_law_stretch T.d_law_stretch ["pot", "most"] (sp_law_stretch K) := by
  refine OB.Fun.fg T.F_law_stretch sc_law_stretch (fun vs H Q E h => h.1) (fun cdv A out s H vs Q E g h => ?_)
  obtain ⟨_, F, G, i, p, n, m, a, b, c, rfl, S, hF, ok, hn, m0, m1, k⟩ := h
  refine ⟨_, (pss_cons (ps_set (i := 2) sc_law_stretch.nd rfl (by first | exact Or.inl rfl | exact Or.inr rfl) (pe_lst (pa_cons pe_int (pa_cons (pe_un un_neg pe_int) (pa_cons (pe_op op_powX pe_int pe_int) (pa_cons (pe_un un_neg (pe_op op_powX pe_int pe_int)) (pa_cons pe_int (pa_cons (pe_op op_add pe_int (pe_cg (ok_law_take T) (g.mono (by decide : 1 ≤ 2)) (by rfl) T.m_law_take T.F_law_take.kp (OB.Fun.bd T.F_law_take (ps := ["pot", "upto"]) (n := 2) (ks := []) (ix := [0, 1]) (fun _ _ _ _ _ _ us ws h1 h2 => match us, ws, h1, h2 with | [_, _], [], _, _ => rfl)) pass0 (pa_cons (pv 0) (pa_cons pe_int pa_nil)) pk_nil)) (pa_cons (pe_cg (ok_law_take T) (g.mono (by decide : 1 ≤ 2)) (by rfl) T.m_law_take T.F_law_take.kp (OB.Fun.bd T.F_law_take (ps := ["pot", "upto"]) (n := 2) (ks := []) (ix := [0, 1]) (fun _ _ _ _ _ _ us ws h1 h2 => match us, ws, h1, h2 with | [_, _], [], _, _ => rfl)) pass0 (pa_cons (pv 0) (pa_cons (pe_op op_powX pe_int pe_int) pa_nil)) pk_nil) (pa_cons pe_int pa_nil))))))))))
      (pss_cons (ps_set (i := 3) sc_law_stretch.nd rfl (by first | exact Or.inl rfl | exact Or.inr rfl) (pe_callTy c_int (by rfl) T.n_int (by decide +kernel) (pa_cons (pe_cg (ok_law_of T) (g.mono (by decide : 2 ≤ 2)) (by rfl) T.m_law_of T.F_law_of.kp (OB.Fun.bd T.F_law_of (ps := ["pot", "some"]) (n := 2) (ks := []) (ix := [0, 1]) (fun _ _ _ _ _ _ us ws h1 h2 => match us, ws, h1, h2 with | [_, _], [], _, _ => rfl)) pass0 (pa_cons (pv 0) (pa_cons (pv 2) pa_nil)) pk_nil) pa_nil)))
      (pss_cons (ps_set (i := 4) sc_law_stretch.nd rfl (by first | exact Or.inl rfl | exact Or.inr rfl) (pe_callTy c_int (by rfl) T.n_int (by decide +kernel) (pa_cons (pe_cg (ok_law_of T) (g.mono (by decide : 2 ≤ 2)) (by rfl) T.m_law_of T.F_law_of.kp (OB.Fun.bd T.F_law_of (ps := ["pot", "some"]) (n := 2) (ks := []) (ix := [0, 1]) (fun _ _ _ _ _ _ us ws h1 h2 => match us, ws, h1, h2 with | [_, _], [], _, _ => rfl)) pass0 (pa_cons (pv 0) (pa_cons (pe_lst (pa_cons pe_int (pa_cons (pe_op op_powX pe_int pe_int) (pa_cons pe_int (pa_cons pe_int (pa_cons (pe_cg (ok_law_take T) (g.mono (by decide : 1 ≤ 2)) (by rfl) T.m_law_take T.F_law_take.kp (OB.Fun.bd T.F_law_take (ps := ["pot", "upto"]) (n := 2) (ks := []) (ix := [0, 1]) (fun _ _ _ _ _ _ us ws h1 h2 => match us, ws, h1, h2 with | [_, _], [], _, _ => rfl)) pass0 (pa_cons (pv 0) (pa_cons (pe_op op_powX pe_int pe_int) pa_nil)) pk_nil) (pa_cons pe_int pa_nil))))))) pa_nil)) pk_nil) pa_nil)))
      (pss_one (ps_ret (pe_tup (pa_cons (pe_callTy c_int (by rfl) T.n_int (by decide +kernel) (pa_cons (pe_op op_add pe_int (pe_cg (ok_law_take T) (g.mono (by decide : 1 ≤ 2)) (by rfl) T.m_law_take T.F_law_take.kp (OB.Fun.bd T.F_law_take (ps := ["pot", "upto"]) (n := 2) (ks := []) (ix := [0, 1]) (fun _ _ _ _ _ _ us ws h1 h2 => match us, ws, h1, h2 with | [_, _], [], _, _ => rfl)) pass0 (pa_cons (pv 0) (pa_cons (pv 1) pa_nil)) pk_nil)) pa_nil)) (pa_cons (pv 3) (pa_cons (pv 4) (pa_cons (pe_callTy c_int (by rfl) T.n_int (by decide +kernel) (pa_cons (pe_cg (ok_law_of T) (g.mono (by decide : 2 ≤ 2)) (by rfl) T.m_law_of T.F_law_of.kp (OB.Fun.bd T.F_law_of (ps := ["pot", "some"]) (n := 2) (ks := []) (ix := [0, 1]) (fun _ _ _ _ _ _ us ws h1 h2 => match us, ws, h1, h2 with | [_, _], [], _, _ => rfl)) pass0 (pa_cons (pv 0) (pa_cons (pe_lst (pa_cons pe_int (pa_cons pe_int pa_nil))) pa_nil)) pk_nil) pa_nil)) pa_nil)))))))))), ?_⟩
  refine g_start (σ := [some _, some _, none, none, none]) rfl ?_
  repeat walk_at "ob"
  refine use_take S hF ok (by omega) (by omega) (by omega) fun r1 a1 b1 c1 H1 l1 u1 o1 S1 hF1 => ?_
  repeat walk_at "ob"
  refine use_take2 S1 hF o1 (by omega) (by decide) (by decide) fun r2 a2 b2 c2 H2 l2 u2 o2 S2 => ?_
  have e9 : (10 : Int) ^ Int.toNat 9 = 1000000000 := by decide
  have e12 : (10 : Int) ^ Int.toNat 12 = 1000000000000 := by decide
  have e6 : (10 : Int) ^ Int.toNat 6 = 1000000 := by decide
  rw [e9] at u2
  repeat walk_at "ob"
  rename_i q3 H3 _ S3
  refine use_of2 (ns := [0, -5, 10 ^ Int.toNat 12, -10 ^ Int.toNat 12, 1, 1 + r1, r2, 1000]) S3 rfl hF o2 (by omega) rfl rfl fun x4 hx4 a4 b4 c4 H4 o4 S4 => ?_
  rw [e12] at hx4
  simp only [List.mem_cons, List.not_mem_nil, or_false] at hx4
  clear S3 S2 S1
  repeat walk_at "ob"
  refine use_take2 S4 hF o4 (by omega) (by decide) (by decide) fun r5 a5 b5 c5 H5 l5 u5 o5 S5 => ?_
  rw [e6] at u5
  clear S4
  repeat walk_at "ob"
  rename_i q6 H6 _ S6
  refine use_of2 (ns := [0, 10 ^ Int.toNat 6, 1, 50000, r5, 30000]) S6 rfl hF o5 (by omega) rfl rfl fun x7 hx7 a7 b7 c7 H7 o7 S7 => ?_
  rw [e6] at hx7
  simp only [List.mem_cons, List.not_mem_nil, or_false] at hx7
  clear S6 S5
  repeat walk_at "ob"
  refine use_take2 S7 hF o7 (by omega) (by omega) (by omega) fun r8 a8 b8 c8 H8 l8 u8 o8 S8 => ?_
  clear S7
  repeat walk_at "ob"
  rename_i q9 H9 _ S9
  refine use_of2 (ns := [365, 366]) S9 rfl hF o8 (by omega) rfl rfl fun x10 hx10 a10 b10 c10 H10 o10 S10 => ?_
  simp only [List.mem_cons, List.not_mem_nil, or_false] at hx10
  clear S9 S8
  repeat walk_at "ob"
  rename_i q11 H11 _ S11
  exact (k ⟨1 + r8, x4, x7, x10⟩ q11 ⟨by show 1 ≤ 1 + r8; omega, by show 1 + r8 ≤ 100000; omega, by show _ ≤ x4; omega, by show x4 ≤ _; omega, by show 0 ≤ x7; omega, by show x7 ≤ _; omega, hx10⟩ (by show 1 + r8 ≤ m; omega)).use hF o10 S11
end
end LAW

set_option Elab.async false
set_option linter.all false
set_option maxRecDepth 100000
namespace LAW
open PySem PySem.Spec PyProof.Rows L2 PySem.W OB
local macro_rules | `(tactic| walk_at "obc") => `(tactic| first
  | exact Or.inl ⟨by omega, by omega⟩
  | exact Or.inr ⟨by omega, by omega⟩
  | exact cdiv_ok (by omega) (by omega)
  | (show (0 : Int) < _; omega)
  | exact ⟨by omega, by decide⟩
  | exact ⟨by decide, by decide⟩)
local macro_rules | `(tactic| walk_at "obat") => `(tactic| first
  | exact Sy.at (by assumption) 0 rfl | exact Sy.at (by assumption) 1 rfl | exact Sy.at (by assumption) 2 rfl | exact Sy.at (by assumption) 3 rfl
  | exact Sy.at (by assumption) 4 rfl | exact Sy.at (by assumption) 5 rfl | exact Sy.at (by assumption) 6 rfl | exact Sy.at (by assumption) _ (by assumption) | exact Sy.at (by assumption) (_ + 1) (by assumption) | exact Sy.at (by assumption) (_ + 2) (by assumption))
local macro_rules | `(tactic| walk_at "obt") => `(tactic| first
  | exact Sy.tqs (by assumption) 0 rfl | exact Sy.tqs (by assumption) 1 rfl | exact Sy.tqs (by assumption) 2 rfl | exact Sy.tqs (by assumption) 3 rfl | exact Sy.tqs (by assumption) 4 rfl | exact Sy.tqs (by assumption) 5 rfl
  | exact Sy.tqs (by assumption) 6 rfl | exact Sy.tqs (by assumption) 7 rfl | assumption)
local macro_rules | `(tactic| walk_at "obl") => `(tactic| first
  | exact SqL.of (by walk_at "obat")
  | exact Sy.sq (by assumption) 0 rfl | exact Sy.sq (by assumption) 1 rfl | exact Sy.sq (by assumption) 2 rfl | exact Sy.sq (by assumption) 3 rfl | exact Sy.sq (by assumption) _ (by assumption))
local macro_rules | `(tactic| walk_at "obd") => `(tactic| first
  | exact Dp.int _ | exact Dp.bl _ | exact Dp.str _ | exact Dp.non
  | exact Sy.dp (by assumption) 0 rfl | exact Sy.dp (by assumption) 1 rfl | exact Sy.dp (by assumption) 2 rfl | exact Sy.dp (by assumption) 3 rfl
  | exact Sy.dp (by assumption) 4 rfl | exact Sy.dp (by assumption) 5 rfl | exact Sy.dp (by assumption) 6 rfl | exact Sy.dp (by assumption) 7 rfl
  | exact Sy.dp (by assumption) 8 rfl | exact Sy.dp (by assumption) 9 rfl | exact Sy.dp (by assumption) _ (by assumption) | assumption)
local macro_rules | `(tactic| walk_at "obds") => `(tactic| first
  | exact DpAll.nil
  | (refine' DpAll.cons ?ob1 ?ob2; (case ob1 => walk_at "obd"); (case ob2 => walk_at "obds"))
  | exact Sy.dps (by assumption) 0 rfl | exact Sy.dps (by assumption) 1 rfl | exact Sy.dps (by assumption) 2 rfl | exact Sy.dps (by assumption) 3 rfl | assumption)
local macro_rules | `(tactic| walk_at "obsc") => `(tactic| first
  | exact ScL.nil
  | ((first | refine' ScL.int ?obz | refine' ScL.str ?obz | refine' ScL.bl ?obz | refine' ScL.non ?obz); (case obz => walk_at "obsc")))
local macro_rules | `(tactic| walk_at "ob1") => `(tactic| first
  | ((with_reducible refine' g_var ?obh ?_); (case obh => rfl))
  | with_reducible refine g_c ?_
  | with_reducible refine g_nx ?_
  | with_reducible refine g_rt ?_
  | with_reducible refine g_bk ?_
  | with_reducible refine g_ct ?_
  | with_reducible refine g_op ?_
  | with_reducible refine g_I0 ?_
  | with_reducible refine g_test ?_
  | with_reducible refine g_bl ?_
  | with_reducible refine g_blx ?_
  | with_reducible refine g_B ?_
  | with_reducible refine g_seq ?_
  | with_reducible refine g_asg ?_
  | with_reducible refine g_name ?_
  | with_reducible refine g_ifS ?_
  | with_reducible refine g_ret ?_
  | with_reducible refine g_cb ?_
  | with_reducible refine g_cons ?_
  | with_reducible refine g_nil ?_
  | with_reducible refine g_int ?_
  | with_reducible refine g_intB ?_
  | with_reducible refine g_abs ?_
  | with_reducible refine g_max ?_
  | with_reducible refine g_min ?_
  | with_reducible refine g_un ?_
  | with_reducible refine g_U ?_
  | with_reducible refine g_eqI ?_
  | with_reducible refine g_neI ?_
  | with_reducible refine g_eqS ?_
  | with_reducible refine g_neS ?_
  | with_reducible refine g_tt ?_
  | with_reducible refine g_ff ?_
  | with_reducible refine g_next ?_
  | with_reducible refine g_drop ?_
  | with_reducible refine g_if ?_
  | with_reducible refine g_andV ?_
  | with_reducible refine g_orV ?_
  | with_reducible refine g_notV ?_
  | with_reducible refine g_and ?_
  | with_reducible refine g_or ?_
  | with_reducible refine g_not ?_
  | with_reducible refine g_yes ?_
  | with_reducible refine g_chain ?_
  | with_reducible refine g_cg ?_
  | with_reducible refine g_mg ?_
  | with_reducible refine g_kg ?_
  | with_reducible refine g_pg ?_
  | ((with_reducible refine' g_call ?obh ?obj ?_); (case obh => rfl); (case obj => rfl))
  | with_reducible refine g_par ?_
  | with_reducible refine g_par2 ?_
  | with_reducible refine g_par3 ?_
  | with_reducible refine g_par33 ?_
  | with_reducible refine g_gnil ?_
  | with_reducible refine g_gcons ?_
  | with_reducible refine g_gsub ?_
  | with_reducible refine g_ipI ?_
  | with_reducible refine g_rAdd ?_
  | with_reducible refine g_rSub ?_
  | ((with_reducible refine' g_aug ?obh ?_); (case obh => rfl))
  | with_reducible refine g_tup ?_
  | with_reducible refine g_lst ?_
  | with_reducible refine g_bm ?_
  | with_reducible refine g_bm0 ?_
  | with_reducible refine g_sl ?_
  | with_reducible refine g_nopart ?_
  | with_reducible refine g_part ?_
  | with_reducible refine g_pint ?_
  | with_reducible refine isi_int ?_
  | with_reducible refine isi_intB ?_
  | ((with_reducible refine' g_I ?obh ?_); (case obh => walk_at "obc"))
  | ((with_reducible refine' g_tyl ?obh ?_); (case obh => walk_at "obl"))
  | ((with_reducible refine' g_lenL ?obh ?_); (case obh => walk_at "obl"))
  | with_reducible refine g_ne ?_
  | ((with_reducible refine' g_neN' ?obh ?_); (case obh => rfl))
  | with_reducible refine g_ntt ?_
  | with_reducible refine g_nff ?_
  | with_reducible refine g_star ?_
  | with_reducible refine g_att ?_
  | with_reducible refine g_sfld ?_
  | with_reducible refine g_faug ?_
  | with_reducible refine g_fld ?_
  | ((with_reducible refine' g_nF ?obh ?_); (case obh => omega))
  | ((with_reducible refine' g_nT ?obh ?_); (case obh => omega))
  | ((with_reducible refine' g_TD ?obh ?_); (case obh => omega))
  | ((with_reducible refine' g_FD ?obh ?_); (case obh => omega))
  | ((with_reducible refine' g_ixUL ?obh ?obi ?_); (case obh => walk_at "obl"); (case obi => exact atI_nn (by omega) (by rfl)))
  | ((with_reducible refine' g_setLS ?obs ?obh ?obi ?_); (case obs => assumption); (case obh => assumption); (case obi => rfl); intro _ _ _)
  | ((with_reducible refine' g_newT ?obs ?obh ?obi ?obj ?_); (case obs => assumption); (case obh => walk_at "obds"); (case obi => rfl); (case obj => exact Nat.le_of_ble_eq_true rfl); intro _ _ _ _)
  | ((with_reducible refine' g_newL ?obs ?obj ?_); (case obs => assumption); (case obj => exact Nat.le_of_ble_eq_true rfl); intro _ _ _ _)
  | ((with_reducible refine' isi_tup ?obh ?_); (case obh => walk_at "obt"))
  | ((with_reducible refine' g_lenT ?obh ?_); (case obh => walk_at "obt"))
  | ((with_reducible refine' g_unpT ?obh ?obi ?_); (case obh => walk_at "obt"); (case obi => rfl))
  | ((with_reducible refine' g_divmod ?obs ?obh ?_); (case obs => assumption); (case obh => exact cdivp_ok (by omega) (by omega) (by omega)); intro _ _ _ _)
  | ((with_reducible refine' g_unpD ?obh ?obi ?obj ?_); (case obh => walk_at "obd"); (case obi => walk_at "obsc"); (case obj => rfl))
  | with_reducible refine g_att ?_)
local macro_rules | `(tactic| walk_at "obat19") => `(tactic| first | assumption | walk_at "obat")
local macro_rules | `(tactic| walk_at "ob") => `(tactic| first
  | walk_at "ob1"
  | refine use_is_integer ?_
  | refine use_is_within ?_
  | refine use_balance ?_
  | refine use_rate ?_
  | refine use_year (by assumption) ?_
  | refine use_unit ?_
  | refine use_rest (by omega) (by omega) ?_
  | refine use_parts (by walk_at "obd") (by assumption) ?_
  | refine use_is_stretch (by walk_at "obd") (by assumption) ?_
  | refine g_unpT (sqt_enc (by walk_at "obd")) rfl ?_
  | ((with_reducible refine' g_fldS ?obh ?obc ?obn ?obe ?_); (case obh => walk_at "obat19"); (case obc => exact AccC.c (by assumption)); (case obn => first | exact AccC.n1 (by assumption) | exact AccC.n2 (by assumption) | exact AccC.n3 (by assumption)); (case obe => rfl))
  | ((with_reducible refine' g_attS ?obs ?obh ?obc ?obn ?obl ?_); (case obs => assumption); (case obh => assumption); (case obc => exact AccC.c (by assumption)); (case obn => first | exact AccC.n1 (by assumption) | exact AccC.n2 (by assumption) | exact AccC.n3 (by assumption)); (case obl => exact Nat.le_of_ble_eq_true rfl); intro _ _ _)
  | ((with_reducible refine' g_augS ?obh ?obc ?obn ?obe ?_); (case obh => walk_at "obat19"); (case obc => exact AccC.c (by assumption)); (case obn => first | exact AccC.n1 (by assumption) | exact AccC.n2 (by assumption) | exact AccC.n3 (by assumption)); (case obe => rfl))
  | ((with_reducible refine' g_augE ?obs ?obh ?obl ?_); (case obs => assumption); (case obh => assumption); (case obl => exact Nat.le_of_ble_eq_true rfl); intro _ _ _)
  | ((with_reducible refine' g_ixUT ?obh ?obi ?_); (case obh => first | exact sqt_enc (by walk_at "obd") | walk_at "obt"); (case obi => rfl)))
section
variable {P : Program} {w : World} {K : Frag} {mg : Str → Option Value} {base : Heap}
def DrawnIn (m : Int) (ss : List Str4) : Prop := ∀ s ∈ ss, Ok4 s ∧ s.d ≤ m
def sp_law_stretches (K : Frag) : Sp := fun vs H Q E => vs.length = 3 ∧ ∃ (F : List (Addr × HO)) (G : List Ft) (i : Nat) (p : Addr) (n : Nat) (t m a b c : Int), vs = [.ref p, .int t, .int m] ∧ Sy K F G H ∧ F[i]? = some (p, potO a b c) ∧ PotOk n a b c ∧ n < 100000 ∧ 0 ≤ t ∧ t ≤ 1000 ∧ 0 < m ∧ m ≤ 100000 ∧
  ∀ (ss : List Str4) (q : Addr), (ss.length : Int) ≤ t → DrawnIn m ss → PotK K F (.dat [.ref q] [encs ss] :: G) i p (n + 1 + 7 * ss.length) (Q (.ref q))
/-- parts of stretches in a tuple or in a list -/
def sp_law_parts_in (K : Frag) : Sp := fun vs H Q E => vs.length = 1 ∧ ∃ (F : List (Addr × HO)) (G : List Ft) (b : Bool) (p : Addr) (xs : List V) (ss : List Str4), vs = [.ref p] ∧ Sy K F (.dat xs (ss.map enc) :: G) H ∧ (∀ H', Sy K F (.dat xs (ss.map enc) :: G) H' → SqK K H' b p xs) ∧ (∀ s ∈ ss, Ok4 s) ∧ ss.length ≤ 1000 ∧
  ∀ H', Sy K F (.dat xs (ss.map enc) :: G) H' → Q (.int (sumP ss)) H'
/-- each day a stretch of its own -/
def singles (ss : List Str4) : List Str4 := ss.flatMap fun s => List.replicate s.d.toNat { s with d := 1 }
theorem singles_parts (ss : List Str4) : (singles ss).map parts = flat ss := by
  unfold singles flat
  rw [List.map_flatMap]
  congr 1
  funext s
  rw [List.map_replicate, dayP_eq]
theorem singles_length (ss : List Str4) : (singles ss).length = (flat ss).length := by rw [← singles_parts, List.length_map]
theorem singles_take {ss : List Str4} {i : Nat} {s : Str4} (h : ss[i]? = some s) : singles (ss.take (i + 1)) = singles (ss.take i) ++ List.replicate s.d.toNat { s with d := 1 } := by
  rw [List.take_add_one, h]
  unfold singles
  rw [List.flatMap_append]
  simp
theorem singles_le (ss : List Str4) (i : Nat) : (singles (ss.take i)).length ≤ (singles ss).length := by
  conv => rhs; rw [← List.take_append_drop i ss]
  unfold singles
  rw [List.flatMap_append, List.length_append]
  omega
theorem singles_ok {ss : List Str4} (ok : ∀ s ∈ ss, Ok4 s) : ∀ s ∈ singles ss, Ok4 s := by
  intro s hs
  obtain ⟨t, ht, h⟩ := List.mem_flatMap.mp hs
  obtain ⟨_, rfl⟩ := List.mem_replicate.mp h
  exact (ok t ht).one
def sp_law_days_of (K : Frag) : Sp := fun vs H Q E => vs.length = 1 ∧ ∃ (F : List (Addr × HO)) (G : List Ft) (p : Addr) (ss : List Str4), vs = [.ref p] ∧ Sy K F G H ∧ Dp K H (.ref p) (encs ss) ∧ (∀ s ∈ ss, Ok4 s) ∧ (flat ss).length ≤ 20000 ∧
  ∀ q H', Sy K F (.dat [.ref q] [encs (singles ss)] :: G) H' → Q (.ref q) H'
theorem use_parts_in {F : List (Addr × HO)} {G : List Ft} {H : Hp} {Q : VK} {E : XK} {p : Addr} {ss : List Str4} (S : Sy K F G H) (hd : Dp K H (.ref p) (encs ss)) (ok : ∀ s ∈ ss, Ok4 s) (hn : ss.length ≤ 1000)
    (k : ∀ H', Sy K F G H' → Q (.int (sumP ss)) H') : sp_law_parts_in K [.ref p] H Q E := by
  obtain ⟨a, xs, e, S0⟩ := S.opn hd (enc_imm ss)
  cases e
  have S1 := (S0.add (.tq p xs) (S0.tqs 0 rfl)).drop2
  have S2 : Sy K F (.dat xs (ss.map enc) :: .tq p xs :: G) H := (S0.fact (S0.dps 1 rfl) (enc_imm ss)).drop3
  exact ⟨rfl, F, .tq p xs :: G, false, p, xs, ss, rfl, S2, fun H' S' => S'.tqs 1 rfl, ok, hn, fun H' S' => k H' S'.drop.drop⟩
/-! ### days cut at drawn places -/
/-- other stretches of the same days -/
def Same (t ss : List Str4) : Prop := (∀ s ∈ t, Ok4 s) ∧ flat t = flat ss ∧ t.length ≤ 2 * ss.length
theorem flat_app (a b : List Str4) : flat (a ++ b) = flat a ++ flat b := List.flatMap_append ..
theorem flat_one (s : Str4) : flat [s] = List.replicate s.d.toNat (dayP s) := by
  unfold flat
  simp
theorem cut_one {s : Str4} (o : Ok4 s) {f : Int} (h0 : 0 ≤ f) (h1 : f < s.d) : Same (([{ s with d := f }, { s with d := s.d - f }] : List Str4).filter fun x => decide (x.d > 0)) [s] := by
  have k : Ok4 { s with d := s.d - f } := ⟨by show 1 ≤ s.d - f; omega, by have := o.d1; show s.d - f ≤ 100000; omega, o.b0, o.b1, o.r0, o.r1, o.y0⟩
  by_cases hf : f > 0
  · have e : (([{ s with d := f }, { s with d := s.d - f }] : List Str4).filter fun x => decide (x.d > 0)) = [{ s with d := f }, { s with d := s.d - f }] := by
      simp [List.filter, hf, h1]
    rw [e]
    refine ⟨fun x hx => ?_, ?_, Nat.le_of_ble_eq_true rfl⟩
    · rcases List.mem_cons.mp hx with rfl | hx
      · exact ⟨hf, by have := o.d1; show f ≤ 100000; omega, o.b0, o.b1, o.r0, o.r1, o.y0⟩
      · cases List.mem_singleton.mp hx
        exact k
    · show flat ([{ s with d := f }] ++ [{ s with d := s.d - f }]) = _
      rw [flat_app, flat_one, flat_one, flat_one]
      show List.replicate f.toNat (dayP s) ++ List.replicate (s.d - f).toNat (dayP s) = _
      rw [List.replicate_append_replicate]
      congr 1
      omega
  · have hz : f = 0 := by omega
    subst hz
    have e : (([{ s with d := 0 }, { s with d := s.d - 0 }] : List Str4).filter fun x => decide (x.d > 0)) = [{ s with d := s.d - 0 }] := by
      simp [List.filter, h1]
    rw [e]
    refine ⟨fun x hx => ?_, ?_, Nat.le_of_ble_eq_true rfl⟩
    · cases List.mem_singleton.mp hx
      exact k
    · rw [flat_one, flat_one]
      show List.replicate (s.d - 0).toNat (dayP s) = _
      rw [Int.sub_zero]
theorem set_self {F : List (Addr × HO)} {i : Nat} {x : Addr × HO} (h : F[i]? = some x) : F.set i x = F := by
  obtain ⟨hi, e⟩ := List.getElem?_eq_some_iff.mp h
  rw [← e, List.set_getElem_self]
theorem pot_under {F : List (Addr × HO)} {G : List Ft} {H : Hp} {i : Nat} {x y z : Addr × HO} (S : Sy K ((x :: F.set i y).set (i + 1) z) G H) : Sy K (x :: F.set i z) G H := by
  have S5 : Sy K (x :: (F.set i y).set i z) G H := S
  rw [List.set_set] at S5
  exact S5
theorem Same.app {t ss u vv : List Str4} (h : Same t ss) (k : Same u vv) : Same (t ++ u) (ss ++ vv) := by
  refine ⟨fun x hx => ?_, ?_, ?_⟩
  · rcases List.mem_append.mp hx with hx | hx
    · exact h.1 x hx
    · exact k.1 x hx
  · rw [flat_app, flat_app, h.2.1, k.2.1]
  · have := h.2.2
    have := k.2.2
    rw [List.length_append, List.length_append]
    omega
def sp_law_cut_up (K : Frag) : Sp := fun vs H Q E => vs.length = 2 ∧ ∃ (F : List (Addr × HO)) (G : List Ft) (i : Nat) (p q : Addr) (n : Nat) (a b c : Int) (ss : List Str4), vs = [.ref p, .ref q] ∧ Sy K F G H ∧ F[i]? = some (p, potO a b c) ∧ PotOk n a b c ∧ n < 100000 ∧ Dp K H (.ref q) (encs ss) ∧ (∀ s ∈ ss, Ok4 s) ∧ ss.length ≤ 1000 ∧
  ∀ (t : List Str4) (r : Addr), Same t ss → PotK K F (.dat [.ref r] [encs t] :: G) i p (n + ss.length) (Q (.ref r))
/-! ### rows of stretches, as a list -/
def sp_law_paid_rows (K : Frag) : Sp := fun vs H Q E => vs.length = 2 ∧ ∃ (F : List (Addr × HO)) (G : List Ft) (p : Addr) (r : Int) (ss : List Str4), vs = [.ref p, .int r] ∧ Sy K F G H ∧ Dp K H (.ref p) (encs ss) ∧ (∀ s ∈ ss, Ok4 s) ∧ ss.length ≤ 20000 ∧ 0 ≤ r ∧ r ≤ 133589999999 ∧
  ∀ (q : Addr) (xs : List V) H', Sy K ((q, .lst xs) :: F) (.dat xs (rowsD (ss.map parts) r) :: G) H' → Q (.ref q) H'
end
end LAW

set_option Elab.async false
set_option linter.all false
set_option maxRecDepth 100000
namespace LAW
open PySem PySem.Spec PyProof.Rows L2 PySem.W OB
local macro_rules | `(tactic| walk_at "obc") => `(tactic| first
  | exact Or.inl ⟨by omega, by omega⟩
  | exact Or.inr ⟨by omega, by omega⟩
  | exact cdiv_ok (by omega) (by omega)
  | (show (0 : Int) < _; omega)
  | exact ⟨by omega, by decide⟩
  | exact ⟨by decide, by decide⟩)
local macro_rules | `(tactic| walk_at "obat") => `(tactic| first
  | exact Sy.at (by assumption) 0 rfl | exact Sy.at (by assumption) 1 rfl | exact Sy.at (by assumption) 2 rfl | exact Sy.at (by assumption) 3 rfl
  | exact Sy.at (by assumption) 4 rfl | exact Sy.at (by assumption) 5 rfl | exact Sy.at (by assumption) 6 rfl | exact Sy.at (by assumption) _ (by assumption) | exact Sy.at (by assumption) (_ + 1) (by assumption) | exact Sy.at (by assumption) (_ + 2) (by assumption))
local macro_rules | `(tactic| walk_at "obt") => `(tactic| first
  | exact Sy.tqs (by assumption) 0 rfl | exact Sy.tqs (by assumption) 1 rfl | exact Sy.tqs (by assumption) 2 rfl | exact Sy.tqs (by assumption) 3 rfl | exact Sy.tqs (by assumption) 4 rfl | exact Sy.tqs (by assumption) 5 rfl
  | exact Sy.tqs (by assumption) 6 rfl | exact Sy.tqs (by assumption) 7 rfl | assumption)
local macro_rules | `(tactic| walk_at "obl") => `(tactic| first
  | exact SqL.of (by walk_at "obat")
  | exact Sy.sq (by assumption) 0 rfl | exact Sy.sq (by assumption) 1 rfl | exact Sy.sq (by assumption) 2 rfl | exact Sy.sq (by assumption) 3 rfl | exact Sy.sq (by assumption) _ (by assumption))
local macro_rules | `(tactic| walk_at "obd") => `(tactic| first
  | exact Dp.int _ | exact Dp.bl _ | exact Dp.str _ | exact Dp.non
  | exact Sy.dp (by assumption) 0 rfl | exact Sy.dp (by assumption) 1 rfl | exact Sy.dp (by assumption) 2 rfl | exact Sy.dp (by assumption) 3 rfl
  | exact Sy.dp (by assumption) 4 rfl | exact Sy.dp (by assumption) 5 rfl | exact Sy.dp (by assumption) 6 rfl | exact Sy.dp (by assumption) 7 rfl
  | exact Sy.dp (by assumption) 8 rfl | exact Sy.dp (by assumption) 9 rfl | exact Sy.dp (by assumption) _ (by assumption) | assumption)
local macro_rules | `(tactic| walk_at "obds") => `(tactic| first
  | exact DpAll.nil
  | (refine' DpAll.cons ?ob1 ?ob2; (case ob1 => walk_at "obd"); (case ob2 => walk_at "obds"))
  | exact Sy.dps (by assumption) 0 rfl | exact Sy.dps (by assumption) 1 rfl | exact Sy.dps (by assumption) 2 rfl | exact Sy.dps (by assumption) 3 rfl | assumption)
local macro_rules | `(tactic| walk_at "obsc") => `(tactic| first
  | exact ScL.nil
  | ((first | refine' ScL.int ?obz | refine' ScL.str ?obz | refine' ScL.bl ?obz | refine' ScL.non ?obz); (case obz => walk_at "obsc")))
local macro_rules | `(tactic| walk_at "ob1") => `(tactic| first
  | ((with_reducible refine' g_var ?obh ?_); (case obh => rfl))
  | with_reducible refine g_c ?_
  | with_reducible refine g_nx ?_
  | with_reducible refine g_rt ?_
  | with_reducible refine g_bk ?_
  | with_reducible refine g_ct ?_
  | with_reducible refine g_op ?_
  | with_reducible refine g_I0 ?_
  | with_reducible refine g_test ?_
  | with_reducible refine g_bl ?_
  | with_reducible refine g_blx ?_
  | with_reducible refine g_B ?_
  | with_reducible refine g_seq ?_
  | with_reducible refine g_asg ?_
  | with_reducible refine g_name ?_
  | with_reducible refine g_ifS ?_
  | with_reducible refine g_ret ?_
  | with_reducible refine g_cb ?_
  | with_reducible refine g_cons ?_
  | with_reducible refine g_nil ?_
  | with_reducible refine g_int ?_
  | with_reducible refine g_intB ?_
  | with_reducible refine g_abs ?_
  | with_reducible refine g_max ?_
  | with_reducible refine g_min ?_
  | with_reducible refine g_un ?_
  | with_reducible refine g_U ?_
  | with_reducible refine g_eqI ?_
  | with_reducible refine g_neI ?_
  | with_reducible refine g_eqS ?_
  | with_reducible refine g_neS ?_
  | with_reducible refine g_tt ?_
  | with_reducible refine g_ff ?_
  | with_reducible refine g_next ?_
  | with_reducible refine g_drop ?_
  | with_reducible refine g_if ?_
  | with_reducible refine g_andV ?_
  | with_reducible refine g_orV ?_
  | with_reducible refine g_notV ?_
  | with_reducible refine g_and ?_
  | with_reducible refine g_or ?_
  | with_reducible refine g_not ?_
  | with_reducible refine g_yes ?_
  | with_reducible refine g_chain ?_
  | with_reducible refine g_cg ?_
  | with_reducible refine g_mg ?_
  | with_reducible refine g_kg ?_
  | with_reducible refine g_pg ?_
  | ((with_reducible refine' g_call ?obh ?obj ?_); (case obh => rfl); (case obj => rfl))
  | with_reducible refine g_par ?_
  | with_reducible refine g_par2 ?_
  | with_reducible refine g_par3 ?_
  | with_reducible refine g_par33 ?_
  | with_reducible refine g_gnil ?_
  | with_reducible refine g_gcons ?_
  | with_reducible refine g_gsub ?_
  | with_reducible refine g_ipI ?_
  | with_reducible refine g_rAdd ?_
  | with_reducible refine g_rSub ?_
  | ((with_reducible refine' g_aug ?obh ?_); (case obh => rfl))
  | with_reducible refine g_tup ?_
  | with_reducible refine g_lst ?_
  | with_reducible refine g_bm ?_
  | with_reducible refine g_bm0 ?_
  | with_reducible refine g_sl ?_
  | with_reducible refine g_nopart ?_
  | with_reducible refine g_part ?_
  | with_reducible refine g_pint ?_
  | with_reducible refine isi_int ?_
  | with_reducible refine isi_intB ?_
  | ((with_reducible refine' g_I ?obh ?_); (case obh => walk_at "obc"))
  | ((with_reducible refine' g_tyl ?obh ?_); (case obh => walk_at "obl"))
  | ((with_reducible refine' g_lenL ?obh ?_); (case obh => walk_at "obl"))
  | with_reducible refine g_ne ?_
  | ((with_reducible refine' g_neN' ?obh ?_); (case obh => rfl))
  | with_reducible refine g_ntt ?_
  | with_reducible refine g_nff ?_
  | with_reducible refine g_star ?_
  | with_reducible refine g_att ?_
  | with_reducible refine g_sfld ?_
  | with_reducible refine g_faug ?_
  | with_reducible refine g_fld ?_
  | ((with_reducible refine' g_nF ?obh ?_); (case obh => omega))
  | ((with_reducible refine' g_nT ?obh ?_); (case obh => omega))
  | ((with_reducible refine' g_TD ?obh ?_); (case obh => omega))
  | ((with_reducible refine' g_FD ?obh ?_); (case obh => omega))
  | ((with_reducible refine' g_ixUL ?obh ?obi ?_); (case obh => walk_at "obl"); (case obi => exact atI_nn (by omega) (by rfl)))
  | ((with_reducible refine' g_setLS ?obs ?obh ?obi ?_); (case obs => assumption); (case obh => assumption); (case obi => rfl); intro _ _ _)
  | ((with_reducible refine' g_newT ?obs ?obh ?obi ?obj ?_); (case obs => assumption); (case obh => walk_at "obds"); (case obi => rfl); (case obj => exact Nat.le_of_ble_eq_true rfl); intro _ _ _ _)
  | ((with_reducible refine' g_newL ?obs ?obj ?_); (case obs => assumption); (case obj => exact Nat.le_of_ble_eq_true rfl); intro _ _ _ _)
  | ((with_reducible refine' isi_tup ?obh ?_); (case obh => walk_at "obt"))
  | ((with_reducible refine' g_lenT ?obh ?_); (case obh => walk_at "obt"))
  | ((with_reducible refine' g_unpT ?obh ?obi ?_); (case obh => walk_at "obt"); (case obi => rfl))
  | ((with_reducible refine' g_divmod ?obs ?obh ?_); (case obs => assumption); (case obh => exact cdivp_ok (by omega) (by omega) (by omega)); intro _ _ _ _)
  | ((with_reducible refine' g_unpD ?obh ?obi ?obj ?_); (case obh => walk_at "obd"); (case obi => walk_at "obsc"); (case obj => rfl))
  | with_reducible refine g_att ?_)
section
variable {P : Program} {w : World} {K : Frag} {mg : Str → Option Value} {base : Heap}
theorem Sy.make {F : List (Addr × HO)} {G : List Ft} {H : Hp} {x dx : Addr} {o o' : HO} (S : Sy K F G H) (h1 : H x = none) (h2 : H dx = none) (hne : dx ≠ x) : Sy K ((x, o) :: F) G (upd (upd H dx o') x o) :=
  (S.over h2).push (by rw [L2.upd_ne (Ne.symm hne)]; exact h1)
theorem sumP_le : ∀ {ss : List Str4}, (∀ s ∈ ss, Ok4 s) → sumP ss ≤ 36600000000000000000000000 * ss.length
  | [], _ => Int.le_refl _
  | s :: ss, h => by
    have e := sumP_le (ss := ss) fun x hx => h x (List.mem_cons_of_mem _ hx)
    have q := parts_le (h s (List.mem_cons_self ..))
    unfold sumP at e ⊢
    rw [List.map_cons, List.sum_cons, List.length_cons]
    omega
theorem sumP_take {ss : List Str4} {i : Nat} {s : Str4} (h : ss[i]? = some s) : sumP (ss.take (i + 1)) = sumP (ss.take i) + parts s := by
  rw [List.take_add_one, h]
  unfold sumP
  rw [List.map_append, List.sum_append]
  simp
theorem use_prest {H : Hp} {Q : VK} {E : XK} {p C dx : Addr} {r d e : Int} (h : H p = some (accO C dx r d e)) (A : AccC K C) (k : Q (.int r) H) : ∃ a dx fs, V.ref p = .ref a ∧ H a = some (.ins C dx fs) ∧ sp_Accrual_rest K [.ref a] H Q E :=
  ⟨p, dx, _, rfl, h, rfl, p, C, dx, r, d, e, rfl, h, A, k⟩
theorem use_ppaid {H : Hp} {Q : VK} {E : XK} {p C dx : Addr} {r d e : Int} (h : H p = some (accO C dx r d e)) (A : AccC K C) (k : Q (.int d) H) : ∃ a dx fs, V.ref p = .ref a ∧ H a = some (.ins C dx fs) ∧ sp_Accrual_paid K [.ref a] H Q E :=
  ⟨p, dx, _, rfl, h, rfl, p, C, dx, r, d, e, rfl, h, A, k⟩
theorem use_pdays {H : Hp} {Q : VK} {E : XK} {p C dx : Addr} {r d e : Int} (h : H p = some (accO C dx r d e)) (A : AccC K C) (k : Q (.int e) H) : ∃ a dx fs, V.ref p = .ref a ∧ H a = some (.ins C dx fs) ∧ sp_Accrual_days K [.ref a] H Q E :=
  ⟨p, dx, _, rfl, h, rfl, p, C, dx, r, d, e, rfl, h, A, k⟩
theorem small3 {a b c : Int} (ha : a.natAbs < 10 ^ 60) (hb : b.natAbs < 10 ^ 60) (hc : c.natAbs < 10 ^ 60) : Small 1000 1 (.tuple [.int a, .int b, .int c]) :=
  (Small.tup ((SmallL.cons (Small.int ha) (SmallL.cons (Small.int hb) (SmallL.cons (Small.int hc) SmallL.nil))))).mono (by decide) (by decide)
theorem use_paid_rows {F : List (Addr × HO)} {G : List Ft} {H : Hp} {Q : VK} {E : XK} {p : Addr} {r : Int} {ss : List Str4} (S : Sy K F G H) (hd : Dp K H (.ref p) (encs ss)) (ok : ∀ s ∈ ss, Ok4 s) (hl : ss.length ≤ 20000) (r0 : 0 ≤ r) (r1 : r ≤ 133589999999)
    (k : ∀ (q : Addr) (xs : List V) H', Sy K ((q, .lst xs) :: F) (.dat xs (rowsD (ss.map parts) r) :: G) H' → Q (.ref q) H') : sp_law_paid_rows K [.ref p, .int r] H Q E := ⟨rfl, F, G, p, r, ss, rfl, S, hd, ok, hl, r0, r1, k⟩
local macro_rules | `(tactic| walk_at "obat19") => `(tactic| first | assumption | walk_at "obat")
local macro_rules | `(tactic| walk_at "ob") => `(tactic| first
  | walk_at "ob1"
  | refine use_is_integer ?_
  | refine use_is_within ?_
  | refine use_balance ?_
  | refine use_rate ?_
  | refine use_year (by assumption) ?_
  | refine use_unit ?_
  | refine use_rest (by omega) (by omega) ?_
  | refine use_parts (by walk_at "obd") (by assumption) ?_
  | refine use_is_stretch (by walk_at "obd") (by assumption) ?_
  | refine g_unpT (sqt_enc (by walk_at "obd")) rfl ?_
  | ((with_reducible refine' g_fldS ?obh ?obc ?obn ?obe ?_); (case obh => walk_at "obat19"); (case obc => exact AccC.c (by assumption)); (case obn => first | exact AccC.n1 (by assumption) | exact AccC.n2 (by assumption) | exact AccC.n3 (by assumption)); (case obe => rfl))
  | ((with_reducible refine' g_attS ?obs ?obh ?obc ?obn ?obl ?_); (case obs => assumption); (case obh => assumption); (case obc => exact AccC.c (by assumption)); (case obn => first | exact AccC.n1 (by assumption) | exact AccC.n2 (by assumption) | exact AccC.n3 (by assumption)); (case obl => exact Nat.le_of_ble_eq_true rfl); intro _ _ _)
  | ((with_reducible refine' g_augS ?obh ?obc ?obn ?obe ?_); (case obh => walk_at "obat19"); (case obc => exact AccC.c (by assumption)); (case obn => first | exact AccC.n1 (by assumption) | exact AccC.n2 (by assumption) | exact AccC.n3 (by assumption)); (case obe => rfl))
  | ((with_reducible refine' g_augE ?obs ?obh ?obl ?_); (case obs => assumption); (case obh => assumption); (case obl => exact Nat.le_of_ble_eq_true rfl); intro _ _ _)
  | ((with_reducible refine' g_ixUT ?obh ?obi ?_); (case obh => first | exact sqt_enc (by walk_at "obd") | walk_at "obt"); (case obi => rfl))
  | refine use_prest (by walk_at "obat19") (by assumption) ?_
  | refine use_ppaid (by walk_at "obat19") (by assumption) ?_
  | refine use_pdays (by walk_at "obat19") (by assumption) ?_)
theorem rows_get : ∀ {ps : List Int} {j : Nat} {q : Int} (r : Int), ps[j]? = some q → (rows ps r)[j]? = some ((endR (ps.take j) r + q) / 133590000000, (endR (ps.take j) r + q) % 133590000000)
  | [], _, _, _, h => nomatch h
  | p :: ps, 0, q, r, h => by
    cases (show some p = some q from h)
    rfl
  | p :: ps, j + 1, q, r, h => by
    show (rows ps _)[j]? = _
    rw [rows_get _ (show ps[j]? = some q from h)]
    rfl
def sp_law_is_accrual_right (K : Frag) : Sp := fun vs H Q E => vs.length = 2 ∧ ∃ (F : List (Addr × HO)) (G : List Ft) (p : Addr) (r : Int) (ss : List Str4), vs = [.ref p, .int r] ∧ Sy K F G H ∧ Dp K H (.ref p) (encs ss) ∧ (∀ s ∈ ss, Ok4 s) ∧ ss.length ≤ 1000 ∧ 0 ≤ r ∧ r ≤ 133589999999 ∧
  ∀ H', Sy K F G H' → Q (.bl true) H'
end
end LAW

set_option Elab.async false
set_option linter.all false
set_option maxRecDepth 100000
namespace LAW
open PySem PySem.Spec PyProof.Rows L2 PySem.W OB
local macro_rules | `(tactic| walk_at "obc") => `(tactic| first
  | exact Or.inl ⟨by omega, by omega⟩
  | exact Or.inr ⟨by omega, by omega⟩
  | exact cdiv_ok (by omega) (by omega)
  | (show (0 : Int) < _; omega)
  | exact ⟨by omega, by decide⟩
  | exact ⟨by decide, by decide⟩)
local macro_rules | `(tactic| walk_at "obat") => `(tactic| first
  | exact Sy.at (by assumption) 0 rfl | exact Sy.at (by assumption) 1 rfl | exact Sy.at (by assumption) 2 rfl | exact Sy.at (by assumption) 3 rfl
  | exact Sy.at (by assumption) 4 rfl | exact Sy.at (by assumption) 5 rfl | exact Sy.at (by assumption) 6 rfl | exact Sy.at (by assumption) _ (by assumption) | exact Sy.at (by assumption) (_ + 1) (by assumption) | exact Sy.at (by assumption) (_ + 2) (by assumption))
local macro_rules | `(tactic| walk_at "obt") => `(tactic| first
  | exact Sy.tqs (by assumption) 0 rfl | exact Sy.tqs (by assumption) 1 rfl | exact Sy.tqs (by assumption) 2 rfl | exact Sy.tqs (by assumption) 3 rfl | exact Sy.tqs (by assumption) 4 rfl | exact Sy.tqs (by assumption) 5 rfl
  | exact Sy.tqs (by assumption) 6 rfl | exact Sy.tqs (by assumption) 7 rfl | assumption)
local macro_rules | `(tactic| walk_at "obl") => `(tactic| first
  | exact SqL.of (by walk_at "obat")
  | exact Sy.sq (by assumption) 0 rfl | exact Sy.sq (by assumption) 1 rfl | exact Sy.sq (by assumption) 2 rfl | exact Sy.sq (by assumption) 3 rfl | exact Sy.sq (by assumption) _ (by assumption))
local macro_rules | `(tactic| walk_at "obd") => `(tactic| first
  | exact Dp.int _ | exact Dp.bl _ | exact Dp.str _ | exact Dp.non
  | exact Sy.dp (by assumption) 0 rfl | exact Sy.dp (by assumption) 1 rfl | exact Sy.dp (by assumption) 2 rfl | exact Sy.dp (by assumption) 3 rfl
  | exact Sy.dp (by assumption) 4 rfl | exact Sy.dp (by assumption) 5 rfl | exact Sy.dp (by assumption) 6 rfl | exact Sy.dp (by assumption) 7 rfl
  | exact Sy.dp (by assumption) 8 rfl | exact Sy.dp (by assumption) 9 rfl | exact Sy.dp (by assumption) _ (by assumption) | assumption)
local macro_rules | `(tactic| walk_at "obds") => `(tactic| first
  | exact DpAll.nil
  | (refine' DpAll.cons ?ob1 ?ob2; (case ob1 => walk_at "obd"); (case ob2 => walk_at "obds"))
  | exact Sy.dps (by assumption) 0 rfl | exact Sy.dps (by assumption) 1 rfl | exact Sy.dps (by assumption) 2 rfl | exact Sy.dps (by assumption) 3 rfl | assumption)
local macro_rules | `(tactic| walk_at "obsc") => `(tactic| first
  | exact ScL.nil
  | ((first | refine' ScL.int ?obz | refine' ScL.str ?obz | refine' ScL.bl ?obz | refine' ScL.non ?obz); (case obz => walk_at "obsc")))
local macro_rules | `(tactic| walk_at "ob1") => `(tactic| first
  | ((with_reducible refine' g_var ?obh ?_); (case obh => rfl))
  | with_reducible refine g_c ?_
  | with_reducible refine g_nx ?_
  | with_reducible refine g_rt ?_
  | with_reducible refine g_bk ?_
  | with_reducible refine g_ct ?_
  | with_reducible refine g_op ?_
  | with_reducible refine g_I0 ?_
  | with_reducible refine g_test ?_
  | with_reducible refine g_bl ?_
  | with_reducible refine g_blx ?_
  | with_reducible refine g_B ?_
  | with_reducible refine g_seq ?_
  | with_reducible refine g_asg ?_
  | with_reducible refine g_name ?_
  | with_reducible refine g_ifS ?_
  | with_reducible refine g_ret ?_
  | with_reducible refine g_cb ?_
  | with_reducible refine g_cons ?_
  | with_reducible refine g_nil ?_
  | with_reducible refine g_int ?_
  | with_reducible refine g_intB ?_
  | with_reducible refine g_abs ?_
  | with_reducible refine g_max ?_
  | with_reducible refine g_min ?_
  | with_reducible refine g_un ?_
  | with_reducible refine g_U ?_
  | with_reducible refine g_eqI ?_
  | with_reducible refine g_neI ?_
  | with_reducible refine g_eqS ?_
  | with_reducible refine g_neS ?_
  | with_reducible refine g_tt ?_
  | with_reducible refine g_ff ?_
  | with_reducible refine g_next ?_
  | with_reducible refine g_drop ?_
  | with_reducible refine g_if ?_
  | with_reducible refine g_andV ?_
  | with_reducible refine g_orV ?_
  | with_reducible refine g_notV ?_
  | with_reducible refine g_and ?_
  | with_reducible refine g_or ?_
  | with_reducible refine g_not ?_
  | with_reducible refine g_yes ?_
  | with_reducible refine g_chain ?_
  | with_reducible refine g_cg ?_
  | with_reducible refine g_mg ?_
  | with_reducible refine g_kg ?_
  | with_reducible refine g_pg ?_
  | ((with_reducible refine' g_call ?obh ?obj ?_); (case obh => rfl); (case obj => rfl))
  | with_reducible refine g_par ?_
  | with_reducible refine g_par2 ?_
  | with_reducible refine g_par3 ?_
  | with_reducible refine g_par33 ?_
  | with_reducible refine g_gnil ?_
  | with_reducible refine g_gcons ?_
  | with_reducible refine g_gsub ?_
  | with_reducible refine g_ipI ?_
  | with_reducible refine g_rAdd ?_
  | with_reducible refine g_rSub ?_
  | ((with_reducible refine' g_aug ?obh ?_); (case obh => rfl))
  | with_reducible refine g_tup ?_
  | with_reducible refine g_lst ?_
  | with_reducible refine g_bm ?_
  | with_reducible refine g_bm0 ?_
  | with_reducible refine g_sl ?_
  | with_reducible refine g_nopart ?_
  | with_reducible refine g_part ?_
  | with_reducible refine g_pint ?_
  | with_reducible refine isi_int ?_
  | with_reducible refine isi_intB ?_
  | ((with_reducible refine' g_I ?obh ?_); (case obh => walk_at "obc"))
  | ((with_reducible refine' g_tyl ?obh ?_); (case obh => walk_at "obl"))
  | ((with_reducible refine' g_lenL ?obh ?_); (case obh => walk_at "obl"))
  | with_reducible refine g_ne ?_
  | ((with_reducible refine' g_neN' ?obh ?_); (case obh => rfl))
  | with_reducible refine g_ntt ?_
  | with_reducible refine g_nff ?_
  | with_reducible refine g_star ?_
  | with_reducible refine g_att ?_
  | with_reducible refine g_sfld ?_
  | with_reducible refine g_faug ?_
  | with_reducible refine g_fld ?_
  | ((with_reducible refine' g_nF ?obh ?_); (case obh => omega))
  | ((with_reducible refine' g_nT ?obh ?_); (case obh => omega))
  | ((with_reducible refine' g_TD ?obh ?_); (case obh => omega))
  | ((with_reducible refine' g_FD ?obh ?_); (case obh => omega))
  | ((with_reducible refine' g_ixUL ?obh ?obi ?_); (case obh => walk_at "obl"); (case obi => exact atI_nn (by omega) (by rfl)))
  | ((with_reducible refine' g_setLS ?obs ?obh ?obi ?_); (case obs => assumption); (case obh => assumption); (case obi => rfl); intro _ _ _)
  | ((with_reducible refine' g_newT ?obs ?obh ?obi ?obj ?_); (case obs => assumption); (case obh => walk_at "obds"); (case obi => rfl); (case obj => exact Nat.le_of_ble_eq_true rfl); intro _ _ _ _)
  | ((with_reducible refine' g_newL ?obs ?obj ?_); (case obs => assumption); (case obj => exact Nat.le_of_ble_eq_true rfl); intro _ _ _ _)
  | ((with_reducible refine' isi_tup ?obh ?_); (case obh => walk_at "obt"))
  | ((with_reducible refine' g_lenT ?obh ?_); (case obh => walk_at "obt"))
  | ((with_reducible refine' g_unpT ?obh ?obi ?_); (case obh => walk_at "obt"); (case obi => rfl))
  | ((with_reducible refine' g_divmod ?obs ?obh ?_); (case obs => assumption); (case obh => exact cdivp_ok (by omega) (by omega) (by omega)); intro _ _ _ _)
  | ((with_reducible refine' g_unpD ?obh ?obi ?obj ?_); (case obh => walk_at "obd"); (case obi => walk_at "obsc"); (case obj => rfl))
  | with_reducible refine g_att ?_)
local macro_rules | `(tactic| walk_at "obat19") => `(tactic| first | assumption | walk_at "obat")
local macro_rules | `(tactic| walk_at "ob") => `(tactic| first
  | walk_at "ob1"
  | refine use_is_integer ?_
  | refine use_is_within ?_
  | refine use_balance ?_
  | refine use_rate ?_
  | refine use_year (by assumption) ?_
  | refine use_unit ?_
  | refine use_rest (by omega) (by omega) ?_
  | refine use_parts (by walk_at "obd") (by assumption) ?_
  | refine use_is_stretch (by walk_at "obd") (by assumption) ?_
  | refine g_unpT (sqt_enc (by walk_at "obd")) rfl ?_
  | ((with_reducible refine' g_fldS ?obh ?obc ?obn ?obe ?_); (case obh => walk_at "obat19"); (case obc => exact AccC.c (by assumption)); (case obn => first | exact AccC.n1 (by assumption) | exact AccC.n2 (by assumption) | exact AccC.n3 (by assumption)); (case obe => rfl))
  | ((with_reducible refine' g_attS ?obs ?obh ?obc ?obn ?obl ?_); (case obs => assumption); (case obh => assumption); (case obc => exact AccC.c (by assumption)); (case obn => first | exact AccC.n1 (by assumption) | exact AccC.n2 (by assumption) | exact AccC.n3 (by assumption)); (case obl => exact Nat.le_of_ble_eq_true rfl); intro _ _ _)
  | ((with_reducible refine' g_augS ?obh ?obc ?obn ?obe ?_); (case obh => walk_at "obat19"); (case obc => exact AccC.c (by assumption)); (case obn => first | exact AccC.n1 (by assumption) | exact AccC.n2 (by assumption) | exact AccC.n3 (by assumption)); (case obe => rfl))
  | ((with_reducible refine' g_augE ?obs ?obh ?obl ?_); (case obs => assumption); (case obh => assumption); (case obl => exact Nat.le_of_ble_eq_true rfl); intro _ _ _)
  | ((with_reducible refine' g_ixUT ?obh ?obi ?_); (case obh => first | exact sqt_enc (by walk_at "obd") | walk_at "obt"); (case obi => rfl))
  | refine use_prest (by walk_at "obat19") (by assumption) ?_
  | refine use_ppaid (by walk_at "obat19") (by assumption) ?_
  | refine use_pdays (by walk_at "obat19") (by assumption) ?_
  | with_reducible refine g_lstRg ?_
  | with_reducible refine g_rg1 ?_
  | with_reducible refine g_rg2 ?_)
section
variable {P : Program} {w : World} {K : Frag} {mg : Str → Option Value} {base : Heap}
theorem g_slL {F : List (Addr × HO)} {G : List Ft} {H : Hp} {Q : VK} {l : Addr} {vs : List V} {lo hi : Option Int} (S : Sy K F G H) (h : SqL K H l vs) (k : ∀ p H', Sy K ((p, .lst (cutV vs lo hi)) :: F) G H' → Q (.ref p) H') : rSlU K (.ref l) lo hi H Q :=
  .inr ⟨l, vs, rfl, h, fun p hp => k p _ (S.push hp)⟩
theorem cut_ints (ns : List Int) (lo hi : Option Int) : ∃ ms : List Int, cutV (ns.map V.int) lo hi = ms.map V.int :=
  ⟨(ns.drop (HT.sIx (ns.map V.int).length 0 lo)).take (HT.sIx (ns.map V.int).length (ns.map V.int).length hi - HT.sIx (ns.map V.int).length 0 lo), by
    unfold cutV
    rw [List.map_take, List.map_drop]⟩
theorem big_ok : (((10 : Int) ^ Int.toNat 60) ^ Int.toNat 5).natAbs < 2 ^ 1000 := by decide +kernel
theorem own_ok (x : Int) (t : Bool) : 0 ≤ x % ((10 ^ Int.toNat 60) ^ Int.toNat 5) * (if t = true then 1 else 0) ∧ (x % ((10 ^ Int.toNat 60) ^ Int.toNat 5) * (if t = true then 1 else 0)).natAbs < 2 ^ 1000 := by
  have h0 : (0 : Int) < (10 ^ Int.toNat 60) ^ Int.toNat 5 := by decide +kernel
  have h1 := Int.emod_nonneg x (Int.ne_of_gt h0)
  have h2 := Int.emod_lt_of_pos x h0
  have h3 := big_ok
  generalize ((10 : Int) ^ Int.toNat 60) ^ Int.toNat 5 = m at *
  cases t with
  | true =>
    rw [if_pos rfl, Int.mul_one]
    exact ⟨h1, by omega⟩
  | false =>
    rw [if_neg (by decide), Int.mul_zero]
    exact ⟨Int.le_refl _, by decide⟩
def sp_law_pot (K : Frag) : Sp := fun vs H Q E => vs.length = 2 ∧ ∃ (F : List (Addr × HO)) (G : List Ft) (a : Addr) (ns : List Int) (i : Int), vs = [.ref a, .int i] ∧ Sy K F (.sq a (ns.map V.int) :: G) H ∧ ns.length ≤ 63 ∧ 0 ≤ i ∧ i ≤ 2 ∧
  ∀ (x y z : Int) (p : Addr) H', PotOk 0 x y z → Sy K ((p, potO x y z) :: F) (.sq a (ns.map V.int) :: G) H' → Q (.ref p) H'
abbrev names_law_pot : List Str := ["script", "place", "cell", "own", "small"]
theorem sc_law_pot : FnScope names_law_pot ["script", "place"] (defScope (top 40)) := ⟨rfl, rfl, rfl, by decide +kernel, rfl, by decide +kernel, by decide +kernel⟩
set_option maxHeartbeats 4000000 in
theorem ok_law_pot (T : Tx K mg) : FG P w K mg base CX0 1 T.a_law_pot T.d_law_pot ["script", "place"] (sp_law_pot K) := by
  refine OB.Fun.fg T.F_law_pot sc_law_pot (fun vs H Q E h => h.1) (fun cdv A out s H vs Q E g h => ?_)
  obtain ⟨_, F, G, a, ns, i, rfl, S, hn, i0, i1, k⟩ := h
  refine ⟨_, (pss_cons (ps_set (i := 2) sc_law_pot.nd rfl (by first | exact Or.inl rfl | exact Or.inr rfl) (pe_ifExp (pt_cmpR op_lt (pv 1) (pe_callB (toK (r := OB.rLen) (K := K) rfl c_len) (by rfl) T.n_len PySem.boot_len (pa_cons (pv 0) pa_nil)) (nomark _)) (pe_ix (ix_UK (K := K) rfl) (pv 0) (pv 1) (fun _ _ => rfl)) (pe_op op_add (pe_op op_add (pe_op op_mod (pe_callB (toK (r := rSum) (K := K) rfl (cr_sum rfl)) (by rfl) T.n_sum (by decide +kernel) (pa_cons (pe_slice (sl_UK (K := K) rfl) (pv 0) po_none (po_some pe_int)) pa_nil)) pe_int) (pe_op op_mul pe_int (pv 1))) pe_int)))
      (pss_cons (ps_set (i := 3) sc_law_pot.nd rfl (by first | exact Or.inl rfl | exact Or.inr rfl) (pe_op op_mul (pe_op op_mod (pe_callTy c_int (by rfl) T.n_int (by decide +kernel) (pa_cons (pe_callB c_abs (by rfl) T.n_abs (by decide +kernel) (pa_cons (pv 2) pa_nil)) pa_nil)) (pe_op op_powX (pe_op op_powX pe_int pe_int) pe_int)) (pe_callTy c_int (by rfl) T.n_int (by decide +kernel) (pa_cons (pe_cmpR op_ge (pe_callB c_abs (by rfl) T.n_abs (by decide +kernel) (pa_cons (pv 2) pa_nil)) (pe_op op_powX pe_int pe_int) (nomark _)) pa_nil))))
      (pss_cons (ps_set (i := 4) sc_law_pot.nd rfl (by first | exact Or.inl rfl | exact Or.inr rfl) (pe_op op_mod (pe_callTy c_int (by rfl) T.n_int (by decide +kernel) (pa_cons (pv 2) pa_nil)) pe_int))
      (pss_one (ps_ret (pe_lst (pa_cons (pv 3) (pa_cons (pe_op op_mod (pe_callTy c_int (by rfl) T.n_int (by decide +kernel) (pa_cons (pe_op op_add (pe_op op_add (pe_op op_mul (pv 4) pe_int) (pe_op op_mul (pe_op op_mul pe_int (pv 1)) (pv 1))) pe_int) pa_nil)) pe_int) (pa_cons pe_int pa_nil))))))))), ?_⟩
  refine g_start (σ := [some _, some _, none, none, none]) rfl ?_
  have hl : (((ns.map V.int).length : Nat) : Int) = ns.length := by rw [List.length_map]
  repeat walk_at "ob"
  refine g_iteD (fun h1 => ?_) (fun h1 => ?_)
  · obtain ⟨c, _, hc⟩ := atI_ints (ns := ns) i0 (by omega)
    repeat walk_at "ob"
    refine g_ixUL (by walk_at "obl") hc ?_
    repeat walk_at "ob"
    refine g_I (show (0 : Int) < _ by decide) ?_
    repeat walk_at "ob"
    rename_i q H2 _ S2
    obtain ⟨w1, w2⟩ := own_ok (if c < 0 then -c else c) (decide ((10 : Int) ^ Int.toNat 18 ≤ (if c < 0 then -c else c)))
    exact k _ _ _ q H2 ⟨w1, w2, by omega, by omega, Int.le_refl _, Int.le_refl _⟩ S2
  · repeat walk_at "ob"
    refine g_slL S (by walk_at "obl") fun l H1 S1 => ?_
    obtain ⟨ms, hms⟩ := cut_ints ns none (some 1)
    rw [hms] at S1
    repeat walk_at "ob"
    refine g_sum (ns := ms) (by walk_at "obl") ?_
    repeat walk_at "ob"
    have S3 := S1.less
    clear S1 S
    generalize ms.sum % 1000003 + 1127 * i + 541 = c
    refine g_I (show (0 : Int) < _ by decide) ?_
    repeat walk_at "ob"
    rename_i q H2 _ S2
    obtain ⟨w1, w2⟩ := own_ok (if c < 0 then -c else c) (decide ((10 : Int) ^ Int.toNat 18 ≤ (if c < 0 then -c else c)))
    exact k _ _ _ q H2 ⟨w1, w2, by omega, by omega, Int.le_refl _, Int.le_refl _⟩ S2
def sp_law_cells (K : Frag) : Sp := fun vs H Q E => vs.length = 2 ∧ ∃ (F : List (Addr × HO)) (G : List Ft) (a : Addr) (ns : List Int) (c : Int), vs = [.ref a, .int c] ∧ Sy K F (.sq a (ns.map V.int) :: G) H ∧ ns.length ≤ 63 ∧ 1 ≤ c ∧ c ≤ 3 ∧
  ∀ (ms : List Int) (p : Addr) H', (∀ m ∈ ms, 0 ≤ m ∧ m ≤ 2) → ms.length ≤ 3 → Sy K ((p, .lst (ms.map V.int)) :: F) (.sq a (ns.map V.int) :: G) H' → Q (.ref p) H'
abbrev names_law_cells : List Str := ["script", "most"]
theorem sc_law_cells : FnScope names_law_cells ["script", "most"] (defScope (top 43)) := ⟨rfl, rfl, rfl, by decide +kernel, rfl, by decide +kernel, by decide +kernel⟩
set_option maxHeartbeats 4000000 in
theorem ok_law_cells (T : Tx K mg) : FG P w K mg base CX0 1 T.a_law_cells T.d_law_cells ["script", "most"] (sp_law_cells K) := by
  refine OB.Fun.fg T.F_law_cells sc_law_cells (fun vs H Q E h => h.1) (fun cdv A out s H vs Q E g h => ?_)
  obtain ⟨_, F, G, a, ns, c, rfl, S, hn, c1, c2, k⟩ := h
  refine ⟨_, (pss_one (ps_ret (pe_listRg rfl (by rfl) T.n_list (prg_1 (by rfl) T.n_range (pe_callB (c_max rfl) (by rfl) T.n_max (by decide +kernel) (pa_cons pe_int (pa_cons (pe_callB (c_min rfl) (by rfl) T.n_min (by decide +kernel) (pa_cons (pv 1) (pa_cons (pe_callB (toK (r := OB.rLen) (K := K) rfl c_len) (by rfl) T.n_len PySem.boot_len (pa_cons (pv 0) pa_nil)) pa_nil))) pa_nil))))))), ?_⟩
  refine g_start (σ := [some _, some _]) rfl ?_
  have hl : (((ns.map V.int).length : Nat) : Int) = ns.length := by rw [List.length_map]
  repeat walk_at "ob"
  generalize hm : (if (if ((ns.map V.int).length : Int) < c then ((ns.map V.int).length : Int) else c) > 1 then (if ((ns.map V.int).length : Int) < c then ((ns.map V.int).length : Int) else c) else 1) = M
  have hM : 0 ≤ M ∧ M ≤ 3 := by
    subst hm
    constructor <;> (repeat' split) <;> omega
  refine g_newRg S ⟨by omega, by omega, by omega, by omega, by omega⟩ fun p H1 S1 => ?_
  rw [rgV0] at S1
  refine k _ p H1 (fun m hm => ?_) (by rw [List.length_map, List.length_range]; omega) S1
  obtain ⟨j, hj, rfl⟩ := List.mem_map.mp hm
  have := List.mem_range.mp hj
  omega
end
end LAW

set_option Elab.async false
set_option linter.all false
set_option maxRecDepth 100000
namespace LAW
open PySem PySem.Spec PyProof.Rows L2 PySem.W OB
local macro_rules | `(tactic| walk_at "obc") => `(tactic| first
  | exact Or.inl ⟨by omega, by omega⟩
  | exact Or.inr ⟨by omega, by omega⟩
  | exact cdiv_ok (by omega) (by omega)
  | (show (0 : Int) < _; omega)
  | exact ⟨by omega, by decide⟩
  | exact ⟨by decide, by decide⟩)
local macro_rules | `(tactic| walk_at "obat") => `(tactic| first
  | exact Sy.at (by assumption) 0 rfl | exact Sy.at (by assumption) 1 rfl | exact Sy.at (by assumption) 2 rfl | exact Sy.at (by assumption) 3 rfl
  | exact Sy.at (by assumption) 4 rfl | exact Sy.at (by assumption) 5 rfl | exact Sy.at (by assumption) 6 rfl | exact Sy.at (by assumption) _ (by assumption) | exact Sy.at (by assumption) (_ + 1) (by assumption) | exact Sy.at (by assumption) (_ + 2) (by assumption))
local macro_rules | `(tactic| walk_at "obt") => `(tactic| first
  | exact Sy.tqs (by assumption) 0 rfl | exact Sy.tqs (by assumption) 1 rfl | exact Sy.tqs (by assumption) 2 rfl | exact Sy.tqs (by assumption) 3 rfl | exact Sy.tqs (by assumption) 4 rfl | exact Sy.tqs (by assumption) 5 rfl
  | exact Sy.tqs (by assumption) 6 rfl | exact Sy.tqs (by assumption) 7 rfl | assumption)
local macro_rules | `(tactic| walk_at "obl") => `(tactic| first
  | exact SqL.of (by walk_at "obat")
  | exact Sy.sq (by assumption) 0 rfl | exact Sy.sq (by assumption) 1 rfl | exact Sy.sq (by assumption) 2 rfl | exact Sy.sq (by assumption) 3 rfl | exact Sy.sq (by assumption) _ (by assumption))
local macro_rules | `(tactic| walk_at "obd") => `(tactic| first
  | exact Dp.int _ | exact Dp.bl _ | exact Dp.str _ | exact Dp.non
  | exact Sy.dp (by assumption) 0 rfl | exact Sy.dp (by assumption) 1 rfl | exact Sy.dp (by assumption) 2 rfl | exact Sy.dp (by assumption) 3 rfl
  | exact Sy.dp (by assumption) 4 rfl | exact Sy.dp (by assumption) 5 rfl | exact Sy.dp (by assumption) 6 rfl | exact Sy.dp (by assumption) 7 rfl
  | exact Sy.dp (by assumption) 8 rfl | exact Sy.dp (by assumption) 9 rfl | exact Sy.dp (by assumption) _ (by assumption) | assumption)
local macro_rules | `(tactic| walk_at "obds") => `(tactic| first
  | exact DpAll.nil
  | (refine' DpAll.cons ?ob1 ?ob2; (case ob1 => walk_at "obd"); (case ob2 => walk_at "obds"))
  | exact Sy.dps (by assumption) 0 rfl | exact Sy.dps (by assumption) 1 rfl | exact Sy.dps (by assumption) 2 rfl | exact Sy.dps (by assumption) 3 rfl | assumption)
local macro_rules | `(tactic| walk_at "obsc") => `(tactic| first
  | exact ScL.nil
  | ((first | refine' ScL.int ?obz | refine' ScL.str ?obz | refine' ScL.bl ?obz | refine' ScL.non ?obz); (case obz => walk_at "obsc")))
local macro_rules | `(tactic| walk_at "ob1") => `(tactic| first
  | ((with_reducible refine' g_var ?obh ?_); (case obh => rfl))
  | with_reducible refine g_c ?_
  | with_reducible refine g_nx ?_
  | with_reducible refine g_rt ?_
  | with_reducible refine g_bk ?_
  | with_reducible refine g_ct ?_
  | with_reducible refine g_op ?_
  | with_reducible refine g_I0 ?_
  | with_reducible refine g_test ?_
  | with_reducible refine g_bl ?_
  | with_reducible refine g_blx ?_
  | with_reducible refine g_B ?_
  | with_reducible refine g_seq ?_
  | with_reducible refine g_asg ?_
  | with_reducible refine g_name ?_
  | with_reducible refine g_ifS ?_
  | with_reducible refine g_ret ?_
  | with_reducible refine g_cb ?_
  | with_reducible refine g_cons ?_
  | with_reducible refine g_nil ?_
  | with_reducible refine g_int ?_
  | with_reducible refine g_intB ?_
  | with_reducible refine g_abs ?_
  | with_reducible refine g_max ?_
  | with_reducible refine g_min ?_
  | with_reducible refine g_un ?_
  | with_reducible refine g_U ?_
  | with_reducible refine g_eqI ?_
  | with_reducible refine g_neI ?_
  | with_reducible refine g_eqS ?_
  | with_reducible refine g_neS ?_
  | with_reducible refine g_tt ?_
  | with_reducible refine g_ff ?_
  | with_reducible refine g_next ?_
  | with_reducible refine g_drop ?_
  | with_reducible refine g_if ?_
  | with_reducible refine g_andV ?_
  | with_reducible refine g_orV ?_
  | with_reducible refine g_notV ?_
  | with_reducible refine g_and ?_
  | with_reducible refine g_or ?_
  | with_reducible refine g_not ?_
  | with_reducible refine g_yes ?_
  | with_reducible refine g_chain ?_
  | with_reducible refine g_cg ?_
  | with_reducible refine g_mg ?_
  | with_reducible refine g_kg ?_
  | with_reducible refine g_pg ?_
  | ((with_reducible refine' g_call ?obh ?obj ?_); (case obh => rfl); (case obj => rfl))
  | with_reducible refine g_par ?_
  | with_reducible refine g_par2 ?_
  | with_reducible refine g_par3 ?_
  | with_reducible refine g_par33 ?_
  | with_reducible refine g_gnil ?_
  | with_reducible refine g_gcons ?_
  | with_reducible refine g_gsub ?_
  | with_reducible refine g_ipI ?_
  | with_reducible refine g_rAdd ?_
  | with_reducible refine g_rSub ?_
  | ((with_reducible refine' g_aug ?obh ?_); (case obh => rfl))
  | with_reducible refine g_tup ?_
  | with_reducible refine g_lst ?_
  | with_reducible refine g_bm ?_
  | with_reducible refine g_bm0 ?_
  | with_reducible refine g_sl ?_
  | with_reducible refine g_nopart ?_
  | with_reducible refine g_part ?_
  | with_reducible refine g_pint ?_
  | with_reducible refine isi_int ?_
  | with_reducible refine isi_intB ?_
  | ((with_reducible refine' g_I ?obh ?_); (case obh => walk_at "obc"))
  | ((with_reducible refine' g_tyl ?obh ?_); (case obh => walk_at "obl"))
  | ((with_reducible refine' g_lenL ?obh ?_); (case obh => walk_at "obl"))
  | with_reducible refine g_ne ?_
  | ((with_reducible refine' g_neN' ?obh ?_); (case obh => rfl))
  | with_reducible refine g_ntt ?_
  | with_reducible refine g_nff ?_
  | with_reducible refine g_star ?_
  | with_reducible refine g_att ?_
  | with_reducible refine g_sfld ?_
  | with_reducible refine g_faug ?_
  | with_reducible refine g_fld ?_
  | ((with_reducible refine' g_nF ?obh ?_); (case obh => omega))
  | ((with_reducible refine' g_nT ?obh ?_); (case obh => omega))
  | ((with_reducible refine' g_TD ?obh ?_); (case obh => omega))
  | ((with_reducible refine' g_FD ?obh ?_); (case obh => omega))
  | ((with_reducible refine' g_ixUL ?obh ?obi ?_); (case obh => walk_at "obl"); (case obi => exact atI_nn (by omega) (by rfl)))
  | ((with_reducible refine' g_setLS ?obs ?obh ?obi ?_); (case obs => assumption); (case obh => assumption); (case obi => rfl); intro _ _ _)
  | ((with_reducible refine' g_newT ?obs ?obh ?obi ?obj ?_); (case obs => assumption); (case obh => walk_at "obds"); (case obi => rfl); (case obj => exact Nat.le_of_ble_eq_true rfl); intro _ _ _ _)
  | ((with_reducible refine' g_newL ?obs ?obj ?_); (case obs => assumption); (case obj => exact Nat.le_of_ble_eq_true rfl); intro _ _ _ _)
  | ((with_reducible refine' isi_tup ?obh ?_); (case obh => walk_at "obt"))
  | ((with_reducible refine' g_lenT ?obh ?_); (case obh => walk_at "obt"))
  | ((with_reducible refine' g_unpT ?obh ?obi ?_); (case obh => walk_at "obt"); (case obi => rfl))
  | ((with_reducible refine' g_divmod ?obs ?obh ?_); (case obs => assumption); (case obh => exact cdivp_ok (by omega) (by omega) (by omega)); intro _ _ _ _)
  | ((with_reducible refine' g_unpD ?obh ?obi ?obj ?_); (case obh => walk_at "obd"); (case obi => walk_at "obsc"); (case obj => rfl))
  | with_reducible refine g_att ?_)
local macro_rules | `(tactic| walk_at "obat19") => `(tactic| first | assumption | walk_at "obat")
local macro_rules | `(tactic| walk_at "ob") => `(tactic| first
  | walk_at "ob1"
  | refine use_is_integer ?_
  | refine use_is_within ?_
  | refine use_balance ?_
  | refine use_rate ?_
  | refine use_year (by assumption) ?_
  | refine use_unit ?_
  | refine use_rest (by omega) (by omega) ?_
  | refine use_parts (by walk_at "obd") (by assumption) ?_
  | refine use_is_stretch (by walk_at "obd") (by assumption) ?_
  | refine g_unpT (sqt_enc (by walk_at "obd")) rfl ?_
  | ((with_reducible refine' g_fldS ?obh ?obc ?obn ?obe ?_); (case obh => walk_at "obat19"); (case obc => exact AccC.c (by assumption)); (case obn => first | exact AccC.n1 (by assumption) | exact AccC.n2 (by assumption) | exact AccC.n3 (by assumption)); (case obe => rfl))
  | ((with_reducible refine' g_attS ?obs ?obh ?obc ?obn ?obl ?_); (case obs => assumption); (case obh => assumption); (case obc => exact AccC.c (by assumption)); (case obn => first | exact AccC.n1 (by assumption) | exact AccC.n2 (by assumption) | exact AccC.n3 (by assumption)); (case obl => exact Nat.le_of_ble_eq_true rfl); intro _ _ _)
  | ((with_reducible refine' g_augS ?obh ?obc ?obn ?obe ?_); (case obh => walk_at "obat19"); (case obc => exact AccC.c (by assumption)); (case obn => first | exact AccC.n1 (by assumption) | exact AccC.n2 (by assumption) | exact AccC.n3 (by assumption)); (case obe => rfl))
  | ((with_reducible refine' g_augE ?obs ?obh ?obl ?_); (case obs => assumption); (case obh => assumption); (case obl => exact Nat.le_of_ble_eq_true rfl); intro _ _ _)
  | ((with_reducible refine' g_ixUT ?obh ?obi ?_); (case obh => first | exact sqt_enc (by walk_at "obd") | walk_at "obt"); (case obi => rfl))
  | refine use_prest (by walk_at "obat19") (by assumption) ?_
  | refine use_ppaid (by walk_at "obat19") (by assumption) ?_
  | refine use_pdays (by walk_at "obat19") (by assumption) ?_
  | with_reducible refine g_lstRg ?_
  | with_reducible refine g_rg1 ?_
  | with_reducible refine g_rg2 ?_)
section
variable {P : Program} {w : World} {K : Frag} {mg : Str → Option Value} {base : Heap}
/-! ### tables -/
def tabD (t : List (Int × Int)) : PyData := .tuple (t.map rowD)
theorem tab_imm (t : List (Int × Int)) : immAll (t.map rowD) = true := immAll_of fun x hx => by
  obtain ⟨s, _, rfl⟩ := List.mem_map.mp hx
  rfl
structure TabOk (t : List (Int × Int)) : Prop where
  len : t.length ≤ 20
  first : ∃ v r, t = (0, v) :: r
  day : ∀ x ∈ t, 0 ≤ x.1 ∧ x.1 ≤ 100000
  up : t.Pairwise fun x y => x.1 < y.1
theorem sqt_row {H : Hp} {p : Addr} {x : Int × Int} (h : L2.Dp K H (.ref p) (rowD x)) : SqT K H p [.int x.1, .int x.2] :=
  sqt_scal (ds := [.int x.1, .int x.2]) h fun d hd => by
    rcases List.mem_cons.mp hd with rfl | hd
    · rfl
    rcases List.mem_cons.mp hd with rfl | hd
    · rfl
    cases hd
theorem up_next {t : List (Int × Int)} (h : t.Pairwise fun x y => x.1 < y.1) {i : Nat} {x y : Int × Int} (hx : t[i]? = some x) (hy : t[i + 1]? = some y) : x.1 < y.1 := by
  obtain ⟨l1, e1⟩ := List.getElem?_eq_some_iff.mp hx
  obtain ⟨l2, e2⟩ := List.getElem?_eq_some_iff.mp hy
  have := List.pairwise_iff_getElem.mp h i (i + 1) l1 l2 (by omega)
  rw [e1, e2] at this
  exact this
theorem all_true {n : Nat} : ((List.replicate n true).all id) = true := List.all_eq_true.mpr fun b hb => (List.mem_replicate.mp hb).2
theorem trues {H : Hp} {vs : List V} {n : Nat} (h : DpAll K H vs (List.replicate n (.bool true))) : vs = (List.replicate n true).map V.bl := by
  rw [dps_scal h fun d hd => by rw [(List.mem_replicate.mp hd).2]; rfl, List.map_replicate, List.map_replicate]
  rfl
theorem cut_tail (xs : List V) : cutV xs (some 1) none = xs.drop 1 := by
  unfold cutV
  cases xs with
  | nil => rfl
  | cons x xs =>
    have e1 : HT.sIx (x :: xs).length 0 (some 1) = 1 := by
      unfold HT.sIx
      simp
    have e2 : HT.sIx (x :: xs).length (x :: xs).length none = (x :: xs).length := rfl
    rw [e1, e2]
    exact List.take_of_length_le (by rw [List.length_drop]; omega)
def sp_is_table (K : Frag) : Sp := fun vs H Q E => vs.length = 1 ∧ ∃ (F : List (Addr × HO)) (G : List Ft) (p : Addr) (t : List (Int × Int)), vs = [.ref p] ∧ Sy K F G H ∧ L2.Dp K H (.ref p) (tabD t) ∧ TabOk t ∧ ∀ H', Sy K F G H' → Q (.bl true) H'
abbrev names_is_table : List Str := ["value", "row", "days", "day", "one", "other"]
theorem sc_is_table : FnScope names_is_table ["value"] (defScope (top 33)) := ⟨rfl, rfl, rfl, by decide +kernel, rfl, by decide +kernel, by decide +kernel⟩
set_option maxHeartbeats 4000000 in
theorem ok_is_table (T : Tx K mg) : FG P w K mg base CX0 3 T.a_is_table T.d_is_table ["value"] (sp_is_table K) := by
  refine OB.Fun.fg T.F_is_table sc_is_table (fun vs H Q E h => h.1) (fun cdv A out s H vs Q E g h => ?_)
  obtain ⟨_, F, G, p, t, rfl, S, hd, ok, k⟩ := h
  refine ⟨_, (pss_cons (ps_if (PW.pt (pw_or (pt_not (pt_val (pe_callB (toK (r := rIsi) (K := K) rfl call_isi) (by rfl) T.n_isinstance (by decide +kernel) (pa_cons (pv 0) (pa_cons (pe_bltn (v := .ty "tuple") (by rfl) T.n_tuple (by decide +kernel) rfl) pa_nil))))) (pw_or1 (pt_not (pt_chain op_le op_le pe_int (pe_callB (toK (r := OB.rLen) (K := K) rfl c_len) (by rfl) T.n_len PySem.boot_len (pa_cons (pv 0) pa_nil)) (pe_glob (v := .int 1000) (by rfl) T.g_MOST_TABLE ⟨_, rfl⟩)))))) (pss_one (ps_ret pe_bl)) pss_nil)
      (pss_cons (ps_if (pt_not (pt_val (pe_callB (toK (r := rAll) (K := K) rfl (cr_all rfl)) (by rfl) T.n_all (by decide +kernel) (pa_cons (pe_lc (own := [("row", 1)]) (tt := tYes) rfl sc_is_table.nd (pi_seq (pv 0)) (blkOk_by (N := names_is_table) (sc := defScope (top 33)) (own := [("row", 1)]) (by decide +kernel)) (fun _ _ _ _ _ => (pg_name (i := 1) sc_is_table.nd rfl (by first | exact Or.inl rfl | exact Or.inr rfl))) (fun _ _ _ _ _ => pts_nil) (fun _ _ _ _ _ => (pe_and (pe_callB (toK (r := rIsi) (K := K) rfl call_isi) (by rfl) T.n_isinstance (by decide +kernel) (pa_cons (pv 1) (pa_cons (pe_bltn (v := .ty "tuple") (by rfl) T.n_tuple (by decide +kernel) rfl) pa_nil))) (pe_and (pe_cmpR op_eq (pe_callB (toK (r := OB.rLen) (K := K) rfl c_len) (by rfl) T.n_len PySem.boot_len (pa_cons (pv 1) pa_nil)) (pe_glob (v := .int 2) (by rfl) T.g_PAIR ⟨_, rfl⟩) (nomark _)) (pe_one (pe_cg (ok_is_integer T) (g.mono (by decide : 1 ≤ 2)) (by rfl) T.m_is_integer T.F_is_integer.kp (OB.Fun.bd T.F_is_integer (ps := ["value"]) (n := 1) (ks := []) (ix := [0]) (fun _ _ _ _ _ _ us ws h1 h2 => match us, ws, h1, h2 with | [_], [], _, _ => rfl)) pass0 (pa_cons (pe_ix (ix_UK (K := K) rfl) (pv 1) pe_int (fun _ _ => rfl)) pa_nil) pk_nil)))))) pa_nil)))) (pss_one (ps_ret pe_bl)) pss_nil)
      (pss_cons (ps_setLc (i := 2) (own := [("row", 1)]) (tt := tYes) rfl sc_is_table.nd rfl rfl (sw_true rfl rfl rfl (by decide +kernel)) (pi_seq (pv 0)) (blkOk_by (N := names_is_table) (sc := defScope (top 33)) (own := [("row", 1)]) (by decide +kernel)) (fun _ _ _ _ _ => (pg_name (i := 1) sc_is_table.nd rfl (by first | exact Or.inl rfl | exact Or.inr rfl))) (fun _ _ _ _ _ => pts_nil) (fun _ _ _ _ _ => (pe_ix (ix_UK (K := K) rfl) (pv 1) pe_int (fun _ _ => rfl))))
      (pss_cons (ps_if (PW.pt (pw_or (pt_not (pt_val (pe_callB (toK (r := rAll) (K := K) rfl (cr_all rfl)) (by rfl) T.n_all (by decide +kernel) (pa_cons (pe_lc (own := [("day", 3)]) (tt := tYes) rfl sc_is_table.nd (pi_seq (pv 2)) (blkOk_by (N := names_is_table) (sc := defScope (top 33)) (own := [("day", 3)]) (by decide +kernel)) (fun _ _ _ _ _ => (pg_name (i := 3) sc_is_table.nd rfl (by first | exact Or.inl rfl | exact Or.inr rfl))) (fun _ _ _ _ _ => pts_nil) (fun _ _ _ _ _ => (pe_cg (ok_is_within T) (g.mono (by decide : 2 ≤ 2)) (by rfl) T.m_is_within T.F_is_within.kp (OB.Fun.bd T.F_is_within (ps := ["value", "least", "most"]) (n := 3) (ks := []) (ix := [0, 1, 2]) (fun _ _ _ _ _ _ us ws h1 h2 => match us, ws, h1, h2 with | [_, _, _], [], _, _ => rfl)) pass0 (pa_cons (pv 3) (pa_cons pe_int (pa_cons (pe_glob (v := .int 100000) (by rfl) T.g_MOST_DAYS ⟨_, rfl⟩) pa_nil))) pk_nil))) pa_nil)))) (pw_or1 (pt_cmpR op_ne (pe_ix (ix_UK (K := K) rfl) (pv 2) pe_int (fun _ _ => rfl)) pe_int (nomark _))))) (pss_one (ps_ret pe_bl)) pss_nil)
      (pss_one (ps_ret (pe_callB (toK (r := rAll) (K := K) rfl (cr_all rfl)) (by rfl) T.n_all (by decide +kernel) (pa_cons (pe_lc (own := [("one", 4), ("other", 5)]) (tt := tYes) rfl sc_is_table.nd (pi_zipK (by rfl) T.n_zip (pa_cons (pv 2) (pa_cons (pe_slice (sl_UK (K := K) rfl) (pv 2) (po_some pe_int) po_none) pa_nil))) (blkOk_by (N := names_is_table) (sc := defScope (top 33)) (own := [("one", 4), ("other", 5)]) (by decide +kernel)) (fun _ _ _ _ _ => (pg_tupK (K := K) rfl (n := 2) rfl (pgs_cons (pg_name (i := 4) sc_is_table.nd rfl (by first | exact Or.inl rfl | exact Or.inr rfl)) (pgs_cons (pg_name (i := 5) sc_is_table.nd rfl (by first | exact Or.inl rfl | exact Or.inr rfl)) pgs_nil)))) (fun _ _ _ _ _ => pts_nil) (fun _ _ _ _ _ => (pe_cmpR op_lt (pv 4) (pv 5) (nomark _)))) pa_nil)))))))), ?_⟩
  refine g_start (σ := [some _, none, none, none, none, none]) rfl ?_
  obtain ⟨a, xs, e, S0⟩ := S.opn hd (tab_imm t)
  cases e
  have hlen : xs.length = t.length := by rw [dps_length (S0.dps 1 rfl), List.length_map]
  obtain ⟨tl, ⟨v0, r0, t0⟩, hday, hup⟩ := ok
  have tp : 0 < t.length := by rw [t0]; exact Nat.succ_pos _
  repeat walk_at "ob"
  refine g_lcS (a := p) (xs := xs) false (fun i F' ds => F' = F ∧ ds = List.replicate i (.bool true) ∧ i ≤ xs.length) S0 (fun Q' q => by walk_at "ob"; exact q) ⟨rfl, rfl, Nat.zero_le _⟩ (fun i F' ds H' _ S3 => S3.tqs 0 rfl) (fun i F' ds hi => by
    rw [hi.2.1, List.length_replicate]; omega) ?_ ?_
  · intro i x hx Da H2 F2 vs ds QE QR hi S3 kE kR
    obtain ⟨rfl, rfl, hi2⟩ := hi
    have hi3 := (List.getElem?_eq_some_iff.mp hx).1
    obtain ⟨r, hr, hds⟩ := dps_map (S3.dps 2 rfl) hx
    obtain ⟨q, ys, rfl, _⟩ := dp_at hds
    have hs := sqt_row hds
    repeat walk_at "ob"
    refine ⟨rfl, ?_⟩
    repeat walk_at "ob"
    refine g_TD rfl ?_
    repeat walk_at "ob"
    refine kE _ (.bool true) _ _ ⟨rfl, by rw [List.replicate_succ'], hi3⟩ (S3.fact (dps_one (L2.Dp.bl true)) rfl)
  intro Da H2 F2 vs ds hD hi S3
  obtain ⟨rfl, rfl, _⟩ := hi
  have hv := trues (S3.dps 0 rfl)
  subst hv
  repeat walk_at "ob"
  refine g_all (by walk_at "obl") ?_
  rw [all_true]
  repeat walk_at "ob"
  have S4 := S3.less.drop
  clear S3
  refine g_lcS (a := p) (xs := xs) false (fun i F' ds => F' = F2 ∧ ds = (t.take i).map fun x => .int x.1) S4 (fun Q' q => by walk_at "ob"; exact q) ⟨rfl, rfl⟩ (fun i F' ds H' _ S3 => S3.tqs 0 rfl) (fun i F' ds hi => by
    rw [hi.2, List.length_map, List.length_take]; omega) ?_ ?_
  · intro i x hx Da H2 F2 vs ds QE QR hi S3 kE kR
    obtain ⟨rfl, rfl⟩ := hi
    obtain ⟨r, hr, hds⟩ := dps_map (S3.dps 2 rfl) hx
    obtain ⟨q, ys, rfl, _⟩ := dp_at hds
    have hs := sqt_row hds
    repeat walk_at "ob"
    refine ⟨rfl, ?_⟩
    repeat walk_at "ob"
    refine kE _ (.int r.1) _ _ ⟨rfl, ?_⟩ (S3.fact (dps_one (L2.Dp.int _)) rfl)
    rw [List.take_add_one, hr]
    simp
  intro Db H3 F3 vs ds hD3 hi S5
  obtain ⟨rfl, rfl⟩ := hi
  have hv : vs = (t.map (·.1)).map V.int := by
    rw [dps_scal (S5.dps 0 rfl) (by intro d hd; obtain ⟨s, _, rfl⟩ := List.mem_map.mp hd; rfl), hlen, List.take_length]
    simp [toV, Function.comp_def]
  subst hv
  have S6 := S5.drop.drop.drop
  clear S5 S4
  repeat walk_at "ob"
  refine g_lcS (a := Db) (xs := (t.map (·.1)).map V.int) true (fun i F' ds => F' = (Db, .lst ((t.map (·.1)).map V.int)) :: F3 ∧ ds = List.replicate i (.bool true) ∧ i ≤ t.length) S6 (fun Q' q => by walk_at "ob"; exact q) ⟨rfl, rfl, Nat.zero_le _⟩ (fun i F' ds H' hi S3 => SqL.of ((hi.1 ▸ S3).at 0 rfl)) (fun i F' ds hi => by
    rw [hi.2.1, List.length_replicate]; omega) ?_ ?_
  · intro i x hx Da H2 F2 vs ds QE QR hi S3 kE kR
    obtain ⟨rfl, rfl, hi2⟩ := hi
    rw [List.map_map, List.getElem?_map] at hx
    obtain ⟨r, hr, rfl⟩ := Option.map_eq_some_iff.mp hx
    obtain ⟨q0, q1⟩ := hday r (List.mem_of_getElem? hr)
    repeat walk_at "ob"
    refine ⟨rfl, ?_⟩
    repeat walk_at "ob"
    rw [show decide (0 ≤ r.1 ∧ r.1 ≤ 100000) = true from decide_eq_true ⟨q0, q1⟩]
    refine kE _ (.bool true) _ _ ⟨rfl, by rw [List.replicate_succ'], (List.getElem?_eq_some_iff.mp hr).1⟩ (S3.fact (dps_one (L2.Dp.bl true)) rfl)
  intro Dc H4 F4 vs ds hD4 hi S7
  obtain ⟨rfl, rfl, _⟩ := hi
  have hv := trues (S7.dps 0 rfl)
  subst hv
  repeat walk_at "ob"
  refine g_all (by walk_at "obl") ?_
  rw [all_true]
  have S8 := S7.less.drop
  clear S7 S6
  repeat walk_at "ob"
  have h0 : ((t.map (·.1)).map V.int)[0]? = some (.int 0) := by rw [t0]; rfl
  refine g_ixUL (SqL.of (S8.at 0 rfl)) (atI_nn (by omega) h0) ?_
  repeat walk_at "ob"
  refine g_lcZ ?_
  repeat walk_at "ob"
  refine g_slL S8 (SqL.of (S8.at 0 rfl)) fun p2 H5 S9 => ?_
  rw [cut_tail] at S9
  clear S8
  repeat walk_at "ob"
  refine ziplc_of (k := true) (l := true) (xs := (t.map (·.1)).map V.int) (ys := ((t.map (·.1)).map V.int).drop 1) (fun i F' ds => F' = (p2, .lst (((t.map (·.1)).map V.int).drop 1)) :: (Db, .lst ((t.map (·.1)).map V.int)) :: F3 ∧ ds = List.replicate i (.bool true) ∧ i ≤ t.length) S9 ⟨rfl, rfl, Nat.zero_le _⟩
    (fun i F' ds H' hi S3 => ⟨SqL.of ((hi.1 ▸ S3).at 1 rfl), SqL.of ((hi.1 ▸ S3).at 0 rfl)⟩) (fun i F' ds hi => by rw [hi.2.1, List.length_replicate]; omega) ?_ ?_
  · intro i x y hx hy Da T H2 F2 vs ds QE QR hi hT S3 kE kR
    obtain ⟨rfl, rfl, hi2⟩ := hi
    rw [List.map_map, List.getElem?_map] at hx
    obtain ⟨r, hr, rfl⟩ := Option.map_eq_some_iff.mp hx
    rw [List.getElem?_drop, List.map_map, List.getElem?_map] at hy
    obtain ⟨r2, hr2, rfl⟩ := Option.map_eq_some_iff.mp hy
    rw [Nat.add_comm] at hr2
    have lt := up_next hup hr hr2
    refine g_pair S3 hT fun H3 S4 => ?_
    repeat walk_at "ob"
    refine ⟨rfl, ?_⟩
    repeat walk_at "ob"
    refine g_I0 (a := r.1) (b := r2.1) ?_
    rw [show decide (r.1 < r2.1) = true from decide_eq_true lt]
    refine kE _ (.bool true) _ _ ⟨rfl, by rw [List.replicate_succ'], (List.getElem?_eq_some_iff.mp hr).1⟩ (S4.drop.fact (dps_one (L2.Dp.bl true)) rfl)
  intro Dd H6 F6 vs ds hD6 hi S10
  obtain ⟨rfl, rfl, _⟩ := hi
  have hv := trues (S10.dps 0 rfl)
  subst hv
  repeat walk_at "ob"
  refine g_all (by walk_at "obl") ?_
  rw [all_true]
  exact k _ S10.less.less.less.drop
theorem use_is_table {F : List (Addr × HO)} {G : List Ft} {H : Hp} {Q : VK} {E : XK} {p : Addr} {t : List (Int × Int)} (S : Sy K F G H) (hd : L2.Dp K H (.ref p) (tabD t)) (ok : TabOk t) (k : ∀ H', Sy K F G H' → Q (.bl true) H') : sp_is_table K [.ref p] H Q E := ⟨rfl, F, G, p, t, rfl, S, hd, ok, k⟩
/-- the values of a table: in bounds -/
structure Tabs (b r y : List (Int × Int)) : Prop where
  b0 : TabOk b
  r0 : TabOk r
  y0 : TabOk y
  b1 : ∀ x ∈ b, -1000000000000 ≤ x.2 ∧ x.2 ≤ 1000000000000
  r1 : ∀ x ∈ r, 0 ≤ x.2 ∧ x.2 ≤ 1000000
  y1 : ∀ x ∈ y, x.2 = 365 ∨ x.2 = 366
theorem dat_tab {H : Hp} {p : Addr} {t : List (Int × Int)} (h : L2.Dp K H (.ref p) (tabD t)) : (Ft.dat [.ref p] [tabD t]).ok K H := ⟨dps_one h, by show (imm (.tuple (t.map rowD)) && true) = true; rw [Bool.and_true]; exact tab_imm t⟩
def sp_check_tables (K : Frag) : Sp := fun vs H Q E => vs.length = 3 ∧ ∃ (F : List (Addr × HO)) (G : List Ft) (pb pr py : Addr) (b r y : List (Int × Int)), vs = [.ref pb, .ref pr, .ref py] ∧ Sy K F G H ∧ L2.Dp K H (.ref pb) (tabD b) ∧ L2.Dp K H (.ref pr) (tabD r) ∧ L2.Dp K H (.ref py) (tabD y) ∧ Tabs b r y ∧ ∀ H', Sy K F G H' → Q .non H'
abbrev names_check_tables : List Str := ["balances", "rates", "years", "day", "value"]
theorem sc_check_tables : FnScope names_check_tables ["balances", "rates", "years"] (defScope (top 34)) := ⟨rfl, rfl, rfl, by decide +kernel, rfl, by decide +kernel, by decide +kernel⟩
set_option maxHeartbeats 4000000 in
theorem ok_check_tables (T : Tx K mg) : FG P w K mg base CX0 4 T.a_check_tables T.d_check_tables ["balances", "rates", "years"] (sp_check_tables K) := by
  refine OB.Fun.fg T.F_check_tables sc_check_tables (fun vs H Q E h => h.1) (fun cdv A out s H vs Q E g h => ?_)
  obtain ⟨_, F, G, pb, pr, py, b, r, y, rfl, S, hb, hr, hy, ok, k⟩ := h
  refine ⟨_, (pss_cons (ps_if (PW.pt (pw_or (pt_not (pt_val (pe_cg (ok_is_table T) (g.mono (by decide : 3 ≤ 3)) (by rfl) T.m_is_table T.F_is_table.kp (OB.Fun.bd T.F_is_table (ps := ["value"]) (n := 1) (ks := []) (ix := [0]) (fun _ _ _ _ _ _ us ws h1 h2 => match us, ws, h1, h2 with | [_], [], _, _ => rfl)) pass0 (pa_cons (pv 0) pa_nil) pk_nil))) (pw_or1 (pt_not (pt_val (pe_callB (toK (r := rAll) (K := K) rfl (cr_all rfl)) (by rfl) T.n_all (by decide +kernel) (pa_cons (pe_lc (own := [("day", 3), ("value", 4)]) (tt := tYes) rfl sc_check_tables.nd (pi_seq (pv 0)) (blkOk_by (N := names_check_tables) (sc := defScope (top 34)) (own := [("day", 3), ("value", 4)]) (by decide +kernel)) (fun _ _ _ _ _ => (pg_tupK (K := K) rfl (n := 2) rfl (pgs_cons (pg_name (i := 3) sc_check_tables.nd rfl (by first | exact Or.inl rfl | exact Or.inr rfl)) (pgs_cons (pg_name (i := 4) sc_check_tables.nd rfl (by first | exact Or.inl rfl | exact Or.inr rfl)) pgs_nil)))) (fun _ _ _ _ _ => pts_nil) (fun _ _ _ _ _ => (pe_cg (ok_is_balance T) (g.mono (by decide : 3 ≤ 3)) (by rfl) T.m_is_balance T.F_is_balance.kp (OB.Fun.bd T.F_is_balance (ps := ["value"]) (n := 1) (ks := []) (ix := [0]) (fun _ _ _ _ _ _ us ws h1 h2 => match us, ws, h1, h2 with | [_], [], _, _ => rfl)) pass0 (pa_cons (pv 4) pa_nil) pk_nil))) pa_nil))))))) (pss_one ps_never) pss_nil)
      (pss_cons (ps_if (PW.pt (pw_or (pt_not (pt_val (pe_cg (ok_is_table T) (g.mono (by decide : 3 ≤ 3)) (by rfl) T.m_is_table T.F_is_table.kp (OB.Fun.bd T.F_is_table (ps := ["value"]) (n := 1) (ks := []) (ix := [0]) (fun _ _ _ _ _ _ us ws h1 h2 => match us, ws, h1, h2 with | [_], [], _, _ => rfl)) pass0 (pa_cons (pv 1) pa_nil) pk_nil))) (pw_or1 (pt_not (pt_val (pe_callB (toK (r := rAll) (K := K) rfl (cr_all rfl)) (by rfl) T.n_all (by decide +kernel) (pa_cons (pe_lc (own := [("day", 3), ("value", 4)]) (tt := tYes) rfl sc_check_tables.nd (pi_seq (pv 1)) (blkOk_by (N := names_check_tables) (sc := defScope (top 34)) (own := [("day", 3), ("value", 4)]) (by decide +kernel)) (fun _ _ _ _ _ => (pg_tupK (K := K) rfl (n := 2) rfl (pgs_cons (pg_name (i := 3) sc_check_tables.nd rfl (by first | exact Or.inl rfl | exact Or.inr rfl)) (pgs_cons (pg_name (i := 4) sc_check_tables.nd rfl (by first | exact Or.inl rfl | exact Or.inr rfl)) pgs_nil)))) (fun _ _ _ _ _ => pts_nil) (fun _ _ _ _ _ => (pe_cg (ok_is_rate T) (g.mono (by decide : 3 ≤ 3)) (by rfl) T.m_is_rate T.F_is_rate.kp (OB.Fun.bd T.F_is_rate (ps := ["value"]) (n := 1) (ks := []) (ix := [0]) (fun _ _ _ _ _ _ us ws h1 h2 => match us, ws, h1, h2 with | [_], [], _, _ => rfl)) pass0 (pa_cons (pv 4) pa_nil) pk_nil))) pa_nil))))))) (pss_one ps_never) pss_nil)
      (pss_one (ps_if (PW.pt (pw_or (pt_not (pt_val (pe_cg (ok_is_table T) (g.mono (by decide : 3 ≤ 3)) (by rfl) T.m_is_table T.F_is_table.kp (OB.Fun.bd T.F_is_table (ps := ["value"]) (n := 1) (ks := []) (ix := [0]) (fun _ _ _ _ _ _ us ws h1 h2 => match us, ws, h1, h2 with | [_], [], _, _ => rfl)) pass0 (pa_cons (pv 2) pa_nil) pk_nil))) (pw_or1 (pt_not (pt_val (pe_callB (toK (r := rAll) (K := K) rfl (cr_all rfl)) (by rfl) T.n_all (by decide +kernel) (pa_cons (pe_lc (own := [("day", 3), ("value", 4)]) (tt := tYes) rfl sc_check_tables.nd (pi_seq (pv 2)) (blkOk_by (N := names_check_tables) (sc := defScope (top 34)) (own := [("day", 3), ("value", 4)]) (by decide +kernel)) (fun _ _ _ _ _ => (pg_tupK (K := K) rfl (n := 2) rfl (pgs_cons (pg_name (i := 3) sc_check_tables.nd rfl (by first | exact Or.inl rfl | exact Or.inr rfl)) (pgs_cons (pg_name (i := 4) sc_check_tables.nd rfl (by first | exact Or.inl rfl | exact Or.inr rfl)) pgs_nil)))) (fun _ _ _ _ _ => pts_nil) (fun _ _ _ _ _ => (pe_cg (ok_is_year T) (g.mono (by decide : 2 ≤ 3)) (by rfl) T.m_is_year T.F_is_year.kp (OB.Fun.bd T.F_is_year (ps := ["value"]) (n := 1) (ks := []) (ix := [0]) (fun _ _ _ _ _ _ us ws h1 h2 => match us, ws, h1, h2 with | [_], [], _, _ => rfl)) pass0 (pa_cons (pv 4) pa_nil) pk_nil))) pa_nil))))))) (pss_one ps_never) pss_nil)))), ?_⟩
  refine g_start (σ := [some _, some _, some _, none, none]) rfl ?_
  obtain ⟨_, xb, e, Sb⟩ := S.opn hb (tab_imm b)
  cases e
  obtain ⟨_, xr, e, Sr⟩ := Sb.opn hr (tab_imm r)
  cases e
  obtain ⟨_, xy, e, Sy'⟩ := Sr.opn hy (tab_imm y)
  cases e
  have S1 := ((Sy'.add _ (dat_tab hb)).add _ (dat_tab hr)).add _ (dat_tab hy)
  clear Sb Sr Sy'
  repeat walk_at "ob"
  refine use_is_table S1 (S1.dp 2 rfl) ok.b0 fun H1 S2 => ?_
  clear S1
  repeat walk_at "ob"
  refine g_lcS (a := pb) (xs := xb) false (fun i F' ds => F' = F ∧ ds = List.replicate i (.bool true) ∧ i ≤ xb.length) S2 (fun Q' q => by walk_at "ob"; exact q) ⟨rfl, rfl, Nat.zero_le _⟩ (fun i F' ds H' _ S3 => S3.tqs 7 rfl) (fun i F' ds hi => by
    have e1 := dps_length (S2.dps 8 rfl)
    have e2 := ok.b0.len
    rw [List.length_map] at e1
    rw [hi.2.1, List.length_replicate]; omega) ?_ ?_
  · intro i x hx Da H2 F2 vs ds QE QR hi S3 kE kR
    obtain ⟨rfl, rfl, hi2⟩ := hi
    obtain ⟨z, hz, hds⟩ := dps_map (S3.dps 9 rfl) hx
    obtain ⟨q, ys, rfl, _⟩ := dp_at hds
    have hs := sqt_row hds
    have hb1 := ok.b1 z (List.mem_of_getElem? hz)
    repeat walk_at "ob"
    refine ⟨rfl, ?_⟩
    repeat walk_at "ob"
    rw [show decide (-1000000000000 ≤ z.2 ∧ z.2 ≤ 1000000000000) = true from decide_eq_true hb1]
    refine kE _ (.bool true) _ _ ⟨rfl, by rw [List.replicate_succ'], (List.getElem?_eq_some_iff.mp hx).1⟩ (S3.fact (dps_one (L2.Dp.bl true)) rfl)
  intro Daa H2a F2a vs ds hD hi S3
  obtain ⟨e, rfl, _⟩ := hi
  subst e
  have hv := trues (S3.dps 0 rfl)
  subst hv
  repeat walk_at "ob"
  refine g_all (by walk_at "obl") ?_
  rw [all_true]
  have S4a := S3.less.drop
  clear S3
  repeat walk_at "ob"
  refine use_is_table S4a (S4a.dp 1 rfl) ok.r0 fun H3 S5 => ?_
  clear S4a S2
  repeat walk_at "ob"
  refine g_lcS (a := pr) (xs := xr) false (fun i F' ds => F' = F2a ∧ ds = List.replicate i (.bool true) ∧ i ≤ xr.length) S5 (fun Q' q => by walk_at "ob"; exact q) ⟨rfl, rfl, Nat.zero_le _⟩ (fun i F' ds H' _ S3 => S3.tqs 5 rfl) (fun i F' ds hi => by
    have e1 := dps_length (S5.dps 6 rfl)
    have e2 := ok.r0.len
    rw [List.length_map] at e1
    rw [hi.2.1, List.length_replicate]; omega) ?_ ?_
  · intro i x hx Da H2 F2 vs ds QE QR hi S3 kE kR
    obtain ⟨rfl, rfl, hi2⟩ := hi
    obtain ⟨z, hz, hds⟩ := dps_map (S3.dps 7 rfl) hx
    obtain ⟨q, ys, rfl, _⟩ := dp_at hds
    have hs := sqt_row hds
    have hb1 := ok.r1 z (List.mem_of_getElem? hz)
    repeat walk_at "ob"
    refine ⟨rfl, ?_⟩
    repeat walk_at "ob"
    rw [show decide (0 ≤ z.2 ∧ z.2 ≤ 1000000) = true from decide_eq_true hb1]
    refine kE _ (.bool true) _ _ ⟨rfl, by rw [List.replicate_succ'], (List.getElem?_eq_some_iff.mp hx).1⟩ (S3.fact (dps_one (L2.Dp.bl true)) rfl)
  intro Dab H2b F2b vs ds hD hi S3
  obtain ⟨e, rfl, _⟩ := hi
  subst e
  have hv := trues (S3.dps 0 rfl)
  subst hv
  repeat walk_at "ob"
  refine g_all (by walk_at "obl") ?_
  rw [all_true]
  have S4b := S3.less.drop
  clear S3
  repeat walk_at "ob"
  refine use_is_table S4b (S4b.dp 0 rfl) ok.y0 fun H4 S6 => ?_
  clear S4b S5
  repeat walk_at "ob"
  refine g_lcS (a := py) (xs := xy) false (fun i F' ds => F' = F2b ∧ ds = List.replicate i (.bool true) ∧ i ≤ xy.length) S6 (fun Q' q => by walk_at "ob"; exact q) ⟨rfl, rfl, Nat.zero_le _⟩ (fun i F' ds H' _ S3 => S3.tqs 3 rfl) (fun i F' ds hi => by
    have e1 := dps_length (S6.dps 4 rfl)
    have e2 := ok.y0.len
    rw [List.length_map] at e1
    rw [hi.2.1, List.length_replicate]; omega) ?_ ?_
  · intro i x hx Da H2 F2 vs ds QE QR hi S3 kE kR
    obtain ⟨rfl, rfl, hi2⟩ := hi
    obtain ⟨z, hz, hds⟩ := dps_map (S3.dps 5 rfl) hx
    obtain ⟨q, ys, rfl, _⟩ := dp_at hds
    have hs := sqt_row hds
    have hb1 := ok.y1 z (List.mem_of_getElem? hz)
    repeat walk_at "ob"
    refine ⟨rfl, ?_⟩
    repeat walk_at "ob"
    refine kE _ (.bool true) _ _ ⟨rfl, by rw [List.replicate_succ'], (List.getElem?_eq_some_iff.mp hx).1⟩ (S3.fact (dps_one (L2.Dp.bl true)) rfl)
  intro Dac H2c F2c vs ds hD hi S3
  obtain ⟨e, rfl, _⟩ := hi
  subst e
  have hv := trues (S3.dps 0 rfl)
  subst hv
  repeat walk_at "ob"
  refine g_all (by walk_at "obl") ?_
  rw [all_true]
  have S4c := S3.less.drop
  clear S3
  repeat walk_at "ob"
  exact k _ S4c.drop.drop.drop.drop.drop.drop.drop.drop.drop
end
end LAW

set_option Elab.async false
set_option linter.all false
set_option maxRecDepth 100000
namespace LAW
open PySem PySem.Spec PyProof.Rows L2 PySem.W OB
local macro_rules | `(tactic| walk_at "obc") => `(tactic| first
  | exact Or.inl ⟨by omega, by omega⟩
  | exact Or.inr ⟨by omega, by omega⟩
  | exact cdiv_ok (by omega) (by omega)
  | (show (0 : Int) < _; omega)
  | exact ⟨by omega, by decide⟩
  | exact ⟨by decide, by decide⟩)
local macro_rules | `(tactic| walk_at "obat") => `(tactic| first
  | exact Sy.at (by assumption) 0 rfl | exact Sy.at (by assumption) 1 rfl | exact Sy.at (by assumption) 2 rfl | exact Sy.at (by assumption) 3 rfl
  | exact Sy.at (by assumption) 4 rfl | exact Sy.at (by assumption) 5 rfl | exact Sy.at (by assumption) 6 rfl | exact Sy.at (by assumption) _ (by assumption) | exact Sy.at (by assumption) (_ + 1) (by assumption) | exact Sy.at (by assumption) (_ + 2) (by assumption))
local macro_rules | `(tactic| walk_at "obt") => `(tactic| first
  | exact Sy.tqs (by assumption) 0 rfl | exact Sy.tqs (by assumption) 1 rfl | exact Sy.tqs (by assumption) 2 rfl | exact Sy.tqs (by assumption) 3 rfl | exact Sy.tqs (by assumption) 4 rfl | exact Sy.tqs (by assumption) 5 rfl
  | exact Sy.tqs (by assumption) 6 rfl | exact Sy.tqs (by assumption) 7 rfl | assumption)
local macro_rules | `(tactic| walk_at "obl") => `(tactic| first
  | exact SqL.of (by walk_at "obat")
  | exact Sy.sq (by assumption) 0 rfl | exact Sy.sq (by assumption) 1 rfl | exact Sy.sq (by assumption) 2 rfl | exact Sy.sq (by assumption) 3 rfl | exact Sy.sq (by assumption) _ (by assumption))
local macro_rules | `(tactic| walk_at "obd") => `(tactic| first
  | exact Dp.int _ | exact Dp.bl _ | exact Dp.str _ | exact Dp.non
  | exact Sy.dp (by assumption) 0 rfl | exact Sy.dp (by assumption) 1 rfl | exact Sy.dp (by assumption) 2 rfl | exact Sy.dp (by assumption) 3 rfl
  | exact Sy.dp (by assumption) 4 rfl | exact Sy.dp (by assumption) 5 rfl | exact Sy.dp (by assumption) 6 rfl | exact Sy.dp (by assumption) 7 rfl
  | exact Sy.dp (by assumption) 8 rfl | exact Sy.dp (by assumption) 9 rfl | exact Sy.dp (by assumption) _ (by assumption) | assumption)
local macro_rules | `(tactic| walk_at "obds") => `(tactic| first
  | exact DpAll.nil
  | (refine' DpAll.cons ?ob1 ?ob2; (case ob1 => walk_at "obd"); (case ob2 => walk_at "obds"))
  | exact Sy.dps (by assumption) 0 rfl | exact Sy.dps (by assumption) 1 rfl | exact Sy.dps (by assumption) 2 rfl | exact Sy.dps (by assumption) 3 rfl | assumption)
local macro_rules | `(tactic| walk_at "obsc") => `(tactic| first
  | exact ScL.nil
  | ((first | refine' ScL.int ?obz | refine' ScL.str ?obz | refine' ScL.bl ?obz | refine' ScL.non ?obz); (case obz => walk_at "obsc")))
local macro_rules | `(tactic| walk_at "ob1") => `(tactic| first
  | ((with_reducible refine' g_var ?obh ?_); (case obh => rfl))
  | with_reducible refine g_c ?_
  | with_reducible refine g_nx ?_
  | with_reducible refine g_rt ?_
  | with_reducible refine g_bk ?_
  | with_reducible refine g_ct ?_
  | with_reducible refine g_op ?_
  | with_reducible refine g_I0 ?_
  | with_reducible refine g_test ?_
  | with_reducible refine g_bl ?_
  | with_reducible refine g_blx ?_
  | with_reducible refine g_B ?_
  | with_reducible refine g_seq ?_
  | with_reducible refine g_asg ?_
  | with_reducible refine g_name ?_
  | with_reducible refine g_ifS ?_
  | with_reducible refine g_ret ?_
  | with_reducible refine g_cb ?_
  | with_reducible refine g_cons ?_
  | with_reducible refine g_nil ?_
  | with_reducible refine g_int ?_
  | with_reducible refine g_intB ?_
  | with_reducible refine g_abs ?_
  | with_reducible refine g_max ?_
  | with_reducible refine g_min ?_
  | with_reducible refine g_un ?_
  | with_reducible refine g_U ?_
  | with_reducible refine g_eqI ?_
  | with_reducible refine g_neI ?_
  | with_reducible refine g_eqS ?_
  | with_reducible refine g_neS ?_
  | with_reducible refine g_tt ?_
  | with_reducible refine g_ff ?_
  | with_reducible refine g_next ?_
  | with_reducible refine g_drop ?_
  | with_reducible refine g_if ?_
  | with_reducible refine g_andV ?_
  | with_reducible refine g_orV ?_
  | with_reducible refine g_notV ?_
  | with_reducible refine g_and ?_
  | with_reducible refine g_or ?_
  | with_reducible refine g_not ?_
  | with_reducible refine g_yes ?_
  | with_reducible refine g_chain ?_
  | with_reducible refine g_cg ?_
  | with_reducible refine g_mg ?_
  | with_reducible refine g_kg ?_
  | with_reducible refine g_pg ?_
  | ((with_reducible refine' g_call ?obh ?obj ?_); (case obh => rfl); (case obj => rfl))
  | with_reducible refine g_par ?_
  | with_reducible refine g_par2 ?_
  | with_reducible refine g_par3 ?_
  | with_reducible refine g_par33 ?_
  | with_reducible refine g_gnil ?_
  | with_reducible refine g_gcons ?_
  | with_reducible refine g_gsub ?_
  | with_reducible refine g_ipI ?_
  | with_reducible refine g_rAdd ?_
  | with_reducible refine g_rSub ?_
  | ((with_reducible refine' g_aug ?obh ?_); (case obh => rfl))
  | with_reducible refine g_tup ?_
  | with_reducible refine g_lst ?_
  | with_reducible refine g_bm ?_
  | with_reducible refine g_bm0 ?_
  | with_reducible refine g_sl ?_
  | with_reducible refine g_nopart ?_
  | with_reducible refine g_part ?_
  | with_reducible refine g_pint ?_
  | with_reducible refine isi_int ?_
  | with_reducible refine isi_intB ?_
  | ((with_reducible refine' g_I ?obh ?_); (case obh => walk_at "obc"))
  | ((with_reducible refine' g_tyl ?obh ?_); (case obh => walk_at "obl"))
  | ((with_reducible refine' g_lenL ?obh ?_); (case obh => walk_at "obl"))
  | with_reducible refine g_ne ?_
  | ((with_reducible refine' g_neN' ?obh ?_); (case obh => rfl))
  | with_reducible refine g_ntt ?_
  | with_reducible refine g_nff ?_
  | with_reducible refine g_star ?_
  | with_reducible refine g_att ?_
  | with_reducible refine g_sfld ?_
  | with_reducible refine g_faug ?_
  | with_reducible refine g_fld ?_
  | ((with_reducible refine' g_nF ?obh ?_); (case obh => omega))
  | ((with_reducible refine' g_nT ?obh ?_); (case obh => omega))
  | ((with_reducible refine' g_TD ?obh ?_); (case obh => omega))
  | ((with_reducible refine' g_FD ?obh ?_); (case obh => omega))
  | ((with_reducible refine' g_ixUL ?obh ?obi ?_); (case obh => walk_at "obl"); (case obi => exact atI_nn (by omega) (by rfl)))
  | ((with_reducible refine' g_setLS ?obs ?obh ?obi ?_); (case obs => assumption); (case obh => assumption); (case obi => rfl); intro _ _ _)
  | ((with_reducible refine' g_newT ?obs ?obh ?obi ?obj ?_); (case obs => assumption); (case obh => walk_at "obds"); (case obi => rfl); (case obj => exact Nat.le_of_ble_eq_true rfl); intro _ _ _ _)
  | ((with_reducible refine' g_newL ?obs ?obj ?_); (case obs => assumption); (case obj => exact Nat.le_of_ble_eq_true rfl); intro _ _ _ _)
  | ((with_reducible refine' isi_tup ?obh ?_); (case obh => walk_at "obt"))
  | ((with_reducible refine' g_lenT ?obh ?_); (case obh => walk_at "obt"))
  | ((with_reducible refine' g_unpT ?obh ?obi ?_); (case obh => walk_at "obt"); (case obi => rfl))
  | ((with_reducible refine' g_divmod ?obs ?obh ?_); (case obs => assumption); (case obh => exact cdivp_ok (by omega) (by omega) (by omega)); intro _ _ _ _)
  | ((with_reducible refine' g_unpD ?obh ?obi ?obj ?_); (case obh => walk_at "obd"); (case obi => walk_at "obsc"); (case obj => rfl))
  | with_reducible refine g_att ?_)
local macro_rules | `(tactic| walk_at "obat19") => `(tactic| first | assumption | walk_at "obat")
local macro_rules | `(tactic| walk_at "ob") => `(tactic| first
  | walk_at "ob1"
  | refine use_is_integer ?_
  | refine use_is_within ?_
  | refine use_balance ?_
  | refine use_rate ?_
  | refine use_year (by assumption) ?_
  | refine use_unit ?_
  | refine use_rest (by omega) (by omega) ?_
  | refine use_parts (by walk_at "obd") (by assumption) ?_
  | refine use_is_stretch (by walk_at "obd") (by assumption) ?_
  | refine g_unpT (sqt_enc (by walk_at "obd")) rfl ?_
  | ((with_reducible refine' g_fldS ?obh ?obc ?obn ?obe ?_); (case obh => walk_at "obat19"); (case obc => exact AccC.c (by assumption)); (case obn => first | exact AccC.n1 (by assumption) | exact AccC.n2 (by assumption) | exact AccC.n3 (by assumption)); (case obe => rfl))
  | ((with_reducible refine' g_attS ?obs ?obh ?obc ?obn ?obl ?_); (case obs => assumption); (case obh => assumption); (case obc => exact AccC.c (by assumption)); (case obn => first | exact AccC.n1 (by assumption) | exact AccC.n2 (by assumption) | exact AccC.n3 (by assumption)); (case obl => exact Nat.le_of_ble_eq_true rfl); intro _ _ _)
  | ((with_reducible refine' g_augS ?obh ?obc ?obn ?obe ?_); (case obh => walk_at "obat19"); (case obc => exact AccC.c (by assumption)); (case obn => first | exact AccC.n1 (by assumption) | exact AccC.n2 (by assumption) | exact AccC.n3 (by assumption)); (case obe => rfl))
  | ((with_reducible refine' g_augE ?obs ?obh ?obl ?_); (case obs => assumption); (case obh => assumption); (case obl => exact Nat.le_of_ble_eq_true rfl); intro _ _ _)
  | ((with_reducible refine' g_ixUT ?obh ?obi ?_); (case obh => first | exact sqt_enc (by walk_at "obd") | walk_at "obt"); (case obi => rfl))
  | refine use_prest (by walk_at "obat19") (by assumption) ?_
  | refine use_ppaid (by walk_at "obat19") (by assumption) ?_
  | refine use_pdays (by walk_at "obat19") (by assumption) ?_
  | with_reducible refine g_lstRg ?_
  | with_reducible refine g_rg1 ?_
  | with_reducible refine g_rg2 ?_)
section
variable {P : Program} {w : World} {K : Frag} {mg : Str → Option Value} {base : Heap}
/-! ### the value of a table on a day -/
def valsTo (t : List (Int × Int)) (d : Int) : List Int := (t.filter fun x => decide (x.1 ≤ d)).map (·.2)
def valOn (t : List (Int × Int)) (d : Int) : Int := (valsTo t d).getLastD 0
theorem atI_lastD {L : List Int} (h : L ≠ []) : atI (L.map V.int) (-1) = some (.int (L.getLastD 0)) := by
  have e : L = L.dropLast ++ [L.getLast h] := (List.dropLast_concat_getLast h).symm
  have e2 : L.getLastD 0 = L.getLast h := by rw [List.getLastD_eq_getLast?, List.getLast?_eq_some_getLast h]; rfl
  rw [e2]
  conv => lhs; rw [e, List.map_append]
  exact atI_last
theorem vals_ne {t : List (Int × Int)} {d : Int} (h : ∃ v r, t = (0, v) :: r) (d0 : 0 ≤ d) : valsTo t d ≠ [] := by
  obtain ⟨v, r, rfl⟩ := h
  unfold valsTo
  rw [List.filter_cons, if_pos (decide_eq_true d0), List.map_cons]
  exact List.cons_ne_nil _ _
def sp_value_on (K : Frag) : Sp := fun vs H Q E => vs.length = 2 ∧ ∃ (F : List (Addr × HO)) (G : List Ft) (p : Addr) (t : List (Int × Int)) (d : Int), vs = [.ref p, .int d] ∧ Sy K F G H ∧ L2.Dp K H (.ref p) (tabD t) ∧ t.length ≤ 20 ∧ (∃ v r, t = (0, v) :: r) ∧ 0 ≤ d ∧ ∀ H', Sy K F G H' → Q (.int (valOn t d)) H'
def sp_law_value_at (K : Frag) : Sp := sp_value_on K
abbrev names_value_on : List Str := ["table", "day", "since", "value"]
theorem sc_value_on : FnScope names_value_on ["table", "day"] (defScope (top 35)) := ⟨rfl, rfl, rfl, by decide +kernel, rfl, by decide +kernel, by decide +kernel⟩
set_option maxHeartbeats 4000000 in
theorem ok_value_on (T : Tx K mg) : FG P w K mg base CX0 1 T.a_value_on T.d_value_on ["table", "day"] (sp_value_on K) := by
  refine OB.Fun.fg T.F_value_on sc_value_on (fun vs H Q E h => h.1) (fun cdv A out s H vs Q E g h => ?_)
  obtain ⟨_, F, G, p, t, d, rfl, S, hd, tl, t0, d0, k⟩ := h
  refine ⟨_, (pss_one (ps_ret (pe_ix (ix_UK (K := K) rfl) (pe_lc (own := [("since", 2), ("value", 3)]) rfl sc_value_on.nd (pi_seq (pv 0)) (blkOk_by (N := names_value_on) (sc := defScope (top 35)) (own := [("since", 2), ("value", 3)]) (by decide +kernel)) (fun _ _ _ _ _ => (pg_tupK (K := K) rfl (n := 2) rfl (pgs_cons (pg_name (i := 2) sc_value_on.nd rfl (by first | exact Or.inl rfl | exact Or.inr rfl)) (pgs_cons (pg_name (i := 3) sc_value_on.nd rfl (by first | exact Or.inl rfl | exact Or.inr rfl)) pgs_nil)))) (fun _ _ _ _ _ => pts_one (pt_cmpR op_le (pv 2) (pv 1) (nomark _))) (fun _ _ _ _ _ => (pv 3))) (pe_un un_neg pe_int) (fun _ _ => rfl)))), ?_⟩
  refine g_start (σ := [some _, some _, none, none]) rfl ?_
  obtain ⟨a, xs, e, S0⟩ := S.opn hd (tab_imm t)
  cases e
  have hlen : xs.length = t.length := by rw [dps_length (S0.dps 1 rfl), List.length_map]
  repeat walk_at "ob"
  refine g_lcS (a := p) (xs := xs) false (fun i F' ds => F' = F ∧ ds = (valsTo (t.take i) d).map .int) S0 (fun Q' q => by walk_at "ob"; exact q) ⟨rfl, rfl⟩ (fun i F' ds H' _ S3 => S3.tqs 0 rfl) (fun i F' ds hi => by
    have e1 := List.length_filter_le (fun x : Int × Int => decide (x.1 ≤ d)) (t.take i)
    rw [List.length_take] at e1
    rw [hi.2, List.length_map]
    unfold valsTo
    rw [List.length_map]
    omega) ?_ ?_
  · intro i x hx Da H2 F2 vs ds QE QR hi S3 kE kR
    obtain ⟨rfl, rfl⟩ := hi
    obtain ⟨z, hz, hds⟩ := dps_map (S3.dps 2 rfl) hx
    obtain ⟨q, ys, rfl, _⟩ := dp_at hds
    have hs := sqt_row hds
    repeat walk_at "ob"
    refine ⟨rfl, ?_⟩
    repeat walk_at "ob"
    refine g_iteD (fun h1 => ?_) (fun h1 => ?_)
    · repeat walk_at "ob"
      refine kE _ (.int z.2) _ _ ⟨rfl, ?_⟩ (S3.fact (dps_one (L2.Dp.int _)) rfl)
      unfold valsTo
      rw [List.take_add_one, hz, List.filter_append, List.map_append, List.map_append]
      congr 1
      simp [h1]
    · refine kR _ _ ⟨rfl, ?_⟩ S3
      unfold valsTo
      rw [List.take_add_one, hz, List.filter_append, List.map_append]
      simp [h1]
  intro Da H2 F2 vs ds hD hi S3
  obtain ⟨rfl, rfl⟩ := hi
  have hv : vs = (valsTo t d).map V.int := by
    rw [dps_scal (S3.dps 0 rfl) (by intro d hd; obtain ⟨s, _, rfl⟩ := List.mem_map.mp hd; rfl), hlen, List.take_length, List.map_map]
    rfl
  subst hv
  repeat walk_at "ob"
  refine g_ixUL (SqL.of (S3.at 0 rfl)) (atI_lastD (vals_ne t0 d0)) ?_
  repeat walk_at "ob"
  exact k _ S3.less.drop.drop.drop
abbrev names_law_value_at : List Str := ["table", "day", "first", "value"]
theorem sc_law_value_at : FnScope names_law_value_at ["table", "day"] (defScope (top 49)) := ⟨rfl, rfl, rfl, by decide +kernel, rfl, by decide +kernel, by decide +kernel⟩
set_option maxHeartbeats 4000000 in
theorem ok_law_value_at (T : Tx K mg) : FG P w K mg base CX0 1 T.a_law_value_at T.d_law_value_at ["table", "day"] (sp_law_value_at K) := by
  refine OB.Fun.fg T.F_law_value_at sc_law_value_at (fun vs H Q E h => h.1) (fun cdv A out s H vs Q E g h => ?_)
  obtain ⟨_, F, G, p, t, d, rfl, S, hd, tl, t0, d0, k⟩ := h
  refine ⟨_, (pss_one (ps_ret (pe_ix (ix_UK (K := K) rfl) (pe_lc (own := [("first", 2), ("value", 3)]) rfl sc_law_value_at.nd (pi_seq (pv 0)) (blkOk_by (N := names_law_value_at) (sc := defScope (top 49)) (own := [("first", 2), ("value", 3)]) (by decide +kernel)) (fun _ _ _ _ _ => (pg_tupK (K := K) rfl (n := 2) rfl (pgs_cons (pg_name (i := 2) sc_law_value_at.nd rfl (by first | exact Or.inl rfl | exact Or.inr rfl)) (pgs_cons (pg_name (i := 3) sc_law_value_at.nd rfl (by first | exact Or.inl rfl | exact Or.inr rfl)) pgs_nil)))) (fun _ _ _ _ _ => pts_one (pt_cmpR op_le (pv 2) (pv 1) (nomark _))) (fun _ _ _ _ _ => (pv 3))) (pe_un un_neg pe_int) (fun _ _ => rfl)))), ?_⟩
  refine g_start (σ := [some _, some _, none, none]) rfl ?_
  obtain ⟨a, xs, e, S0⟩ := S.opn hd (tab_imm t)
  cases e
  have hlen : xs.length = t.length := by rw [dps_length (S0.dps 1 rfl), List.length_map]
  repeat walk_at "ob"
  refine g_lcS (a := p) (xs := xs) false (fun i F' ds => F' = F ∧ ds = (valsTo (t.take i) d).map .int) S0 (fun Q' q => by walk_at "ob"; exact q) ⟨rfl, rfl⟩ (fun i F' ds H' _ S3 => S3.tqs 0 rfl) (fun i F' ds hi => by
    have e1 := List.length_filter_le (fun x : Int × Int => decide (x.1 ≤ d)) (t.take i)
    rw [List.length_take] at e1
    rw [hi.2, List.length_map]
    unfold valsTo
    rw [List.length_map]
    omega) ?_ ?_
  · intro i x hx Da H2 F2 vs ds QE QR hi S3 kE kR
    obtain ⟨rfl, rfl⟩ := hi
    obtain ⟨z, hz, hds⟩ := dps_map (S3.dps 2 rfl) hx
    obtain ⟨q, ys, rfl, _⟩ := dp_at hds
    have hs := sqt_row hds
    repeat walk_at "ob"
    refine ⟨rfl, ?_⟩
    repeat walk_at "ob"
    refine g_iteD (fun h1 => ?_) (fun h1 => ?_)
    · repeat walk_at "ob"
      refine kE _ (.int z.2) _ _ ⟨rfl, ?_⟩ (S3.fact (dps_one (L2.Dp.int _)) rfl)
      unfold valsTo
      rw [List.take_add_one, hz, List.filter_append, List.map_append, List.map_append]
      congr 1
      simp [h1]
    · refine kR _ _ ⟨rfl, ?_⟩ S3
      unfold valsTo
      rw [List.take_add_one, hz, List.filter_append, List.map_append]
      simp [h1]
  intro Da H2 F2 vs ds hD hi S3
  obtain ⟨rfl, rfl⟩ := hi
  have hv : vs = (valsTo t d).map V.int := by
    rw [dps_scal (S3.dps 0 rfl) (by intro d hd; obtain ⟨s, _, rfl⟩ := List.mem_map.mp hd; rfl), hlen, List.take_length, List.map_map]
    rfl
  subst hv
  repeat walk_at "ob"
  refine g_ixUL (SqL.of (S3.at 0 rfl)) (atI_lastD (vals_ne t0 d0)) ?_
  repeat walk_at "ob"
  exact k _ S3.less.drop.drop.drop
theorem use_value_on {F : List (Addr × HO)} {G : List Ft} {H : Hp} {Q : VK} {E : XK} {p : Addr} {t : List (Int × Int)} {d : Int} (S : Sy K F G H) (hd : L2.Dp K H (.ref p) (tabD t)) (tl : t.length ≤ 20) (t0 : ∃ v r, t = (0, v) :: r) (d0 : 0 ≤ d) (k : ∀ H', Sy K F G H' → Q (.int (valOn t d)) H') : sp_value_on K [.ref p, .int d] H Q E := ⟨rfl, F, G, p, t, d, rfl, S, hd, tl, t0, d0, k⟩
/-! ### ends -/
structure EndsOk (es : List Int) : Prop where
  len : es.length ≤ 20
  e0 : ∀ e ∈ es, 1 ≤ e ∧ e ≤ 100000
  up : es.Pairwise (· < ·)
theorem sqt_ints {H : Hp} {p : Addr} {es : List Int} (h : L2.Dp K H (.ref p) (.tuple (es.map .int))) : SqT K H p (es.map V.int) := by
  have q := sqt_scal h fun d hd => by
    obtain ⟨s, _, rfl⟩ := List.mem_map.mp hd
    rfl
  rw [List.map_map] at q
  exact q
theorem g_slA {F : List (Addr × HO)} {G : List Ft} {H : Hp} {Q : VK} {l : Addr} {vs : List V} (S : Sy K F G H) (h : SqT K H l vs) (k : ∀ p H', Sy K F (.tq p (vs.drop 1) :: G) H' → Q (.ref p) H') : rSlU K (.ref l) (some 1) none H Q := by
  refine .inl ⟨l, vs, rfl, h, fun z => ?_, fun _ p hp => ?_⟩
  · refine k l H (S.add (.tq l (vs.drop 1)) ?_)
    have e : vs.drop 1 = vs := by
      rw [← cut_tail]
      unfold cutV
      rw [z.1, z.2, List.drop_zero, Nat.sub_zero, List.take_length]
    rw [e]
    exact h
  · rw [cut_tail]
    exact k p _ ((S.over hp).add (.tq p _) (.inl (.inl upd_same)))
theorem up_nextI {t : List Int} (h : t.Pairwise (· < ·)) {i : Nat} {x y : Int} (hx : t[i]? = some x) (hy : t[i + 1]? = some y) : x < y := by
  obtain ⟨l1, e1⟩ := List.getElem?_eq_some_iff.mp hx
  obtain ⟨l2, e2⟩ := List.getElem?_eq_some_iff.mp hy
  have := List.pairwise_iff_getElem.mp h i (i + 1) l1 l2 (by omega)
  rw [e1, e2] at this
  exact this
def sp_check_ends (K : Frag) : Sp := fun vs H Q E => vs.length = 1 ∧ ∃ (F : List (Addr × HO)) (G : List Ft) (p : Addr) (es : List Int), vs = [.ref p] ∧ Sy K F G H ∧ L2.Dp K H (.ref p) (.tuple (es.map .int)) ∧ EndsOk es ∧ ∀ H', Sy K F G H' → Q .non H'
end
end LAW

set_option Elab.async false
set_option linter.all false
set_option maxRecDepth 100000
namespace LAW
open PySem PySem.Spec PyProof.Rows L2 PySem.W OB
local macro_rules | `(tactic| walk_at "obc") => `(tactic| first
  | exact Or.inl ⟨by omega, by omega⟩
  | exact Or.inr ⟨by omega, by omega⟩
  | exact cdiv_ok (by omega) (by omega)
  | (show (0 : Int) < _; omega)
  | exact ⟨by omega, by decide⟩
  | exact ⟨by decide, by decide⟩)
local macro_rules | `(tactic| walk_at "obat") => `(tactic| first
  | exact Sy.at (by assumption) 0 rfl | exact Sy.at (by assumption) 1 rfl | exact Sy.at (by assumption) 2 rfl | exact Sy.at (by assumption) 3 rfl
  | exact Sy.at (by assumption) 4 rfl | exact Sy.at (by assumption) 5 rfl | exact Sy.at (by assumption) 6 rfl | exact Sy.at (by assumption) _ (by assumption) | exact Sy.at (by assumption) (_ + 1) (by assumption) | exact Sy.at (by assumption) (_ + 2) (by assumption))
local macro_rules | `(tactic| walk_at "obt") => `(tactic| first
  | exact Sy.tqs (by assumption) 0 rfl | exact Sy.tqs (by assumption) 1 rfl | exact Sy.tqs (by assumption) 2 rfl | exact Sy.tqs (by assumption) 3 rfl | exact Sy.tqs (by assumption) 4 rfl | exact Sy.tqs (by assumption) 5 rfl
  | exact Sy.tqs (by assumption) 6 rfl | exact Sy.tqs (by assumption) 7 rfl | assumption)
local macro_rules | `(tactic| walk_at "obl") => `(tactic| first
  | exact SqL.of (by walk_at "obat")
  | exact Sy.sq (by assumption) 0 rfl | exact Sy.sq (by assumption) 1 rfl | exact Sy.sq (by assumption) 2 rfl | exact Sy.sq (by assumption) 3 rfl | exact Sy.sq (by assumption) _ (by assumption))
local macro_rules | `(tactic| walk_at "obd") => `(tactic| first
  | exact Dp.int _ | exact Dp.bl _ | exact Dp.str _ | exact Dp.non
  | exact Sy.dp (by assumption) 0 rfl | exact Sy.dp (by assumption) 1 rfl | exact Sy.dp (by assumption) 2 rfl | exact Sy.dp (by assumption) 3 rfl
  | exact Sy.dp (by assumption) 4 rfl | exact Sy.dp (by assumption) 5 rfl | exact Sy.dp (by assumption) 6 rfl | exact Sy.dp (by assumption) 7 rfl
  | exact Sy.dp (by assumption) 8 rfl | exact Sy.dp (by assumption) 9 rfl | exact Sy.dp (by assumption) _ (by assumption) | assumption)
local macro_rules | `(tactic| walk_at "obds") => `(tactic| first
  | exact DpAll.nil
  | (refine' DpAll.cons ?ob1 ?ob2; (case ob1 => walk_at "obd"); (case ob2 => walk_at "obds"))
  | exact Sy.dps (by assumption) 0 rfl | exact Sy.dps (by assumption) 1 rfl | exact Sy.dps (by assumption) 2 rfl | exact Sy.dps (by assumption) 3 rfl | assumption)
local macro_rules | `(tactic| walk_at "obsc") => `(tactic| first
  | exact ScL.nil
  | ((first | refine' ScL.int ?obz | refine' ScL.str ?obz | refine' ScL.bl ?obz | refine' ScL.non ?obz); (case obz => walk_at "obsc")))
local macro_rules | `(tactic| walk_at "ob1") => `(tactic| first
  | ((with_reducible refine' g_var ?obh ?_); (case obh => rfl))
  | with_reducible refine g_c ?_
  | with_reducible refine g_nx ?_
  | with_reducible refine g_rt ?_
  | with_reducible refine g_bk ?_
  | with_reducible refine g_ct ?_
  | with_reducible refine g_op ?_
  | with_reducible refine g_I0 ?_
  | with_reducible refine g_test ?_
  | with_reducible refine g_bl ?_
  | with_reducible refine g_blx ?_
  | with_reducible refine g_B ?_
  | with_reducible refine g_seq ?_
  | with_reducible refine g_asg ?_
  | with_reducible refine g_name ?_
  | with_reducible refine g_ifS ?_
  | with_reducible refine g_ret ?_
  | with_reducible refine g_cb ?_
  | with_reducible refine g_cons ?_
  | with_reducible refine g_nil ?_
  | with_reducible refine g_int ?_
  | with_reducible refine g_intB ?_
  | with_reducible refine g_abs ?_
  | with_reducible refine g_max ?_
  | with_reducible refine g_min ?_
  | with_reducible refine g_un ?_
  | with_reducible refine g_U ?_
  | with_reducible refine g_eqI ?_
  | with_reducible refine g_neI ?_
  | with_reducible refine g_eqS ?_
  | with_reducible refine g_neS ?_
  | with_reducible refine g_tt ?_
  | with_reducible refine g_ff ?_
  | with_reducible refine g_next ?_
  | with_reducible refine g_drop ?_
  | with_reducible refine g_if ?_
  | with_reducible refine g_andV ?_
  | with_reducible refine g_orV ?_
  | with_reducible refine g_notV ?_
  | with_reducible refine g_and ?_
  | with_reducible refine g_or ?_
  | with_reducible refine g_not ?_
  | with_reducible refine g_yes ?_
  | with_reducible refine g_chain ?_
  | with_reducible refine g_cg ?_
  | with_reducible refine g_mg ?_
  | with_reducible refine g_kg ?_
  | with_reducible refine g_pg ?_
  | ((with_reducible refine' g_call ?obh ?obj ?_); (case obh => rfl); (case obj => rfl))
  | with_reducible refine g_par ?_
  | with_reducible refine g_par2 ?_
  | with_reducible refine g_par3 ?_
  | with_reducible refine g_par33 ?_
  | with_reducible refine g_gnil ?_
  | with_reducible refine g_gcons ?_
  | with_reducible refine g_gsub ?_
  | with_reducible refine g_ipI ?_
  | with_reducible refine g_rAdd ?_
  | with_reducible refine g_rSub ?_
  | ((with_reducible refine' g_aug ?obh ?_); (case obh => rfl))
  | with_reducible refine g_tup ?_
  | with_reducible refine g_lst ?_
  | with_reducible refine g_bm ?_
  | with_reducible refine g_bm0 ?_
  | with_reducible refine g_sl ?_
  | with_reducible refine g_nopart ?_
  | with_reducible refine g_part ?_
  | with_reducible refine g_pint ?_
  | with_reducible refine isi_int ?_
  | with_reducible refine isi_intB ?_
  | ((with_reducible refine' g_I ?obh ?_); (case obh => walk_at "obc"))
  | ((with_reducible refine' g_tyl ?obh ?_); (case obh => walk_at "obl"))
  | ((with_reducible refine' g_lenL ?obh ?_); (case obh => walk_at "obl"))
  | with_reducible refine g_ne ?_
  | ((with_reducible refine' g_neN' ?obh ?_); (case obh => rfl))
  | with_reducible refine g_ntt ?_
  | with_reducible refine g_nff ?_
  | with_reducible refine g_star ?_
  | with_reducible refine g_att ?_
  | with_reducible refine g_sfld ?_
  | with_reducible refine g_faug ?_
  | with_reducible refine g_fld ?_
  | ((with_reducible refine' g_nF ?obh ?_); (case obh => omega))
  | ((with_reducible refine' g_nT ?obh ?_); (case obh => omega))
  | ((with_reducible refine' g_TD ?obh ?_); (case obh => omega))
  | ((with_reducible refine' g_FD ?obh ?_); (case obh => omega))
  | ((with_reducible refine' g_ixUL ?obh ?obi ?_); (case obh => walk_at "obl"); (case obi => exact atI_nn (by omega) (by rfl)))
  | ((with_reducible refine' g_setLS ?obs ?obh ?obi ?_); (case obs => assumption); (case obh => assumption); (case obi => rfl); intro _ _ _)
  | ((with_reducible refine' g_newT ?obs ?obh ?obi ?obj ?_); (case obs => assumption); (case obh => walk_at "obds"); (case obi => rfl); (case obj => exact Nat.le_of_ble_eq_true rfl); intro _ _ _ _)
  | ((with_reducible refine' g_newL ?obs ?obj ?_); (case obs => assumption); (case obj => exact Nat.le_of_ble_eq_true rfl); intro _ _ _ _)
  | ((with_reducible refine' isi_tup ?obh ?_); (case obh => walk_at "obt"))
  | ((with_reducible refine' g_lenT ?obh ?_); (case obh => walk_at "obt"))
  | ((with_reducible refine' g_unpT ?obh ?obi ?_); (case obh => walk_at "obt"); (case obi => rfl))
  | ((with_reducible refine' g_divmod ?obs ?obh ?_); (case obs => assumption); (case obh => exact cdivp_ok (by omega) (by omega) (by omega)); intro _ _ _ _)
  | ((with_reducible refine' g_unpD ?obh ?obi ?obj ?_); (case obh => walk_at "obd"); (case obi => walk_at "obsc"); (case obj => rfl))
  | with_reducible refine g_att ?_)
local macro_rules | `(tactic| walk_at "obat19") => `(tactic| first | assumption | walk_at "obat")
local macro_rules | `(tactic| walk_at "ob") => `(tactic| first
  | walk_at "ob1"
  | refine use_is_integer ?_
  | refine use_is_within ?_
  | refine use_balance ?_
  | refine use_rate ?_
  | refine use_year (by assumption) ?_
  | refine use_unit ?_
  | refine use_rest (by omega) (by omega) ?_
  | refine use_parts (by walk_at "obd") (by assumption) ?_
  | refine use_is_stretch (by walk_at "obd") (by assumption) ?_
  | refine g_unpT (sqt_enc (by walk_at "obd")) rfl ?_
  | ((with_reducible refine' g_fldS ?obh ?obc ?obn ?obe ?_); (case obh => walk_at "obat19"); (case obc => exact AccC.c (by assumption)); (case obn => first | exact AccC.n1 (by assumption) | exact AccC.n2 (by assumption) | exact AccC.n3 (by assumption)); (case obe => rfl))
  | ((with_reducible refine' g_attS ?obs ?obh ?obc ?obn ?obl ?_); (case obs => assumption); (case obh => assumption); (case obc => exact AccC.c (by assumption)); (case obn => first | exact AccC.n1 (by assumption) | exact AccC.n2 (by assumption) | exact AccC.n3 (by assumption)); (case obl => exact Nat.le_of_ble_eq_true rfl); intro _ _ _)
  | ((with_reducible refine' g_augS ?obh ?obc ?obn ?obe ?_); (case obh => walk_at "obat19"); (case obc => exact AccC.c (by assumption)); (case obn => first | exact AccC.n1 (by assumption) | exact AccC.n2 (by assumption) | exact AccC.n3 (by assumption)); (case obe => rfl))
  | ((with_reducible refine' g_augE ?obs ?obh ?obl ?_); (case obs => assumption); (case obh => assumption); (case obl => exact Nat.le_of_ble_eq_true rfl); intro _ _ _)
  | ((with_reducible refine' g_ixUT ?obh ?obi ?_); (case obh => first | exact sqt_enc (by walk_at "obd") | walk_at "obt"); (case obi => rfl))
  | refine use_prest (by walk_at "obat19") (by assumption) ?_
  | refine use_ppaid (by walk_at "obat19") (by assumption) ?_
  | refine use_pdays (by walk_at "obat19") (by assumption) ?_
  | with_reducible refine g_lstRg ?_
  | with_reducible refine g_rg1 ?_
  | with_reducible refine g_rg2 ?_
  | ((with_reducible refine' g_tyd ?obh ?_); (case obh => walk_at "obat19"))
  | with_reducible refine g_tTru ?_
  | ((with_reducible refine' g_truL ?obh ?_); (case obh => walk_at "obl"))
  | with_reducible refine g_forZ ?_
  | with_reducible refine g_forR2 ?_
  | with_reducible refine g_lcZ ?_)
section
variable {P : Program} {w : World} {K : Frag} {mg : Str → Option Value} {base : Heap}
theorem g_tupC {tl : TE} {σ : L2.St} {H : Hp} {D : Ends} {g : TG} {tb : TS} (k : tl σ H fun x H1 => tFor (iSeq K (tC x)) g tb D σ H1) : tFor (iSeq K tl) g tb D σ H := k
/-! ### days and stretches, plainly -/
abbrev Row3 := Int × Int × Int
def rowV (tb tr ty : List (Int × Int)) (d : Int) : Row3 := (valOn tb d, valOn tr d, valOn ty d)
def val3 (s : Str4) : Row3 := (s.b, s.r, s.y)
def flatV (L : List Str4) : List Row3 := L.flatMap fun s => List.replicate s.d.toNat (val3 s)
def daysV (tb tr ty : List (Int × Int)) (b : Int) (n : Nat) : List Row3 := (List.range n).map fun i => rowV tb tr ty (b + (i : Nat))
theorem valOn_const {t : List (Int × Int)} {s d : Int} (h : s ≤ d) (hn : ∀ z ∈ t, ¬ (s < z.1 ∧ z.1 ≤ d)) : valOn t d = valOn t s := by
  unfold valOn valsTo
  have e : (t.filter fun x => decide (x.1 ≤ d)) = t.filter fun x => decide (x.1 ≤ s) := List.filter_congr fun z hz => decide_eq_decide.mpr ⟨fun q => by have := hn z hz; omega, fun q => by omega⟩
  rw [e]
theorem daysV_add {tb tr ty : List (Int × Int)} {b : Int} {n m : Nat} : daysV tb tr ty b (n + m) = daysV tb tr ty b n ++ daysV tb tr ty (b + (n : Nat)) m := by
  unfold daysV
  rw [List.range_add, List.map_append, List.map_map]
  congr 1
  apply List.map_congr_left
  intro i _
  show rowV tb tr ty (b + ((n + i : Nat) : Int)) = rowV tb tr ty (b + (n : Nat) + (i : Nat))
  congr 1
  omega
theorem daysV_const {tb tr ty : List (Int × Int)} {s u : Int} (h1 : ∀ z ∈ tb, ¬ (s < z.1 ∧ z.1 < u)) (h2 : ∀ z ∈ tr, ¬ (s < z.1 ∧ z.1 < u)) (h3 : ∀ z ∈ ty, ¬ (s < z.1 ∧ z.1 < u)) :
    daysV tb tr ty s (u - s).toNat = List.replicate (u - s).toNat (rowV tb tr ty s) := by
  refine List.eq_replicate_iff.mpr ⟨by unfold daysV; rw [List.length_map, List.length_range], fun x hx => ?_⟩
  obtain ⟨i, hi, rfl⟩ := List.mem_map.mp hx
  have := List.mem_range.mp hi
  unfold rowV
  rw [valOn_const (s := s) (by omega) fun z hz q => h1 z hz ⟨q.1, by omega⟩, valOn_const (s := s) (by omega) fun z hz q => h2 z hz ⟨q.1, by omega⟩, valOn_const (s := s) (by omega) fun z hz q => h3 z hz ⟨q.1, by omega⟩]
theorem flatV_snoc (L : List Str4) (s : Str4) : flatV (L ++ [s]) = flatV L ++ List.replicate s.d.toNat (val3 s) := by
  unfold flatV
  rw [List.flatMap_append]
  simp
/-- what is told of some days: their rows, no two alike side by side -/
structure Told (tb tr ty : List (Int × Int)) (b : Int) (n : Nat) (L : List Str4) : Prop where
  flat : flatV L = daysV tb tr ty b n
  pos : ∀ s ∈ L, 1 ≤ s.d
  alt : ∀ i x y, L[i]? = some x → L[i + 1]? = some y → val3 x ≠ val3 y
  vals : ∀ s ∈ L, ∃ d, 0 ≤ d ∧ val3 s = rowV tb tr ty d
theorem Told.nil {tb tr ty : List (Int × Int)} {b : Int} : Told tb tr ty b 0 [] := ⟨rfl, fun _ h => (nomatch h), fun _ _ _ h => (nomatch h), fun _ h => (nomatch h)⟩
/-- the last one lasts longer -/
theorem Told.more {tb tr ty : List (Int × Int)} {b s u : Int} {L : List Str4} {x : Str4} (h : Told tb tr ty b (s - b).toNat (L ++ [x])) (hbs : b ≤ s) (hsu : s ≤ u) (hc : daysV tb tr ty s (u - s).toNat = List.replicate (u - s).toNat (val3 x)) :
    Told tb tr ty b (u - b).toNat (L ++ [{ x with d := x.d + u - s }]) := by
  have x1 := h.pos x (List.mem_append_right _ (List.mem_singleton.mpr rfl))
  refine ⟨?_, fun z hz => ?_, fun i y z hy hz => ?_, fun z hz => ?_⟩
  · have e1 := h.flat
    rw [flatV_snoc] at e1 ⊢
    have e2 : (u - b).toNat = (s - b).toNat + (u - s).toNat := by omega
    rw [e2, daysV_add, ← e1, show b + ((s - b).toNat : Int) = s by omega, hc, List.append_assoc]
    congr 1
    show List.replicate (x.d + u - s).toNat (val3 x) = _
    rw [List.replicate_append_replicate]
    congr 1
    omega
  · rcases List.mem_append.mp hz with hz | hz
    · exact h.pos z (List.mem_append_left _ hz)
    · cases List.mem_singleton.mp hz
      show 1 ≤ x.d + u - s
      omega
  · by_cases c : i + 1 < L.length
    · rw [List.getElem?_append_left (by omega)] at hy
      rw [List.getElem?_append_left c] at hz
      exact h.alt i y z (by rw [List.getElem?_append_left (by omega)]; exact hy) (by rw [List.getElem?_append_left c]; exact hz)
    · have l2 := (List.getElem?_eq_some_iff.mp hz).1
      rw [List.length_append, List.length_singleton] at l2
      have e : i + 1 = L.length := by omega
      rw [List.getElem?_append_left (by omega)] at hy
      rw [e, List.getElem?_append_right (Nat.le_refl _), Nat.sub_self] at hz
      cases hz
      exact h.alt i y x (by rw [List.getElem?_append_left (by omega)]; exact hy) (by rw [e, List.getElem?_append_right (Nat.le_refl _), Nat.sub_self]; rfl)
  · rcases List.mem_append.mp hz with hz | hz
    · exact h.vals z (List.mem_append_left _ hz)
    · cases List.mem_singleton.mp hz
      exact h.vals x (List.mem_append_right _ (List.mem_singleton.mpr rfl))
/-- a new one -/
theorem Told.new {tb tr ty : List (Int × Int)} {b s u : Int} {L : List Str4} {x : Str4} (h : Told tb tr ty b (s - b).toNat L) (hbs : b ≤ s) (hsu : s < u) (s0 : 0 ≤ s) (hx : val3 x = rowV tb tr ty s) (hd : x.d = u - s) (hl : ∀ y, L.getLast? = some y → val3 y ≠ val3 x)
    (hc : daysV tb tr ty s (u - s).toNat = List.replicate (u - s).toNat (val3 x)) : Told tb tr ty b (u - b).toNat (L ++ [x]) := by
  refine ⟨?_, fun z hz => ?_, fun i y z hy hz => ?_, fun z hz => ?_⟩
  · rw [flatV_snoc, h.flat, hd, ← hc]
    have e2 : (u - b).toNat = (s - b).toNat + (u - s).toNat := by omega
    rw [e2, daysV_add, show b + ((s - b).toNat : Int) = s by omega]
  · rcases List.mem_append.mp hz with hz | hz
    · exact h.pos z hz
    · cases List.mem_singleton.mp hz
      omega
  · by_cases c : i + 1 < L.length
    · rw [List.getElem?_append_left (by omega)] at hy
      rw [List.getElem?_append_left c] at hz
      exact h.alt i y z hy hz
    · have l2 := (List.getElem?_eq_some_iff.mp hz).1
      rw [List.length_append, List.length_singleton] at l2
      have e : i + 1 = L.length := by omega
      rw [List.getElem?_append_left (by omega)] at hy
      rw [e, List.getElem?_append_right (Nat.le_refl _), Nat.sub_self] at hz
      cases hz
      refine hl y ?_
      rw [List.getLast?_eq_getElem?, show L.length - 1 = i by omega]
      exact hy
  · rcases List.mem_append.mp hz with hz | hz
    · exact h.vals z hz
    · cases List.mem_singleton.mp hz
      exact ⟨s, s0, hx⟩
/-! ### the days of changes, ascending -/
def InT (t : List (Int × Int)) (b e x : Int) : Prop := ∃ z ∈ t, z.1 = x ∧ b < x ∧ x < e
structure Days (ts : List (List (Int × Int))) (b e : Int) (cs : List Int) : Prop where
  up : cs.Pairwise (· < ·)
  mem : ∀ x, x ∈ cs ↔ x = b ∨ ∃ t ∈ ts, InT t b e x
theorem Days.of {ts : List (List (Int × Int))} {b e : Int} {ks cs : List Int} (p : cs.Perm ks) (s : cs.Pairwise (· ≤ ·)) (nd : ks.Nodup) (m : ∀ x, x ∈ ks ↔ x = b ∨ ∃ t ∈ ts, InT t b e x) : Days ts b e cs := by
  refine ⟨?_, fun x => (p.mem_iff).trans (m x)⟩
  have nd2 : cs.Pairwise (· ≠ ·) := p.nodup_iff.mpr nd
  exact (s.and nd2).imp fun h => by omega
theorem Days.head {ts : List (List (Int × Int))} {b e : Int} {cs : List Int} (h : Days ts b e cs) : cs[0]? = some b := by
  have hb : b ∈ cs := (h.mem b).mpr (.inl rfl)
  cases cs with
  | nil => cases hb
  | cons c cs =>
    have hc : b ≤ c := by
      rcases (h.mem c).mp (List.mem_cons_self ..) with e | ⟨t, _, z, _, _, q, _⟩
      · omega
      · omega
    rcases List.mem_cons.mp hb with e | hb
    · rw [e]; rfl
    · have := (List.pairwise_cons.mp h.up).1 b hb
      omega
theorem up_lt {cs : List Int} (h : cs.Pairwise (· < ·)) {i j : Nat} {x y : Int} (hx : cs[i]? = some x) (hy : cs[j]? = some y) (l : x < y) : i < j := by
  obtain ⟨l1, e1⟩ := List.getElem?_eq_some_iff.mp hx
  obtain ⟨l2, e2⟩ := List.getElem?_eq_some_iff.mp hy
  have pw := List.pairwise_iff_getElem.mp h
  rcases Nat.lt_trichotomy i j with c | c | c
  · exact c
  · subst c
    rw [e1] at e2
    omega
  · have := pw j i l2 l1 c
    rw [e1, e2] at this
    omega
theorem Days.gap {ts : List (List (Int × Int))} {b e : Int} {cs : List Int} (h : Days ts b e cs) (be : b ≤ e) {i : Nat} {s u : Int} (hs : cs[i]? = some s) (hu : (cs ++ [e])[i + 1]? = some u) : b ≤ s ∧ s ≤ u ∧ u ≤ e ∧ ∀ t ∈ ts, ∀ z ∈ t, ¬ (s < z.1 ∧ z.1 < u) := by
  have hin : ∀ x ∈ cs, b ≤ x ∧ x ≤ e := by
    intro x hx
    rcases (h.mem x).mp hx with q | ⟨t, _, z, _, _, q1, q2⟩ <;> omega
  have hsm := hin s (List.mem_of_getElem? hs)
  have li := (List.getElem?_eq_some_iff.mp hs).1
  have hu2 : s ≤ u ∧ u ≤ e ∧ (i + 1 < cs.length → cs[i + 1]? = some u) := by
    by_cases c : i + 1 < cs.length
    · rw [List.getElem?_append_left c] at hu
      have := up_nextI h.up hs hu
      exact ⟨by omega, (hin u (List.mem_of_getElem? hu)).2, fun _ => hu⟩
    · rw [List.getElem?_append_right (by omega), show i + 1 - cs.length = 0 by omega] at hu
      cases hu
      exact ⟨hsm.2, Int.le_refl _, fun q => absurd q c⟩
  refine ⟨hsm.1, hu2.1, hu2.2.1, fun t ht z hz q => ?_⟩
  have hm : z.1 ∈ cs := (h.mem z.1).mpr (.inr ⟨t, ht, z, hz, rfl, by omega, by omega⟩)
  obtain ⟨j, hj, e2⟩ := List.mem_iff_getElem.mp hm
  have hj2 : cs[j]? = some z.1 := List.getElem?_eq_some_iff.mpr ⟨hj, e2⟩
  have c1 := up_lt h.up hs hj2 q.1
  have c2 := up_lt h.up hj2 (hu2.2.2 (by omega)) q.2
  omega
theorem dps_last {H : Hp} {ds : List PyData} {d : PyData} {vs : List V} (h : DpAll K H vs (ds ++ [d])) : ∃ vs' x, vs = vs' ++ [x] ∧ DpAll K H vs' ds ∧ L2.Dp K H x d := by
  have e := dps_length h
  rw [List.length_append, List.length_singleton] at e
  have h1 := dps_take ds.length h
  have h2 := dps_drop ds.length h
  rw [List.take_left' rfl] at h1
  rw [List.drop_left' rfl] at h2
  have l2 : (vs.drop ds.length).length = 1 := by rw [List.length_drop]; omega
  match hd : vs.drop ds.length, l2 with
  | [x], _ =>
    rw [hd] at h2
    exact ⟨vs.take ds.length, x, by rw [← hd, List.take_append_drop], h1, dps_un h2⟩
theorem eqv3 {a b c x y z : Int} : PyData.eqv (.tuple [.int a, .int b, .int c]) (.tuple [.int x, .int y, .int z]) = decide (((a, b, c) : Row3) = (x, y, z)) := by
  show ((a == x) && ((b == y) && ((c == z) && true))) = _
  by_cases h1 : a = x <;> by_cases h2 : b = y <;> by_cases h3 : c = z <;> simp [h1, h2, h3]
theorem inT_take {t : List (Int × Int)} {b e x : Int} {i : Nat} {z : Int × Int} (h : t[i]? = some z) : InT (t.take (i + 1)) b e x ↔ InT (t.take i) b e x ∨ (z.1 = x ∧ b < x ∧ x < e) := by
  unfold InT
  rw [List.take_add_one, h]
  constructor
  · rintro ⟨y, hy, q⟩
    rcases List.mem_append.mp hy with hy | hy
    · exact .inl ⟨y, hy, q⟩
    · cases List.mem_singleton.mp hy
      exact .inr q
  · rintro (⟨y, hy, q⟩ | q)
    · exact ⟨y, List.mem_append_left _ hy, q⟩
    · exact ⟨z, List.mem_append_right _ (List.mem_singleton.mpr rfl), q⟩
theorem keys_len {kvs : List (Key × V)} {ks : List Int} (h : KeysI kvs ks) : kvs.length = ks.length := by
  have e := congrArg List.length h
  rw [List.length_map, List.length_map] at e
  exact e
theorem sqt_sc {H : Hp} {l : Addr} {ds : List PyData} {ws : List V} (h : L2.Dp K H (.ref l) (.tuple ds)) (s : ScL ds ws) : SqT K H l ws := by
  obtain ⟨h1, rfl⟩ := s.sc
  exact sqt_scal h h1
theorem set_last {vs : List V} {x y : V} : (vs ++ [x]).set vs.length y = vs ++ [y] := by
  rw [List.set_append_right _ _ (Nat.le_refl _), Nat.sub_self]
  rfl
theorem ix_last {vs : List V} {x : V} : ixN (vs ++ [x]).length (-1) = some vs.length := by
  unfold ixN
  rw [List.length_append, List.length_singleton]
  rw [if_neg (by omega), if_pos (by omega)]
  congr 1
  omega
def sp_days_told (K : Frag) : Sp := fun vs H Q E => vs.length = 5 ∧ ∃ (F : List (Addr × HO)) (G : List Ft) (pb pr py : Addr) (tb tr ty : List (Int × Int)) (b e : Int), vs = [.ref pb, .ref pr, .ref py, .int b, .int e] ∧ Sy K F G H ∧ L2.Dp K H (.ref pb) (tabD tb) ∧ L2.Dp K H (.ref pr) (tabD tr) ∧ L2.Dp K H (.ref py) (tabD ty) ∧ Tabs tb tr ty ∧ 0 ≤ b ∧ b ≤ e ∧ e ≤ 100000 ∧
  ∀ (L : List Str4) (q : Addr) H', Told tb tr ty b (e - b).toNat L → L.length ≤ 100 → Sy K F (.dat [.ref q] [encs L] :: G) H' → Q (.ref q) H'
abbrev names_days_told : List Str := ["balances", "rates", "years", "begin", "end", "changes", "table", "day", "value", "found", "days", "since", "until", "row"]
theorem sc_days_told : FnScope names_days_told ["balances", "rates", "years", "begin", "end"] (defScope (top 37)) := ⟨rfl, rfl, rfl, by decide +kernel, rfl, by decide +kernel, by decide +kernel⟩
set_option maxHeartbeats 4000000 in
theorem ok_days_told (T : Tx K mg) : FG P w K mg base CX0 2 T.a_days_told T.d_days_told ["balances", "rates", "years", "begin", "end"] (sp_days_told K) := by
  refine OB.Fun.fg T.F_days_told sc_days_told (fun vs H Q E h => h.1) (fun cdv A out s H vs Q E g h => ?_)
  obtain ⟨_, F, G, pb, pr, py, tb, tr, ty, b, e, rfl, S, hb, hr, hy, ok, b0, be, e1, k⟩ := h
  refine ⟨_, (pss_cons (ps_set (i := 5) sc_days_told.nd rfl (by first | exact Or.inl rfl | exact Or.inr rfl) (pe_disp (pps_cons (pv 3) pe_bl pps_nil) (by rfl) (by rfl) (fun z => by cases z) (by decide)))
      (pss_cons (ps_for PassesOwn.never rfl (pi_seq (pe_tup (pa_cons (pv 0) (pa_cons (pv 1) (pa_cons (pv 2) pa_nil))))) (pg_name (i := 6) sc_days_told.nd rfl (by first | exact Or.inl rfl | exact Or.inr rfl))
      (pss_one (ps_expr (pe_bm PySem.F.plainAttrs_dict PySem.F.slot_dict_update PySem.F.type_dict_update mt_dupdate (pv 5) (pa_cons (pe_dc (own := [("day", 7), ("value", 8)]) rfl sc_days_told.nd (pi_seq (pv 6)) (blkOk_by (N := names_days_told) (sc := defScope (top 37)) (own := [("day", 7), ("value", 8)]) (by decide +kernel)) (fun _ _ _ _ _ => (pg_tupK (K := K) rfl (n := 2) rfl (pgs_cons (pg_name (i := 7) sc_days_told.nd rfl (by first | exact Or.inl rfl | exact Or.inr rfl)) (pgs_cons (pg_name (i := 8) sc_days_told.nd rfl (by first | exact Or.inl rfl | exact Or.inr rfl)) pgs_nil)))) (fun _ _ _ _ _ => pts_one (pt_chain op_lt op_lt (pv 3) (pv 7) (pv 4))) (fun _ _ _ _ _ => (pv 7)) (fun _ _ _ _ _ => pe_bl)) pa_nil)))))
      (pss_cons (ps_par (i := 9) (j := 10) rfl sc_days_told.nd rfl rfl (by decide) rfl rfl (pa_cons (pe_lst pa_nil) (pa_cons (pe_lst (StX.pa_star (pe_callB (c_sortDI rfl) (by rfl) T.n_sorted (by decide +kernel) (pa_cons (pv 5) pa_nil)) (pa_cons (pv 4) pa_nil))) pa_nil)) (by rfl))
      (pss_cons (ps_for PassesOwn.never rfl (pi_zipK (by rfl) T.n_zip (pa_cons (pv 10) (pa_cons (pe_slice (sl_UK (K := K) rfl) (pv 10) (po_some pe_int) po_none) pa_nil))) (pg_tupK (K := K) rfl (n := 2) rfl (pgs_cons (pg_name (i := 11) sc_days_told.nd rfl (by first | exact Or.inl rfl | exact Or.inr rfl)) (pgs_cons (pg_name (i := 12) sc_days_told.nd rfl (by first | exact Or.inl rfl | exact Or.inr rfl)) pgs_nil)))
      (pss_cons (ps_set (i := 13) sc_days_told.nd rfl (by first | exact Or.inl rfl | exact Or.inr rfl) (pe_tup (pa_cons (pe_cg (ok_value_on T) (g.mono (by decide : 1 ≤ 1)) (by rfl) T.m_value_on T.F_value_on.kp (OB.Fun.bd T.F_value_on (ps := ["table", "day"]) (n := 2) (ks := []) (ix := [0, 1]) (fun _ _ _ _ _ _ us ws h1 h2 => match us, ws, h1, h2 with | [_, _], [], _, _ => rfl)) pass0 (pa_cons (pv 0) (pa_cons (pv 11) pa_nil)) pk_nil) (pa_cons (pe_cg (ok_value_on T) (g.mono (by decide : 1 ≤ 1)) (by rfl) T.m_value_on T.F_value_on.kp (OB.Fun.bd T.F_value_on (ps := ["table", "day"]) (n := 2) (ks := []) (ix := [0, 1]) (fun _ _ _ _ _ _ us ws h1 h2 => match us, ws, h1, h2 with | [_, _], [], _, _ => rfl)) pass0 (pa_cons (pv 1) (pa_cons (pv 11) pa_nil)) pk_nil) (pa_cons (pe_cg (ok_value_on T) (g.mono (by decide : 1 ≤ 1)) (by rfl) T.m_value_on T.F_value_on.kp (OB.Fun.bd T.F_value_on (ps := ["table", "day"]) (n := 2) (ks := []) (ix := [0, 1]) (fun _ _ _ _ _ _ us ws h1 h2 => match us, ws, h1, h2 with | [_, _], [], _, _ => rfl)) pass0 (pa_cons (pv 2) (pa_cons (pv 11) pa_nil)) pk_nil) pa_nil)))))
      (pss_one (ps_if (PW.pt (pw_and (pt_tru (K := K) rfl (pv 9) (fun _ => rfl)) (pw_and1 (pt_cmpR (op_eqD g.hu64) (pe_slice (sl_UK (K := K) rfl) (pe_ix (ix_UK (K := K) rfl) (pv 9) (pe_un un_neg pe_int) (fun _ _ => rfl)) (po_some pe_int) po_none) (pv 13) (nomark _))))) (pss_one (ps_asg (pe_tup (pa_cons (pe_op op_sub (pe_op op_add (pe_ix (ix_UK (K := K) rfl) (pe_ix (ix_UK (K := K) rfl) (pv 9) (pe_un un_neg pe_int) (fun _ _ => rfl)) pe_int (fun _ _ => rfl)) (pv 12)) (pv 11)) (StX.pa_star (pv 13) pa_nil))) (pg_sub (pv 9) (pe_un un_neg pe_int) set_list))) (pss_one (ps_if (pt_cmpR op_gt (pv 12) (pv 11) (nomark _)) (pss_one (ps_expr (pe_bm PySem.F.plainAttrs_list PySem.F.slot_list_append PySem.F.type_list_append mt_append (pv 9) (pa_cons (pe_tup (pa_cons (pe_op op_sub (pv 12) (pv 11)) (StX.pa_star (pv 13) pa_nil))) pa_nil)))) pss_nil))))))
      (pss_cons (ps_if (pt_cmpR op_gt (pe_callB (toK (r := OB.rLen) (K := K) rfl c_len) (by rfl) T.n_len PySem.boot_len (pa_cons (pv 9) pa_nil)) (pe_glob (v := .int 1000) (by rfl) T.g_MOST_STRETCHES ⟨_, rfl⟩) (nomark _)) (pss_one ps_never) pss_nil)
      (pss_one (ps_ret (pe_callTy (toK (r := rTuple) (K := K) rfl c_tuple) (by rfl) T.n_tuple (by decide +kernel) (pa_cons (pv 9) pa_nil))))))))), ?_⟩
  refine g_start (σ := [some _, some _, some _, some _, some _, none, none, none, none, none, none, none, none, none]) rfl ?_
  have S0 := ((S.add _ (dat_tab hb)).add _ (dat_tab hr)).add _ (dat_tab hy)
  repeat walk_at "ob"
  refine g_disp1 (i := b) (v := .bl true) S0 (fun H' Q' q => by walk_at "ob"; exact q) (fun H' Q' q => by walk_at "ob"; exact q) fun ch H1 S1 => ?_
  clear S0
  repeat walk_at "ob"
  refine g_tupC ?_
  repeat walk_at "ob"
  have im : immAll ([tb, tr, ty].map tabD) = true := immAll_of fun x hx => by
    obtain ⟨y, _, rfl⟩ := List.mem_map.mp hx
    exact tab_imm y
  refine g_newT (ds := [tb, tr, ty].map tabD) S1 (.cons (S1.dp 2 rfl) (.cons (S1.dp 1 rfl) (.cons (S1.dp 0 rfl) .nil))) im (Nat.le_of_ble_eq_true rfl) fun q9 H2 _ S2 => ?_
  obtain ⟨_, xs, e, S3⟩ := S2.opn (S2.dp 0 rfl) im
  cases e
  clear S1 S2
  have hx3 : xs.length = 3 := dps_length (S3.dps 1 rfl)
  refine g_forS (a := q9) (xs := xs) false (fun j σ' H' => ∃ v6 v7 v8 kvs ks, σ' = [some (.ref pb), some (.ref pr), some (.ref py), some (.int b), some (.int e), some (.ref ch), v6, v7, v8, none, none, none, none, none] ∧
    KeysI kvs ks ∧ ks.Nodup ∧ (∀ x, x ∈ ks ↔ x = b ∨ ∃ t ∈ [tb, tr, ty].take j, InT t b e x) ∧ ks.length ≤ 1 + 20 * j ∧ j ≤ 3 ∧
    Sy K ((ch, .dK kvs) :: F) (.tq q9 xs :: .dat xs ([tb, tr, ty].map tabD) :: .dat [.ref q9] [.tuple ([tb, tr, ty].map tabD)] :: .dat [.ref py] [tabD ty] :: .dat [.ref pr] [tabD tr] :: .dat [.ref pb] [tabD tb] :: G) H') (fun Q' q => q)
    ⟨none, none, none, [(.inl b, .bl true)], [b], rfl, (show KeysI [(Sum.inl b, V.bl true)] [b] from rfl), by simp, fun x => by simp, Nat.le_of_ble_eq_true rfl, by decide, S3⟩ (fun j σ' H' ⟨_, _, _, _, _, _, _, _, _, _, _, S4⟩ => S4.tqs 0 rfl) ?_ ?_
  · rintro j x σ' H' hx ⟨v6, v7, v8, kvs, ks, rfl, hk, nd, hm, hl, hj, S4⟩
    obtain ⟨t, ht, hdt⟩ := dps_map (S4.dps 1 rfl) hx
    have hj1 := (List.getElem?_eq_some_iff.mp ht).1
    have hj3 : j + 1 ≤ 3 := hj1
    have tok : TabOk t := by
      have hm := List.mem_of_getElem? ht
      simp only [List.mem_cons, List.not_mem_nil, or_false] at hm
      rcases hm with rfl | rfl | rfl
      · exact ok.b0
      · exact ok.r0
      · exact ok.y0
    obtain ⟨u, zs, rfl, S5⟩ := S4.opn hdt (tab_imm t)
    clear S4
    have hzl : zs.length = t.length := by rw [dps_length (S5.dps 1 rfl), List.length_map]
    have tl := tok.len
    repeat walk_at "ob"
    refine g_dcT (a := u) (xs := zs) (fun i kv => ∃ ms, KeysI kv ms ∧ (∀ x, x ∈ ms ↔ InT (t.take i) b e x) ∧ ms.length ≤ i ∧ i ≤ t.length) S5 (fun Q' q => by walk_at "ob"; exact q) ⟨[], rfl, fun x => by simp [InT], Nat.le_refl _, Nat.zero_le _⟩ (fun i kv ⟨ms, q1, _, q2, q3⟩ => by rw [keys_len q1]; omega) ?_ ?_
    · rintro i x hx2 Da H3 kv QE QR ⟨ms, m1, m2, m3, m4⟩ S6 kE kR
      obtain ⟨z, hz, hds⟩ := dps_map (S6.dps 1 rfl) hx2
      obtain ⟨q, ys, rfl, _⟩ := dp_at hds
      have hs := sqt_row hds
      have hi1 := (List.getElem?_eq_some_iff.mp hz).1
      have no : ¬ (b < z.1 ∧ z.1 < e) → ∀ x, x ∈ ms ↔ InT (t.take (i + 1)) b e x := fun n x => by
        rw [m2, inT_take hz]
        constructor
        · exact .inl
        · rintro (q | ⟨q, q2⟩)
          · exact q
          · exact absurd (q ▸ q2) n
      repeat walk_at "ob"
      refine ⟨rfl, ?_⟩
      repeat walk_at "ob"
      refine g_iteD (fun h1 => ?_) (fun h1 => ?_)
      · repeat walk_at "ob"
        refine g_iteD (fun h2 => ?_) (fun h2 => ?_)
        · repeat walk_at "ob"
          refine kE z.1 _ _ ⟨_, keys_put m1, fun x => ?_, ?_, hi1⟩ S6
          · rw [inT_take hz, ← m2]
            by_cases c : ms.contains z.1 = true
            · rw [if_pos c]
              constructor
              · exact .inl
              · rintro (q | ⟨q, _⟩)
                · exact q
                · exact q ▸ List.contains_iff_mem.mp c
            · rw [if_neg c, List.mem_append, List.mem_singleton]
              constructor
              · rintro (q | q)
                · exact .inl q
                · subst q
                  exact .inr ⟨rfl, h1, h2⟩
              · rintro (q | ⟨q, _⟩)
                · exact .inl q
                · exact .inr q.symm
          · split
            · omega
            · rw [List.length_append, List.length_singleton]
              omega
        · exact kR _ ⟨ms, m1, no (fun q => h2 q.2), by omega, hi1⟩ S6
      · repeat walk_at "ob"
        exact kR _ ⟨ms, m1, no (fun q => h1 q.1), by omega, hi1⟩ S6
    · rintro Da H3 kv hD ⟨ms, m1, m2, m3, m4⟩ S6
      repeat walk_at "ob"
      have k1 := keys_len m1
      have k2 := keys_len hk
      refine g_dupd (i := 1) (j := 0) S6 rfl rfl (by decide) (by omega) fun H4 S7 => ?_
      repeat walk_at "ob"
      obtain ⟨ls, f1, f2, f3, f4⟩ := keys_merge m1 hk
      rw [hzl, List.take_length] at m2
      refine ⟨_, _, _, _, ls, rfl, f1, f3 nd, fun x => ?_, by omega, hj3, ?_⟩
      · rw [f2, hm, m2, List.take_add_one, ht]
        constructor
        · rintro ((q | ⟨t2, q1, q2⟩) | q)
          · exact .inl q
          · exact .inr ⟨t2, List.mem_append_left _ q1, q2⟩
          · exact .inr ⟨t, List.mem_append_right _ (List.mem_singleton.mpr rfl), q⟩
        · rintro (q | ⟨t2, q1, q2⟩)
          · exact .inl (.inl q)
          · rcases List.mem_append.mp q1 with q1 | q1
            · exact .inl (.inr ⟨t2, q1, q2⟩)
            · cases List.mem_singleton.mp q1
              exact .inr q2
      · exact (Sy.less (x := (Da, _)) S7).drop.drop
  · rintro σ' H' ⟨v6, v7, v8, kvs, ks, rfl, hk, nd, hm, hl, hj, S4⟩
    rw [hx3] at hm hl
    have S5 := S4.drop.drop.drop
    clear S4 S3
    repeat walk_at "ob"
    rename_i f H1 _ S6
    clear S5
    refine g_sortDI (i := 1) S6 rfl hk (by omega) fun cs sl H4 pc ps S7 => ?_
    clear S6
    have hD : Days [tb, tr, ty] b e cs := Days.of pc ps nd hm
    have cl : cs.length ≤ 61 := by rw [pc.length_eq]; omega
    refine ⟨sl, _, rfl, .inr (SqL.of (S7.at 0 rfl)), ?_⟩
    repeat walk_at "ob"
    have em : cs.map V.int ++ [V.int e] = (cs ++ [e]).map V.int := by rw [List.map_append]; rfl
    rw [em]
    refine g_newL S7 (by rw [List.length_map, List.length_append, List.length_singleton]; omega) fun dl H5 _ S8 => ?_
    clear S7
    repeat walk_at "ob"
    refine g_slL S8 (SqL.of (S8.at 0 rfl)) fun p2 H6 S9 => ?_
    rw [cut_tail] at S9
    clear S8
    repeat walk_at "ob"
    refine ⟨true, true, dl, p2, _, _, rfl, SqL.of (S9.at 1 rfl), SqL.of (S9.at 0 rfl), ?_⟩
    refine for_zipM (xs := (cs ++ [e]).map V.int) (ys := ((cs ++ [e]).map V.int).drop 1) (fun i σ' H' => ∃ v11 v12 v13 vs L s, σ' = [some (.ref pb), some (.ref pr), some (.ref py), some (.int b), some (.int e), some (.ref ch), v6, v7, v8, some (.ref f), some (.ref dl), v11, v12, v13] ∧
      (cs ++ [e])[i]? = some s ∧ Told tb tr ty b (s - b).toNat L ∧ L.length ≤ i ∧
      Sy K ((p2, .lst (((cs ++ [e]).map V.int).drop 1)) :: (dl, .lst ((cs ++ [e]).map V.int)) :: (sl, .lst (cs.map V.int)) :: (f, .lst vs) :: (ch, .dK kvs) :: F) (.dat vs (L.map enc) :: .dat [.ref py] [tabD ty] :: .dat [.ref pr] [tabD tr] :: .dat [.ref pb] [tabD tb] :: G) H')
      ⟨none, none, none, [], [], b, rfl, by rw [List.getElem?_append_left (List.getElem?_eq_some_iff.mp hD.head).1]; exact hD.head, by rw [Int.sub_self]; exact Told.nil, Nat.le_refl _, S9.fact .nil rfl⟩
      (fun i σ' H' ⟨_, _, _, _, _, _, _, _, _, _, S4⟩ => ⟨SqL.of (S4.at 1 rfl), SqL.of (S4.at 0 rfl)⟩) ?_ ?_
    · rintro i x y T σ' H' hx hy ⟨v11, v12, v13, vs, L, s, rfl, hs, tld, ll, S10⟩ hT
      rw [List.getElem?_map, hs] at hx
      cases hx
      rw [List.getElem?_drop, List.getElem?_map] at hy
      obtain ⟨u, hu, rfl⟩ := Option.map_eq_some_iff.mp hy
      rw [Nat.add_comm] at hu
      have li := (List.getElem?_eq_some_iff.mp hu).1
      rw [List.length_append, List.length_singleton] at li
      have hs2 : cs[i]? = some s := by rw [List.getElem?_append_left (by omega)] at hs; exact hs
      obtain ⟨bs, su, ue, gap⟩ := hD.gap be hs2 hu
      have hc := daysV_const (gap tb (by simp)) (gap tr (by simp)) (gap ty (by simp))
      refine g_pair S10 hT fun H7 S11 => ?_
      clear S10 S9
      repeat walk_at "ob"
      refine use_value_on S11 (S11.dp 4 rfl) ok.b0.len ok.b0.first (by omega) fun H8 S12 => ?_
      clear S11
      repeat walk_at "ob"
      refine use_value_on S12 (S12.dp 3 rfl) ok.r0.len ok.r0.first (by omega) fun H9 S13 => ?_
      clear S12
      repeat walk_at "ob"
      refine use_value_on S13 (S13.dp 2 rfl) ok.y0.len ok.y0.first (by omega) fun H10 S14 => ?_
      clear S13
      repeat walk_at "ob"
      rename_i rw1 H11 _ S15
      have S16 := S15.drop2
      clear S14 S15
      rcases List.eq_nil_or_concat L with rfl | ⟨L', z, hLz⟩
      · have hv : vs = [] := by
          have := dps_length (S16.dps 1 rfl)
          exact List.length_eq_zero_iff.mp this
        subst hv
        repeat walk_at "ob"
        refine g_F rfl ?_
        repeat walk_at "ob"
        refine g_iteD (fun h1 => ?_) (fun h1 => ?_)
        · repeat walk_at "ob"
          refine ⟨rw1, _, rfl, .inl (sqt_sc (S16.dp 0 rfl) (.int (.int (.int .nil)))), ?_⟩
          repeat walk_at "ob"
          rename_i q5 H12 _ S17
          refine g_appS S17 (f := 3) rfl (by decide) fun H13 S18 => ?_
          repeat walk_at "ob"
          refine ⟨_, _, _, [.ref q5], [⟨u - s, valOn tb s, valOn tr s, valOn ty s⟩], u, rfl, hu, ?_, by simp, S18.drop2.drop2⟩
          exact Told.new (L := []) tld bs h1 (by omega) rfl rfl (fun y hy => by cases hy) hc
        · repeat walk_at "ob"
          have e2 : u = s := by omega
          exact ⟨_, _, _, [], [], u, rfl, hu, by rw [e2]; exact tld, by simp, S16.drop⟩
      · rw [List.concat_eq_append] at hLz
        subst hLz
        obtain ⟨vs', x, rfl, dv, dx⟩ := dps_last (show DpAll K H11 vs (L'.map enc ++ [enc z]) from by
          have := S16.dps 1 rfl
          rw [List.map_append] at this
          exact this)
        obtain ⟨qx, ysx, rfl, _⟩ := dp_at dx
        have lv := dps_length dv
        rw [List.length_map] at lv
        rw [List.length_append, List.length_singleton] at ll
        have S16b := S16.add (.dat [.ref qx] [enc z]) ⟨dps_one dx, rfl⟩
        clear S16
        repeat walk_at "ob"
        refine g_T (by simp) ?_
        repeat walk_at "ob"
        refine g_ixUL (SqL.of (S16b.at 3 rfl)) atI_last ?_
        repeat walk_at "ob"
        refine g_slT S16b (sqt_enc (S16b.dp 0 rfl)) rfl rfl fun p5 H12 S17 => ?_
        clear S16b
        repeat walk_at "ob"
        refine g_eqD (d := .tuple [.int z.b, .int z.r, .int z.y]) (L2.Dp.tup (S17.tqs 0 rfl) (.cons (L2.Dp.int _) (.cons (L2.Dp.int _) (.cons (L2.Dp.int _) .nil)))) (S17.dp 2 rfl) rfl rfl ?_
        rw [eqv3]
        have S18 := S17.drop
        clear S17
        repeat walk_at "ob"
        refine g_iteD (fun h1 => ?_) (fun h1 => ?_)
        · repeat walk_at "ob"
          refine g_ixUL (SqL.of (S18.at 3 rfl)) atI_last ?_
          repeat walk_at "ob"
          refine ⟨rw1, _, rfl, .inl (sqt_sc (S18.dp 1 rfl) (.int (.int (.int .nil)))), ?_⟩
          repeat walk_at "ob"
          rename_i q6 H13 _ S19
          refine g_setLS S19 (f := 3) rfl ix_last fun H14 S20 _ => ?_
          rw [set_last] at S20
          repeat walk_at "ob"
          have hw : (⟨z.d + u - s, valOn tb s, valOn tr s, valOn ty s⟩ : Str4) = { z with d := z.d + u - s } := by
            injection h1 with i1 i2
            injection i2 with i3 i4
            rw [← i1, ← i3, ← i4]
          have h3 := S20.dps 3 rfl
          rw [List.map_append] at h3
          obtain ⟨vs2, x2, e2, dv2, _⟩ := dps_last (show DpAll K H14 (vs' ++ [.ref qx]) (L'.map enc ++ [enc z]) from h3)
          obtain ⟨e3, _⟩ := List.append_inj' e2 rfl
          subst e3
          have S21 := S20.fact (vs := vs' ++ [.ref q6]) (ds := (L' ++ [(⟨z.d + u - s, valOn tb s, valOn tr s, valOn ty s⟩ : Str4)]).map enc) (by rw [List.map_append]; exact dps_append dv2 (S20.dps 0 rfl)) (enc_imm _)
          refine ⟨_, _, _, vs' ++ [V.ref q6], L' ++ [(⟨z.d + u - s, valOn tb s, valOn tr s, valOn ty s⟩ : Str4)], u, rfl, hu, ?_, by rw [List.length_append, List.length_singleton]; omega, S21.drop2.drop2.drop2.drop2⟩
          rw [hw]
          exact Told.more tld bs su (by rw [show val3 z = rowV tb tr ty s from h1]; exact hc)
        · repeat walk_at "ob"
          refine g_iteD (fun h2 => ?_) (fun h2 => ?_)
          · repeat walk_at "ob"
            refine ⟨rw1, _, rfl, .inl (sqt_sc (S18.dp 1 rfl) (.int (.int (.int .nil)))), ?_⟩
            repeat walk_at "ob"
            rename_i q6 H13 _ S19
            refine g_appS S19 (f := 3) rfl (by rw [List.length_append, List.length_singleton]; omega) fun H14 S20 => ?_
            repeat walk_at "ob"
            have S21 := S20.fact (vs := (vs' ++ [.ref qx]) ++ [.ref q6]) (ds := ((L' ++ [z]) ++ [(⟨u - s, valOn tb s, valOn tr s, valOn ty s⟩ : Str4)]).map enc) (by rw [List.map_append]; exact dps_append (S20.dps 3 rfl) (S20.dps 0 rfl)) (enc_imm _)
            refine ⟨_, _, _, (vs' ++ [V.ref qx]) ++ [V.ref q6], (L' ++ [z]) ++ [(⟨u - s, valOn tb s, valOn tr s, valOn ty s⟩ : Str4)], u, rfl, hu, ?_, by rw [List.length_append, List.length_append, List.length_singleton]; simp; omega, S21.drop2.drop2.drop2.drop2⟩
            refine Told.new tld bs h2 (by omega) rfl rfl (fun y hy => ?_) hc
            rw [List.getLast?_append, List.getLast?_singleton] at hy
            cases hy
            exact h1
          · repeat walk_at "ob"
            have e2 : u = s := by omega
            exact ⟨_, _, _, vs' ++ [.ref qx], L' ++ [z], u, rfl, hu, by rw [e2]; exact tld, by rw [List.length_append, List.length_singleton]; omega, S18.drop.drop⟩
    · rintro σ' H' ⟨v11, v12, v13, vs, L, s, rfl, hs, tld, ll, S10⟩
      have hmin : min ((cs ++ [e]).map V.int).length (((cs ++ [e]).map V.int).drop 1).length = cs.length := by
        rw [List.length_drop, List.length_map, List.length_append, List.length_singleton]
        omega
      rw [hmin] at hs ll
      rw [List.getElem?_append_right (Nat.le_refl _), Nat.sub_self] at hs
      cases hs
      have hvl := dps_length (S10.dps 0 rfl)
      rw [List.length_map] at hvl
      repeat walk_at "ob"
      refine g_tup0 S10 (SqL.of (S10.at 3 rfl)) (S10.dps 0 rfl) (enc_imm ..) fun q2 H7 _ S11 => ?_
      exact k L q2 H7 tld (by omega) S11.less.less.less.less.less.drop2.drop2.drop2.drop2
end
end LAW

set_option Elab.async false
set_option linter.all false
set_option maxRecDepth 100000
namespace LAW
open PySem PySem.Spec PyProof.Rows L2 PySem.W OB
local macro_rules | `(tactic| walk_at "obc") => `(tactic| first
  | exact Or.inl ⟨by omega, by omega⟩
  | exact Or.inr ⟨by omega, by omega⟩
  | exact cdiv_ok (by omega) (by omega)
  | (show (0 : Int) < _; omega)
  | exact ⟨by omega, by decide⟩
  | exact ⟨by decide, by decide⟩)
local macro_rules | `(tactic| walk_at "obat") => `(tactic| first
  | exact Sy.at (by assumption) 0 rfl | exact Sy.at (by assumption) 1 rfl | exact Sy.at (by assumption) 2 rfl | exact Sy.at (by assumption) 3 rfl
  | exact Sy.at (by assumption) 4 rfl | exact Sy.at (by assumption) 5 rfl | exact Sy.at (by assumption) 6 rfl | exact Sy.at (by assumption) _ (by assumption) | exact Sy.at (by assumption) (_ + 1) (by assumption) | exact Sy.at (by assumption) (_ + 2) (by assumption))
local macro_rules | `(tactic| walk_at "obt") => `(tactic| first
  | exact Sy.tqs (by assumption) 0 rfl | exact Sy.tqs (by assumption) 1 rfl | exact Sy.tqs (by assumption) 2 rfl | exact Sy.tqs (by assumption) 3 rfl | exact Sy.tqs (by assumption) 4 rfl | exact Sy.tqs (by assumption) 5 rfl
  | exact Sy.tqs (by assumption) 6 rfl | exact Sy.tqs (by assumption) 7 rfl | assumption)
local macro_rules | `(tactic| walk_at "obl") => `(tactic| first
  | exact SqL.of (by walk_at "obat")
  | exact Sy.sq (by assumption) 0 rfl | exact Sy.sq (by assumption) 1 rfl | exact Sy.sq (by assumption) 2 rfl | exact Sy.sq (by assumption) 3 rfl | exact Sy.sq (by assumption) _ (by assumption))
local macro_rules | `(tactic| walk_at "obd") => `(tactic| first
  | exact Dp.int _ | exact Dp.bl _ | exact Dp.str _ | exact Dp.non
  | exact Sy.dp (by assumption) 0 rfl | exact Sy.dp (by assumption) 1 rfl | exact Sy.dp (by assumption) 2 rfl | exact Sy.dp (by assumption) 3 rfl
  | exact Sy.dp (by assumption) 4 rfl | exact Sy.dp (by assumption) 5 rfl | exact Sy.dp (by assumption) 6 rfl | exact Sy.dp (by assumption) 7 rfl
  | exact Sy.dp (by assumption) 8 rfl | exact Sy.dp (by assumption) 9 rfl | exact Sy.dp (by assumption) _ (by assumption) | assumption)
local macro_rules | `(tactic| walk_at "obds") => `(tactic| first
  | exact DpAll.nil
  | (refine' DpAll.cons ?ob1 ?ob2; (case ob1 => walk_at "obd"); (case ob2 => walk_at "obds"))
  | exact Sy.dps (by assumption) 0 rfl | exact Sy.dps (by assumption) 1 rfl | exact Sy.dps (by assumption) 2 rfl | exact Sy.dps (by assumption) 3 rfl | assumption)
local macro_rules | `(tactic| walk_at "obsc") => `(tactic| first
  | exact ScL.nil
  | ((first | refine' ScL.int ?obz | refine' ScL.str ?obz | refine' ScL.bl ?obz | refine' ScL.non ?obz); (case obz => walk_at "obsc")))
local macro_rules | `(tactic| walk_at "ob1") => `(tactic| first
  | ((with_reducible refine' g_var ?obh ?_); (case obh => rfl))
  | with_reducible refine g_c ?_
  | with_reducible refine g_nx ?_
  | with_reducible refine g_rt ?_
  | with_reducible refine g_bk ?_
  | with_reducible refine g_ct ?_
  | with_reducible refine g_op ?_
  | with_reducible refine g_I0 ?_
  | with_reducible refine g_test ?_
  | with_reducible refine g_bl ?_
  | with_reducible refine g_blx ?_
  | with_reducible refine g_B ?_
  | with_reducible refine g_seq ?_
  | with_reducible refine g_asg ?_
  | with_reducible refine g_name ?_
  | with_reducible refine g_ifS ?_
  | with_reducible refine g_ret ?_
  | with_reducible refine g_cb ?_
  | with_reducible refine g_cons ?_
  | with_reducible refine g_nil ?_
  | with_reducible refine g_int ?_
  | with_reducible refine g_intB ?_
  | with_reducible refine g_abs ?_
  | with_reducible refine g_max ?_
  | with_reducible refine g_min ?_
  | with_reducible refine g_un ?_
  | with_reducible refine g_U ?_
  | with_reducible refine g_eqI ?_
  | with_reducible refine g_neI ?_
  | with_reducible refine g_eqS ?_
  | with_reducible refine g_neS ?_
  | with_reducible refine g_tt ?_
  | with_reducible refine g_ff ?_
  | with_reducible refine g_next ?_
  | with_reducible refine g_drop ?_
  | with_reducible refine g_if ?_
  | with_reducible refine g_andV ?_
  | with_reducible refine g_orV ?_
  | with_reducible refine g_notV ?_
  | with_reducible refine g_and ?_
  | with_reducible refine g_or ?_
  | with_reducible refine g_not ?_
  | with_reducible refine g_yes ?_
  | with_reducible refine g_chain ?_
  | with_reducible refine g_cg ?_
  | with_reducible refine g_mg ?_
  | with_reducible refine g_kg ?_
  | with_reducible refine g_pg ?_
  | ((with_reducible refine' g_call ?obh ?obj ?_); (case obh => rfl); (case obj => rfl))
  | with_reducible refine g_par ?_
  | with_reducible refine g_par2 ?_
  | with_reducible refine g_par3 ?_
  | with_reducible refine g_par33 ?_
  | with_reducible refine g_gnil ?_
  | with_reducible refine g_gcons ?_
  | with_reducible refine g_gsub ?_
  | with_reducible refine g_ipI ?_
  | with_reducible refine g_rAdd ?_
  | with_reducible refine g_rSub ?_
  | ((with_reducible refine' g_aug ?obh ?_); (case obh => rfl))
  | with_reducible refine g_tup ?_
  | with_reducible refine g_lst ?_
  | with_reducible refine g_bm ?_
  | with_reducible refine g_bm0 ?_
  | with_reducible refine g_sl ?_
  | with_reducible refine g_nopart ?_
  | with_reducible refine g_part ?_
  | with_reducible refine g_pint ?_
  | with_reducible refine isi_int ?_
  | with_reducible refine isi_intB ?_
  | ((with_reducible refine' g_I ?obh ?_); (case obh => walk_at "obc"))
  | ((with_reducible refine' g_tyl ?obh ?_); (case obh => walk_at "obl"))
  | ((with_reducible refine' g_lenL ?obh ?_); (case obh => walk_at "obl"))
  | with_reducible refine g_ne ?_
  | ((with_reducible refine' g_neN' ?obh ?_); (case obh => rfl))
  | with_reducible refine g_ntt ?_
  | with_reducible refine g_nff ?_
  | with_reducible refine g_star ?_
  | with_reducible refine g_att ?_
  | with_reducible refine g_sfld ?_
  | with_reducible refine g_faug ?_
  | with_reducible refine g_fld ?_
  | ((with_reducible refine' g_nF ?obh ?_); (case obh => omega))
  | ((with_reducible refine' g_nT ?obh ?_); (case obh => omega))
  | ((with_reducible refine' g_TD ?obh ?_); (case obh => omega))
  | ((with_reducible refine' g_FD ?obh ?_); (case obh => omega))
  | ((with_reducible refine' g_ixUL ?obh ?obi ?_); (case obh => walk_at "obl"); (case obi => exact atI_nn (by omega) (by rfl)))
  | ((with_reducible refine' g_setLS ?obs ?obh ?obi ?_); (case obs => assumption); (case obh => assumption); (case obi => rfl); intro _ _ _)
  | ((with_reducible refine' g_newT ?obs ?obh ?obi ?obj ?_); (case obs => assumption); (case obh => walk_at "obds"); (case obi => rfl); (case obj => exact Nat.le_of_ble_eq_true rfl); intro _ _ _ _)
  | ((with_reducible refine' g_newL ?obs ?obj ?_); (case obs => assumption); (case obj => exact Nat.le_of_ble_eq_true rfl); intro _ _ _ _)
  | ((with_reducible refine' isi_tup ?obh ?_); (case obh => walk_at "obt"))
  | ((with_reducible refine' g_lenT ?obh ?_); (case obh => walk_at "obt"))
  | ((with_reducible refine' g_unpT ?obh ?obi ?_); (case obh => walk_at "obt"); (case obi => rfl))
  | ((with_reducible refine' g_divmod ?obs ?obh ?_); (case obs => assumption); (case obh => exact cdivp_ok (by omega) (by omega) (by omega)); intro _ _ _ _)
  | ((with_reducible refine' g_unpD ?obh ?obi ?obj ?_); (case obh => walk_at "obd"); (case obi => walk_at "obsc"); (case obj => rfl))
  | with_reducible refine g_att ?_)
local macro_rules | `(tactic| walk_at "obat19") => `(tactic| first | assumption | walk_at "obat")
local macro_rules | `(tactic| walk_at "ob") => `(tactic| first
  | walk_at "ob1"
  | refine use_is_integer ?_
  | refine use_is_within ?_
  | refine use_balance ?_
  | refine use_rate ?_
  | refine use_year (by assumption) ?_
  | refine use_unit ?_
  | refine use_rest (by omega) (by omega) ?_
  | refine use_parts (by walk_at "obd") (by assumption) ?_
  | refine use_is_stretch (by walk_at "obd") (by assumption) ?_
  | refine g_unpT (sqt_enc (by walk_at "obd")) rfl ?_
  | ((with_reducible refine' g_fldS ?obh ?obc ?obn ?obe ?_); (case obh => walk_at "obat19"); (case obc => exact AccC.c (by assumption)); (case obn => first | exact AccC.n1 (by assumption) | exact AccC.n2 (by assumption) | exact AccC.n3 (by assumption)); (case obe => rfl))
  | ((with_reducible refine' g_attS ?obs ?obh ?obc ?obn ?obl ?_); (case obs => assumption); (case obh => assumption); (case obc => exact AccC.c (by assumption)); (case obn => first | exact AccC.n1 (by assumption) | exact AccC.n2 (by assumption) | exact AccC.n3 (by assumption)); (case obl => exact Nat.le_of_ble_eq_true rfl); intro _ _ _)
  | ((with_reducible refine' g_augS ?obh ?obc ?obn ?obe ?_); (case obh => walk_at "obat19"); (case obc => exact AccC.c (by assumption)); (case obn => first | exact AccC.n1 (by assumption) | exact AccC.n2 (by assumption) | exact AccC.n3 (by assumption)); (case obe => rfl))
  | ((with_reducible refine' g_augE ?obs ?obh ?obl ?_); (case obs => assumption); (case obh => assumption); (case obl => exact Nat.le_of_ble_eq_true rfl); intro _ _ _)
  | ((with_reducible refine' g_ixUT ?obh ?obi ?_); (case obh => first | exact sqt_enc (by walk_at "obd") | walk_at "obt"); (case obi => rfl))
  | refine use_prest (by walk_at "obat19") (by assumption) ?_
  | refine use_ppaid (by walk_at "obat19") (by assumption) ?_
  | refine use_pdays (by walk_at "obat19") (by assumption) ?_
  | with_reducible refine g_lstRg ?_
  | with_reducible refine g_rg1 ?_
  | with_reducible refine g_rg2 ?_
  | ((with_reducible refine' g_tyd ?obh ?_); (case obh => walk_at "obat19"))
  | with_reducible refine g_tTru ?_
  | ((with_reducible refine' g_truL ?obh ?_); (case obh => walk_at "obl"))
  | with_reducible refine g_forZ ?_
  | with_reducible refine g_forR2 ?_
  | with_reducible refine g_lcZ ?_)
section
variable {P : Program} {w : World} {K : Frag} {mg : Str → Option Value} {base : Heap}
theorem PotOk.mono {n m : Nat} {a b c : Int} (o : PotOk n a b c) (h : n ≤ m) : PotOk m a b c := ⟨o.a0, o.a1, o.b0, o.b1, o.c0, by have := o.c1; omega⟩
/-! ### drawn tables -/
def sp_law_table (K : Frag) : Sp := fun vs H Q E => vs.length = 3 ∧ ∃ (F : List (Addr × HO)) (G : List Ft) (i j : Nat) (p q : Addr) (n : Nat) (ns : List Int) (m a b c : Int), vs = [.ref p, .ref q, .int m] ∧ Sy K F G H ∧ F[i]? = some (p, potO a b c) ∧ F[j]? = some (q, .lst (ns.map V.int)) ∧ i ≠ j ∧ PotOk n a b c ∧ n < 900000 ∧ 0 < ns.length ∧ ns.length < 100 ∧ 0 < m ∧ m ≤ 100 ∧
  ∀ (t : List (Int × Int)) (r : Addr), TabOk t → (∀ x ∈ t, x.2 ∈ ns) → PotK K F (.dat [.ref r] [tabD t] :: G) i p (n + 8) (Q (.ref r))
abbrev names_law_table : List Str := ["pot", "values", "most", "found", "day", "lap"]
theorem sc_law_table : FnScope names_law_table ["pot", "values", "most"] (defScope (top 48)) := ⟨rfl, rfl, rfl, by decide +kernel, rfl, by decide +kernel, by decide +kernel⟩
set_option maxHeartbeats 4000000 in
theorem ok_law_table (T : Tx K mg) : FG P w K mg base CX0 3 T.a_law_table T.d_law_table ["pot", "values", "most"] (sp_law_table K) := by
  refine OB.Fun.fg T.F_law_table sc_law_table (fun vs H Q E h => h.1) (fun cdv A out s H vs Q E g h => ?_)
  obtain ⟨_, F, G, i, j, p, q, n, ns, m, a, b, c, rfl, S, hF, hj, hij, po, hn, l0, l1, m0, m1, k⟩ := h
  refine ⟨_, (pss_cons (ps_par (i := 3) (j := 4) rfl sc_law_table.nd rfl rfl (by decide) rfl rfl (pa_cons (pe_lst (pa_cons (pe_tup (pa_cons pe_int (pa_cons (pe_callTy c_int (by rfl) T.n_int (by decide +kernel) (pa_cons (pe_cg (ok_law_of T) (g.mono (by decide : 2 ≤ 2)) (by rfl) T.m_law_of T.F_law_of.kp (OB.Fun.bd T.F_law_of (ps := ["pot", "some"]) (n := 2) (ks := []) (ix := [0, 1]) (fun _ _ _ _ _ _ us ws h1 h2 => match us, ws, h1, h2 with | [_, _], [], _, _ => rfl)) pass0 (pa_cons (pv 0) (pa_cons (pv 1) pa_nil)) pk_nil) pa_nil)) pa_nil))) pa_nil)) (pa_cons pe_int pa_nil)) (by rfl))
      (pss_cons (ps_for PassesOwn.never rfl (pi_range1 rfl T.n_range (pa_cons (pe_cg (ok_law_take T) (g.mono (by decide : 1 ≤ 2)) (by rfl) T.m_law_take T.F_law_take.kp (OB.Fun.bd T.F_law_take (ps := ["pot", "upto"]) (n := 2) (ks := []) (ix := [0, 1]) (fun _ _ _ _ _ _ us ws h1 h2 => match us, ws, h1, h2 with | [_, _], [], _, _ => rfl)) pass0 (pa_cons (pv 0) (pa_cons pe_int pa_nil)) pk_nil) pa_nil)) (pg_name (i := 5) sc_law_table.nd rfl (by first | exact Or.inl rfl | exact Or.inr rfl))
      (pss_cons (ps_set (i := 4) sc_law_table.nd rfl (by first | exact Or.inl rfl | exact Or.inr rfl) (pe_op op_add (pe_op op_add (pv 4) pe_int) (pe_cg (ok_law_take T) (g.mono (by decide : 1 ≤ 2)) (by rfl) T.m_law_take T.F_law_take.kp (OB.Fun.bd T.F_law_take (ps := ["pot", "upto"]) (n := 2) (ks := []) (ix := [0, 1]) (fun _ _ _ _ _ _ us ws h1 h2 => match us, ws, h1, h2 with | [_, _], [], _, _ => rfl)) pass0 (pa_cons (pv 0) (pa_cons (pv 2) pa_nil)) pk_nil)))
      (pss_one (ps_expr (pe_bm PySem.F.plainAttrs_list PySem.F.slot_list_append PySem.F.type_list_append mt_append (pv 3) (pa_cons (pe_tup (pa_cons (pe_callTy c_int (by rfl) T.n_int (by decide +kernel) (pa_cons (pv 4) pa_nil)) (pa_cons (pe_callTy c_int (by rfl) T.n_int (by decide +kernel) (pa_cons (pe_cg (ok_law_of T) (g.mono (by decide : 2 ≤ 2)) (by rfl) T.m_law_of T.F_law_of.kp (OB.Fun.bd T.F_law_of (ps := ["pot", "some"]) (n := 2) (ks := []) (ix := [0, 1]) (fun _ _ _ _ _ _ us ws h1 h2 => match us, ws, h1, h2 with | [_, _], [], _, _ => rfl)) pass0 (pa_cons (pv 0) (pa_cons (pv 1) pa_nil)) pk_nil) pa_nil)) pa_nil))) pa_nil))))))
      (pss_one (ps_ret (pe_callTy (toK (r := rTuple) (K := K) rfl c_tuple) (by rfl) T.n_tuple (by decide +kernel) (pa_cons (pv 3) pa_nil)))))), ?_⟩
  refine g_start (σ := [some _, some _, some _, none, none, none]) rfl ?_
  have hij' : ∀ x, (F.set i x)[j]? = some (q, .lst (ns.map V.int)) := fun x => by rw [List.getElem?_set_ne hij]; exact hj
  repeat walk_at "ob"
  refine use_of S hF hj hij po (by omega) l0 l1 fun v hv a1 b1 c1 H1 o1 S1 _ => ?_
  repeat walk_at "ob"
  rename_i t1 H2 _ S2 f H3 _ S3
  clear S2 S1
  refine g_forR ?_
  repeat walk_at "ob"
  refine use_take (i := i + 1) S3 (set_at hF) o1 (by omega) (by omega) (by omega) fun r a2 b2 c2 H4 q0 q1 o2 S4 _ => ?_
  have S5 := pot_under S4
  clear S3 S4
  repeat walk_at "ob"
  refine g_rgJ (by omega) (by omega) ?_
  refine rgfor_of (fun k σ' H' => ∃ v5 vs t d a' b' c', σ' = [some (.ref p), some (.ref q), some (.int m), some (.ref f), some (.int d), v5] ∧ PotOk (n + 2 + 2 * k) a' b' c' ∧ k ≤ 3 ∧ TabOk t ∧ (∀ x ∈ t, x.2 ∈ ns) ∧ (∀ x ∈ t, x.1 ≤ d) ∧ 0 ≤ d ∧ d ≤ 101 * k ∧ t.length = k + 1 ∧
    Sy K ((f, .lst vs) :: F.set i (p, potO a' b' c')) (.dat vs (t.map rowD) :: G) H') ⟨none, [.ref t1], [(0, v)], 0, a2, b2, c2, rfl, o2, by decide, ⟨Nat.le_of_ble_eq_true rfl, ⟨v, [], rfl⟩, ?_, by simp⟩, ?_, ?_, by decide, by decide, rfl, S5⟩ ?_ ?_
  · intro x hx
    cases List.mem_singleton.mp hx
    exact ⟨Int.le_refl _, (by decide : (0 : Int) ≤ 100000)⟩
  · intro x hx
    cases List.mem_singleton.mp hx
    exact hv
  · intro x hx
    cases List.mem_singleton.mp hx
    exact Int.le_refl _
  · rintro k2 σ' H' hk ⟨v5, vs, t, d, a', b', c', rfl, o3, k3, tok, tin, td, d0, d1, tl, S6⟩
    have hvs := dps_length (S6.dps 0 rfl)
    rw [List.length_map] at hvs
    repeat walk_at "ob"
    refine use_take (i := i + 1) S6 (set_at hF) o3 (by omega) (by omega) (by omega) fun x a4 b4 c4 H5 q2 q3 o4 S7 _ => ?_
    have S8 := pot_under S7
    clear S6 S7
    repeat walk_at "ob"
    refine use_of (i := i + 1) (j := j + 1) S8 (set_at hF) (hij' _) (by omega) o4 (by omega) l0 l1 fun v2 hv2 a5 b5 c5 H6 o5 S9 _ => ?_
    have S10 := pot_under S9
    clear S8 S9
    repeat walk_at "ob"
    rename_i t2 H7 _ S11
    refine g_appS S11 (f := 0) rfl (by omega) fun H8 S12 => ?_
    repeat walk_at "ob"
    have S13 := S12.fact (vs := vs ++ [.ref t2]) (ds := (t ++ [(d + 1 + x, v2)]).map rowD) (by rw [List.map_append]; exact dps_append (S12.dps 1 rfl) (S12.dps 0 rfl)) (tab_imm _)
    obtain ⟨tl1, ⟨v0, r0, t0⟩, tday, tup⟩ := tok
    refine ⟨_, vs ++ [V.ref t2], t ++ [(d + 1 + x, v2)], d + 1 + x, a5, b5, c5, rfl, o5.mono (by omega), by omega, ⟨?_, ⟨v0, r0 ++ [(d + 1 + x, v2)], by rw [t0]; rfl⟩, ?_, ?_⟩, ?_, ?_, by omega, by omega, by rw [List.length_append, List.length_singleton, tl], S13.drop2.drop2⟩
    · rw [List.length_append, List.length_singleton]
      omega
    · intro y hy
      rcases List.mem_append.mp hy with hy | hy
      · exact tday y hy
      · cases List.mem_singleton.mp hy
        exact ⟨by show 0 ≤ d + 1 + x; omega, by show d + 1 + x ≤ 100000; omega⟩
    · refine List.pairwise_append.mpr ⟨tup, by simp, fun y hy z hz => ?_⟩
      cases List.mem_singleton.mp hz
      have := td y hy
      show y.1 < d + 1 + x
      omega
    · intro y hy
      rcases List.mem_append.mp hy with hy | hy
      · exact tin y hy
      · cases List.mem_singleton.mp hy
        exact hv2
    · intro y hy
      rcases List.mem_append.mp hy with hy | hy
      · have := td y hy
        omega
      · cases List.mem_singleton.mp hy
        exact Int.le_refl _
  · rintro σ' H' ⟨v5, vs, t, d, a', b', c', rfl, o3, k3, tok, tin, td, d0, d1, tl, S6⟩
    repeat walk_at "ob"
    refine g_tup0 S6 (SqL.of (S6.at 0 rfl)) (S6.dps 0 rfl) (tab_imm t) fun q2 H7 _ S7 => ?_
    exact (k t q2 tok tin).use hF (o3.mono (by omega)) S7.less.drop2
/-- bounds of drawn tables -/
structure TabsD (b r y : List (Int × Int)) : Prop where
  ok : Tabs b r y
  b2 : ∀ x ∈ b, -1000000000 ≤ x.2 ∧ x.2 ≤ 1000000000
def sp_law_tables (K : Frag) : Sp := fun vs H Q E => vs.length = 2 ∧ ∃ (F : List (Addr × HO)) (G : List Ft) (i : Nat) (p : Addr) (n : Nat) (m a b c : Int), vs = [.ref p, .int m] ∧ Sy K F G H ∧ F[i]? = some (p, potO a b c) ∧ PotOk n a b c ∧ n < 800000 ∧ 0 < m ∧ m ≤ 100 ∧
  ∀ (tb tr ty : List (Int × Int)) (r : Addr), TabsD tb tr ty → PotK K F (.dat [.ref r] [.tuple [tabD tb, tabD tr, tabD ty]] :: G) i p (n + 26) (Q (.ref r))
abbrev names_law_tables : List Str := ["pot", "most", "balances", "rates"]
theorem sc_law_tables : FnScope names_law_tables ["pot", "most"] (defScope (top 50)) := ⟨rfl, rfl, rfl, by decide +kernel, rfl, by decide +kernel, by decide +kernel⟩
set_option maxHeartbeats 4000000 in
theorem ok_law_tables (T : Tx K mg) : FG P w K mg base CX0 4 T.a_law_tables T.d_law_tables ["pot", "most"] (sp_law_tables K) := by
  refine OB.Fun.fg T.F_law_tables sc_law_tables (fun vs H Q E h => h.1) (fun cdv A out s H vs Q E g h => ?_)
  obtain ⟨_, F, G, i, p, n, m, a, b, c, rfl, S, hF, po, hn, m0, m1, k⟩ := h
  refine ⟨_, (pss_cons (ps_set (i := 2) sc_law_tables.nd rfl (by first | exact Or.inl rfl | exact Or.inr rfl) (pe_cg (ok_law_table T) (g.mono (by decide : 3 ≤ 3)) (by rfl) T.m_law_table T.F_law_table.kp (OB.Fun.bd T.F_law_table (ps := ["pot", "values", "most"]) (n := 3) (ks := []) (ix := [0, 1, 2]) (fun _ _ _ _ _ _ us ws h1 h2 => match us, ws, h1, h2 with | [_, _, _], [], _, _ => rfl)) pass0 (pa_cons (pv 0) (pa_cons (pe_lst (pa_cons pe_int (pa_cons (pe_un un_neg pe_int) (pa_cons pe_int (pa_cons pe_int (pa_cons (pe_op op_powX pe_int pe_int) (pa_cons (pe_op op_add pe_int (pe_cg (ok_law_take T) (g.mono (by decide : 1 ≤ 3)) (by rfl) T.m_law_take T.F_law_take.kp (OB.Fun.bd T.F_law_take (ps := ["pot", "upto"]) (n := 2) (ks := []) (ix := [0, 1]) (fun _ _ _ _ _ _ us ws h1 h2 => match us, ws, h1, h2 with | [_, _], [], _, _ => rfl)) pass0 (pa_cons (pv 0) (pa_cons (pe_op op_powX pe_int pe_int) pa_nil)) pk_nil)) pa_nil))))))) (pa_cons (pv 1) pa_nil))) pk_nil))
      (pss_cons (ps_set (i := 3) sc_law_tables.nd rfl (by first | exact Or.inl rfl | exact Or.inr rfl) (pe_cg (ok_law_table T) (g.mono (by decide : 3 ≤ 3)) (by rfl) T.m_law_table T.F_law_table.kp (OB.Fun.bd T.F_law_table (ps := ["pot", "values", "most"]) (n := 3) (ks := []) (ix := [0, 1, 2]) (fun _ _ _ _ _ _ us ws h1 h2 => match us, ws, h1, h2 with | [_, _, _], [], _, _ => rfl)) pass0 (pa_cons (pv 0) (pa_cons (pe_lst (pa_cons pe_int (pa_cons pe_int (pa_cons (pe_op op_powX pe_int pe_int) (pa_cons (pe_op op_add pe_int (pe_cg (ok_law_take T) (g.mono (by decide : 1 ≤ 3)) (by rfl) T.m_law_take T.F_law_take.kp (OB.Fun.bd T.F_law_take (ps := ["pot", "upto"]) (n := 2) (ks := []) (ix := [0, 1]) (fun _ _ _ _ _ _ us ws h1 h2 => match us, ws, h1, h2 with | [_, _], [], _, _ => rfl)) pass0 (pa_cons (pv 0) (pa_cons (pe_op op_powX pe_int pe_int) pa_nil)) pk_nil)) pa_nil))))) (pa_cons (pv 1) pa_nil))) pk_nil))
      (pss_one (ps_ret (pe_tup (pa_cons (pv 2) (pa_cons (pv 3) (pa_cons (pe_cg (ok_law_table T) (g.mono (by decide : 3 ≤ 3)) (by rfl) T.m_law_table T.F_law_table.kp (OB.Fun.bd T.F_law_table (ps := ["pot", "values", "most"]) (n := 3) (ks := []) (ix := [0, 1, 2]) (fun _ _ _ _ _ _ us ws h1 h2 => match us, ws, h1, h2 with | [_, _, _], [], _, _ => rfl)) pass0 (pa_cons (pv 0) (pa_cons (pe_lst (pa_cons pe_int (pa_cons pe_int pa_nil))) (pa_cons (pv 1) pa_nil))) pk_nil) pa_nil)))))))), ?_⟩
  refine g_start (σ := [some _, some _, none, none]) rfl ?_
  have e9 : (10 : Int) ^ Int.toNat 9 = 1000000000 := by decide
  have e6 : (10 : Int) ^ Int.toNat 6 = 1000000 := by decide
  repeat walk_at "ob"
  refine use_take S hF po (by omega) (by decide) (by decide) fun r1 a1 b1 c1 H1 l1 u1 o1 S1 _ => ?_
  rw [e6] at u1
  repeat walk_at "ob"
  rename_i q2 H2 _ S2
  refine ⟨rfl, _, _, i + 1, 0, p, q2, _, [0, -7, 1000, 365000, 10 ^ Int.toNat 9, 1 + r1], m, a1, b1, c1, rfl, S2, set_at hF, rfl, by omega, o1, by omega, Nat.le_of_ble_eq_true rfl, Nat.le_of_ble_eq_true rfl, m0, m1, fun tb qb okb inb a2 b2 c2 H3 o2 S3 _ => ?_⟩
  have S4 := pot_less S3
  clear S1 S2 S3
  repeat walk_at "ob"
  refine use_take2 S4 hF o2 (by omega) (by decide) (by decide) fun r3 a3 b3 c3 H4 l3 u3 o3 S5 => ?_
  rw [e6] at u3
  clear S4
  repeat walk_at "ob"
  rename_i q4 H5 _ S6
  refine ⟨rfl, _, _, i + 1, 0, p, q4, _, [0, 50000, 10 ^ Int.toNat 6, 1 + r3], m, a3, b3, c3, rfl, S6, set_at hF, rfl, by omega, o3, by omega, Nat.le_of_ble_eq_true rfl, Nat.le_of_ble_eq_true rfl, m0, m1, fun tr qr okr inr a4 b4 c4 H6 o4 S7 _ => ?_⟩
  have S8 := pot_less S7
  clear S5 S6 S7
  repeat walk_at "ob"
  rename_i q5 H7 _ S9
  refine ⟨rfl, _, _, i + 1, 0, p, q5, _, [365, 366], m, a4, b4, c4, rfl, S9, set_at hF, rfl, by omega, o4, by omega, Nat.le_of_ble_eq_true rfl, Nat.le_of_ble_eq_true rfl, m0, m1, fun ty qy oky iny a5 b5 c5 H8 o5 S10 _ => ?_⟩
  have S11 := pot_less S10
  clear S8 S9 S10
  repeat walk_at "ob"
  have im : immAll [tabD tb, tabD tr, tabD ty] = true := immAll_of fun x hx => by
    simp only [List.mem_cons, List.not_mem_nil, or_false] at hx
    rcases hx with rfl | rfl | rfl <;> exact tab_imm _
  refine g_newT (ds := [tabD tb, tabD tr, tabD ty]) S11 (.cons (S11.dp 2 rfl) (.cons (S11.dp 1 rfl) (.cons (S11.dp 0 rfl) .nil))) im (Nat.le_of_ble_eq_true rfl) fun q6 H9 _ S12 => ?_
  rw [e9] at inb
  rw [e6] at inr
  have bb : ∀ x ∈ tb, -1000000000 ≤ x.2 ∧ x.2 ≤ 1000000000 := fun x hx => by
    have := inb x hx
    simp only [List.mem_cons, List.not_mem_nil, or_false] at this
    omega
  refine (k tb tr ty q6 ⟨⟨okb, okr, oky, fun x hx => ?_, fun x hx => ?_, fun x hx => ?_⟩, bb⟩).use hF (o5.mono (by omega)) S12.drop2.drop2.drop2
  · have := bb x hx
    omega
  · have := inr x hx
    simp only [List.mem_cons, List.not_mem_nil, or_false] at this
    omega
  · have := iny x hx
    simp only [List.mem_cons, List.not_mem_nil, or_false] at this
    exact this
end
end LAW

set_option Elab.async false
set_option linter.all false
set_option maxRecDepth 100000
namespace LAW
open PySem PySem.Spec PyProof.Rows L2 PySem.W OB
local macro_rules | `(tactic| walk_at "obc") => `(tactic| first
  | exact Or.inl ⟨by omega, by omega⟩
  | exact Or.inr ⟨by omega, by omega⟩
  | exact cdiv_ok (by omega) (by omega)
  | (show (0 : Int) < _; omega)
  | exact ⟨by omega, by decide⟩
  | exact ⟨by decide, by decide⟩)
local macro_rules | `(tactic| walk_at "obat") => `(tactic| first
  | exact Sy.at (by assumption) 0 rfl | exact Sy.at (by assumption) 1 rfl | exact Sy.at (by assumption) 2 rfl | exact Sy.at (by assumption) 3 rfl
  | exact Sy.at (by assumption) 4 rfl | exact Sy.at (by assumption) 5 rfl | exact Sy.at (by assumption) 6 rfl | exact Sy.at (by assumption) _ (by assumption) | exact Sy.at (by assumption) (_ + 1) (by assumption) | exact Sy.at (by assumption) (_ + 2) (by assumption))
local macro_rules | `(tactic| walk_at "obt") => `(tactic| first
  | exact Sy.tqs (by assumption) 0 rfl | exact Sy.tqs (by assumption) 1 rfl | exact Sy.tqs (by assumption) 2 rfl | exact Sy.tqs (by assumption) 3 rfl | exact Sy.tqs (by assumption) 4 rfl | exact Sy.tqs (by assumption) 5 rfl
  | exact Sy.tqs (by assumption) 6 rfl | exact Sy.tqs (by assumption) 7 rfl | assumption)
local macro_rules | `(tactic| walk_at "obl") => `(tactic| first
  | exact SqL.of (by walk_at "obat")
  | exact Sy.sq (by assumption) 0 rfl | exact Sy.sq (by assumption) 1 rfl | exact Sy.sq (by assumption) 2 rfl | exact Sy.sq (by assumption) 3 rfl | exact Sy.sq (by assumption) _ (by assumption))
local macro_rules | `(tactic| walk_at "obd") => `(tactic| first
  | exact Dp.int _ | exact Dp.bl _ | exact Dp.str _ | exact Dp.non
  | exact Sy.dp (by assumption) 0 rfl | exact Sy.dp (by assumption) 1 rfl | exact Sy.dp (by assumption) 2 rfl | exact Sy.dp (by assumption) 3 rfl
  | exact Sy.dp (by assumption) 4 rfl | exact Sy.dp (by assumption) 5 rfl | exact Sy.dp (by assumption) 6 rfl | exact Sy.dp (by assumption) 7 rfl
  | exact Sy.dp (by assumption) 8 rfl | exact Sy.dp (by assumption) 9 rfl | exact Sy.dp (by assumption) _ (by assumption) | assumption)
local macro_rules | `(tactic| walk_at "obds") => `(tactic| first
  | exact DpAll.nil
  | (refine' DpAll.cons ?ob1 ?ob2; (case ob1 => walk_at "obd"); (case ob2 => walk_at "obds"))
  | exact Sy.dps (by assumption) 0 rfl | exact Sy.dps (by assumption) 1 rfl | exact Sy.dps (by assumption) 2 rfl | exact Sy.dps (by assumption) 3 rfl | assumption)
local macro_rules | `(tactic| walk_at "obsc") => `(tactic| first
  | exact ScL.nil
  | ((first | refine' ScL.int ?obz | refine' ScL.str ?obz | refine' ScL.bl ?obz | refine' ScL.non ?obz); (case obz => walk_at "obsc")))
local macro_rules | `(tactic| walk_at "ob1") => `(tactic| first
  | ((with_reducible refine' g_var ?obh ?_); (case obh => rfl))
  | with_reducible refine g_c ?_
  | with_reducible refine g_nx ?_
  | with_reducible refine g_rt ?_
  | with_reducible refine g_bk ?_
  | with_reducible refine g_ct ?_
  | with_reducible refine g_op ?_
  | with_reducible refine g_I0 ?_
  | with_reducible refine g_test ?_
  | with_reducible refine g_bl ?_
  | with_reducible refine g_blx ?_
  | with_reducible refine g_B ?_
  | with_reducible refine g_seq ?_
  | with_reducible refine g_asg ?_
  | with_reducible refine g_name ?_
  | with_reducible refine g_ifS ?_
  | with_reducible refine g_ret ?_
  | with_reducible refine g_cb ?_
  | with_reducible refine g_cons ?_
  | with_reducible refine g_nil ?_
  | with_reducible refine g_int ?_
  | with_reducible refine g_intB ?_
  | with_reducible refine g_abs ?_
  | with_reducible refine g_max ?_
  | with_reducible refine g_min ?_
  | with_reducible refine g_un ?_
  | with_reducible refine g_U ?_
  | with_reducible refine g_eqI ?_
  | with_reducible refine g_neI ?_
  | with_reducible refine g_eqS ?_
  | with_reducible refine g_neS ?_
  | with_reducible refine g_tt ?_
  | with_reducible refine g_ff ?_
  | with_reducible refine g_next ?_
  | with_reducible refine g_drop ?_
  | with_reducible refine g_if ?_
  | with_reducible refine g_andV ?_
  | with_reducible refine g_orV ?_
  | with_reducible refine g_notV ?_
  | with_reducible refine g_and ?_
  | with_reducible refine g_or ?_
  | with_reducible refine g_not ?_
  | with_reducible refine g_yes ?_
  | with_reducible refine g_chain ?_
  | with_reducible refine g_cg ?_
  | with_reducible refine g_mg ?_
  | with_reducible refine g_kg ?_
  | with_reducible refine g_pg ?_
  | ((with_reducible refine' g_call ?obh ?obj ?_); (case obh => rfl); (case obj => rfl))
  | with_reducible refine g_par ?_
  | with_reducible refine g_par2 ?_
  | with_reducible refine g_par3 ?_
  | with_reducible refine g_par33 ?_
  | with_reducible refine g_gnil ?_
  | with_reducible refine g_gcons ?_
  | with_reducible refine g_gsub ?_
  | with_reducible refine g_ipI ?_
  | with_reducible refine g_rAdd ?_
  | with_reducible refine g_rSub ?_
  | ((with_reducible refine' g_aug ?obh ?_); (case obh => rfl))
  | with_reducible refine g_tup ?_
  | with_reducible refine g_lst ?_
  | with_reducible refine g_bm ?_
  | with_reducible refine g_bm0 ?_
  | with_reducible refine g_sl ?_
  | with_reducible refine g_nopart ?_
  | with_reducible refine g_part ?_
  | with_reducible refine g_pint ?_
  | with_reducible refine isi_int ?_
  | with_reducible refine isi_intB ?_
  | ((with_reducible refine' g_I ?obh ?_); (case obh => walk_at "obc"))
  | ((with_reducible refine' g_tyl ?obh ?_); (case obh => walk_at "obl"))
  | ((with_reducible refine' g_lenL ?obh ?_); (case obh => walk_at "obl"))
  | with_reducible refine g_ne ?_
  | ((with_reducible refine' g_neN' ?obh ?_); (case obh => rfl))
  | with_reducible refine g_ntt ?_
  | with_reducible refine g_nff ?_
  | with_reducible refine g_star ?_
  | with_reducible refine g_att ?_
  | with_reducible refine g_sfld ?_
  | with_reducible refine g_faug ?_
  | with_reducible refine g_fld ?_
  | ((with_reducible refine' g_nF ?obh ?_); (case obh => omega))
  | ((with_reducible refine' g_nT ?obh ?_); (case obh => omega))
  | ((with_reducible refine' g_TD ?obh ?_); (case obh => omega))
  | ((with_reducible refine' g_FD ?obh ?_); (case obh => omega))
  | ((with_reducible refine' g_ixUL ?obh ?obi ?_); (case obh => walk_at "obl"); (case obi => exact atI_nn (by omega) (by rfl)))
  | ((with_reducible refine' g_setLS ?obs ?obh ?obi ?_); (case obs => assumption); (case obh => assumption); (case obi => rfl); intro _ _ _)
  | ((with_reducible refine' g_newT ?obs ?obh ?obi ?obj ?_); (case obs => assumption); (case obh => walk_at "obds"); (case obi => rfl); (case obj => exact Nat.le_of_ble_eq_true rfl); intro _ _ _ _)
  | ((with_reducible refine' g_newL ?obs ?obj ?_); (case obs => assumption); (case obj => exact Nat.le_of_ble_eq_true rfl); intro _ _ _ _)
  | ((with_reducible refine' isi_tup ?obh ?_); (case obh => walk_at "obt"))
  | ((with_reducible refine' g_lenT ?obh ?_); (case obh => walk_at "obt"))
  | ((with_reducible refine' g_unpT ?obh ?obi ?_); (case obh => walk_at "obt"); (case obi => rfl))
  | ((with_reducible refine' g_divmod ?obs ?obh ?_); (case obs => assumption); (case obh => exact cdivp_ok (by omega) (by omega) (by omega)); intro _ _ _ _)
  | ((with_reducible refine' g_unpD ?obh ?obi ?obj ?_); (case obh => walk_at "obd"); (case obi => walk_at "obsc"); (case obj => rfl))
  | with_reducible refine g_att ?_)
local macro_rules | `(tactic| walk_at "obat19") => `(tactic| first | assumption | walk_at "obat")
local macro_rules | `(tactic| walk_at "ob") => `(tactic| first
  | walk_at "ob1"
  | refine use_is_integer ?_
  | refine use_is_within ?_
  | refine use_balance ?_
  | refine use_rate ?_
  | refine use_year (by assumption) ?_
  | refine use_unit ?_
  | refine use_rest (by omega) (by omega) ?_
  | refine use_parts (by walk_at "obd") (by assumption) ?_
  | refine use_is_stretch (by walk_at "obd") (by assumption) ?_
  | refine g_unpT (sqt_enc (by walk_at "obd")) rfl ?_
  | ((with_reducible refine' g_fldS ?obh ?obc ?obn ?obe ?_); (case obh => walk_at "obat19"); (case obc => exact AccC.c (by assumption)); (case obn => first | exact AccC.n1 (by assumption) | exact AccC.n2 (by assumption) | exact AccC.n3 (by assumption)); (case obe => rfl))
  | ((with_reducible refine' g_attS ?obs ?obh ?obc ?obn ?obl ?_); (case obs => assumption); (case obh => assumption); (case obc => exact AccC.c (by assumption)); (case obn => first | exact AccC.n1 (by assumption) | exact AccC.n2 (by assumption) | exact AccC.n3 (by assumption)); (case obl => exact Nat.le_of_ble_eq_true rfl); intro _ _ _)
  | ((with_reducible refine' g_augS ?obh ?obc ?obn ?obe ?_); (case obh => walk_at "obat19"); (case obc => exact AccC.c (by assumption)); (case obn => first | exact AccC.n1 (by assumption) | exact AccC.n2 (by assumption) | exact AccC.n3 (by assumption)); (case obe => rfl))
  | ((with_reducible refine' g_augE ?obs ?obh ?obl ?_); (case obs => assumption); (case obh => assumption); (case obl => exact Nat.le_of_ble_eq_true rfl); intro _ _ _)
  | ((with_reducible refine' g_ixUT ?obh ?obi ?_); (case obh => first | exact sqt_enc (by walk_at "obd") | walk_at "obt"); (case obi => rfl))
  | refine use_prest (by walk_at "obat19") (by assumption) ?_
  | refine use_ppaid (by walk_at "obat19") (by assumption) ?_
  | refine use_pdays (by walk_at "obat19") (by assumption) ?_
  | with_reducible refine g_lstRg ?_
  | with_reducible refine g_rg1 ?_
  | with_reducible refine g_rg2 ?_
  | ((with_reducible refine' g_tyd ?obh ?_); (case obh => walk_at "obat19"))
  | with_reducible refine g_tTru ?_
  | ((with_reducible refine' g_truL ?obh ?_); (case obh => walk_at "obl"))
  | with_reducible refine g_forZ ?_
  | with_reducible refine g_forR2 ?_
  | with_reducible refine g_lcZ ?_)
section
variable {P : Program} {w : World} {K : Frag} {mg : Str → Option Value} {base : Heap}
/-! ### what is paid in, plainly -/
def rowP (m : Int) (x : Row3) : Int := (if x.1 + m > 0 then x.1 + m else 0) * x.2.1 * (731 - x.2.2)
def segP (tb tr ty : List (Int × Int)) (m b : Int) (n : Nat) : Int := ((daysV tb tr ty b n).map (rowP m)).sum
def rowsE (tb tr ty : List (Int × Int)) : List Int → Int → Int → Int → List (Int × Int)
  | [], _, _, _ => []
  | e :: es, d, m, r => ((r + segP tb tr ty m d (e - d).toNat) / 133590000000, (r + segP tb tr ty m d (e - d).toNat) % 133590000000) ::
    rowsE tb tr ty es e (m + (r + segP tb tr ty m d (e - d).toNat) / 133590000000) ((r + segP tb tr ty m d (e - d).toNat) % 133590000000)
def moved (m : Int) (s : Str4) : Str4 := { s with b := s.b + m }
theorem sum_rep (n : Nat) (x : Int) : (List.replicate n x).sum = n * x := by
  induction n with
  | zero => simp
  | succ n ih =>
    rw [List.replicate_succ, List.sum_cons, ih]
    have : ((n + 1 : Nat) : Int) * x = n * x + x := by
      rw [Int.natCast_add, Int.add_mul]
      simp
    omega
theorem parts_moved (m : Int) {s : Str4} (h : 1 ≤ s.d) : parts (moved m s) = ((List.replicate s.d.toNat (val3 s)).map (rowP m)).sum := by
  rw [List.map_replicate, sum_rep]
  show s.d * _ * s.r * (731 - s.y) = (s.d.toNat : Int) * ((if s.b + m > 0 then s.b + m else 0) * s.r * (731 - s.y))
  rw [show ((s.d.toNat : Nat) : Int) = s.d by omega, Int.mul_assoc, Int.mul_assoc, Int.mul_assoc]
  rfl
theorem sumP_moved (m : Int) : ∀ {L : List Str4}, (∀ s ∈ L, 1 ≤ s.d) → sumP (L.map (moved m)) = ((flatV L).map (rowP m)).sum
  | [], _ => rfl
  | s :: L, h => by
    have e := sumP_moved m (L := L) fun x hx => h x (List.mem_cons_of_mem _ hx)
    have e2 := parts_moved m (h s (List.mem_cons_self ..))
    unfold sumP flatV at e ⊢
    rw [List.map_cons, List.map_cons, List.sum_cons, e, e2, List.flatMap_cons, List.map_append, List.sum_append]
theorem valOn_mem {t : List (Int × Int)} {d : Int} (h : ∃ v r, t = (0, v) :: r) (d0 : 0 ≤ d) : ∃ x ∈ t, x.2 = valOn t d := by
  have ne := vals_ne h d0
  have e2 : valOn t d = (valsTo t d).getLast ne := by
    unfold valOn
    rw [List.getLastD_eq_getLast?, List.getLast?_eq_some_getLast ne]
    rfl
  have hm := List.getLast_mem ne
  rw [← e2] at hm
  obtain ⟨x, hx, e⟩ := List.mem_map.mp hm
  exact ⟨x, (List.mem_filter.mp hx).1, e⟩
theorem Told.ok {tb tr ty : List (Int × Int)} {b : Int} {n : Nat} {L : List Str4} (h : Told tb tr ty b n L) (ok : TabsD tb tr ty) (hn : n ≤ 100000) {m : Int} (m0 : 0 ≤ m) (m1 : m ≤ 100000000000) : ∀ s ∈ L, Ok4 (moved m s) ∧ -1000000000 ≤ s.b ∧ s.b ≤ 1000000000 := by
  intro s hs
  obtain ⟨d, d0, hd⟩ := h.vals s hs
  have p1 := h.pos s hs
  have e1 : s.b = valOn tb d := congrArg (·.1) hd
  have e2 : s.r = valOn tr d := congrArg (·.2.1) hd
  have e3 : s.y = valOn ty d := congrArg (·.2.2) hd
  obtain ⟨x1, f1, g1⟩ := valOn_mem ok.ok.b0.first d0
  obtain ⟨x2, f2, g2⟩ := valOn_mem ok.ok.r0.first d0
  obtain ⟨x3, f3, g3⟩ := valOn_mem ok.ok.y0.first d0
  have q1 := ok.b2 x1 f1
  have q2 := ok.ok.r1 x2 f2
  have q3 := ok.ok.y1 x3 f3
  have len : s.d.toNat ≤ n := by
    have e := congrArg List.length h.flat
    unfold daysV at e
    rw [List.length_map, List.length_range] at e
    rw [← e]
    obtain ⟨A, B, rfl⟩ := List.append_of_mem hs
    unfold flatV
    rw [List.flatMap_append, List.flatMap_cons, List.length_append, List.length_append, List.length_replicate]
    omega
  rw [g1, ← e1] at q1
  rw [g2, ← e2] at q2
  rw [g3, ← e3] at q3
  exact ⟨⟨p1, by show s.d ≤ 100000; omega, by show _ ≤ s.b + m; omega, by show s.b + m ≤ _; omega, q2.1, q2.2, q3⟩, q1⟩
theorem seg_in {tb tr ty : List (Int × Int)} (ok : TabsD tb tr ty) {b m : Int} {n : Nat} (b0 : 0 ≤ b) (m0 : 0 ≤ m) (m1 : m ≤ 100000000000) (hn : n ≤ 40) : 0 ≤ segP tb tr ty m b n ∧ segP tb tr ty m b n ≤ 14640000000 * (1000000000 + m) := by
  have key : ∀ x ∈ daysV tb tr ty b n, 0 ≤ rowP m x ∧ rowP m x ≤ 366000000 * (1000000000 + m) := by
    intro x hx
    obtain ⟨i, hi, rfl⟩ := List.mem_map.mp hx
    obtain ⟨x1, f1, g1⟩ := valOn_mem ok.ok.b0.first (d := b + (i : Nat)) (by omega)
    obtain ⟨x2, f2, g2⟩ := valOn_mem ok.ok.r0.first (d := b + (i : Nat)) (by omega)
    obtain ⟨x3, f3, g3⟩ := valOn_mem ok.ok.y0.first (d := b + (i : Nat)) (by omega)
    have q1 := ok.b2 x1 f1
    have q2 := ok.ok.r1 x2 f2
    have q3 := ok.ok.y1 x3 f3
    rw [g1] at q1
    rw [g2] at q2
    rw [g3] at q3
    unfold rowP rowV
    have h0 : 0 ≤ (if valOn tb (b + (i : Nat)) + m > 0 then valOn tb (b + (i : Nat)) + m else 0) := by split <;> omega
    have h1 : (if valOn tb (b + (i : Nat)) + m > 0 then valOn tb (b + (i : Nat)) + m else 0) ≤ 1000000000 + m := by split <;> omega
    refine ⟨Int.mul_nonneg (Int.mul_nonneg h0 q2.1) (by show 0 ≤ 731 - valOn ty _; omega), ?_⟩
    have a2 := Int.mul_le_mul h1 q2.2 q2.1 (by omega)
    have a3 := Int.mul_le_mul a2 (show 731 - valOn ty (b + (i : Nat)) ≤ 366 by omega) (by omega) (by omega)
    show (if valOn tb (b + (i : Nat)) + m > 0 then valOn tb (b + (i : Nat)) + m else 0) * valOn tr (b + (i : Nat)) * (731 - valOn ty (b + (i : Nat))) ≤ _
    omega
  have kl : (daysV tb tr ty b n).length = n := by unfold daysV; rw [List.length_map, List.length_range]
  have gen : ∀ l : List Row3, (∀ x ∈ l, 0 ≤ rowP m x ∧ rowP m x ≤ 366000000 * (1000000000 + m)) → l.length ≤ 40 → 0 ≤ (l.map (rowP m)).sum ∧ (l.map (rowP m)).sum ≤ l.length * (366000000 * (1000000000 + m)) := by
    intro l
    induction l with
    | nil => intro _ _; simp
    | cons x l ih =>
      intro h hl
      have q := h x (List.mem_cons_self ..)
      obtain ⟨i1, i2⟩ := ih (fun y hy => h y (List.mem_cons_of_mem _ hy)) (by rw [List.length_cons] at hl; omega)
      rw [List.map_cons, List.sum_cons, List.length_cons]
      have e : ((l.length + 1 : Nat) : Int) * (366000000 * (1000000000 + m)) = l.length * (366000000 * (1000000000 + m)) + 366000000 * (1000000000 + m) := by
        rw [Int.natCast_add, Int.add_mul]
        simp
      omega
  obtain ⟨i1, i2⟩ := gen _ key (by omega)
  refine ⟨i1, ?_⟩
  have e : ((daysV tb tr ty b n).length : Int) * (366000000 * (1000000000 + m)) ≤ 40 * (366000000 * (1000000000 + m)) := Int.mul_le_mul_of_nonneg_right (by omega) (by omega)
  show ((daysV tb tr ty b n).map (rowP m)).sum ≤ _
  omega
/-! ### paid_in, walked -/
/-- ends that are not far from one another -/
structure Near (es : List Int) : Prop where
  step : ∀ (i : Nat) e, es[i]? = some e → (es.take i).getLastD 0 < e ∧ e ≤ (es.take i).getLastD 0 + 40
  len : es.length ≤ 4
theorem rowsE_len {tb tr ty : List (Int × Int)} : ∀ {es : List Int} {d m r : Int}, (rowsE tb tr ty es d m r).length = es.length
  | [], _, _, _ => rfl
  | e :: es, d, m, r => by
    show (rowsE tb tr ty es _ _ _).length + 1 = _
    rw [rowsE_len]
    rfl
theorem last_take {es : List Int} {i : Nat} {e : Int} (h : es[i]? = some e) : (es.take (i + 1)).getLastD 0 = e := by
  rw [List.take_add_one, h, List.getLastD_eq_getLast?]
  simp
theorem pairs_imm (l : List (Int × Int)) : immAll (l.map rowD) = true := tab_imm l
theorem g_forE3 {σ : L2.St} {H : Hp} {D : Ends} {g : TG} {tl : TE} {tb : TS} (k : tl σ H fun x H1 => tFor (iSeq K (tC x)) g tb D σ H1) : tFor (iSeq K tl) g tb D σ H := k
def sp_paid_in (K : Frag) : Sp := fun vs H Q E => vs.length = 5 ∧ ∃ (F : List (Addr × HO)) (G : List Ft) (pb pr py pe : Addr) (tb tr ty : List (Int × Int)) (es : List Int) (r : Int), vs = [.ref pb, .ref pr, .ref py, .ref pe, .int r] ∧ Sy K F G H ∧ L2.Dp K H (.ref pb) (tabD tb) ∧ L2.Dp K H (.ref pr) (tabD tr) ∧ L2.Dp K H (.ref py) (tabD ty) ∧ L2.Dp K H (.ref pe) (.tuple (es.map .int)) ∧
  TabsD tb tr ty ∧ EndsOk es ∧ Near es ∧ 0 ≤ r ∧ r ≤ 133589999999 ∧ ((∀ x ∈ rowsE tb tr ty es 0 0 r, (0 ≤ x.1 ∧ x.1 ≤ 1000000000) ∧ 0 ≤ x.2 ∧ x.2 ≤ 133589999999) → ∀ q H', Sy K F (.dat [.ref q] [.tuple ((rowsE tb tr ty es 0 0 r).map rowD)] :: G) H' → Q (.ref q) H')
end
end LAW

set_option Elab.async false
set_option linter.all false
set_option maxRecDepth 100000
namespace LAW
open PySem PySem.Spec PyProof.Rows L2 PySem.W OB
local macro_rules | `(tactic| walk_at "obc") => `(tactic| first
  | exact Or.inl ⟨by omega, by omega⟩
  | exact Or.inr ⟨by omega, by omega⟩
  | exact cdiv_ok (by omega) (by omega)
  | (show (0 : Int) < _; omega)
  | exact ⟨by omega, by decide⟩
  | exact ⟨by decide, by decide⟩)
local macro_rules | `(tactic| walk_at "obat") => `(tactic| first
  | exact Sy.at (by assumption) 0 rfl | exact Sy.at (by assumption) 1 rfl | exact Sy.at (by assumption) 2 rfl | exact Sy.at (by assumption) 3 rfl
  | exact Sy.at (by assumption) 4 rfl | exact Sy.at (by assumption) 5 rfl | exact Sy.at (by assumption) 6 rfl | exact Sy.at (by assumption) _ (by assumption) | exact Sy.at (by assumption) (_ + 1) (by assumption) | exact Sy.at (by assumption) (_ + 2) (by assumption))
local macro_rules | `(tactic| walk_at "obt") => `(tactic| first
  | exact Sy.tqs (by assumption) 0 rfl | exact Sy.tqs (by assumption) 1 rfl | exact Sy.tqs (by assumption) 2 rfl | exact Sy.tqs (by assumption) 3 rfl | exact Sy.tqs (by assumption) 4 rfl | exact Sy.tqs (by assumption) 5 rfl
  | exact Sy.tqs (by assumption) 6 rfl | exact Sy.tqs (by assumption) 7 rfl | assumption)
local macro_rules | `(tactic| walk_at "obl") => `(tactic| first
  | exact SqL.of (by walk_at "obat")
  | exact Sy.sq (by assumption) 0 rfl | exact Sy.sq (by assumption) 1 rfl | exact Sy.sq (by assumption) 2 rfl | exact Sy.sq (by assumption) 3 rfl | exact Sy.sq (by assumption) _ (by assumption))
local macro_rules | `(tactic| walk_at "obd") => `(tactic| first
  | exact Dp.int _ | exact Dp.bl _ | exact Dp.str _ | exact Dp.non
  | exact Sy.dp (by assumption) 0 rfl | exact Sy.dp (by assumption) 1 rfl | exact Sy.dp (by assumption) 2 rfl | exact Sy.dp (by assumption) 3 rfl
  | exact Sy.dp (by assumption) 4 rfl | exact Sy.dp (by assumption) 5 rfl | exact Sy.dp (by assumption) 6 rfl | exact Sy.dp (by assumption) 7 rfl
  | exact Sy.dp (by assumption) 8 rfl | exact Sy.dp (by assumption) 9 rfl | exact Sy.dp (by assumption) _ (by assumption) | assumption)
local macro_rules | `(tactic| walk_at "obds") => `(tactic| first
  | exact DpAll.nil
  | (refine' DpAll.cons ?ob1 ?ob2; (case ob1 => walk_at "obd"); (case ob2 => walk_at "obds"))
  | exact Sy.dps (by assumption) 0 rfl | exact Sy.dps (by assumption) 1 rfl | exact Sy.dps (by assumption) 2 rfl | exact Sy.dps (by assumption) 3 rfl | assumption)
local macro_rules | `(tactic| walk_at "obsc") => `(tactic| first
  | exact ScL.nil
  | ((first | refine' ScL.int ?obz | refine' ScL.str ?obz | refine' ScL.bl ?obz | refine' ScL.non ?obz); (case obz => walk_at "obsc")))
local macro_rules | `(tactic| walk_at "ob1") => `(tactic| first
  | ((with_reducible refine' g_var ?obh ?_); (case obh => rfl))
  | with_reducible refine g_c ?_
  | with_reducible refine g_nx ?_
  | with_reducible refine g_rt ?_
  | with_reducible refine g_bk ?_
  | with_reducible refine g_ct ?_
  | with_reducible refine g_op ?_
  | with_reducible refine g_I0 ?_
  | with_reducible refine g_test ?_
  | with_reducible refine g_bl ?_
  | with_reducible refine g_blx ?_
  | with_reducible refine g_B ?_
  | with_reducible refine g_seq ?_
  | with_reducible refine g_asg ?_
  | with_reducible refine g_name ?_
  | with_reducible refine g_ifS ?_
  | with_reducible refine g_ret ?_
  | with_reducible refine g_cb ?_
  | with_reducible refine g_cons ?_
  | with_reducible refine g_nil ?_
  | with_reducible refine g_int ?_
  | with_reducible refine g_intB ?_
  | with_reducible refine g_abs ?_
  | with_reducible refine g_max ?_
  | with_reducible refine g_min ?_
  | with_reducible refine g_un ?_
  | with_reducible refine g_U ?_
  | with_reducible refine g_eqI ?_
  | with_reducible refine g_neI ?_
  | with_reducible refine g_eqS ?_
  | with_reducible refine g_neS ?_
  | with_reducible refine g_tt ?_
  | with_reducible refine g_ff ?_
  | with_reducible refine g_next ?_
  | with_reducible refine g_drop ?_
  | with_reducible refine g_if ?_
  | with_reducible refine g_andV ?_
  | with_reducible refine g_orV ?_
  | with_reducible refine g_notV ?_
  | with_reducible refine g_and ?_
  | with_reducible refine g_or ?_
  | with_reducible refine g_not ?_
  | with_reducible refine g_yes ?_
  | with_reducible refine g_chain ?_
  | with_reducible refine g_cg ?_
  | with_reducible refine g_mg ?_
  | with_reducible refine g_kg ?_
  | with_reducible refine g_pg ?_
  | ((with_reducible refine' g_call ?obh ?obj ?_); (case obh => rfl); (case obj => rfl))
  | with_reducible refine g_par ?_
  | with_reducible refine g_par2 ?_
  | with_reducible refine g_par3 ?_
  | with_reducible refine g_par33 ?_
  | with_reducible refine g_gnil ?_
  | with_reducible refine g_gcons ?_
  | with_reducible refine g_gsub ?_
  | with_reducible refine g_ipI ?_
  | with_reducible refine g_rAdd ?_
  | with_reducible refine g_rSub ?_
  | ((with_reducible refine' g_aug ?obh ?_); (case obh => rfl))
  | with_reducible refine g_tup ?_
  | with_reducible refine g_lst ?_
  | with_reducible refine g_bm ?_
  | with_reducible refine g_bm0 ?_
  | with_reducible refine g_sl ?_
  | with_reducible refine g_nopart ?_
  | with_reducible refine g_part ?_
  | with_reducible refine g_pint ?_
  | with_reducible refine isi_int ?_
  | with_reducible refine isi_intB ?_
  | ((with_reducible refine' g_I ?obh ?_); (case obh => walk_at "obc"))
  | ((with_reducible refine' g_tyl ?obh ?_); (case obh => walk_at "obl"))
  | ((with_reducible refine' g_lenL ?obh ?_); (case obh => walk_at "obl"))
  | with_reducible refine g_ne ?_
  | ((with_reducible refine' g_neN' ?obh ?_); (case obh => rfl))
  | with_reducible refine g_ntt ?_
  | with_reducible refine g_nff ?_
  | with_reducible refine g_star ?_
  | with_reducible refine g_att ?_
  | with_reducible refine g_sfld ?_
  | with_reducible refine g_faug ?_
  | with_reducible refine g_fld ?_
  | ((with_reducible refine' g_nF ?obh ?_); (case obh => omega))
  | ((with_reducible refine' g_nT ?obh ?_); (case obh => omega))
  | ((with_reducible refine' g_TD ?obh ?_); (case obh => omega))
  | ((with_reducible refine' g_FD ?obh ?_); (case obh => omega))
  | ((with_reducible refine' g_ixUL ?obh ?obi ?_); (case obh => walk_at "obl"); (case obi => exact atI_nn (by omega) (by rfl)))
  | ((with_reducible refine' g_setLS ?obs ?obh ?obi ?_); (case obs => assumption); (case obh => assumption); (case obi => rfl); intro _ _ _)
  | ((with_reducible refine' g_newT ?obs ?obh ?obi ?obj ?_); (case obs => assumption); (case obh => walk_at "obds"); (case obi => rfl); (case obj => exact Nat.le_of_ble_eq_true rfl); intro _ _ _ _)
  | ((with_reducible refine' g_newL ?obs ?obj ?_); (case obs => assumption); (case obj => exact Nat.le_of_ble_eq_true rfl); intro _ _ _ _)
  | ((with_reducible refine' isi_tup ?obh ?_); (case obh => walk_at "obt"))
  | ((with_reducible refine' g_lenT ?obh ?_); (case obh => walk_at "obt"))
  | ((with_reducible refine' g_unpT ?obh ?obi ?_); (case obh => walk_at "obt"); (case obi => rfl))
  | ((with_reducible refine' g_divmod ?obs ?obh ?_); (case obs => assumption); (case obh => exact cdivp_ok (by omega) (by omega) (by omega)); intro _ _ _ _)
  | ((with_reducible refine' g_unpD ?obh ?obi ?obj ?_); (case obh => walk_at "obd"); (case obi => walk_at "obsc"); (case obj => rfl))
  | with_reducible refine g_att ?_)
local macro_rules | `(tactic| walk_at "obat19") => `(tactic| first | assumption | walk_at "obat")
local macro_rules | `(tactic| walk_at "ob") => `(tactic| first
  | walk_at "ob1"
  | refine use_is_integer ?_
  | refine use_is_within ?_
  | refine use_balance ?_
  | refine use_rate ?_
  | refine use_year (by assumption) ?_
  | refine use_unit ?_
  | refine use_rest (by omega) (by omega) ?_
  | refine use_parts (by walk_at "obd") (by assumption) ?_
  | refine use_is_stretch (by walk_at "obd") (by assumption) ?_
  | refine g_unpT (sqt_enc (by walk_at "obd")) rfl ?_
  | ((with_reducible refine' g_fldS ?obh ?obc ?obn ?obe ?_); (case obh => walk_at "obat19"); (case obc => exact AccC.c (by assumption)); (case obn => first | exact AccC.n1 (by assumption) | exact AccC.n2 (by assumption) | exact AccC.n3 (by assumption)); (case obe => rfl))
  | ((with_reducible refine' g_attS ?obs ?obh ?obc ?obn ?obl ?_); (case obs => assumption); (case obh => assumption); (case obc => exact AccC.c (by assumption)); (case obn => first | exact AccC.n1 (by assumption) | exact AccC.n2 (by assumption) | exact AccC.n3 (by assumption)); (case obl => exact Nat.le_of_ble_eq_true rfl); intro _ _ _)
  | ((with_reducible refine' g_augS ?obh ?obc ?obn ?obe ?_); (case obh => walk_at "obat19"); (case obc => exact AccC.c (by assumption)); (case obn => first | exact AccC.n1 (by assumption) | exact AccC.n2 (by assumption) | exact AccC.n3 (by assumption)); (case obe => rfl))
  | ((with_reducible refine' g_augE ?obs ?obh ?obl ?_); (case obs => assumption); (case obh => assumption); (case obl => exact Nat.le_of_ble_eq_true rfl); intro _ _ _)
  | ((with_reducible refine' g_ixUT ?obh ?obi ?_); (case obh => first | exact sqt_enc (by walk_at "obd") | walk_at "obt"); (case obi => rfl))
  | refine use_prest (by walk_at "obat19") (by assumption) ?_
  | refine use_ppaid (by walk_at "obat19") (by assumption) ?_
  | refine use_pdays (by walk_at "obat19") (by assumption) ?_
  | with_reducible refine g_lstRg ?_
  | with_reducible refine g_rg1 ?_
  | with_reducible refine g_rg2 ?_
  | ((with_reducible refine' g_tyd ?obh ?_); (case obh => walk_at "obat19"))
  | with_reducible refine g_tTru ?_
  | ((with_reducible refine' g_truL ?obh ?_); (case obh => walk_at "obl"))
  | with_reducible refine g_forZ ?_
  | with_reducible refine g_forR2 ?_
  | with_reducible refine g_lcZ ?_)
section
variable {P : Program} {w : World} {K : Frag} {mg : Str → Option Value} {base : Heap}
/-! ### two tellings of the same days are one -/
theorem flatV_cons (x : Str4) (L : List Str4) : flatV (x :: L) = List.replicate x.d.toNat (val3 x) ++ flatV L := by
  unfold flatV
  rw [List.flatMap_cons]
theorem flatV_nil {L : List Str4} (p : ∀ s ∈ L, 1 ≤ s.d) (h : flatV L = []) : L = [] := by
  cases L with
  | nil => rfl
  | cons x L =>
    have := p x (List.mem_cons_self ..)
    have e := congrArg List.length h
    rw [flatV_cons, List.length_append, List.length_replicate, List.length_nil] at e
    omega
def Alt (L : List Str4) : Prop := ∀ i x y, L[i]? = some x → L[i + 1]? = some y → val3 x ≠ val3 y
theorem Alt.tail {x : Str4} {L : List Str4} (h : Alt (x :: L)) : Alt L := fun i a b ha hb => h (i + 1) a b ha hb
/-- the head of what is left differs -/
theorem flat_head {x : Str4} {L : List Str4} (p : ∀ s ∈ L, 1 ≤ s.d) (h : Alt (x :: L)) : ∀ v r, flatV L = v :: r → v ≠ val3 x := by
  intro v r e
  cases L with
  | nil => cases e
  | cons y L =>
    have py := p y (List.mem_cons_self ..)
    have hy := h 0 x y rfl rfl
    rw [flatV_cons, show y.d.toNat = (y.d.toNat - 1) + 1 by omega, List.replicate_succ, List.cons_append] at e
    injection e with e1 e2
    rw [← e1]
    exact fun z => hy z.symm
theorem rep_eq {v : Row3} : ∀ {n m : Nat} {A B : List Row3}, (∀ x r, A = x :: r → x ≠ v) → (∀ x r, B = x :: r → x ≠ v) → List.replicate n v ++ A = List.replicate m v ++ B → n = m ∧ A = B
  | 0, 0, A, B, _, _, h => ⟨rfl, h⟩
  | 0, m + 1, A, B, ha, _, h => by
    rw [List.replicate_zero, List.nil_append, List.replicate_succ, List.cons_append] at h
    exact absurd rfl (ha _ _ h)
  | n + 1, 0, A, B, _, hb, h => by
    rw [List.replicate_zero, List.nil_append, List.replicate_succ, List.cons_append] at h
    exact absurd rfl (hb _ _ h.symm)
  | n + 1, m + 1, A, B, ha, hb, h => by
    rw [List.replicate_succ, List.replicate_succ, List.cons_append, List.cons_append] at h
    injection h with _ h
    obtain ⟨e1, e2⟩ := rep_eq ha hb h
    exact ⟨by omega, e2⟩
theorem told_one : ∀ {L M : List Str4}, (∀ s ∈ L, 1 ≤ s.d) → (∀ s ∈ M, 1 ≤ s.d) → Alt L → Alt M → flatV L = flatV M → L = M
  | [], M, _, pm, _, _, h => (flatV_nil pm h.symm).symm
  | x :: L, [], pl, _, _, _, h => flatV_nil pl h
  | x :: L, y :: M, pl, pm, al, am, h => by
    have px := pl x (List.mem_cons_self ..)
    have py := pm y (List.mem_cons_self ..)
    have plt : ∀ s ∈ L, 1 ≤ s.d := fun s hs => pl s (List.mem_cons_of_mem _ hs)
    have pmt : ∀ s ∈ M, 1 ≤ s.d := fun s hs => pm s (List.mem_cons_of_mem _ hs)
    rw [flatV_cons, flatV_cons] at h
    have hv : val3 x = val3 y := by
      have h2 := h
      rw [show x.d.toNat = (x.d.toNat - 1) + 1 by omega, show y.d.toNat = (y.d.toNat - 1) + 1 by omega, List.replicate_succ, List.replicate_succ, List.cons_append, List.cons_append] at h2
      injection h2
    rw [← hv] at h
    obtain ⟨e1, e2⟩ := rep_eq (flat_head plt al) (fun v r e => by rw [hv]; exact flat_head pmt am v r e) h
    have e3 := told_one plt pmt al.tail am.tail e2
    subst e3
    congr 1
    obtain ⟨d1, b1, r1, y1⟩ := x
    obtain ⟨d2, b2, r2, y2⟩ := y
    injection hv with i1 i2
    injection i2 with i3 i4
    have e4 : d1 = d2 := by
      have a1 : (1 : Int) ≤ d1 := px
      have a2 : (1 : Int) ≤ d2 := py
      have a3 : d1.toNat = d2.toNat := e1
      omega
    cases e4
    have j1 : b1 = b2 := i1
    have j2 : r1 = r2 := i3
    have j3 : y1 = y2 := i4
    rw [j1, j2, j3]
end
end LAW

set_option Elab.async false
set_option linter.all false
set_option maxRecDepth 100000
namespace LAW
open PySem PySem.Spec PyProof.Rows L2 PySem.W OB
local macro_rules | `(tactic| walk_at "obc") => `(tactic| first
  | exact Or.inl ⟨by omega, by omega⟩
  | exact Or.inr ⟨by omega, by omega⟩
  | exact cdiv_ok (by omega) (by omega)
  | (show (0 : Int) < _; omega)
  | exact ⟨by omega, by decide⟩
  | exact ⟨by decide, by decide⟩)
local macro_rules | `(tactic| walk_at "obat") => `(tactic| first
  | exact Sy.at (by assumption) 0 rfl | exact Sy.at (by assumption) 1 rfl | exact Sy.at (by assumption) 2 rfl | exact Sy.at (by assumption) 3 rfl
  | exact Sy.at (by assumption) 4 rfl | exact Sy.at (by assumption) 5 rfl | exact Sy.at (by assumption) 6 rfl | exact Sy.at (by assumption) _ (by assumption) | exact Sy.at (by assumption) (_ + 1) (by assumption) | exact Sy.at (by assumption) (_ + 2) (by assumption))
local macro_rules | `(tactic| walk_at "obt") => `(tactic| first
  | exact Sy.tqs (by assumption) 0 rfl | exact Sy.tqs (by assumption) 1 rfl | exact Sy.tqs (by assumption) 2 rfl | exact Sy.tqs (by assumption) 3 rfl | exact Sy.tqs (by assumption) 4 rfl | exact Sy.tqs (by assumption) 5 rfl
  | exact Sy.tqs (by assumption) 6 rfl | exact Sy.tqs (by assumption) 7 rfl | assumption)
local macro_rules | `(tactic| walk_at "obl") => `(tactic| first
  | exact SqL.of (by walk_at "obat")
  | exact Sy.sq (by assumption) 0 rfl | exact Sy.sq (by assumption) 1 rfl | exact Sy.sq (by assumption) 2 rfl | exact Sy.sq (by assumption) 3 rfl | exact Sy.sq (by assumption) _ (by assumption))
local macro_rules | `(tactic| walk_at "obd") => `(tactic| first
  | exact Dp.int _ | exact Dp.bl _ | exact Dp.str _ | exact Dp.non
  | exact Sy.dp (by assumption) 0 rfl | exact Sy.dp (by assumption) 1 rfl | exact Sy.dp (by assumption) 2 rfl | exact Sy.dp (by assumption) 3 rfl
  | exact Sy.dp (by assumption) 4 rfl | exact Sy.dp (by assumption) 5 rfl | exact Sy.dp (by assumption) 6 rfl | exact Sy.dp (by assumption) 7 rfl
  | exact Sy.dp (by assumption) 8 rfl | exact Sy.dp (by assumption) 9 rfl | exact Sy.dp (by assumption) _ (by assumption) | assumption)
local macro_rules | `(tactic| walk_at "obds") => `(tactic| first
  | exact DpAll.nil
  | (refine' DpAll.cons ?ob1 ?ob2; (case ob1 => walk_at "obd"); (case ob2 => walk_at "obds"))
  | exact Sy.dps (by assumption) 0 rfl | exact Sy.dps (by assumption) 1 rfl | exact Sy.dps (by assumption) 2 rfl | exact Sy.dps (by assumption) 3 rfl | assumption)
local macro_rules | `(tactic| walk_at "obsc") => `(tactic| first
  | exact ScL.nil
  | ((first | refine' ScL.int ?obz | refine' ScL.str ?obz | refine' ScL.bl ?obz | refine' ScL.non ?obz); (case obz => walk_at "obsc")))
local macro_rules | `(tactic| walk_at "ob1") => `(tactic| first
  | ((with_reducible refine' g_var ?obh ?_); (case obh => rfl))
  | with_reducible refine g_c ?_
  | with_reducible refine g_nx ?_
  | with_reducible refine g_rt ?_
  | with_reducible refine g_bk ?_
  | with_reducible refine g_ct ?_
  | with_reducible refine g_op ?_
  | with_reducible refine g_I0 ?_
  | with_reducible refine g_test ?_
  | with_reducible refine g_bl ?_
  | with_reducible refine g_blx ?_
  | with_reducible refine g_B ?_
  | with_reducible refine g_seq ?_
  | with_reducible refine g_asg ?_
  | with_reducible refine g_name ?_
  | with_reducible refine g_ifS ?_
  | with_reducible refine g_ret ?_
  | with_reducible refine g_cb ?_
  | with_reducible refine g_cons ?_
  | with_reducible refine g_nil ?_
  | with_reducible refine g_int ?_
  | with_reducible refine g_intB ?_
  | with_reducible refine g_abs ?_
  | with_reducible refine g_max ?_
  | with_reducible refine g_min ?_
  | with_reducible refine g_un ?_
  | with_reducible refine g_U ?_
  | with_reducible refine g_eqI ?_
  | with_reducible refine g_neI ?_
  | with_reducible refine g_eqS ?_
  | with_reducible refine g_neS ?_
  | with_reducible refine g_tt ?_
  | with_reducible refine g_ff ?_
  | with_reducible refine g_next ?_
  | with_reducible refine g_drop ?_
  | with_reducible refine g_if ?_
  | with_reducible refine g_andV ?_
  | with_reducible refine g_orV ?_
  | with_reducible refine g_notV ?_
  | with_reducible refine g_and ?_
  | with_reducible refine g_or ?_
  | with_reducible refine g_not ?_
  | with_reducible refine g_yes ?_
  | with_reducible refine g_chain ?_
  | with_reducible refine g_cg ?_
  | with_reducible refine g_mg ?_
  | with_reducible refine g_kg ?_
  | with_reducible refine g_pg ?_
  | ((with_reducible refine' g_call ?obh ?obj ?_); (case obh => rfl); (case obj => rfl))
  | with_reducible refine g_par ?_
  | with_reducible refine g_par2 ?_
  | with_reducible refine g_par3 ?_
  | with_reducible refine g_par33 ?_
  | with_reducible refine g_gnil ?_
  | with_reducible refine g_gcons ?_
  | with_reducible refine g_gsub ?_
  | with_reducible refine g_ipI ?_
  | with_reducible refine g_rAdd ?_
  | with_reducible refine g_rSub ?_
  | ((with_reducible refine' g_aug ?obh ?_); (case obh => rfl))
  | with_reducible refine g_tup ?_
  | with_reducible refine g_lst ?_
  | with_reducible refine g_bm ?_
  | with_reducible refine g_bm0 ?_
  | with_reducible refine g_sl ?_
  | with_reducible refine g_nopart ?_
  | with_reducible refine g_part ?_
  | with_reducible refine g_pint ?_
  | with_reducible refine isi_int ?_
  | with_reducible refine isi_intB ?_
  | ((with_reducible refine' g_I ?obh ?_); (case obh => walk_at "obc"))
  | ((with_reducible refine' g_tyl ?obh ?_); (case obh => walk_at "obl"))
  | ((with_reducible refine' g_lenL ?obh ?_); (case obh => walk_at "obl"))
  | with_reducible refine g_ne ?_
  | ((with_reducible refine' g_neN' ?obh ?_); (case obh => rfl))
  | with_reducible refine g_ntt ?_
  | with_reducible refine g_nff ?_
  | with_reducible refine g_star ?_
  | with_reducible refine g_att ?_
  | with_reducible refine g_sfld ?_
  | with_reducible refine g_faug ?_
  | with_reducible refine g_fld ?_
  | ((with_reducible refine' g_nF ?obh ?_); (case obh => omega))
  | ((with_reducible refine' g_nT ?obh ?_); (case obh => omega))
  | ((with_reducible refine' g_TD ?obh ?_); (case obh => omega))
  | ((with_reducible refine' g_FD ?obh ?_); (case obh => omega))
  | ((with_reducible refine' g_ixUL ?obh ?obi ?_); (case obh => walk_at "obl"); (case obi => exact atI_nn (by omega) (by rfl)))
  | ((with_reducible refine' g_setLS ?obs ?obh ?obi ?_); (case obs => assumption); (case obh => assumption); (case obi => rfl); intro _ _ _)
  | ((with_reducible refine' g_newT ?obs ?obh ?obi ?obj ?_); (case obs => assumption); (case obh => walk_at "obds"); (case obi => rfl); (case obj => exact Nat.le_of_ble_eq_true rfl); intro _ _ _ _)
  | ((with_reducible refine' g_newL ?obs ?obj ?_); (case obs => assumption); (case obj => exact Nat.le_of_ble_eq_true rfl); intro _ _ _ _)
  | ((with_reducible refine' isi_tup ?obh ?_); (case obh => walk_at "obt"))
  | ((with_reducible refine' g_lenT ?obh ?_); (case obh => walk_at "obt"))
  | ((with_reducible refine' g_unpT ?obh ?obi ?_); (case obh => walk_at "obt"); (case obi => rfl))
  | ((with_reducible refine' g_divmod ?obs ?obh ?_); (case obs => assumption); (case obh => exact cdivp_ok (by omega) (by omega) (by omega)); intro _ _ _ _)
  | ((with_reducible refine' g_unpD ?obh ?obi ?obj ?_); (case obh => walk_at "obd"); (case obi => walk_at "obsc"); (case obj => rfl))
  | with_reducible refine g_att ?_)
local macro_rules | `(tactic| walk_at "obat19") => `(tactic| first | assumption | walk_at "obat")
local macro_rules | `(tactic| walk_at "ob") => `(tactic| first
  | walk_at "ob1"
  | refine use_is_integer ?_
  | refine use_is_within ?_
  | refine use_balance ?_
  | refine use_rate ?_
  | refine use_year (by assumption) ?_
  | refine use_unit ?_
  | refine use_rest (by omega) (by omega) ?_
  | refine use_parts (by walk_at "obd") (by assumption) ?_
  | refine use_is_stretch (by walk_at "obd") (by assumption) ?_
  | refine g_unpT (sqt_enc (by walk_at "obd")) rfl ?_
  | ((with_reducible refine' g_fldS ?obh ?obc ?obn ?obe ?_); (case obh => walk_at "obat19"); (case obc => exact AccC.c (by assumption)); (case obn => first | exact AccC.n1 (by assumption) | exact AccC.n2 (by assumption) | exact AccC.n3 (by assumption)); (case obe => rfl))
  | ((with_reducible refine' g_attS ?obs ?obh ?obc ?obn ?obl ?_); (case obs => assumption); (case obh => assumption); (case obc => exact AccC.c (by assumption)); (case obn => first | exact AccC.n1 (by assumption) | exact AccC.n2 (by assumption) | exact AccC.n3 (by assumption)); (case obl => exact Nat.le_of_ble_eq_true rfl); intro _ _ _)
  | ((with_reducible refine' g_augS ?obh ?obc ?obn ?obe ?_); (case obh => walk_at "obat19"); (case obc => exact AccC.c (by assumption)); (case obn => first | exact AccC.n1 (by assumption) | exact AccC.n2 (by assumption) | exact AccC.n3 (by assumption)); (case obe => rfl))
  | ((with_reducible refine' g_augE ?obs ?obh ?obl ?_); (case obs => assumption); (case obh => assumption); (case obl => exact Nat.le_of_ble_eq_true rfl); intro _ _ _)
  | ((with_reducible refine' g_ixUT ?obh ?obi ?_); (case obh => first | exact sqt_enc (by walk_at "obd") | walk_at "obt"); (case obi => rfl))
  | refine use_prest (by walk_at "obat19") (by assumption) ?_
  | refine use_ppaid (by walk_at "obat19") (by assumption) ?_
  | refine use_pdays (by walk_at "obat19") (by assumption) ?_
  | with_reducible refine g_lstRg ?_
  | with_reducible refine g_rg1 ?_
  | with_reducible refine g_rg2 ?_
  | ((with_reducible refine' g_tyd ?obh ?_); (case obh => walk_at "obat19"))
  | with_reducible refine g_tTru ?_
  | ((with_reducible refine' g_truL ?obh ?_); (case obh => walk_at "obl"))
  | with_reducible refine g_forZ ?_
  | with_reducible refine g_forR2 ?_
  | with_reducible refine g_lcZ ?_)
section
variable {P : Program} {w : World} {K : Frag} {mg : Str → Option Value} {base : Heap}
/-! ### asked of tables -/
def sp_check_number (K : Frag) : Sp := fun vs H Q E => vs.length = 3 ∧ ∃ a b c : Int, vs = [.int a, .int b, .int c] ∧ b ≤ a ∧ a ≤ c ∧ Q .non H
abbrev names_check_number : List Str := ["number", "least", "most"]
theorem sc_check_number : FnScope names_check_number ["number", "least", "most"] (defScope (top 29)) := ⟨rfl, rfl, rfl, by decide +kernel, rfl, by decide +kernel, by decide +kernel⟩
set_option maxHeartbeats 4000000 in
theorem ok_check_number (T : Tx K mg) : FG P w K mg base CX0 3 T.a_check_number T.d_check_number ["number", "least", "most"] (sp_check_number K) := by
  refine OB.Fun.fg T.F_check_number sc_check_number (fun vs H Q E h => h.1) (fun cdv A out s H vs Q E g h => ?_)
  obtain ⟨_, a, b, c, rfl, h1, h2, k⟩ := h
  refine ⟨_, (pss_one (ps_if (pt_not (pt_val (pe_cg (ok_is_within T) (g.mono (by decide : 2 ≤ 2)) (by rfl) T.m_is_within T.F_is_within.kp (OB.Fun.bd T.F_is_within (ps := ["value", "least", "most"]) (n := 3) (ks := []) (ix := [0, 1, 2]) (fun _ _ _ _ _ _ us ws h1 h2 => match us, ws, h1, h2 with | [_, _, _], [], _, _ => rfl)) pass0 (pa_cons (pv 0) (pa_cons (pv 1) (pa_cons (pv 2) pa_nil))) pk_nil))) (pss_one ps_never) pss_nil)), ?_⟩
  refine g_start (σ := [some _, some _, some _]) rfl ?_
  repeat walk_at "ob"
  exact k
theorem use_number {a b c : Int} {H : Hp} {Q : VK} {E : XK} (h1 : b ≤ a) (h2 : a ≤ c) (k : Q .non H) : sp_check_number K [.int a, .int b, .int c] H Q E := ⟨rfl, a, b, c, rfl, h1, h2, k⟩
def sp_value_at (K : Frag) : Sp := fun vs H Q E => vs.length = 2 ∧ ∃ (F : List (Addr × HO)) (G : List Ft) (p : Addr) (t : List (Int × Int)) (d : Int), vs = [.ref p, .int d] ∧ Sy K F G H ∧ L2.Dp K H (.ref p) (tabD t) ∧ TabOk t ∧ 0 ≤ d ∧ d ≤ 100000 ∧ ∀ H', Sy K F G H' → Q (.int (valOn t d)) H'
abbrev names_value_at : List Str := ["table", "day"]
theorem sc_value_at : FnScope names_value_at ["table", "day"] (defScope (top 36)) := ⟨rfl, rfl, rfl, by decide +kernel, rfl, by decide +kernel, by decide +kernel⟩
set_option maxHeartbeats 4000000 in
theorem ok_value_at (T : Tx K mg) : FG P w K mg base CX0 4 T.a_value_at T.d_value_at ["table", "day"] (sp_value_at K) := by
  refine OB.Fun.fg T.F_value_at sc_value_at (fun vs H Q E h => h.1) (fun cdv A out s H vs Q E g h => ?_)
  obtain ⟨_, F, G, p, t, d, rfl, S, hd, ok, d0, d1, k⟩ := h
  refine ⟨_, (pss_cons (ps_if (pt_not (pt_val (pe_cg (ok_is_table T) (g.mono (by decide : 3 ≤ 3)) (by rfl) T.m_is_table T.F_is_table.kp (OB.Fun.bd T.F_is_table (ps := ["value"]) (n := 1) (ks := []) (ix := [0]) (fun _ _ _ _ _ _ us ws h1 h2 => match us, ws, h1, h2 with | [_], [], _, _ => rfl)) pass0 (pa_cons (pv 0) pa_nil) pk_nil))) (pss_one ps_never) pss_nil)
      (pss_cons (ps_expr (pe_cg (ok_check_number T) (g.mono (by decide : 3 ≤ 3)) (by rfl) T.m_check_number T.F_check_number.kp (OB.Fun.bd T.F_check_number (ps := ["number", "least", "most"]) (n := 3) (ks := []) (ix := [0, 1, 2]) (fun _ _ _ _ _ _ us ws h1 h2 => match us, ws, h1, h2 with | [_, _, _], [], _, _ => rfl)) pass0 (pa_cons (pv 1) (pa_cons pe_int (pa_cons (pe_glob (v := .int 100000) (by rfl) T.g_MOST_DAYS ⟨_, rfl⟩) pa_nil))) pk_nil))
      (pss_one (ps_ret (pe_cg (ok_value_on T) (g.mono (by decide : 1 ≤ 3)) (by rfl) T.m_value_on T.F_value_on.kp (OB.Fun.bd T.F_value_on (ps := ["table", "day"]) (n := 2) (ks := []) (ix := [0, 1]) (fun _ _ _ _ _ _ us ws h1 h2 => match us, ws, h1, h2 with | [_, _], [], _, _ => rfl)) pass0 (pa_cons (pv 0) (pa_cons (pv 1) pa_nil)) pk_nil))))), ?_⟩
  refine g_start (σ := [some _, some _]) rfl ?_
  have S1 := S.add _ (dat_tab hd)
  repeat walk_at "ob"
  refine use_is_table S1 (S1.dp 0 rfl) ok fun H1 S2 => ?_
  repeat walk_at "ob"
  refine use_number d0 d1 ?_
  repeat walk_at "ob"
  refine use_value_on S2 (S2.dp 0 rfl) ok.len ok.first d0 fun H2 S3 => ?_
  exact k _ S3.drop
def sp_stretches_of (K : Frag) : Sp := fun vs H Q E => vs.length = 5 ∧ ∃ (F : List (Addr × HO)) (G : List Ft) (pb pr py : Addr) (tb tr ty : List (Int × Int)) (b e : Int), vs = [.ref pb, .ref pr, .ref py, .int b, .int e] ∧ Sy K F G H ∧ L2.Dp K H (.ref pb) (tabD tb) ∧ L2.Dp K H (.ref pr) (tabD tr) ∧ L2.Dp K H (.ref py) (tabD ty) ∧ Tabs tb tr ty ∧ 0 ≤ b ∧ b ≤ e ∧ e ≤ 100000 ∧
  ∀ (L : List Str4) (q : Addr) H', Told tb tr ty b (e - b).toNat L → L.length ≤ 100 → Sy K F (.dat [.ref q] [encs L] :: G) H' → Q (.ref q) H'
abbrev names_stretches_of : List Str := ["balances", "rates", "years", "begin", "end"]
theorem sc_stretches_of : FnScope names_stretches_of ["balances", "rates", "years", "begin", "end"] (defScope (top 38)) := ⟨rfl, rfl, rfl, by decide +kernel, rfl, by decide +kernel, by decide +kernel⟩
set_option maxHeartbeats 4000000 in
theorem ok_stretches_of (T : Tx K mg) : FG P w K mg base CX0 5 T.a_stretches_of T.d_stretches_of ["balances", "rates", "years", "begin", "end"] (sp_stretches_of K) := by
  refine OB.Fun.fg T.F_stretches_of sc_stretches_of (fun vs H Q E h => h.1) (fun cdv A out s H vs Q E g h => ?_)
  obtain ⟨_, F, G, pb, pr, py, tb, tr, ty, b, e, rfl, S, hb, hr, hy, ok, b0, be, e1, k⟩ := h
  refine ⟨_, (pss_cons (ps_expr (pe_cg (ok_check_tables T) (g.mono (by decide : 4 ≤ 4)) (by rfl) T.m_check_tables T.F_check_tables.kp (OB.Fun.bd T.F_check_tables (ps := ["balances", "rates", "years"]) (n := 3) (ks := []) (ix := [0, 1, 2]) (fun _ _ _ _ _ _ us ws h1 h2 => match us, ws, h1, h2 with | [_, _, _], [], _, _ => rfl)) pass0 (pa_cons (pv 0) (pa_cons (pv 1) (pa_cons (pv 2) pa_nil))) pk_nil))
      (pss_cons (ps_expr (pe_cg (ok_check_number T) (g.mono (by decide : 3 ≤ 4)) (by rfl) T.m_check_number T.F_check_number.kp (OB.Fun.bd T.F_check_number (ps := ["number", "least", "most"]) (n := 3) (ks := []) (ix := [0, 1, 2]) (fun _ _ _ _ _ _ us ws h1 h2 => match us, ws, h1, h2 with | [_, _, _], [], _, _ => rfl)) pass0 (pa_cons (pv 3) (pa_cons pe_int (pa_cons (pe_glob (v := .int 100000) (by rfl) T.g_MOST_DAYS ⟨_, rfl⟩) pa_nil))) pk_nil))
      (pss_cons (ps_expr (pe_cg (ok_check_number T) (g.mono (by decide : 3 ≤ 4)) (by rfl) T.m_check_number T.F_check_number.kp (OB.Fun.bd T.F_check_number (ps := ["number", "least", "most"]) (n := 3) (ks := []) (ix := [0, 1, 2]) (fun _ _ _ _ _ _ us ws h1 h2 => match us, ws, h1, h2 with | [_, _, _], [], _, _ => rfl)) pass0 (pa_cons (pv 4) (pa_cons pe_int (pa_cons (pe_glob (v := .int 100000) (by rfl) T.g_MOST_DAYS ⟨_, rfl⟩) pa_nil))) pk_nil))
      (pss_cons (ps_if (pt_cmpR op_lt (pv 4) (pv 3) (nomark _)) (pss_one ps_never) pss_nil)
      (pss_one (ps_ret (pe_cg (ok_days_told T) (g.mono (by decide : 2 ≤ 4)) (by rfl) T.m_days_told T.F_days_told.kp (OB.Fun.bd T.F_days_told (ps := ["balances", "rates", "years", "begin", "end"]) (n := 5) (ks := []) (ix := [0, 1, 2, 3, 4]) (fun _ _ _ _ _ _ us ws h1 h2 => match us, ws, h1, h2 with | [_, _, _, _, _], [], _, _ => rfl)) pass0 (pa_cons (pv 0) (pa_cons (pv 1) (pa_cons (pv 2) (pa_cons (pv 3) (pa_cons (pv 4) pa_nil))))) pk_nil))))))), ?_⟩
  refine g_start (σ := [some _, some _, some _, some _, some _]) rfl ?_
  have S1 := ((S.add _ (dat_tab hb)).add _ (dat_tab hr)).add _ (dat_tab hy)
  repeat walk_at "ob"
  refine ⟨rfl, _, _, pb, pr, py, tb, tr, ty, rfl, S1, S1.dp 2 rfl, S1.dp 1 rfl, S1.dp 0 rfl, ok, fun H1 S2 => ?_⟩
  clear S1
  repeat walk_at "ob"
  refine use_number b0 (by omega) ?_
  repeat walk_at "ob"
  refine use_number (by omega) e1 ?_
  repeat walk_at "ob"
  refine ⟨rfl, _, _, pb, pr, py, tb, tr, ty, b, e, rfl, S2, S2.dp 2 rfl, S2.dp 1 rfl, S2.dp 0 rfl, ok, b0, be, e1, fun L q H' tl ll S3 => ?_⟩
  exact k L q H' tl ll S3.drop2.drop2.drop2
end
end LAW

set_option Elab.async false
set_option linter.all false
set_option maxRecDepth 100000
namespace LAW
open PySem PySem.Spec PyProof.Rows L2 PySem.W OB
local macro_rules | `(tactic| walk_at "obc") => `(tactic| first
  | exact Or.inl ⟨by omega, by omega⟩
  | exact Or.inr ⟨by omega, by omega⟩
  | exact cdiv_ok (by omega) (by omega)
  | (show (0 : Int) < _; omega)
  | exact ⟨by omega, by decide⟩
  | exact ⟨by decide, by decide⟩)
local macro_rules | `(tactic| walk_at "obat") => `(tactic| first
  | exact Sy.at (by assumption) 0 rfl | exact Sy.at (by assumption) 1 rfl | exact Sy.at (by assumption) 2 rfl | exact Sy.at (by assumption) 3 rfl
  | exact Sy.at (by assumption) 4 rfl | exact Sy.at (by assumption) 5 rfl | exact Sy.at (by assumption) 6 rfl | exact Sy.at (by assumption) _ (by assumption) | exact Sy.at (by assumption) (_ + 1) (by assumption) | exact Sy.at (by assumption) (_ + 2) (by assumption))
local macro_rules | `(tactic| walk_at "obt") => `(tactic| first
  | exact Sy.tqs (by assumption) 0 rfl | exact Sy.tqs (by assumption) 1 rfl | exact Sy.tqs (by assumption) 2 rfl | exact Sy.tqs (by assumption) 3 rfl | exact Sy.tqs (by assumption) 4 rfl | exact Sy.tqs (by assumption) 5 rfl
  | exact Sy.tqs (by assumption) 6 rfl | exact Sy.tqs (by assumption) 7 rfl | assumption)
local macro_rules | `(tactic| walk_at "obl") => `(tactic| first
  | exact SqL.of (by walk_at "obat")
  | exact Sy.sq (by assumption) 0 rfl | exact Sy.sq (by assumption) 1 rfl | exact Sy.sq (by assumption) 2 rfl | exact Sy.sq (by assumption) 3 rfl | exact Sy.sq (by assumption) _ (by assumption))
local macro_rules | `(tactic| walk_at "obd") => `(tactic| first
  | exact Dp.int _ | exact Dp.bl _ | exact Dp.str _ | exact Dp.non
  | exact Sy.dp (by assumption) 0 rfl | exact Sy.dp (by assumption) 1 rfl | exact Sy.dp (by assumption) 2 rfl | exact Sy.dp (by assumption) 3 rfl
  | exact Sy.dp (by assumption) 4 rfl | exact Sy.dp (by assumption) 5 rfl | exact Sy.dp (by assumption) 6 rfl | exact Sy.dp (by assumption) 7 rfl
  | exact Sy.dp (by assumption) 8 rfl | exact Sy.dp (by assumption) 9 rfl | exact Sy.dp (by assumption) _ (by assumption) | assumption)
local macro_rules | `(tactic| walk_at "obds") => `(tactic| first
  | exact DpAll.nil
  | (refine' DpAll.cons ?ob1 ?ob2; (case ob1 => walk_at "obd"); (case ob2 => walk_at "obds"))
  | exact Sy.dps (by assumption) 0 rfl | exact Sy.dps (by assumption) 1 rfl | exact Sy.dps (by assumption) 2 rfl | exact Sy.dps (by assumption) 3 rfl | assumption)
local macro_rules | `(tactic| walk_at "obsc") => `(tactic| first
  | exact ScL.nil
  | ((first | refine' ScL.int ?obz | refine' ScL.str ?obz | refine' ScL.bl ?obz | refine' ScL.non ?obz); (case obz => walk_at "obsc")))
local macro_rules | `(tactic| walk_at "ob1") => `(tactic| first
  | ((with_reducible refine' g_var ?obh ?_); (case obh => rfl))
  | with_reducible refine g_c ?_
  | with_reducible refine g_nx ?_
  | with_reducible refine g_rt ?_
  | with_reducible refine g_bk ?_
  | with_reducible refine g_ct ?_
  | with_reducible refine g_op ?_
  | with_reducible refine g_I0 ?_
  | with_reducible refine g_test ?_
  | with_reducible refine g_bl ?_
  | with_reducible refine g_blx ?_
  | with_reducible refine g_B ?_
  | with_reducible refine g_seq ?_
  | with_reducible refine g_asg ?_
  | with_reducible refine g_name ?_
  | with_reducible refine g_ifS ?_
  | with_reducible refine g_ret ?_
  | with_reducible refine g_cb ?_
  | with_reducible refine g_cons ?_
  | with_reducible refine g_nil ?_
  | with_reducible refine g_int ?_
  | with_reducible refine g_intB ?_
  | with_reducible refine g_abs ?_
  | with_reducible refine g_max ?_
  | with_reducible refine g_min ?_
  | with_reducible refine g_un ?_
  | with_reducible refine g_U ?_
  | with_reducible refine g_eqI ?_
  | with_reducible refine g_neI ?_
  | with_reducible refine g_eqS ?_
  | with_reducible refine g_neS ?_
  | with_reducible refine g_tt ?_
  | with_reducible refine g_ff ?_
  | with_reducible refine g_next ?_
  | with_reducible refine g_drop ?_
  | with_reducible refine g_if ?_
  | with_reducible refine g_andV ?_
  | with_reducible refine g_orV ?_
  | with_reducible refine g_notV ?_
  | with_reducible refine g_and ?_
  | with_reducible refine g_or ?_
  | with_reducible refine g_not ?_
  | with_reducible refine g_yes ?_
  | with_reducible refine g_chain ?_
  | with_reducible refine g_cg ?_
  | with_reducible refine g_mg ?_
  | with_reducible refine g_kg ?_
  | with_reducible refine g_pg ?_
  | ((with_reducible refine' g_call ?obh ?obj ?_); (case obh => rfl); (case obj => rfl))
  | with_reducible refine g_par ?_
  | with_reducible refine g_par2 ?_
  | with_reducible refine g_par3 ?_
  | with_reducible refine g_par33 ?_
  | with_reducible refine g_gnil ?_
  | with_reducible refine g_gcons ?_
  | with_reducible refine g_gsub ?_
  | with_reducible refine g_ipI ?_
  | with_reducible refine g_rAdd ?_
  | with_reducible refine g_rSub ?_
  | ((with_reducible refine' g_aug ?obh ?_); (case obh => rfl))
  | with_reducible refine g_tup ?_
  | with_reducible refine g_lst ?_
  | with_reducible refine g_bm ?_
  | with_reducible refine g_bm0 ?_
  | with_reducible refine g_sl ?_
  | with_reducible refine g_nopart ?_
  | with_reducible refine g_part ?_
  | with_reducible refine g_pint ?_
  | with_reducible refine isi_int ?_
  | with_reducible refine isi_intB ?_
  | ((with_reducible refine' g_I ?obh ?_); (case obh => walk_at "obc"))
  | ((with_reducible refine' g_tyl ?obh ?_); (case obh => walk_at "obl"))
  | ((with_reducible refine' g_lenL ?obh ?_); (case obh => walk_at "obl"))
  | with_reducible refine g_ne ?_
  | ((with_reducible refine' g_neN' ?obh ?_); (case obh => rfl))
  | with_reducible refine g_ntt ?_
  | with_reducible refine g_nff ?_
  | with_reducible refine g_star ?_
  | with_reducible refine g_att ?_
  | with_reducible refine g_sfld ?_
  | with_reducible refine g_faug ?_
  | with_reducible refine g_fld ?_
  | ((with_reducible refine' g_nF ?obh ?_); (case obh => omega))
  | ((with_reducible refine' g_nT ?obh ?_); (case obh => omega))
  | ((with_reducible refine' g_TD ?obh ?_); (case obh => omega))
  | ((with_reducible refine' g_FD ?obh ?_); (case obh => omega))
  | ((with_reducible refine' g_ixUL ?obh ?obi ?_); (case obh => walk_at "obl"); (case obi => exact atI_nn (by omega) (by rfl)))
  | ((with_reducible refine' g_setLS ?obs ?obh ?obi ?_); (case obs => assumption); (case obh => assumption); (case obi => rfl); intro _ _ _)
  | ((with_reducible refine' g_newT ?obs ?obh ?obi ?obj ?_); (case obs => assumption); (case obh => walk_at "obds"); (case obi => rfl); (case obj => exact Nat.le_of_ble_eq_true rfl); intro _ _ _ _)
  | ((with_reducible refine' g_newL ?obs ?obj ?_); (case obs => assumption); (case obj => exact Nat.le_of_ble_eq_true rfl); intro _ _ _ _)
  | ((with_reducible refine' isi_tup ?obh ?_); (case obh => walk_at "obt"))
  | ((with_reducible refine' g_lenT ?obh ?_); (case obh => walk_at "obt"))
  | ((with_reducible refine' g_unpT ?obh ?obi ?_); (case obh => walk_at "obt"); (case obi => rfl))
  | ((with_reducible refine' g_divmod ?obs ?obh ?_); (case obs => assumption); (case obh => exact cdivp_ok (by omega) (by omega) (by omega)); intro _ _ _ _)
  | ((with_reducible refine' g_unpD ?obh ?obi ?obj ?_); (case obh => walk_at "obd"); (case obi => walk_at "obsc"); (case obj => rfl))
  | with_reducible refine g_att ?_)
local macro_rules | `(tactic| walk_at "obat19") => `(tactic| first | assumption | walk_at "obat")
local macro_rules | `(tactic| walk_at "ob") => `(tactic| first
  | walk_at "ob1"
  | refine use_is_integer ?_
  | refine use_is_within ?_
  | refine use_balance ?_
  | refine use_rate ?_
  | refine use_year (by assumption) ?_
  | refine use_unit ?_
  | refine use_rest (by omega) (by omega) ?_
  | refine use_parts (by walk_at "obd") (by assumption) ?_
  | refine use_is_stretch (by walk_at "obd") (by assumption) ?_
  | refine g_unpT (sqt_enc (by walk_at "obd")) rfl ?_
  | ((with_reducible refine' g_fldS ?obh ?obc ?obn ?obe ?_); (case obh => walk_at "obat19"); (case obc => exact AccC.c (by assumption)); (case obn => first | exact AccC.n1 (by assumption) | exact AccC.n2 (by assumption) | exact AccC.n3 (by assumption)); (case obe => rfl))
  | ((with_reducible refine' g_attS ?obs ?obh ?obc ?obn ?obl ?_); (case obs => assumption); (case obh => assumption); (case obc => exact AccC.c (by assumption)); (case obn => first | exact AccC.n1 (by assumption) | exact AccC.n2 (by assumption) | exact AccC.n3 (by assumption)); (case obl => exact Nat.le_of_ble_eq_true rfl); intro _ _ _)
  | ((with_reducible refine' g_augS ?obh ?obc ?obn ?obe ?_); (case obh => walk_at "obat19"); (case obc => exact AccC.c (by assumption)); (case obn => first | exact AccC.n1 (by assumption) | exact AccC.n2 (by assumption) | exact AccC.n3 (by assumption)); (case obe => rfl))
  | ((with_reducible refine' g_augE ?obs ?obh ?obl ?_); (case obs => assumption); (case obh => assumption); (case obl => exact Nat.le_of_ble_eq_true rfl); intro _ _ _)
  | ((with_reducible refine' g_ixUT ?obh ?obi ?_); (case obh => first | exact sqt_enc (by walk_at "obd") | walk_at "obt"); (case obi => rfl))
  | refine use_prest (by walk_at "obat19") (by assumption) ?_
  | refine use_ppaid (by walk_at "obat19") (by assumption) ?_
  | refine use_pdays (by walk_at "obat19") (by assumption) ?_
  | with_reducible refine g_lstRg ?_
  | with_reducible refine g_rg1 ?_
  | with_reducible refine g_rg2 ?_
  | ((with_reducible refine' g_tyd ?obh ?_); (case obh => walk_at "obat19"))
  | with_reducible refine g_tTru ?_
  | ((with_reducible refine' g_truL ?obh ?_); (case obh => walk_at "obl"))
  | with_reducible refine g_forZ ?_
  | with_reducible refine g_forR2 ?_
  | with_reducible refine g_lcZ ?_)
section
variable {P : Program} {w : World} {K : Frag} {mg : Str → Option Value} {base : Heap}
/-! ### the first day -/
theorem ceil_div {a p : Int} (h : 0 < p) : -((-a) / p) = (a + p - 1) / p := by
  have h1 := Int.emod_add_mul_ediv (-a) p
  have h2 := Int.emod_nonneg (-a) (Int.ne_of_gt h)
  have h3 := Int.emod_lt_of_pos (-a) h
  have e : a + p - 1 = (p - 1 - (-a) % p) + p * (-((-a) / p)) := by
    rw [Int.mul_neg]
    omega
  have e2 : (p - 1 - (-a) % p) / p = 0 := Int.ediv_eq_zero_of_lt (by omega) (by omega)
  rw [e, Int.add_mul_ediv_left _ _ (Int.ne_of_gt h), e2, Int.zero_add]
theorem dayP_in {s : Str4} (o : Ok4 s) : 0 ≤ dayP s ∧ dayP s ≤ 36600000000000000000000000 := by
  rw [← dayP_eq]
  exact ⟨parts_nn o.one, parts_le o.one⟩
theorem cdiv_okw {i j : Int} (h : 0 < j) (h2 : j < 2 ^ 100) : CDivW i j := wide_div (b := 100) h (by omega) (by decide) (by decide)
def firstV (s : Str4) (r u : Int) : V := if u = 0 then .int 0 else if dayP s = 0 then .non else .int (-((r - u * 133590000000) / dayP s))
def sp_first_day (K : Frag) : Sp := fun vs H Q E => vs.length = 5 ∧ ∃ (F : List (Addr × HO)) (G : List Ft) (s : Str4) (r u : Int), vs = [.int s.b, .int s.r, .int s.y, .int r, .int u] ∧ Sy K F G H ∧ Ok4 s ∧ 0 ≤ r ∧ r ≤ 133589999999 ∧ 0 ≤ u ∧ u ≤ 1000000000000 ∧ ∀ H', Sy K F G H' → Q (firstV s r u) H'
abbrev names_first_day : List Str := ["balance", "rate", "year", "rest", "units", "day", "parts"]
theorem sc_first_day : FnScope names_first_day ["balance", "rate", "year", "rest", "units"] (defScope (top 31)) := ⟨rfl, rfl, rfl, by decide +kernel, rfl, by decide +kernel, by decide +kernel⟩
set_option maxHeartbeats 4000000 in
theorem ok_first_day (T : Tx K mg) : FG P w K mg base CX0 5 T.a_first_day T.d_first_day ["balance", "rate", "year", "rest", "units"] (sp_first_day K) := by
  refine OB.Fun.fg T.F_first_day sc_first_day (fun vs H Q E h => h.1) (fun cdv A out s H vs Q E g h => ?_)
  obtain ⟨_, F, G, s, r, u, rfl, S, o, r0, r1, u0, u1, k⟩ := h
  refine ⟨_, (pss_cons (ps_set (i := 5) sc_first_day.nd rfl (by first | exact Or.inl rfl | exact Or.inr rfl) (pe_tup (pa_cons pe_int (pa_cons (pv 0) (pa_cons (pv 1) (pa_cons (pv 2) pa_nil))))))
      (pss_cons (ps_if (pt_not (pt_val (pe_cg (ok_is_stretch T) (g.mono (by decide : 4 ≤ 4)) (by rfl) T.m_is_stretch T.F_is_stretch.kp (OB.Fun.bd T.F_is_stretch (ps := ["value"]) (n := 1) (ks := []) (ix := [0]) (fun _ _ _ _ _ _ us ws h1 h2 => match us, ws, h1, h2 with | [_], [], _, _ => rfl)) pass0 (pa_cons (pv 5) pa_nil) pk_nil))) (pss_one ps_never) pss_nil)
      (pss_cons (ps_expr (pe_cg (ok_check_rest T) (g.mono (by decide : 3 ≤ 4)) (by rfl) T.m_check_rest T.F_check_rest.kp (OB.Fun.bd T.F_check_rest (ps := ["rest"]) (n := 1) (ks := []) (ix := [0]) (fun _ _ _ _ _ _ us ws h1 h2 => match us, ws, h1, h2 with | [_], [], _, _ => rfl)) pass0 (pa_cons (pv 3) pa_nil) pk_nil))
      (pss_cons (ps_expr (pe_cg (ok_check_number T) (g.mono (by decide : 3 ≤ 4)) (by rfl) T.m_check_number T.F_check_number.kp (OB.Fun.bd T.F_check_number (ps := ["number", "least", "most"]) (n := 3) (ks := []) (ix := [0, 1, 2]) (fun _ _ _ _ _ _ us ws h1 h2 => match us, ws, h1, h2 with | [_, _, _], [], _, _ => rfl)) pass0 (pa_cons (pv 4) (pa_cons pe_int (pa_cons (pe_glob (v := .int 1000000000000) (by rfl) T.g_MOST_UNITS ⟨_, rfl⟩) pa_nil))) pk_nil))
      (pss_cons (ps_if (pt_cmpR op_eq (pv 4) pe_int (nomark _)) (pss_one (ps_ret pe_int)) pss_nil)
      (pss_cons (ps_set (i := 6) sc_first_day.nd rfl (by first | exact Or.inl rfl | exact Or.inr rfl) (pe_cg (ok_stretch_parts T) (g.mono (by decide : 1 ≤ 4)) (by rfl) T.m_stretch_parts T.F_stretch_parts.kp (OB.Fun.bd T.F_stretch_parts (ps := ["stretch"]) (n := 1) (ks := []) (ix := [0]) (fun _ _ _ _ _ _ us ws h1 h2 => match us, ws, h1, h2 with | [_], [], _, _ => rfl)) pass0 (pa_cons (pv 5) pa_nil) pk_nil))
      (pss_one (ps_ret (pe_ifExp (pt_cmpR op_eq (pv 6) pe_int (nomark _)) pe_non (pe_un un_neg (pe_op op_fdivW (pe_op op_sub (pv 3) (pe_op op_mul (pv 4) (pe_glob (v := .int 133590000000) (by rfl) T.g_PARTS ⟨_, rfl⟩))) (pv 6)))))))))))), ?_⟩
  refine g_start (σ := [some _, some _, some _, some _, some _, none, none]) rfl ?_
  have o1 := o.one
  have dp := dayP_in o
  repeat walk_at "ob"
  rename_i q H1 _ S1
  have hd : L2.Dp K H1 (.ref q) (enc { s with d := 1 }) := S1.dp 0 rfl
  refine use_is_stretch (s := { s with d := 1 }) hd o1 ?_
  repeat walk_at "ob"
  refine use_number u0 u1 ?_
  repeat walk_at "ob"
  unfold firstV at k
  refine g_iteD (fun h1 => ?_) (fun h1 => ?_)
  · rw [if_pos h1] at k
    repeat walk_at "ob"
    exact k _ S1.drop
  · rw [if_neg h1] at k
    repeat walk_at "ob"
    rw [dayP_eq]
    refine g_iteD (fun h2 => ?_) (fun h2 => ?_)
    · rw [if_pos h2] at k
      repeat walk_at "ob"
      exact k _ S1.drop
    · rw [if_neg h2] at k
      repeat walk_at "ob"
      refine g_I (C := CDivW) (cdiv_okw (by omega) (by omega)) ?_
      repeat walk_at "ob"
      exact k _ S1.drop
end
end LAW

set_option Elab.async false
set_option linter.all false
set_option maxRecDepth 100000
namespace LAW
open PySem PySem.Spec PyProof.Rows L2 PySem.W OB
local macro_rules | `(tactic| walk_at "obc") => `(tactic| first
  | exact Or.inl ⟨by omega, by omega⟩
  | exact Or.inr ⟨by omega, by omega⟩
  | exact cdiv_ok (by omega) (by omega)
  | (show (0 : Int) < _; omega)
  | exact ⟨by omega, by decide⟩
  | exact ⟨by decide, by decide⟩)
local macro_rules | `(tactic| walk_at "obat") => `(tactic| first
  | exact Sy.at (by assumption) 0 rfl | exact Sy.at (by assumption) 1 rfl | exact Sy.at (by assumption) 2 rfl | exact Sy.at (by assumption) 3 rfl
  | exact Sy.at (by assumption) 4 rfl | exact Sy.at (by assumption) 5 rfl | exact Sy.at (by assumption) 6 rfl | exact Sy.at (by assumption) _ (by assumption) | exact Sy.at (by assumption) (_ + 1) (by assumption) | exact Sy.at (by assumption) (_ + 2) (by assumption))
local macro_rules | `(tactic| walk_at "obt") => `(tactic| first
  | exact Sy.tqs (by assumption) 0 rfl | exact Sy.tqs (by assumption) 1 rfl | exact Sy.tqs (by assumption) 2 rfl | exact Sy.tqs (by assumption) 3 rfl | exact Sy.tqs (by assumption) 4 rfl | exact Sy.tqs (by assumption) 5 rfl
  | exact Sy.tqs (by assumption) 6 rfl | exact Sy.tqs (by assumption) 7 rfl | assumption)
local macro_rules | `(tactic| walk_at "obl") => `(tactic| first
  | exact SqL.of (by walk_at "obat")
  | exact Sy.sq (by assumption) 0 rfl | exact Sy.sq (by assumption) 1 rfl | exact Sy.sq (by assumption) 2 rfl | exact Sy.sq (by assumption) 3 rfl | exact Sy.sq (by assumption) _ (by assumption))
local macro_rules | `(tactic| walk_at "obd") => `(tactic| first
  | exact Dp.int _ | exact Dp.bl _ | exact Dp.str _ | exact Dp.non
  | exact Sy.dp (by assumption) 0 rfl | exact Sy.dp (by assumption) 1 rfl | exact Sy.dp (by assumption) 2 rfl | exact Sy.dp (by assumption) 3 rfl
  | exact Sy.dp (by assumption) 4 rfl | exact Sy.dp (by assumption) 5 rfl | exact Sy.dp (by assumption) 6 rfl | exact Sy.dp (by assumption) 7 rfl
  | exact Sy.dp (by assumption) 8 rfl | exact Sy.dp (by assumption) 9 rfl | exact Sy.dp (by assumption) _ (by assumption) | assumption)
local macro_rules | `(tactic| walk_at "obds") => `(tactic| first
  | exact DpAll.nil
  | (refine' DpAll.cons ?ob1 ?ob2; (case ob1 => walk_at "obd"); (case ob2 => walk_at "obds"))
  | exact Sy.dps (by assumption) 0 rfl | exact Sy.dps (by assumption) 1 rfl | exact Sy.dps (by assumption) 2 rfl | exact Sy.dps (by assumption) 3 rfl | assumption)
local macro_rules | `(tactic| walk_at "obsc") => `(tactic| first
  | exact ScL.nil
  | ((first | refine' ScL.int ?obz | refine' ScL.str ?obz | refine' ScL.bl ?obz | refine' ScL.non ?obz); (case obz => walk_at "obsc")))
local macro_rules | `(tactic| walk_at "ob1") => `(tactic| first
  | ((with_reducible refine' g_var ?obh ?_); (case obh => rfl))
  | with_reducible refine g_c ?_
  | with_reducible refine g_nx ?_
  | with_reducible refine g_rt ?_
  | with_reducible refine g_bk ?_
  | with_reducible refine g_ct ?_
  | with_reducible refine g_op ?_
  | with_reducible refine g_I0 ?_
  | with_reducible refine g_test ?_
  | with_reducible refine g_bl ?_
  | with_reducible refine g_blx ?_
  | with_reducible refine g_B ?_
  | with_reducible refine g_seq ?_
  | with_reducible refine g_asg ?_
  | with_reducible refine g_name ?_
  | with_reducible refine g_ifS ?_
  | with_reducible refine g_ret ?_
  | with_reducible refine g_cb ?_
  | with_reducible refine g_cons ?_
  | with_reducible refine g_nil ?_
  | with_reducible refine g_int ?_
  | with_reducible refine g_intB ?_
  | with_reducible refine g_abs ?_
  | with_reducible refine g_max ?_
  | with_reducible refine g_min ?_
  | with_reducible refine g_un ?_
  | with_reducible refine g_U ?_
  | with_reducible refine g_eqI ?_
  | with_reducible refine g_neI ?_
  | with_reducible refine g_eqS ?_
  | with_reducible refine g_neS ?_
  | with_reducible refine g_tt ?_
  | with_reducible refine g_ff ?_
  | with_reducible refine g_next ?_
  | with_reducible refine g_drop ?_
  | with_reducible refine g_if ?_
  | with_reducible refine g_andV ?_
  | with_reducible refine g_orV ?_
  | with_reducible refine g_notV ?_
  | with_reducible refine g_and ?_
  | with_reducible refine g_or ?_
  | with_reducible refine g_not ?_
  | with_reducible refine g_yes ?_
  | with_reducible refine g_chain ?_
  | with_reducible refine g_cg ?_
  | with_reducible refine g_mg ?_
  | with_reducible refine g_kg ?_
  | with_reducible refine g_pg ?_
  | ((with_reducible refine' g_call ?obh ?obj ?_); (case obh => rfl); (case obj => rfl))
  | with_reducible refine g_par ?_
  | with_reducible refine g_par2 ?_
  | with_reducible refine g_par3 ?_
  | with_reducible refine g_par33 ?_
  | with_reducible refine g_gnil ?_
  | with_reducible refine g_gcons ?_
  | with_reducible refine g_gsub ?_
  | with_reducible refine g_ipI ?_
  | with_reducible refine g_rAdd ?_
  | with_reducible refine g_rSub ?_
  | ((with_reducible refine' g_aug ?obh ?_); (case obh => rfl))
  | with_reducible refine g_tup ?_
  | with_reducible refine g_lst ?_
  | with_reducible refine g_bm ?_
  | with_reducible refine g_bm0 ?_
  | with_reducible refine g_sl ?_
  | with_reducible refine g_nopart ?_
  | with_reducible refine g_part ?_
  | with_reducible refine g_pint ?_
  | with_reducible refine isi_int ?_
  | with_reducible refine isi_intB ?_
  | ((with_reducible refine' g_I ?obh ?_); (case obh => walk_at "obc"))
  | ((with_reducible refine' g_tyl ?obh ?_); (case obh => walk_at "obl"))
  | ((with_reducible refine' g_lenL ?obh ?_); (case obh => walk_at "obl"))
  | with_reducible refine g_ne ?_
  | ((with_reducible refine' g_neN' ?obh ?_); (case obh => rfl))
  | with_reducible refine g_ntt ?_
  | with_reducible refine g_nff ?_
  | with_reducible refine g_star ?_
  | with_reducible refine g_att ?_
  | with_reducible refine g_sfld ?_
  | with_reducible refine g_faug ?_
  | with_reducible refine g_fld ?_
  | ((with_reducible refine' g_nF ?obh ?_); (case obh => omega))
  | ((with_reducible refine' g_nT ?obh ?_); (case obh => omega))
  | ((with_reducible refine' g_TD ?obh ?_); (case obh => omega))
  | ((with_reducible refine' g_FD ?obh ?_); (case obh => omega))
  | ((with_reducible refine' g_ixUL ?obh ?obi ?_); (case obh => walk_at "obl"); (case obi => exact atI_nn (by omega) (by rfl)))
  | ((with_reducible refine' g_setLS ?obs ?obh ?obi ?_); (case obs => assumption); (case obh => assumption); (case obi => rfl); intro _ _ _)
  | ((with_reducible refine' g_newT ?obs ?obh ?obi ?obj ?_); (case obs => assumption); (case obh => walk_at "obds"); (case obi => rfl); (case obj => exact Nat.le_of_ble_eq_true rfl); intro _ _ _ _)
  | ((with_reducible refine' g_newL ?obs ?obj ?_); (case obs => assumption); (case obj => exact Nat.le_of_ble_eq_true rfl); intro _ _ _ _)
  | ((with_reducible refine' isi_tup ?obh ?_); (case obh => walk_at "obt"))
  | ((with_reducible refine' g_lenT ?obh ?_); (case obh => walk_at "obt"))
  | ((with_reducible refine' g_unpT ?obh ?obi ?_); (case obh => walk_at "obt"); (case obi => rfl))
  | ((with_reducible refine' g_divmod ?obs ?obh ?_); (case obs => assumption); (case obh => exact cdivp_ok (by omega) (by omega) (by omega)); intro _ _ _ _)
  | ((with_reducible refine' g_unpD ?obh ?obi ?obj ?_); (case obh => walk_at "obd"); (case obi => walk_at "obsc"); (case obj => rfl))
  | with_reducible refine g_att ?_)
local macro_rules | `(tactic| walk_at "obat19") => `(tactic| first | assumption | walk_at "obat")
local macro_rules | `(tactic| walk_at "ob") => `(tactic| first
  | walk_at "ob1"
  | refine use_is_integer ?_
  | refine use_is_within ?_
  | refine use_balance ?_
  | refine use_rate ?_
  | refine use_year (by assumption) ?_
  | refine use_unit ?_
  | refine use_rest (by omega) (by omega) ?_
  | refine use_parts (by walk_at "obd") (by assumption) ?_
  | refine use_is_stretch (by walk_at "obd") (by assumption) ?_
  | refine g_unpT (sqt_enc (by walk_at "obd")) rfl ?_
  | ((with_reducible refine' g_fldS ?obh ?obc ?obn ?obe ?_); (case obh => walk_at "obat19"); (case obc => exact AccC.c (by assumption)); (case obn => first | exact AccC.n1 (by assumption) | exact AccC.n2 (by assumption) | exact AccC.n3 (by assumption)); (case obe => rfl))
  | ((with_reducible refine' g_attS ?obs ?obh ?obc ?obn ?obl ?_); (case obs => assumption); (case obh => assumption); (case obc => exact AccC.c (by assumption)); (case obn => first | exact AccC.n1 (by assumption) | exact AccC.n2 (by assumption) | exact AccC.n3 (by assumption)); (case obl => exact Nat.le_of_ble_eq_true rfl); intro _ _ _)
  | ((with_reducible refine' g_augS ?obh ?obc ?obn ?obe ?_); (case obh => walk_at "obat19"); (case obc => exact AccC.c (by assumption)); (case obn => first | exact AccC.n1 (by assumption) | exact AccC.n2 (by assumption) | exact AccC.n3 (by assumption)); (case obe => rfl))
  | ((with_reducible refine' g_augE ?obs ?obh ?obl ?_); (case obs => assumption); (case obh => assumption); (case obl => exact Nat.le_of_ble_eq_true rfl); intro _ _ _)
  | ((with_reducible refine' g_ixUT ?obh ?obi ?_); (case obh => first | exact sqt_enc (by walk_at "obd") | walk_at "obt"); (case obi => rfl))
  | refine use_prest (by walk_at "obat19") (by assumption) ?_
  | refine use_ppaid (by walk_at "obat19") (by assumption) ?_
  | refine use_pdays (by walk_at "obat19") (by assumption) ?_
  | with_reducible refine g_lstRg ?_
  | with_reducible refine g_rg1 ?_
  | with_reducible refine g_rg2 ?_
  | ((with_reducible refine' g_tyd ?obh ?_); (case obh => walk_at "obat19"))
  | with_reducible refine g_tTru ?_
  | ((with_reducible refine' g_truL ?obh ?_); (case obh => walk_at "obl"))
  | with_reducible refine g_forZ ?_
  | with_reducible refine g_forR2 ?_
  | with_reducible refine g_lcZ ?_)
section
variable {P : Program} {w : World} {K : Frag} {mg : Str → Option Value} {base : Heap}
/-! ### shares -/
theorem sum_in {M : Int} : ∀ {ws : List Int}, (∀ x ∈ ws, 0 ≤ x ∧ x ≤ M) → 0 ≤ ws.sum ∧ ws.sum ≤ M * ws.length
  | [], _ => ⟨Int.le_refl _, by simp⟩
  | x :: ws, h => by
    have q := h x (List.mem_cons_self ..)
    have r := sum_in (ws := ws) fun y hy => h y (List.mem_cons_of_mem _ hy)
    rw [List.sum_cons, List.length_cons]
    have e : M * ((ws.length + 1 : Nat) : Int) = M * ws.length + M := by
      rw [show ((ws.length + 1 : Nat) : Int) = (ws.length : Int) + 1 by omega, Int.mul_add, Int.mul_one]
    omega
structure WOk (ws : List Int) : Prop where
  len : ws.length ≤ 6
  w0 : ∀ x ∈ ws, 0 ≤ x ∧ x ≤ 1000000000000
  pos : 0 < ws.sum
theorem WOk.le {ws : List Int} (o : WOk ws) : ws.sum < 2 ^ 64 := by
  have := sum_in o.w0
  have := o.len
  omega
theorem WOk.pre {ws : List Int} (o : WOk ws) (i : Nat) : 0 ≤ (ws.take i).sum ∧ (ws.take i).sum ≤ 6000000000000 := by
  have q := sum_in (ws := ws.take i) fun x hx => o.w0 x (List.mem_of_mem_take hx)
  have := o.len
  rw [List.length_take] at q
  omega
def tld (a : Int) (ws : List Int) (i : Nat) : Int := a * (ws.take i).sum / ws.sum
def shr (a : Int) (ws : List Int) (n : Nat) : List Int := (List.range n).map fun j => tld a ws (j + 1) - tld a ws j
theorem tld_zero {a : Int} {ws : List Int} : tld a ws 0 = 0 := by
  unfold tld
  rw [List.take_zero, List.sum_nil, Int.mul_zero, Int.zero_ediv]
theorem tld_end {a : Int} {ws : List Int} (h : 0 < ws.sum) : tld a ws ws.length = a := by
  unfold tld
  rw [List.take_length, Int.mul_ediv_cancel _ (Int.ne_of_gt h)]
theorem shr_succ {a : Int} {ws : List Int} {n : Nat} : shr a ws (n + 1) = shr a ws n ++ [tld a ws (n + 1) - tld a ws n] := by
  unfold shr
  rw [List.range_succ, List.map_append]
  rfl
theorem shr_len {a : Int} {ws : List Int} {n : Nat} : (shr a ws n).length = n := by
  unfold shr
  rw [List.length_map, List.length_range]
theorem shr_sum {a : Int} {ws : List Int} : ∀ n, (shr a ws n).sum = tld a ws n
  | 0 => tld_zero.symm
  | n + 1 => by
    rw [shr_succ, List.sum_append, shr_sum n, List.sum_cons, List.sum_nil]
    omega
theorem take_sum {ws : List Int} {i : Nat} {x : Int} (h : ws[i]? = some x) : (ws.take (i + 1)).sum = (ws.take i).sum + x := by
  rw [List.take_add_one, h, List.sum_append]
  simp
theorem tld_in {a : Int} {ws : List Int} (o : WOk ws) (a0 : 0 ≤ a) (i : Nat) : 0 ≤ tld a ws i ∧ tld a ws i ≤ 6000000000000 * a := by
  obtain ⟨h0, h1⟩ := o.pre i
  have q0 := Int.mul_nonneg a0 h0
  unfold tld
  refine ⟨Int.ediv_nonneg q0 (by have := o.pos; omega), ?_⟩
  refine Int.le_trans (Int.ediv_le_self _ q0) ?_
  rw [Int.mul_comm 6000000000000 a]
  exact Int.mul_le_mul_of_nonneg_left h1 a0
theorem shr_in {a : Int} {ws : List Int} (o : WOk ws) (a0 : 0 ≤ a) (a1 : a ≤ 1000000000000000) (n : Nat) : ∀ x ∈ shr a ws n, x.natAbs < 10 ^ 60 := by
  intro x hx
  obtain ⟨j, _, rfl⟩ := List.mem_map.mp hx
  have h1 := tld_in o a0 j
  have h2 := tld_in o a0 (j + 1)
  omega
theorem ints_imm (l : List Int) : immAll (l.map PyData.int) = true := immAll_of fun x hx => by
  obtain ⟨s, _, rfl⟩ := List.mem_map.mp hx
  rfl
def sp_split (K : Frag) : Sp := fun vs H Q E => vs.length = 2 ∧ ∃ (F : List (Addr × HO)) (G : List Ft) (p : Addr) (ws : List Int) (a : Int), vs = [.int a, .ref p] ∧ Sy K F G H ∧ L2.Dp K H (.ref p) (.tuple (ws.map .int)) ∧ WOk ws ∧ 0 ≤ a ∧ a ≤ 1000000000000000 ∧
  ∀ (q : Addr) H', Sy K F (.dat [.ref q] [.tuple ((shr a ws ws.length).map .int)] :: G) H' → Q (.ref q) H'
abbrev names_split : List Str := ["amount", "weights", "weight", "found", "ahead", "told", "every", "share"]
theorem sc_split : FnScope names_split ["amount", "weights"] (defScope (top 32)) := ⟨rfl, rfl, rfl, by decide +kernel, rfl, by decide +kernel, by decide +kernel⟩
set_option maxHeartbeats 4000000 in
theorem ok_split (T : Tx K mg) : FG P w K mg base CX0 4 T.a_split T.d_split ["amount", "weights"] (sp_split K) := by
  refine OB.Fun.fg T.F_split sc_split (fun vs H Q E h => h.1) (fun cdv A out s H vs Q E g h => ?_)
  obtain ⟨_, F, G, p, ws, a, rfl, S, hd, ok, a0, a1, k⟩ := h
  refine ⟨_, (pss_cons (ps_expr (pe_cg (ok_check_number T) (g.mono (by decide : 3 ≤ 3)) (by rfl) T.m_check_number T.F_check_number.kp (OB.Fun.bd T.F_check_number (ps := ["number", "least", "most"]) (n := 3) (ks := []) (ix := [0, 1, 2]) (fun _ _ _ _ _ _ us ws h1 h2 => match us, ws, h1, h2 with | [_, _, _], [], _, _ => rfl)) pass0 (pa_cons (pv 0) (pa_cons pe_int (pa_cons (pe_glob (v := .int 1000000000000000) (by rfl) T.g_MOST_AMOUNT ⟨_, rfl⟩) pa_nil))) pk_nil))
      (pss_cons (ps_if (PW.pt (pw_or (pt_not (pt_val (pe_callB (toK (r := rIsi) (K := K) rfl call_isi) (by rfl) T.n_isinstance (by decide +kernel) (pa_cons (pv 1) (pa_cons (pe_bltn (v := .ty "tuple") (by rfl) T.n_tuple (by decide +kernel) rfl) pa_nil))))) (pw_or1 (pt_cmpR op_gt (pe_callB (toK (r := OB.rLen) (K := K) rfl c_len) (by rfl) T.n_len PySem.boot_len (pa_cons (pv 1) pa_nil)) (pe_glob (v := .int 1000) (by rfl) T.g_MOST_TABLE ⟨_, rfl⟩) (nomark _))))) (pss_one ps_never) pss_nil)
      (pss_cons (ps_if (PW.pt (pw_or (pt_not (pt_val (pe_callB (toK (r := rAll) (K := K) rfl (cr_all rfl)) (by rfl) T.n_all (by decide +kernel) (pa_cons (pe_lc (own := [("weight", 2)]) (tt := tYes) rfl sc_split.nd (pi_seq (pv 1)) (blkOk_by (N := names_split) (sc := defScope (top 32)) (own := [("weight", 2)]) (by decide +kernel)) (fun _ _ _ _ _ => (pg_name (i := 2) sc_split.nd rfl (by first | exact Or.inl rfl | exact Or.inr rfl))) (fun _ _ _ _ _ => pts_nil) (fun _ _ _ _ _ => (pe_cg (ok_is_within T) (g.mono (by decide : 2 ≤ 3)) (by rfl) T.m_is_within T.F_is_within.kp (OB.Fun.bd T.F_is_within (ps := ["value", "least", "most"]) (n := 3) (ks := []) (ix := [0, 1, 2]) (fun _ _ _ _ _ _ us ws h1 h2 => match us, ws, h1, h2 with | [_, _, _], [], _, _ => rfl)) pass0 (pa_cons (pv 2) (pa_cons pe_int (pa_cons (pe_glob (v := .int 1000000000000) (by rfl) T.g_MOST_WEIGHT ⟨_, rfl⟩) pa_nil))) pk_nil))) pa_nil)))) (pw_or1 (pt_cmpR op_eq (pe_callB (toK (r := OB.rSumU) (K := K) rfl (c_sumU rfl)) (by rfl) T.n_sum (by decide +kernel) (pa_cons (pv 1) pa_nil)) pe_int (nomark _))))) (pss_one ps_never) pss_nil)
      (pss_cons (ps_asg (pe_tup (pa_cons (pe_lst pa_nil) (pa_cons pe_int (pa_cons pe_int (pa_cons (pe_callB (toK (r := OB.rSumU) (K := K) rfl (c_sumU rfl)) (by rfl) T.n_sum (by decide +kernel) (pa_cons (pv 1) pa_nil)) pa_nil))))) (pg_tupK (K := K) rfl (n := 4) rfl (pgs_cons (pg_name (i := 3) sc_split.nd rfl (by first | exact Or.inl rfl | exact Or.inr rfl)) (pgs_cons (pg_name (i := 4) sc_split.nd rfl (by first | exact Or.inl rfl | exact Or.inr rfl)) (pgs_cons (pg_name (i := 5) sc_split.nd rfl (by first | exact Or.inl rfl | exact Or.inr rfl)) (pgs_cons (pg_name (i := 6) sc_split.nd rfl (by first | exact Or.inl rfl | exact Or.inr rfl)) pgs_nil))))))
      (pss_cons (ps_for PassesOwn.never rfl (pi_seq (pv 1)) (pg_name (i := 2) sc_split.nd rfl (by first | exact Or.inl rfl | exact Or.inr rfl))
      (pss_cons (ps_aug (i := 4) sc_split.nd rfl (by first | exact Or.inl rfl | exact Or.inr rfl) (pv 2) ip_add)
      (pss_cons (ps_set (i := 7) sc_split.nd rfl (by first | exact Or.inl rfl | exact Or.inr rfl) (pe_op op_sub (pe_op op_fdivW (pe_op op_mul (pv 0) (pv 4)) (pv 6)) (pv 5)))
      (pss_cons (ps_aug (i := 5) sc_split.nd rfl (by first | exact Or.inl rfl | exact Or.inr rfl) (pv 7) ip_add)
      (pss_one (ps_expr (pe_bm PySem.F.plainAttrs_list PySem.F.slot_list_append PySem.F.type_list_append mt_append (pv 3) (pa_cons (pv 7) pa_nil))))))))
      (pss_one (ps_ret (pe_callTy (toK (r := rTuple) (K := K) rfl c_tuple) (by rfl) T.n_tuple (by decide +kernel) (pa_cons (pv 3) pa_nil))))))))), ?_⟩
  refine g_start (σ := [some _, some _, none, none, none, none, none, none]) rfl ?_
  have S0 := S.add (.tq p (ws.map V.int)) (sqt_ints hd)
  have wl := ok.len
  have wp := ok.pos
  have hl : (ws.map V.int).length = ws.length := List.length_map ..
  repeat walk_at "ob"
  refine use_number a0 a1 ?_
  repeat walk_at "ob"
  refine g_lcS (a := p) (xs := ws.map V.int) false (fun i F' ds => F' = F ∧ ds = List.replicate i (.bool true) ∧ i ≤ ws.length) S0 (fun Q' q => by walk_at "ob"; exact q) ⟨rfl, rfl, Nat.zero_le _⟩ (fun i F' ds H' _ S3 => S3.tqs 0 rfl) (fun i F' ds hi => by
    rw [hi.2.1, List.length_replicate]; omega) ?_ ?_
  · intro i x hx Da H2 F2 vs ds QE QR hi S3 kE kR
    obtain ⟨rfl, rfl, hi2⟩ := hi
    rw [List.getElem?_map] at hx
    obtain ⟨r, hr, rfl⟩ := Option.map_eq_some_iff.mp hx
    have he := ok.w0 r (List.mem_of_getElem? hr)
    repeat walk_at "ob"
    refine ⟨rfl, ?_⟩
    repeat walk_at "ob"
    rw [show decide (0 ≤ r ∧ r ≤ 1000000000000) = true from decide_eq_true he]
    refine kE _ (.bool true) _ _ ⟨rfl, by rw [List.replicate_succ'], (List.getElem?_eq_some_iff.mp hr).1⟩ (S3.fact (dps_one (L2.Dp.bl true)) rfl)
  intro Da H2 F2 vs ds hD hi S3
  obtain ⟨rfl, rfl, _⟩ := hi
  have hv := trues (S3.dps 0 rfl)
  subst hv
  repeat walk_at "ob"
  refine g_all (by walk_at "obl") ?_
  rw [all_true]
  have S4 := S3.less.drop
  clear S3 S0
  repeat walk_at "ob"
  refine g_sumUT (S4.tqs 0 rfl) ?_
  repeat walk_at "ob"
  rename_i f H5 _ S5
  refine g_sumUT (S5.tqs 0 rfl) ?_
  repeat walk_at "ob"
  refine g_newTq S5 (Nat.le_of_ble_eq_true rfl) fun tq H6 _ S6 => ?_
  refine g_unpT (S6.tqs 0 rfl) rfl ?_
  have S7 := S6.drop
  clear S4 S5 S6
  repeat walk_at "ob"
  refine g_forS (a := p) (xs := ws.map V.int) false (fun i σ' H' => ∃ v6 v7, σ' = [some (.int a), some (.ref p), v6, some (.ref f), some (.int (ws.take i).sum), some (.int (tld a ws i)), some (.int ws.sum), v7] ∧ i ≤ ws.length ∧
    Sy K ((f, .lst ((shr a ws i).map V.int)) :: F2) (.tq p (ws.map V.int) :: G) H') (fun Q' q => by walk_at "ob"; exact q) ⟨none, none, by rw [tld_zero]; rfl, Nat.zero_le _, S7⟩ (fun i σ' H' ⟨_, _, _, _, S8⟩ => S8.tqs 0 rfl) ?_ ?_
  · rintro i x σ' H' hx ⟨v6, v7, rfl, hi, S8⟩
    rw [List.getElem?_map] at hx
    obtain ⟨r, hr, rfl⟩ := Option.map_eq_some_iff.mp hx
    have hi1 := (List.getElem?_eq_some_iff.mp hr).1
    have e1 := take_sum hr
    have e2 : tld a ws (i + 1) = a * ((ws.take i).sum + r) / ws.sum := by unfold tld; rw [e1]
    have e3 : tld a ws i + (tld a ws (i + 1) - tld a ws i) = tld a ws (i + 1) := by omega
    have wlt := ok.le
    repeat walk_at "ob"
    refine g_appS S8 (f := 0) rfl (by rw [List.length_map, shr_len]; omega) fun H7 S9 => ?_
    repeat walk_at "ob"
    rw [← e2, e3, ← e1] at *
    refine ⟨_, _, rfl, hi1, ?_⟩
    rw [shr_succ, List.map_append]
    exact S9
  · rintro σ' H' ⟨v6, v7, rfl, hi, S8⟩
    rw [hl] at S8
    repeat walk_at "ob"
    refine g_tup0 S8 (SqL.of (S8.at 0 rfl)) (dps_ints _) (ints_imm _) fun q H7 _ S9 => ?_
    exact k q _ S9.less.drop2
/-! ### day by day -/
theorem daysV_one {tb tr ty : List (Int × Int)} {s : Int} : daysV tb tr ty s (s + 1 - s).toNat = List.replicate (s + 1 - s).toNat (rowV tb tr ty s) := by
  rw [show (s + 1 - s).toNat = 1 by omega]
  show [rowV tb tr ty (s + ((0 : Nat) : Int))] = [rowV tb tr ty s]
  rw [show s + ((0 : Nat) : Int) = s by omega]
end
end LAW

set_option Elab.async false
set_option linter.all false
set_option maxRecDepth 100000
namespace LAW
open PySem PySem.Spec PyProof.Rows L2 PySem.W OB
local macro_rules | `(tactic| walk_at "obc") => `(tactic| first
  | exact Or.inl ⟨by omega, by omega⟩
  | exact Or.inr ⟨by omega, by omega⟩
  | exact cdiv_ok (by omega) (by omega)
  | (show (0 : Int) < _; omega)
  | exact ⟨by omega, by decide⟩
  | exact ⟨by decide, by decide⟩)
local macro_rules | `(tactic| walk_at "obat") => `(tactic| first
  | exact Sy.at (by assumption) 0 rfl | exact Sy.at (by assumption) 1 rfl | exact Sy.at (by assumption) 2 rfl | exact Sy.at (by assumption) 3 rfl
  | exact Sy.at (by assumption) 4 rfl | exact Sy.at (by assumption) 5 rfl | exact Sy.at (by assumption) 6 rfl | exact Sy.at (by assumption) _ (by assumption) | exact Sy.at (by assumption) (_ + 1) (by assumption) | exact Sy.at (by assumption) (_ + 2) (by assumption))
local macro_rules | `(tactic| walk_at "obt") => `(tactic| first
  | exact Sy.tqs (by assumption) 0 rfl | exact Sy.tqs (by assumption) 1 rfl | exact Sy.tqs (by assumption) 2 rfl | exact Sy.tqs (by assumption) 3 rfl | exact Sy.tqs (by assumption) 4 rfl | exact Sy.tqs (by assumption) 5 rfl
  | exact Sy.tqs (by assumption) 6 rfl | exact Sy.tqs (by assumption) 7 rfl | assumption)
local macro_rules | `(tactic| walk_at "obl") => `(tactic| first
  | exact SqL.of (by walk_at "obat")
  | exact Sy.sq (by assumption) 0 rfl | exact Sy.sq (by assumption) 1 rfl | exact Sy.sq (by assumption) 2 rfl | exact Sy.sq (by assumption) 3 rfl | exact Sy.sq (by assumption) _ (by assumption))
local macro_rules | `(tactic| walk_at "obd") => `(tactic| first
  | exact Dp.int _ | exact Dp.bl _ | exact Dp.str _ | exact Dp.non
  | exact Sy.dp (by assumption) 0 rfl | exact Sy.dp (by assumption) 1 rfl | exact Sy.dp (by assumption) 2 rfl | exact Sy.dp (by assumption) 3 rfl
  | exact Sy.dp (by assumption) 4 rfl | exact Sy.dp (by assumption) 5 rfl | exact Sy.dp (by assumption) 6 rfl | exact Sy.dp (by assumption) 7 rfl
  | exact Sy.dp (by assumption) 8 rfl | exact Sy.dp (by assumption) 9 rfl | exact Sy.dp (by assumption) _ (by assumption) | assumption)
local macro_rules | `(tactic| walk_at "obds") => `(tactic| first
  | exact DpAll.nil
  | (refine' DpAll.cons ?ob1 ?ob2; (case ob1 => walk_at "obd"); (case ob2 => walk_at "obds"))
  | exact Sy.dps (by assumption) 0 rfl | exact Sy.dps (by assumption) 1 rfl | exact Sy.dps (by assumption) 2 rfl | exact Sy.dps (by assumption) 3 rfl | assumption)
local macro_rules | `(tactic| walk_at "obsc") => `(tactic| first
  | exact ScL.nil
  | ((first | refine' ScL.int ?obz | refine' ScL.str ?obz | refine' ScL.bl ?obz | refine' ScL.non ?obz); (case obz => walk_at "obsc")))
local macro_rules | `(tactic| walk_at "ob1") => `(tactic| first
  | ((with_reducible refine' g_var ?obh ?_); (case obh => rfl))
  | with_reducible refine g_c ?_
  | with_reducible refine g_nx ?_
  | with_reducible refine g_rt ?_
  | with_reducible refine g_bk ?_
  | with_reducible refine g_ct ?_
  | with_reducible refine g_op ?_
  | with_reducible refine g_I0 ?_
  | with_reducible refine g_test ?_
  | with_reducible refine g_bl ?_
  | with_reducible refine g_blx ?_
  | with_reducible refine g_B ?_
  | with_reducible refine g_seq ?_
  | with_reducible refine g_asg ?_
  | with_reducible refine g_name ?_
  | with_reducible refine g_ifS ?_
  | with_reducible refine g_ret ?_
  | with_reducible refine g_cb ?_
  | with_reducible refine g_cons ?_
  | with_reducible refine g_nil ?_
  | with_reducible refine g_int ?_
  | with_reducible refine g_intB ?_
  | with_reducible refine g_abs ?_
  | with_reducible refine g_max ?_
  | with_reducible refine g_min ?_
  | with_reducible refine g_un ?_
  | with_reducible refine g_U ?_
  | with_reducible refine g_eqI ?_
  | with_reducible refine g_neI ?_
  | with_reducible refine g_eqS ?_
  | with_reducible refine g_neS ?_
  | with_reducible refine g_tt ?_
  | with_reducible refine g_ff ?_
  | with_reducible refine g_next ?_
  | with_reducible refine g_drop ?_
  | with_reducible refine g_if ?_
  | with_reducible refine g_andV ?_
  | with_reducible refine g_orV ?_
  | with_reducible refine g_notV ?_
  | with_reducible refine g_and ?_
  | with_reducible refine g_or ?_
  | with_reducible refine g_not ?_
  | with_reducible refine g_yes ?_
  | with_reducible refine g_chain ?_
  | with_reducible refine g_cg ?_
  | with_reducible refine g_mg ?_
  | with_reducible refine g_kg ?_
  | with_reducible refine g_pg ?_
  | ((with_reducible refine' g_call ?obh ?obj ?_); (case obh => rfl); (case obj => rfl))
  | with_reducible refine g_par ?_
  | with_reducible refine g_par2 ?_
  | with_reducible refine g_par3 ?_
  | with_reducible refine g_par33 ?_
  | with_reducible refine g_gnil ?_
  | with_reducible refine g_gcons ?_
  | with_reducible refine g_gsub ?_
  | with_reducible refine g_ipI ?_
  | with_reducible refine g_rAdd ?_
  | with_reducible refine g_rSub ?_
  | ((with_reducible refine' g_aug ?obh ?_); (case obh => rfl))
  | with_reducible refine g_tup ?_
  | with_reducible refine g_lst ?_
  | with_reducible refine g_bm ?_
  | with_reducible refine g_bm0 ?_
  | with_reducible refine g_sl ?_
  | with_reducible refine g_nopart ?_
  | with_reducible refine g_part ?_
  | with_reducible refine g_pint ?_
  | with_reducible refine isi_int ?_
  | with_reducible refine isi_intB ?_
  | ((with_reducible refine' g_I ?obh ?_); (case obh => walk_at "obc"))
  | ((with_reducible refine' g_tyl ?obh ?_); (case obh => walk_at "obl"))
  | ((with_reducible refine' g_lenL ?obh ?_); (case obh => walk_at "obl"))
  | with_reducible refine g_ne ?_
  | ((with_reducible refine' g_neN' ?obh ?_); (case obh => rfl))
  | with_reducible refine g_ntt ?_
  | with_reducible refine g_nff ?_
  | with_reducible refine g_star ?_
  | with_reducible refine g_att ?_
  | with_reducible refine g_sfld ?_
  | with_reducible refine g_faug ?_
  | with_reducible refine g_fld ?_
  | ((with_reducible refine' g_nF ?obh ?_); (case obh => omega))
  | ((with_reducible refine' g_nT ?obh ?_); (case obh => omega))
  | ((with_reducible refine' g_TD ?obh ?_); (case obh => omega))
  | ((with_reducible refine' g_FD ?obh ?_); (case obh => omega))
  | ((with_reducible refine' g_ixUL ?obh ?obi ?_); (case obh => walk_at "obl"); (case obi => exact atI_nn (by omega) (by rfl)))
  | ((with_reducible refine' g_setLS ?obs ?obh ?obi ?_); (case obs => assumption); (case obh => assumption); (case obi => rfl); intro _ _ _)
  | ((with_reducible refine' g_newT ?obs ?obh ?obi ?obj ?_); (case obs => assumption); (case obh => walk_at "obds"); (case obi => rfl); (case obj => exact Nat.le_of_ble_eq_true rfl); intro _ _ _ _)
  | ((with_reducible refine' g_newL ?obs ?obj ?_); (case obs => assumption); (case obj => exact Nat.le_of_ble_eq_true rfl); intro _ _ _ _)
  | ((with_reducible refine' isi_tup ?obh ?_); (case obh => walk_at "obt"))
  | ((with_reducible refine' g_lenT ?obh ?_); (case obh => walk_at "obt"))
  | ((with_reducible refine' g_unpT ?obh ?obi ?_); (case obh => walk_at "obt"); (case obi => rfl))
  | ((with_reducible refine' g_divmod ?obs ?obh ?_); (case obs => assumption); (case obh => exact cdivp_ok (by omega) (by omega) (by omega)); intro _ _ _ _)
  | ((with_reducible refine' g_unpD ?obh ?obi ?obj ?_); (case obh => walk_at "obd"); (case obi => walk_at "obsc"); (case obj => rfl))
  | with_reducible refine g_att ?_)
local macro_rules | `(tactic| walk_at "obat19") => `(tactic| first | assumption | walk_at "obat")
local macro_rules | `(tactic| walk_at "ob") => `(tactic| first
  | walk_at "ob1"
  | refine use_is_integer ?_
  | refine use_is_within ?_
  | refine use_balance ?_
  | refine use_rate ?_
  | refine use_year (by assumption) ?_
  | refine use_unit ?_
  | refine use_rest (by omega) (by omega) ?_
  | refine use_parts (by walk_at "obd") (by assumption) ?_
  | refine use_is_stretch (by walk_at "obd") (by assumption) ?_
  | refine g_unpT (sqt_enc (by walk_at "obd")) rfl ?_
  | ((with_reducible refine' g_fldS ?obh ?obc ?obn ?obe ?_); (case obh => walk_at "obat19"); (case obc => exact AccC.c (by assumption)); (case obn => first | exact AccC.n1 (by assumption) | exact AccC.n2 (by assumption) | exact AccC.n3 (by assumption)); (case obe => rfl))
  | ((with_reducible refine' g_attS ?obs ?obh ?obc ?obn ?obl ?_); (case obs => assumption); (case obh => assumption); (case obc => exact AccC.c (by assumption)); (case obn => first | exact AccC.n1 (by assumption) | exact AccC.n2 (by assumption) | exact AccC.n3 (by assumption)); (case obl => exact Nat.le_of_ble_eq_true rfl); intro _ _ _)
  | ((with_reducible refine' g_augS ?obh ?obc ?obn ?obe ?_); (case obh => walk_at "obat19"); (case obc => exact AccC.c (by assumption)); (case obn => first | exact AccC.n1 (by assumption) | exact AccC.n2 (by assumption) | exact AccC.n3 (by assumption)); (case obe => rfl))
  | ((with_reducible refine' g_augE ?obs ?obh ?obl ?_); (case obs => assumption); (case obh => assumption); (case obl => exact Nat.le_of_ble_eq_true rfl); intro _ _ _)
  | ((with_reducible refine' g_ixUT ?obh ?obi ?_); (case obh => first | exact sqt_enc (by walk_at "obd") | walk_at "obt"); (case obi => rfl))
  | refine use_prest (by walk_at "obat19") (by assumption) ?_
  | refine use_ppaid (by walk_at "obat19") (by assumption) ?_
  | refine use_pdays (by walk_at "obat19") (by assumption) ?_
  | with_reducible refine g_lstRg ?_
  | with_reducible refine g_rg1 ?_
  | with_reducible refine g_rg2 ?_
  | ((with_reducible refine' g_tyd ?obh ?_); (case obh => walk_at "obat19"))
  | with_reducible refine g_tTru ?_
  | ((with_reducible refine' g_truL ?obh ?_); (case obh => walk_at "obl"))
  | with_reducible refine g_forZ ?_
  | with_reducible refine g_forR2 ?_
  | with_reducible refine g_lcZ ?_)
section
variable {P : Program} {w : World} {K : Frag} {mg : Str → Option Value} {base : Heap}
def sp_law_stretches_in (K : Frag) : Sp := fun vs H Q E => vs.length = 5 ∧ ∃ (F : List (Addr × HO)) (G : List Ft) (pb pr py : Addr) (tb tr ty : List (Int × Int)) (b e : Int), vs = [.ref pb, .ref pr, .ref py, .int b, .int e] ∧ Sy K F G H ∧ L2.Dp K H (.ref pb) (tabD tb) ∧ L2.Dp K H (.ref pr) (tabD tr) ∧ L2.Dp K H (.ref py) (tabD ty) ∧ Tabs tb tr ty ∧ 0 ≤ b ∧ b ≤ 1000 ∧ b ≤ e ∧ e ≤ b + 1000 ∧
  ∀ (L : List Str4) (q : Addr) H', Told tb tr ty b (e - b).toNat L → Sy K F (.dat [.ref q] [encs L] :: G) H' → Q (.ref q) H'
theorem list_ne {z : Str4} {L : List Str4} : (!PyData.eqv (.list ((L ++ [z]).map enc)) (.list [])) = true := by
  cases L <;> rfl
theorem canAll : ∀ (L : List Str4), PyData.canLayAll0 (L.map enc) = true
  | [] => rfl
  | x :: L => by
    show (PyData.canLay0 (enc x) && PyData.canLayAll0 (L.map enc)) = true
    rw [canAll L]
    rfl
theorem depAll : ∀ (L : List Str4), PyData.depthAll (L.map enc) ≤ 1
  | [] => Nat.zero_le _
  | x :: L => by
    have e := depAll L
    show max (PyData.depth (enc x)) (PyData.depthAll (L.map enc)) ≤ 1
    have e2 : PyData.depth (enc x) = 1 := rfl
    omega
theorem shapedL (L : List Str4) : SeqAt.shaped (.list (L.map enc)) = true := by
  unfold SeqAt.shaped
  rw [Bool.and_eq_true]
  refine ⟨canAll L, decide_eq_true ?_⟩
  have e := depAll L
  show PyData.depthAll (L.map enc) + 1 ≤ 64
  omega
abbrev names_law_stretches_in : List Str := ["balances", "rates", "years", "begin", "end", "found", "day", "one"]
theorem sc_law_stretches_in : FnScope names_law_stretches_in ["balances", "rates", "years", "begin", "end"] (defScope (top 51)) := ⟨rfl, rfl, rfl, by decide +kernel, rfl, by decide +kernel, by decide +kernel⟩
set_option maxHeartbeats 4000000 in
theorem ok_law_stretches_in (T : Tx K mg) : FG P w K mg base CX0 2 T.a_law_stretches_in T.d_law_stretches_in ["balances", "rates", "years", "begin", "end"] (sp_law_stretches_in K) := by
  refine OB.Fun.fg T.F_law_stretches_in sc_law_stretches_in (fun vs H Q E h => h.1) (fun cdv A out s H vs Q E g h => ?_)
  obtain ⟨_, F, G, pb, pr, py, tb, tr, ty, b, e, rfl, S, hb, hr, hy, ok, b0, b1, be, e1, k⟩ := h
  refine ⟨_, (pss_cons (ps_set (i := 5) sc_law_stretches_in.nd rfl (by first | exact Or.inl rfl | exact Or.inr rfl) (pe_lst pa_nil))
      (pss_cons (ps_for PassesOwn.never rfl (pi_range2 rfl T.n_range (pa_cons (pv 3) (pa_cons (pv 4) pa_nil))) (pg_name (i := 6) sc_law_stretches_in.nd rfl (by first | exact Or.inl rfl | exact Or.inr rfl))
      (pss_cons (ps_set (i := 7) sc_law_stretches_in.nd rfl (by first | exact Or.inl rfl | exact Or.inr rfl) (pe_tup (pa_cons (pe_cg (ok_law_value_at T) (g.mono (by decide : 1 ≤ 1)) (by rfl) T.m_law_value_at T.F_law_value_at.kp (OB.Fun.bd T.F_law_value_at (ps := ["table", "day"]) (n := 2) (ks := []) (ix := [0, 1]) (fun _ _ _ _ _ _ us ws h1 h2 => match us, ws, h1, h2 with | [_, _], [], _, _ => rfl)) pass0 (pa_cons (pv 0) (pa_cons (pv 6) pa_nil)) pk_nil) (pa_cons (pe_cg (ok_law_value_at T) (g.mono (by decide : 1 ≤ 1)) (by rfl) T.m_law_value_at T.F_law_value_at.kp (OB.Fun.bd T.F_law_value_at (ps := ["table", "day"]) (n := 2) (ks := []) (ix := [0, 1]) (fun _ _ _ _ _ _ us ws h1 h2 => match us, ws, h1, h2 with | [_, _], [], _, _ => rfl)) pass0 (pa_cons (pv 1) (pa_cons (pv 6) pa_nil)) pk_nil) (pa_cons (pe_cg (ok_law_value_at T) (g.mono (by decide : 1 ≤ 1)) (by rfl) T.m_law_value_at T.F_law_value_at.kp (OB.Fun.bd T.F_law_value_at (ps := ["table", "day"]) (n := 2) (ks := []) (ix := [0, 1]) (fun _ _ _ _ _ _ us ws h1 h2 => match us, ws, h1, h2 with | [_, _], [], _, _ => rfl)) pass0 (pa_cons (pv 2) (pa_cons (pv 6) pa_nil)) pk_nil) pa_nil)))))
      (pss_one (ps_if (PW.pt (pw_and (pt_cmpR (op_neD g.hu64) (pv 5) (pe_lst pa_nil) (nomark _)) (pw_and1 (pt_cmpR (op_eqD g.hu64) (pe_slice (sl_UK (K := K) rfl) (pe_ix (ix_UK (K := K) rfl) (pv 5) (pe_un un_neg pe_int) (fun _ _ => rfl)) (po_some pe_int) po_none) (pv 7) (nomark _))))) (pss_one (ps_asg (pe_op (op_catAK (K := K) rfl) (pe_tup (pa_cons (pe_callTy c_int (by rfl) T.n_int (by decide +kernel) (pa_cons (pe_op op_add (pe_ix (ix_UK (K := K) rfl) (pe_ix (ix_UK (K := K) rfl) (pv 5) (pe_un un_neg pe_int) (fun _ _ => rfl)) pe_int (fun _ _ => rfl)) pe_int) pa_nil)) pa_nil)) (pv 7)) (pg_sub (pv 5) (pe_un un_neg pe_int) set_list))) (pss_one (ps_expr (pe_bm PySem.F.plainAttrs_list PySem.F.slot_list_append PySem.F.type_list_append mt_append (pv 5) (pa_cons (pe_op (op_catAK (K := K) rfl) (pe_tup (pa_cons pe_int pa_nil)) (pv 7)) pa_nil))))))))
      (pss_one (ps_ret (pe_callTy (toK (r := rTuple) (K := K) rfl c_tuple) (by rfl) T.n_tuple (by decide +kernel) (pa_cons (pv 5) pa_nil)))))), ?_⟩
  refine g_start (σ := [some _, some _, some _, some _, some _, none, none, none]) rfl ?_
  have S0 := ((S.add _ (dat_tab hb)).add _ (dat_tab hr)).add _ (dat_tab hy)
  repeat walk_at "ob"
  rename_i f H1 _ S1
  clear S0
  refine ⟨b, e, rfl, ⟨by omega, by omega, by omega, by omega⟩, ?_⟩
  refine rg2for_of (fun i σ' H' => ∃ v7 v8 vs L, σ' = [some (.ref pb), some (.ref pr), some (.ref py), some (.int b), some (.int e), some (.ref f), v7, v8] ∧ Told tb tr ty b i L ∧ L.length ≤ i ∧
    Sy K ((f, .lst vs) :: F) (.dat vs (L.map enc) :: .dat [.ref py] [tabD ty] :: .dat [.ref pr] [tabD tr] :: .dat [.ref pb] [tabD tb] :: G) H') ⟨none, none, [], [], rfl, Told.nil, Nat.le_refl _, S1.fact .nil rfl⟩ ?_ ?_
  · rintro i σ' H' hi ⟨v7, v8, vs, L, rfl, tl, ll, S2⟩
    have hc := daysV_one (tb := tb) (tr := tr) (ty := ty) (s := b + i)
    have tl' : Told tb tr ty b ((b + (i : Int)) - b).toNat L := by rw [show ((b + (i : Int)) - b).toNat = i by omega]; exact tl
    have en : ((b + (i : Int) + 1) - b).toNat = i + 1 := by omega
    repeat walk_at "ob"
    refine use_value_on S2 (S2.dp 3 rfl) ok.b0.len ok.b0.first (by omega) fun H8 S12 => ?_
    clear S2
    repeat walk_at "ob"
    refine use_value_on S12 (S12.dp 2 rfl) ok.r0.len ok.r0.first (by omega) fun H9 S13 => ?_
    clear S12
    repeat walk_at "ob"
    refine use_value_on S13 (S13.dp 1 rfl) ok.y0.len ok.y0.first (by omega) fun H10 S14 => ?_
    clear S13
    repeat walk_at "ob"
    rename_i rw1 H11 _ S15 nl H12 _ S16
    clear S14 S15
    rcases List.eq_nil_or_concat L with rfl | ⟨L', z, hLz⟩
    · have hv : vs = [] := List.length_eq_zero_iff.mp (dps_length (S16.dps 1 rfl))
      subst hv
      refine g_neD (d := .list []) (e := .list []) (L2.Dp.lst (SqL.of (S16.at 1 rfl)) .nil) (L2.Dp.lst (SqL.of (S16.at 0 rfl)) .nil) rfl rfl ?_
      repeat walk_at "ob"
      refine g_F rfl ?_
      repeat walk_at "ob"
      rename_i t1 H13 _ S17
      refine g_catA S17 (sqt_sc (S17.dp 0 rfl) (.int .nil)) (sqt_sc (S17.dp 1 rfl) (.int (.int (.int .nil)))) (.cons (L2.Dp.int _) .nil) (.cons (L2.Dp.int _) (.cons (L2.Dp.int _) (.cons (L2.Dp.int _) .nil))) rfl (List.cons_ne_nil _ _) (List.cons_ne_nil _ _) (Nat.le_of_ble_eq_true rfl) fun q5 H14 _ S18 => ?_
      have S18 : Sy K _ (.dat [.ref q5] [enc ⟨1, valOn tb (b + i), valOn tr (b + i), valOn ty (b + i)⟩] :: _) H14 := S18
      clear S17
      repeat walk_at "ob"
      refine g_appS S18 (f := 1) rfl (by decide) fun H15 S19 => ?_
      repeat walk_at "ob"
      refine ⟨_, _, [.ref q5], [⟨1, valOn tb (b + i), valOn tr (b + i), valOn ty (b + i)⟩], rfl, ?_, by simp, (Sy.less S19).drop2.drop2.drop2⟩
      have := Told.new (L := []) (u := b + i + 1) (x := ⟨1, valOn tb (b + i), valOn tr (b + i), valOn ty (b + i)⟩) tl' (by omega) (by omega) (by omega) rfl (by show 1 = b + (i : Int) + 1 - (b + i); omega) (fun y hy => by cases hy) hc
      rw [en] at this
      exact this
    · rw [List.concat_eq_append] at hLz
      subst hLz
      obtain ⟨vs', x, rfl, dv, dx⟩ := dps_last (show DpAll K H12 vs (L'.map enc ++ [enc z]) from by
        have := S16.dps 1 rfl
        rw [List.map_append] at this
        exact this)
      obtain ⟨qx, ysx, rfl, _⟩ := dp_at dx
      have lv := dps_length dv
      rw [List.length_map] at lv
      rw [List.length_append, List.length_singleton] at ll
      refine g_neD (L2.Dp.lst (SqL.of (S16.at 1 rfl)) (S16.dps 1 rfl)) (L2.Dp.lst (SqL.of (S16.at 0 rfl)) .nil) (shapedL _) rfl ?_
      have S16b := S16.less.add (.dat [.ref qx] [enc z]) ⟨dps_one dx, rfl⟩
      clear S16
      repeat walk_at "ob"
      refine g_T list_ne ?_
      repeat walk_at "ob"
      refine g_ixUL (SqL.of (S16b.at 0 rfl)) atI_last ?_
      repeat walk_at "ob"
      refine g_slT S16b (sqt_enc (S16b.dp 0 rfl)) rfl rfl fun p5 H13 S17 => ?_
      clear S16b
      repeat walk_at "ob"
      refine g_eqD (d := .tuple [.int z.b, .int z.r, .int z.y]) (L2.Dp.tup (S17.tqs 0 rfl) (.cons (L2.Dp.int _) (.cons (L2.Dp.int _) (.cons (L2.Dp.int _) .nil)))) (S17.dp 2 rfl) rfl rfl ?_
      rw [eqv3]
      have S18 := S17.drop
      clear S17
      repeat walk_at "ob"
      refine g_iteD (fun h1 => ?_) (fun h1 => ?_)
      · repeat walk_at "ob"
        refine g_ixUL (SqL.of (S18.at 0 rfl)) atI_last ?_
        repeat walk_at "ob"
        rename_i t1 H14 _ S19
        refine g_catA S19 (sqt_sc (S19.dp 0 rfl) (.int .nil)) (sqt_sc (S19.dp 2 rfl) (.int (.int (.int .nil)))) (.cons (L2.Dp.int _) .nil) (.cons (L2.Dp.int _) (.cons (L2.Dp.int _) (.cons (L2.Dp.int _) .nil))) rfl (List.cons_ne_nil _ _) (List.cons_ne_nil _ _) (Nat.le_of_ble_eq_true rfl) fun q6 H15 _ S20 => ?_
        have S20 : Sy K _ (.dat [.ref q6] [enc ⟨z.d + 1, valOn tb (b + i), valOn tr (b + i), valOn ty (b + i)⟩] :: _) H15 := S20
        clear S19 S18
        repeat walk_at "ob"
        refine g_setLS S20 (f := 0) rfl ix_last fun H16 S21 _ => ?_
        rw [set_last] at S21
        repeat walk_at "ob"
        have hw : (⟨z.d + 1, valOn tb (b + i), valOn tr (b + i), valOn ty (b + i)⟩ : Str4) = { z with d := z.d + (b + i + 1) - (b + i) } := by
          injection h1 with i1 i2
          injection i2 with i3 i4
          rw [← i1, ← i3, ← i4, show z.d + (b + (i : Int) + 1) - (b + i) = z.d + 1 by omega]
        have h3 := S21.dps 4 rfl
        rw [List.map_append] at h3
        obtain ⟨vs2, x2, e2, dv2, _⟩ := dps_last (show DpAll K H16 (vs' ++ [.ref qx]) (L'.map enc ++ [enc z]) from h3)
        obtain ⟨e3, _⟩ := List.append_inj' e2 rfl
        subst e3
        have S22 := S21.fact (vs := vs' ++ [.ref q6]) (ds := (L' ++ [(⟨z.d + 1, valOn tb (b + i), valOn tr (b + i), valOn ty (b + i)⟩ : Str4)]).map enc) (by rw [List.map_append]; exact dps_append dv2 (S21.dps 0 rfl)) (enc_imm _)
        refine ⟨_, _, vs' ++ [V.ref q6], L' ++ [(⟨z.d + 1, valOn tb (b + i), valOn tr (b + i), valOn ty (b + i)⟩ : Str4)], rfl, ?_, by rw [List.length_append, List.length_singleton]; omega, S22.drop2.drop2.drop2.drop2.drop2⟩
        rw [hw]
        have := Told.more (u := b + i + 1) tl' (by omega) (by omega) (by rw [show val3 z = rowV tb tr ty (b + i) from h1]; exact hc)
        rw [en] at this
        exact this
      · repeat walk_at "ob"
        rename_i t1 H14 _ S19
        refine g_catA S19 (sqt_sc (S19.dp 0 rfl) (.int .nil)) (sqt_sc (S19.dp 2 rfl) (.int (.int (.int .nil)))) (.cons (L2.Dp.int _) .nil) (.cons (L2.Dp.int _) (.cons (L2.Dp.int _) (.cons (L2.Dp.int _) .nil))) rfl (List.cons_ne_nil _ _) (List.cons_ne_nil _ _) (Nat.le_of_ble_eq_true rfl) fun q6 H15 _ S20 => ?_
        have S20 : Sy K _ (.dat [.ref q6] [enc ⟨1, valOn tb (b + i), valOn tr (b + i), valOn ty (b + i)⟩] :: _) H15 := S20
        clear S19 S18
        repeat walk_at "ob"
        refine g_appS S20 (f := 0) rfl (by rw [List.length_append, List.length_singleton]; omega) fun H16 S21 => ?_
        repeat walk_at "ob"
        have S22 := S21.fact (vs := (vs' ++ [.ref qx]) ++ [.ref q6]) (ds := ((L' ++ [z]) ++ [(⟨1, valOn tb (b + i), valOn tr (b + i), valOn ty (b + i)⟩ : Str4)]).map enc) (by rw [List.map_append]; exact dps_append (S21.dps 4 rfl) (S21.dps 0 rfl)) (enc_imm _)
        refine ⟨_, _, (vs' ++ [V.ref qx]) ++ [V.ref q6], (L' ++ [z]) ++ [(⟨1, valOn tb (b + i), valOn tr (b + i), valOn ty (b + i)⟩ : Str4)], rfl, ?_, by rw [List.length_append, List.length_append, List.length_singleton]; simp; omega, S22.drop2.drop2.drop2.drop2.drop2⟩
        have := Told.new (u := b + i + 1) (x := ⟨1, valOn tb (b + i), valOn tr (b + i), valOn ty (b + i)⟩) tl' (by omega) (by omega) (by omega) rfl (by show 1 = b + (i : Int) + 1 - (b + i); omega) (fun y hy => by
          rw [List.getLast?_append, List.getLast?_singleton] at hy
          cases hy
          exact h1) hc
        rw [en] at this
        exact this
  · rintro σ' H' ⟨v7, v8, vs, L, rfl, tl, ll, S2⟩
    have hvl := dps_length (S2.dps 0 rfl)
    rw [List.length_map] at hvl
    repeat walk_at "ob"
    refine g_tup0 S2 (SqL.of (S2.at 0 rfl)) (S2.dps 0 rfl) (enc_imm ..) fun q2 H7 _ S11 => ?_
    exact k L q2 H7 tl S11.less.drop2.drop2.drop2.drop2
end
end LAW

set_option Elab.async false
set_option linter.all false
set_option maxRecDepth 100000
namespace LAW
open PySem PySem.Spec PyProof.Rows L2 PySem.W OB
local macro_rules | `(tactic| walk_at "obc") => `(tactic| first
  | exact Or.inl ⟨by omega, by omega⟩
  | exact Or.inr ⟨by omega, by omega⟩
  | exact cdiv_ok (by omega) (by omega)
  | (show (0 : Int) < _; omega)
  | exact ⟨by omega, by decide⟩
  | exact ⟨by decide, by decide⟩)
local macro_rules | `(tactic| walk_at "obat") => `(tactic| first
  | exact Sy.at (by assumption) 0 rfl | exact Sy.at (by assumption) 1 rfl | exact Sy.at (by assumption) 2 rfl | exact Sy.at (by assumption) 3 rfl
  | exact Sy.at (by assumption) 4 rfl | exact Sy.at (by assumption) 5 rfl | exact Sy.at (by assumption) 6 rfl | exact Sy.at (by assumption) _ (by assumption) | exact Sy.at (by assumption) (_ + 1) (by assumption) | exact Sy.at (by assumption) (_ + 2) (by assumption))
local macro_rules | `(tactic| walk_at "obt") => `(tactic| first
  | exact Sy.tqs (by assumption) 0 rfl | exact Sy.tqs (by assumption) 1 rfl | exact Sy.tqs (by assumption) 2 rfl | exact Sy.tqs (by assumption) 3 rfl | exact Sy.tqs (by assumption) 4 rfl | exact Sy.tqs (by assumption) 5 rfl
  | exact Sy.tqs (by assumption) 6 rfl | exact Sy.tqs (by assumption) 7 rfl | assumption)
local macro_rules | `(tactic| walk_at "obl") => `(tactic| first
  | exact SqL.of (by walk_at "obat")
  | exact Sy.sq (by assumption) 0 rfl | exact Sy.sq (by assumption) 1 rfl | exact Sy.sq (by assumption) 2 rfl | exact Sy.sq (by assumption) 3 rfl | exact Sy.sq (by assumption) _ (by assumption))
local macro_rules | `(tactic| walk_at "obd") => `(tactic| first
  | exact Dp.int _ | exact Dp.bl _ | exact Dp.str _ | exact Dp.non
  | exact Sy.dp (by assumption) 0 rfl | exact Sy.dp (by assumption) 1 rfl | exact Sy.dp (by assumption) 2 rfl | exact Sy.dp (by assumption) 3 rfl
  | exact Sy.dp (by assumption) 4 rfl | exact Sy.dp (by assumption) 5 rfl | exact Sy.dp (by assumption) 6 rfl | exact Sy.dp (by assumption) 7 rfl
  | exact Sy.dp (by assumption) 8 rfl | exact Sy.dp (by assumption) 9 rfl | exact Sy.dp (by assumption) _ (by assumption) | assumption)
local macro_rules | `(tactic| walk_at "obds") => `(tactic| first
  | exact DpAll.nil
  | (refine' DpAll.cons ?ob1 ?ob2; (case ob1 => walk_at "obd"); (case ob2 => walk_at "obds"))
  | exact Sy.dps (by assumption) 0 rfl | exact Sy.dps (by assumption) 1 rfl | exact Sy.dps (by assumption) 2 rfl | exact Sy.dps (by assumption) 3 rfl | assumption)
local macro_rules | `(tactic| walk_at "obsc") => `(tactic| first
  | exact ScL.nil
  | ((first | refine' ScL.int ?obz | refine' ScL.str ?obz | refine' ScL.bl ?obz | refine' ScL.non ?obz); (case obz => walk_at "obsc")))
local macro_rules | `(tactic| walk_at "ob1") => `(tactic| first
  | ((with_reducible refine' g_var ?obh ?_); (case obh => rfl))
  | with_reducible refine g_c ?_
  | with_reducible refine g_nx ?_
  | with_reducible refine g_rt ?_
  | with_reducible refine g_bk ?_
  | with_reducible refine g_ct ?_
  | with_reducible refine g_op ?_
  | with_reducible refine g_I0 ?_
  | with_reducible refine g_test ?_
  | with_reducible refine g_bl ?_
  | with_reducible refine g_blx ?_
  | with_reducible refine g_B ?_
  | with_reducible refine g_seq ?_
  | with_reducible refine g_asg ?_
  | with_reducible refine g_name ?_
  | with_reducible refine g_ifS ?_
  | with_reducible refine g_ret ?_
  | with_reducible refine g_cb ?_
  | with_reducible refine g_cons ?_
  | with_reducible refine g_nil ?_
  | with_reducible refine g_int ?_
  | with_reducible refine g_intB ?_
  | with_reducible refine g_abs ?_
  | with_reducible refine g_max ?_
  | with_reducible refine g_min ?_
  | with_reducible refine g_un ?_
  | with_reducible refine g_U ?_
  | with_reducible refine g_eqI ?_
  | with_reducible refine g_neI ?_
  | with_reducible refine g_eqS ?_
  | with_reducible refine g_neS ?_
  | with_reducible refine g_tt ?_
  | with_reducible refine g_ff ?_
  | with_reducible refine g_next ?_
  | with_reducible refine g_drop ?_
  | with_reducible refine g_if ?_
  | with_reducible refine g_andV ?_
  | with_reducible refine g_orV ?_
  | with_reducible refine g_notV ?_
  | with_reducible refine g_and ?_
  | with_reducible refine g_or ?_
  | with_reducible refine g_not ?_
  | with_reducible refine g_yes ?_
  | with_reducible refine g_chain ?_
  | with_reducible refine g_cg ?_
  | with_reducible refine g_mg ?_
  | with_reducible refine g_kg ?_
  | with_reducible refine g_pg ?_
  | ((with_reducible refine' g_call ?obh ?obj ?_); (case obh => rfl); (case obj => rfl))
  | with_reducible refine g_par ?_
  | with_reducible refine g_par2 ?_
  | with_reducible refine g_par3 ?_
  | with_reducible refine g_par33 ?_
  | with_reducible refine g_gnil ?_
  | with_reducible refine g_gcons ?_
  | with_reducible refine g_gsub ?_
  | with_reducible refine g_ipI ?_
  | with_reducible refine g_rAdd ?_
  | with_reducible refine g_rSub ?_
  | ((with_reducible refine' g_aug ?obh ?_); (case obh => rfl))
  | with_reducible refine g_tup ?_
  | with_reducible refine g_lst ?_
  | with_reducible refine g_bm ?_
  | with_reducible refine g_bm0 ?_
  | with_reducible refine g_sl ?_
  | with_reducible refine g_nopart ?_
  | with_reducible refine g_part ?_
  | with_reducible refine g_pint ?_
  | with_reducible refine isi_int ?_
  | with_reducible refine isi_intB ?_
  | ((with_reducible refine' g_I ?obh ?_); (case obh => walk_at "obc"))
  | ((with_reducible refine' g_tyl ?obh ?_); (case obh => walk_at "obl"))
  | ((with_reducible refine' g_lenL ?obh ?_); (case obh => walk_at "obl"))
  | with_reducible refine g_ne ?_
  | ((with_reducible refine' g_neN' ?obh ?_); (case obh => rfl))
  | with_reducible refine g_ntt ?_
  | with_reducible refine g_nff ?_
  | with_reducible refine g_star ?_
  | with_reducible refine g_att ?_
  | with_reducible refine g_sfld ?_
  | with_reducible refine g_faug ?_
  | with_reducible refine g_fld ?_
  | ((with_reducible refine' g_nF ?obh ?_); (case obh => omega))
  | ((with_reducible refine' g_nT ?obh ?_); (case obh => omega))
  | ((with_reducible refine' g_TD ?obh ?_); (case obh => omega))
  | ((with_reducible refine' g_FD ?obh ?_); (case obh => omega))
  | ((with_reducible refine' g_ixUL ?obh ?obi ?_); (case obh => walk_at "obl"); (case obi => exact atI_nn (by omega) (by rfl)))
  | ((with_reducible refine' g_setLS ?obs ?obh ?obi ?_); (case obs => assumption); (case obh => assumption); (case obi => rfl); intro _ _ _)
  | ((with_reducible refine' g_newT ?obs ?obh ?obi ?obj ?_); (case obs => assumption); (case obh => walk_at "obds"); (case obi => rfl); (case obj => exact Nat.le_of_ble_eq_true rfl); intro _ _ _ _)
  | ((with_reducible refine' g_newL ?obs ?obj ?_); (case obs => assumption); (case obj => exact Nat.le_of_ble_eq_true rfl); intro _ _ _ _)
  | ((with_reducible refine' isi_tup ?obh ?_); (case obh => walk_at "obt"))
  | ((with_reducible refine' g_lenT ?obh ?_); (case obh => walk_at "obt"))
  | ((with_reducible refine' g_unpT ?obh ?obi ?_); (case obh => walk_at "obt"); (case obi => rfl))
  | ((with_reducible refine' g_divmod ?obs ?obh ?_); (case obs => assumption); (case obh => exact cdivp_ok (by omega) (by omega) (by omega)); intro _ _ _ _)
  | ((with_reducible refine' g_unpD ?obh ?obi ?obj ?_); (case obh => walk_at "obd"); (case obi => walk_at "obsc"); (case obj => rfl))
  | with_reducible refine g_att ?_)
local macro_rules | `(tactic| walk_at "obat19") => `(tactic| first | assumption | walk_at "obat")
local macro_rules | `(tactic| walk_at "ob") => `(tactic| first
  | walk_at "ob1"
  | refine use_is_integer ?_
  | refine use_is_within ?_
  | refine use_balance ?_
  | refine use_rate ?_
  | refine use_year (by assumption) ?_
  | refine use_unit ?_
  | refine use_rest (by omega) (by omega) ?_
  | refine use_parts (by walk_at "obd") (by assumption) ?_
  | refine use_is_stretch (by walk_at "obd") (by assumption) ?_
  | refine g_unpT (sqt_enc (by walk_at "obd")) rfl ?_
  | ((with_reducible refine' g_fldS ?obh ?obc ?obn ?obe ?_); (case obh => walk_at "obat19"); (case obc => exact AccC.c (by assumption)); (case obn => first | exact AccC.n1 (by assumption) | exact AccC.n2 (by assumption) | exact AccC.n3 (by assumption)); (case obe => rfl))
  | ((with_reducible refine' g_attS ?obs ?obh ?obc ?obn ?obl ?_); (case obs => assumption); (case obh => assumption); (case obc => exact AccC.c (by assumption)); (case obn => first | exact AccC.n1 (by assumption) | exact AccC.n2 (by assumption) | exact AccC.n3 (by assumption)); (case obl => exact Nat.le_of_ble_eq_true rfl); intro _ _ _)
  | ((with_reducible refine' g_augS ?obh ?obc ?obn ?obe ?_); (case obh => walk_at "obat19"); (case obc => exact AccC.c (by assumption)); (case obn => first | exact AccC.n1 (by assumption) | exact AccC.n2 (by assumption) | exact AccC.n3 (by assumption)); (case obe => rfl))
  | ((with_reducible refine' g_augE ?obs ?obh ?obl ?_); (case obs => assumption); (case obh => assumption); (case obl => exact Nat.le_of_ble_eq_true rfl); intro _ _ _)
  | ((with_reducible refine' g_ixUT ?obh ?obi ?_); (case obh => first | exact sqt_enc (by walk_at "obd") | walk_at "obt"); (case obi => rfl))
  | refine use_prest (by walk_at "obat19") (by assumption) ?_
  | refine use_ppaid (by walk_at "obat19") (by assumption) ?_
  | refine use_pdays (by walk_at "obat19") (by assumption) ?_
  | with_reducible refine g_lstRg ?_
  | with_reducible refine g_rg1 ?_
  | with_reducible refine g_rg2 ?_
  | ((with_reducible refine' g_tyd ?obh ?_); (case obh => walk_at "obat19"))
  | with_reducible refine g_tTru ?_
  | ((with_reducible refine' g_truL ?obh ?_); (case obh => walk_at "obl"))
  | with_reducible refine g_forZ ?_
  | with_reducible refine g_forR2 ?_
  | with_reducible refine g_lcZ ?_)
section
variable {P : Program} {w : World} {K : Frag} {mg : Str → Option Value} {base : Heap}
theorem small4 {a b c d : Int} (ha : a.natAbs < 10 ^ 60) (hb : b.natAbs < 10 ^ 60) (hc : c.natAbs < 10 ^ 60) (hd : d.natAbs < 10 ^ 60) : Small 1000 1 (.tuple [.int a, .int b, .int c, .int d]) :=
  (Small.tup ((SmallL.cons (Small.int ha) (SmallL.cons (Small.int hb) (SmallL.cons (Small.int hc) (SmallL.cons (Small.int hd) SmallL.nil)))))).mono (by decide) (by decide)
theorem small_told {L : List Str4} (h : ∀ s ∈ L, Ok4 (moved 0 s)) (hl : L.length ≤ 100) : Small 200000 2 (encs L) := by
  have q : SmallL ((1000 + 2) * (L.map enc).length) 1 (L.map enc) := SmallL.all fun x hx => by
    obtain ⟨s, hs, rfl⟩ := List.mem_map.mp hx
    have o := h s hs
    have d0 := o.d0
    have d1 := o.d1
    have b0 := o.b0
    have b1 := o.b1
    have r0 := o.r0
    have r1 := o.r1
    have y0 := o.y0
    have e1 : (moved 0 s).d = s.d := rfl
    have e2 : (moved 0 s).b = s.b + 0 := rfl
    have e3 : (moved 0 s).r = s.r := rfl
    have e4 : (moved 0 s).y = s.y := rfl
    exact small4 (by omega) (by omega) (by omega) (by omega)
  rw [List.length_map] at q
  exact (Small.tup q).mono (by omega) (by decide)
def sp_law_are_tables_right (K : Frag) : Sp := fun vs H Q E => vs.length = 1 ∧ ∃ (F : List (Addr × HO)) (G : List Ft) (i : Nat) (p : Addr) (n : Nat) (a b c : Int), vs = [.ref p] ∧ Sy K F G H ∧ F[i]? = some (p, potO a b c) ∧ PotOk n a b c ∧ n < 700000 ∧
  PotK K F G i p (n + 40) (Q (.bl true))
abbrev names_law_are_tables_right : List Str := ["pot", "balances", "rates", "years", "table", "day", "begin", "end", "due"]
theorem sc_law_are_tables_right : FnScope names_law_are_tables_right ["pot"] (defScope (top 52)) := ⟨rfl, rfl, rfl, by decide +kernel, rfl, by decide +kernel, by decide +kernel⟩
set_option maxHeartbeats 4000000 in
theorem ok_law_are_tables_right (T : Tx K mg) : FG P w K mg base CX0 6 T.a_law_are_tables_right T.d_law_are_tables_right ["pot"] (sp_law_are_tables_right K) := by
  refine OB.Fun.fg T.F_law_are_tables_right sc_law_are_tables_right (fun vs H Q E h => h.1) (fun cdv A out s H vs Q E g h => ?_)
  obtain ⟨_, F, G, i, p, n, a, b, c, rfl, S, hF, po, hn, k⟩ := h
  refine ⟨_, (pss_cons (ps_asg (pe_cg (ok_law_tables T) (g.mono (by decide : 4 ≤ 5)) (by rfl) T.m_law_tables T.F_law_tables.kp (OB.Fun.bd T.F_law_tables (ps := ["pot", "most"]) (n := 2) (ks := []) (ix := [0, 1]) (fun _ _ _ _ _ _ us ws h1 h2 => match us, ws, h1, h2 with | [_, _], [], _, _ => rfl)) pass0 (pa_cons (pv 0) (pa_cons pe_int pa_nil)) pk_nil) (pg_tupK (K := K) rfl (n := 3) rfl (pgs_cons (pg_name (i := 1) sc_law_are_tables_right.nd rfl (by first | exact Or.inl rfl | exact Or.inr rfl)) (pgs_cons (pg_name (i := 2) sc_law_are_tables_right.nd rfl (by first | exact Or.inl rfl | exact Or.inr rfl)) (pgs_cons (pg_name (i := 3) sc_law_are_tables_right.nd rfl (by first | exact Or.inl rfl | exact Or.inr rfl)) pgs_nil)))))
      (pss_cons (ps_for PassesOwn.never rfl (pi_seq (pe_tup (pa_cons (pv 1) (pa_cons (pv 2) (pa_cons (pv 3) pa_nil))))) (pg_name (i := 4) sc_law_are_tables_right.nd rfl (by first | exact Or.inl rfl | exact Or.inr rfl))
      (pss_one (ps_for PassesOwn.never rfl (pi_seq (pe_lst (pa_cons pe_int (pa_cons (pe_ix (ix_UK (K := K) rfl) (pe_ix (ix_UK (K := K) rfl) (pv 4) (pe_un un_neg pe_int) (fun _ _ => rfl)) pe_int (fun _ _ => rfl)) (pa_cons pe_int (pa_cons (pe_callTy c_int (by rfl) T.n_int (by decide +kernel) (pa_cons (pe_cg (ok_law_take T) (g.mono (by decide : 1 ≤ 5)) (by rfl) T.m_law_take T.F_law_take.kp (OB.Fun.bd T.F_law_take (ps := ["pot", "upto"]) (n := 2) (ks := []) (ix := [0, 1]) (fun _ _ _ _ _ _ us ws h1 h2 => match us, ws, h1, h2 with | [_, _], [], _, _ => rfl)) pass0 (pa_cons (pv 0) (pa_cons pe_int pa_nil)) pk_nil) pa_nil)) (pa_cons (pe_callB (c_max rfl) (by rfl) T.n_max (by decide +kernel) (pa_cons pe_int (pa_cons (pe_op op_sub (pe_ix (ix_UK (K := K) rfl) (pe_ix (ix_UK (K := K) rfl) (pv 4) (pe_un un_neg pe_int) (fun _ _ => rfl)) pe_int (fun _ _ => rfl)) pe_int) pa_nil))) pa_nil))))))) (pg_name (i := 5) sc_law_are_tables_right.nd rfl (by first | exact Or.inl rfl | exact Or.inr rfl))
      (pss_one (ps_if (pt_cmpR op_ne (pe_callB (toK (r := rRepr) (K := K) rfl (call_repr g)) (by rfl) T.n_repr (by decide +kernel) (pa_cons (pe_cg0 (ok_value_at T) (g.mono (by decide : 4 ≤ 5)) (by rfl) T.m_value_at T.F_value_at.kp (OB.Fun.bd T.F_value_at (ps := ["table", "day"]) (n := 0) (ks := ["day", "table"]) (ix := [1, 0]) (fun _ _ _ _ _ _ us ws h1 h2 => match us, ws, h1, h2 with | [], [_, _], _, _ => rfl)) pass0 (pk_cons (pv 5) (pk_cons (pv 4) pk_nil))) pa_nil)) (pe_callB (toK (r := rRepr) (K := K) rfl (call_repr g)) (by rfl) T.n_repr (by decide +kernel) (pa_cons (pe_cg (ok_law_value_at T) (g.mono (by decide : 1 ≤ 5)) (by rfl) T.m_law_value_at T.F_law_value_at.kp (OB.Fun.bd T.F_law_value_at (ps := ["table", "day"]) (n := 2) (ks := []) (ix := [0, 1]) (fun _ _ _ _ _ _ us ws h1 h2 => match us, ws, h1, h2 with | [_, _], [], _, _ => rfl)) pass0 (pa_cons (pv 4) (pa_cons (pv 5) pa_nil)) pk_nil) pa_nil)) (nomark _)) (pss_one (ps_ret pe_bl)) pss_nil)))))
      (pss_cons (ps_set (i := 6) sc_law_are_tables_right.nd rfl (by first | exact Or.inl rfl | exact Or.inr rfl) (pe_callTy c_int (by rfl) T.n_int (by decide +kernel) (pa_cons (pe_cg (ok_law_take T) (g.mono (by decide : 1 ≤ 5)) (by rfl) T.m_law_take T.F_law_take.kp (OB.Fun.bd T.F_law_take (ps := ["pot", "upto"]) (n := 2) (ks := []) (ix := [0, 1]) (fun _ _ _ _ _ _ us ws h1 h2 => match us, ws, h1, h2 with | [_, _], [], _, _ => rfl)) pass0 (pa_cons (pv 0) (pa_cons pe_int pa_nil)) pk_nil) pa_nil)))
      (pss_cons (ps_set (i := 7) sc_law_are_tables_right.nd rfl (by first | exact Or.inl rfl | exact Or.inr rfl) (pe_callTy c_int (by rfl) T.n_int (by decide +kernel) (pa_cons (pe_op op_add (pv 6) (pe_cg (ok_law_of T) (g.mono (by decide : 2 ≤ 5)) (by rfl) T.m_law_of T.F_law_of.kp (OB.Fun.bd T.F_law_of (ps := ["pot", "some"]) (n := 2) (ks := []) (ix := [0, 1]) (fun _ _ _ _ _ _ us ws h1 h2 => match us, ws, h1, h2 with | [_, _], [], _, _ => rfl)) pass0 (pa_cons (pv 0) (pa_cons (pe_lst (pa_cons pe_int (pa_cons pe_int (pa_cons (pe_cg (ok_law_take T) (g.mono (by decide : 1 ≤ 5)) (by rfl) T.m_law_take T.F_law_take.kp (OB.Fun.bd T.F_law_take (ps := ["pot", "upto"]) (n := 2) (ks := []) (ix := [0, 1]) (fun _ _ _ _ _ _ us ws h1 h2 => match us, ws, h1, h2 with | [_, _], [], _, _ => rfl)) pass0 (pa_cons (pv 0) (pa_cons pe_int pa_nil)) pk_nil) pa_nil)))) pa_nil)) pk_nil)) pa_nil)))
      (pss_cons (ps_set (i := 8) sc_law_are_tables_right.nd rfl (by first | exact Or.inl rfl | exact Or.inr rfl) (pe_cg (ok_law_stretches_in T) (g.mono (by decide : 2 ≤ 5)) (by rfl) T.m_law_stretches_in T.F_law_stretches_in.kp (OB.Fun.bd T.F_law_stretches_in (ps := ["balances", "rates", "years", "begin", "end"]) (n := 5) (ks := []) (ix := [0, 1, 2, 3, 4]) (fun _ _ _ _ _ _ us ws h1 h2 => match us, ws, h1, h2 with | [_, _, _, _, _], [], _, _ => rfl)) pass0 (pa_cons (pv 1) (pa_cons (pv 2) (pa_cons (pv 3) (pa_cons (pv 6) (pa_cons (pv 7) pa_nil))))) pk_nil))
      (pss_one (ps_ret (pe_cmpR op_eq (pe_callB (toK (r := rRepr) (K := K) rfl (call_repr g)) (by rfl) T.n_repr (by decide +kernel) (pa_cons (pe_cg0 (ok_stretches_of T) (g.mono (by decide : 5 ≤ 5)) (by rfl) T.m_stretches_of T.F_stretches_of.kp (OB.Fun.bd T.F_stretches_of (ps := ["balances", "rates", "years", "begin", "end"]) (n := 0) (ks := ["end", "begin", "years", "rates", "balances"]) (ix := [4, 3, 2, 1, 0]) (fun _ _ _ _ _ _ us ws h1 h2 => match us, ws, h1, h2 with | [], [_, _, _, _, _], _, _ => rfl)) pass0 (pk_cons (pv 7) (pk_cons (pv 6) (pk_cons (pv 3) (pk_cons (pv 2) (pk_cons (pv 1) pk_nil)))))) pa_nil)) (pe_callB (toK (r := rRepr) (K := K) rfl (call_repr g)) (by rfl) T.n_repr (by decide +kernel) (pa_cons (pv 8) pa_nil)) (nomark _))))))))), ?_⟩
  refine g_start (σ := [some _, none, none, none, none, none, none, none, none]) rfl ?_
  repeat walk_at "ob"
  refine ⟨rfl, _, _, i, p, _, 40, a, b, c, rfl, S, hF, po, by omega, by decide, by decide, fun tb tr ty q okt a1 b1 c1 H1 o1 S1 _ => ?_⟩
  have im : immAll [tabD tb, tabD tr, tabD ty] = true := immAll_of fun x hx => by
    simp only [List.mem_cons, List.not_mem_nil, or_false] at hx
    rcases hx with rfl | rfl | rfl <;> exact tab_imm _
  obtain ⟨_, xs, e, S2⟩ := S1.opn (S1.dp 0 rfl) im
  cases e
  have h3 : ∃ pb pr py, xs = [.ref pb, .ref pr, .ref py] ∧ L2.Dp K H1 (.ref pb) (tabD tb) ∧ L2.Dp K H1 (.ref pr) (tabD tr) ∧ L2.Dp K H1 (.ref py) (tabD ty) := by
    have hxs := S2.dps 1 rfl
    cases hxs with
    | cons a1 hxs =>
      cases hxs with
      | cons a2 hxs =>
        cases hxs with
        | cons a3 hxs =>
          cases hxs
          obtain ⟨pb, _, rfl, _⟩ := dp_at a1
          obtain ⟨pr, _, rfl, _⟩ := dp_at a2
          obtain ⟨py, _, rfl, _⟩ := dp_at a3
          exact ⟨pb, pr, py, rfl, a1, a2, a3⟩
  obtain ⟨pb, pr, py, rfl, hb, hr, hy⟩ := h3
  have S3 := ((((S2.drop2).add _ (dat_tab hb)).add _ (dat_tab hr)).add _ (dat_tab hy))
  repeat walk_at "ob"
  clear S1 S2 S
  refine g_tupC ?_
  repeat walk_at "ob"
  have im3 : immAll ([tb, tr, ty].map tabD) = true := im
  refine g_newT (ds := [tb, tr, ty].map tabD) S3 (.cons (S3.dp 2 rfl) (.cons (S3.dp 1 rfl) (.cons (S3.dp 0 rfl) .nil))) im3 (Nat.le_of_ble_eq_true rfl) fun q9 H2 _ S4 => ?_
  obtain ⟨_, xs, e, S5⟩ := S4.opn (S4.dp 0 rfl) im3
  cases e
  clear S3 S4
  have hx3 : xs.length = 3 := dps_length (S5.dps 1 rfl)
  refine g_forS (a := q9) (xs := xs) false (fun j σ' H' => ∃ v4 v5 a b c, σ' = [some (.ref p), some (.ref pb), some (.ref pr), some (.ref py), v4, v5, none, none, none] ∧ PotOk (n + 26 + j) a b c ∧ j ≤ 3 ∧
    Sy K (F.set i (p, potO a b c)) (.tq q9 xs :: .dat xs ([tb, tr, ty].map tabD) :: .dat [.ref q9] [.tuple ([tb, tr, ty].map tabD)] :: .dat [.ref py] [tabD ty] :: .dat [.ref pr] [tabD tr] :: .dat [.ref pb] [tabD tb] :: .tq q [.ref pb, .ref pr, .ref py] :: G) H') (fun Q' q => q)
    ⟨none, none, a1, b1, c1, rfl, o1, by decide, S5.facts fun g hg => by simp only [List.mem_cons] at hg ⊢; simp [hg]; rcases hg with h | h | h | h | h | h | h | h <;> simp [h]⟩ (fun j σ' H' ⟨_, _, _, _, _, _, _, _, S4⟩ => S4.tqs 0 rfl) ?_ ?_
  · rintro j x σ' H' hx ⟨v4, v5, a2, b2, c2, rfl, o2, hj, S6⟩
    obtain ⟨t, ht, hdt⟩ := dps_map (S6.dps 1 rfl) hx
    have hj3 : j + 1 ≤ 3 := (List.getElem?_eq_some_iff.mp ht).1
    have htm := List.mem_of_getElem? ht
    have tok : TabOk t ∧ ∀ z ∈ t, -1000000000000 ≤ z.2 ∧ z.2 ≤ 1000000000000 := by
      simp only [List.mem_cons, List.not_mem_nil, or_false] at htm
      rcases htm with rfl | rfl | rfl
      · exact ⟨okt.ok.b0, okt.ok.b1⟩
      · exact ⟨okt.ok.r0, fun z hz => by have := okt.ok.r1 z hz; omega⟩
      · exact ⟨okt.ok.y0, fun z hz => by have := okt.ok.y1 z hz; omega⟩
    obtain ⟨tok, tin⟩ := tok
    obtain ⟨u, zs, rfl, S7⟩ := S6.opn hdt (tab_imm t)
    obtain ⟨v0, r0, t0⟩ := tok.first
    obtain ⟨t', lz, ht'⟩ : ∃ t' lz, t = t' ++ [lz] := by
      rcases List.eq_nil_or_concat t with h | ⟨t', z, h⟩
      · rw [h] at t0
        cases t0
      · exact ⟨t', z, by rw [h, List.concat_eq_append]⟩
    obtain ⟨zs', lx, hzs, _, dx⟩ := dps_last (show DpAll K H' zs (t'.map rowD ++ [rowD lz]) from by
      have := S7.dps 1 rfl
      rw [ht', List.map_append] at this
      exact this)
    obtain ⟨lp, _, rfl, _⟩ := dp_at dx
    have hlz := tok.day lz (by rw [ht']; exact List.mem_append_right _ (List.mem_singleton.mpr rfl))
    have S8 := (S7.add (.dat [.ref lp] [rowD lz]) ⟨dps_one dx, rfl⟩).add (.dat [.ref u] [tabD t]) (dat_tab hdt)
    clear S6 S7
    repeat walk_at "ob"
    refine g_tupC ?_
    repeat walk_at "ob"
    refine g_ixUT (S8.tqs 2 rfl) (by rw [hzs]; exact atI_last) ?_
    repeat walk_at "ob"
    refine g_ixUT (sqt_row (S8.dp 1 rfl)) rfl ?_
    repeat walk_at "ob"
    refine use_take2 S8 hF o2 (by omega) (by decide) (by decide) fun r a3 b3 c3 H3 l3 u3 o3 S9 => ?_
    clear S8
    repeat walk_at "ob"
    refine g_ixUT (S9.tqs 2 rfl) (by rw [hzs]; exact atI_last) ?_
    repeat walk_at "ob"
    refine g_ixUT (sqt_row (S9.dp 1 rfl)) rfl ?_
    repeat walk_at "ob"
    rename_i dl H4 _ S10
    clear S9
    have hm : 0 ≤ (if lz.1 - 1 > 0 then lz.1 - 1 else 0) ∧ (if lz.1 - 1 > 0 then lz.1 - 1 else 0) ≤ 100000 := by
      split <;> omega
    have hds : ∀ d ∈ [0, lz.1, 100000, r, (if lz.1 - 1 > 0 then lz.1 - 1 else 0)], 0 ≤ d ∧ d ≤ 100000 := by
      intro d hd
      simp only [List.mem_cons, List.not_mem_nil, or_false] at hd
      rcases hd with rfl | rfl | rfl | rfl | rfl
      · omega
      · omega
      · omega
      · omega
      · exact hm
    generalize (if lz.1 - 1 > 0 then lz.1 - 1 else 0) = m at hm hds S10 ⊢
    generalize hde : [0, lz.1, 100000, r, m] = days at hds
    have hdv : [V.int 0, .int lz.1, .int 100000, .int r, .int m] = days.map V.int := by rw [← hde]; rfl
    rw [hdv] at S10
    refine g_forS (a := dl) (xs := days.map V.int) true (fun _ σ' H' => ∃ v5, σ' = [some (.ref p), some (.ref pb), some (.ref pr), some (.ref py), some (.ref u), v5, none, none, none] ∧
      Sy K ((dl, .lst (days.map V.int)) :: F.set i (p, potO a3 b3 c3)) (.dat [.ref u] [tabD t] :: .dat [.ref lp] [rowD lz] :: .tq u zs :: .dat zs (t.map rowD) :: .tq q9 xs :: .dat xs ([tb, tr, ty].map tabD) :: .dat [.ref q9] [.tuple ([tb, tr, ty].map tabD)] :: .dat [.ref py] [tabD ty] :: .dat [.ref pr] [tabD tr] :: .dat [.ref pb] [tabD tb] :: .tq q [.ref pb, .ref pr, .ref py] :: G) H') (fun Q' q => q)
      ⟨v5, rfl, S10⟩ (fun j σ' H' ⟨_, _, S4⟩ => SqL.of (S4.at 0 rfl)) ?_ ?_
    · rintro j x σ' H' hx ⟨v5, rfl, S11⟩
      rw [List.getElem?_map] at hx
      obtain ⟨d, hd, rfl⟩ := Option.map_eq_some_iff.mp hx
      obtain ⟨d0, d1⟩ := hds d (List.mem_of_getElem? hd)
      obtain ⟨zv, hzv, ezv⟩ := valOn_mem tok.first d0
      have hval := tin zv hzv
      rw [ezv] at hval
      repeat walk_at "ob"
      refine ⟨rfl, _, _, u, t, d, rfl, S11, S11.dp 0 rfl, tok, d0, d1, fun H5 S12 => ?_⟩
      repeat walk_at "ob"
      refine g_reprS (L2.Dp.int _) (Small.int (by omega)) (by decide) (by decide) ?_
      repeat walk_at "ob"
      refine use_value_on S12 (S12.dp 0 rfl) tok.len tok.first d0 fun H6 S13 => ?_
      repeat walk_at "ob"
      refine g_reprS (L2.Dp.int _) (Small.int (by omega)) (by decide) (by decide) ?_
      repeat walk_at "ob"
      exact ⟨_, rfl, S13⟩
    · rintro σ' H' ⟨v5, rfl, S11⟩
      exact ⟨_, _, a3, b3, c3, rfl, o3, hj3, S11.less.drop.drop.drop.drop⟩
  · rintro σ' H' ⟨v4, v5, a2, b2, c2, rfl, o2, hj, S6⟩
    rw [hx3] at o2
    have S7 := S6.drop.drop.drop
    clear S6 S5
    repeat walk_at "ob"
    refine use_take2 S7 hF o2 (by omega) (by decide) (by decide) fun r a3 b3 c3 H3 l3 u3 o3 S8 => ?_
    clear S7
    repeat walk_at "ob"
    refine use_take2 S8 hF o3 (by omega) (by decide) (by decide) fun r2 a4 b4 c4 H4 l4 u4 o4 S9 => ?_
    clear S8
    repeat walk_at "ob"
    rename_i nl H5 _ S10
    refine use_of2 (ns := [0, 1, r2]) S10 rfl hF o4 (by omega) rfl rfl fun x hx a5 b5 c5 H6 o5 S11 => ?_
    clear S9 S10
    have hx2 : 0 ≤ x ∧ x ≤ 140 := by
      simp only [List.mem_cons, List.not_mem_nil, or_false] at hx
      rcases hx with rfl | rfl | rfl <;> omega
    repeat walk_at "ob"
    refine ⟨rfl, _, _, pb, pr, py, tb, tr, ty, _, _, rfl, S11, S11.dp 2 rfl, S11.dp 1 rfl, S11.dp 0 rfl, okt.ok, by omega, by omega, by omega, by omega, fun M q2 H7 tM S12 => ?_⟩
    clear S11
    repeat walk_at "ob"
    refine ⟨rfl, _, _, pb, pr, py, tb, tr, ty, _, _, rfl, S12, S12.dp 3 rfl, S12.dp 2 rfl, S12.dp 1 rfl, okt.ok, by omega, by omega, by omega, fun L q3 H8 tL lL S13 => ?_⟩
    clear S12
    have eL : M = L := told_one tM.pos tL.pos tM.alt tL.alt (tM.flat.trans tL.flat.symm)
    subst eL
    have sm := small_told (L := M) (fun s hs => (tL.ok okt (by omega) (by decide) (by decide) s hs).1) lL
    repeat walk_at "ob"
    refine g_reprS (S13.dp 0 rfl) sm (by decide) (by decide) ?_
    repeat walk_at "ob"
    refine g_reprS (S13.dp 1 rfl) sm (by decide) (by decide) ?_
    repeat walk_at "ob"
    rw [show decide (PyData.shown (encs M) = PyData.shown (encs M)) = true from decide_eq_true rfl]
    exact k.use hF (o5.mono (by omega)) S13.drop.drop.drop.drop.drop.drop
end
end LAW

set_option Elab.async false
set_option linter.all false
set_option maxRecDepth 100000
namespace LAW
open PySem PySem.Spec PyProof.Rows L2 PySem.W OB
local macro_rules | `(tactic| walk_at "obc") => `(tactic| first
  | exact Or.inl ⟨by omega, by omega⟩
  | exact Or.inr ⟨by omega, by omega⟩
  | exact cdiv_ok (by omega) (by omega)
  | (show (0 : Int) < _; omega)
  | exact ⟨by omega, by decide⟩
  | exact ⟨by decide, by decide⟩)
local macro_rules | `(tactic| walk_at "obat") => `(tactic| first
  | exact Sy.at (by assumption) 0 rfl | exact Sy.at (by assumption) 1 rfl | exact Sy.at (by assumption) 2 rfl | exact Sy.at (by assumption) 3 rfl
  | exact Sy.at (by assumption) 4 rfl | exact Sy.at (by assumption) 5 rfl | exact Sy.at (by assumption) 6 rfl | exact Sy.at (by assumption) _ (by assumption) | exact Sy.at (by assumption) (_ + 1) (by assumption) | exact Sy.at (by assumption) (_ + 2) (by assumption))
local macro_rules | `(tactic| walk_at "obt") => `(tactic| first
  | exact Sy.tqs (by assumption) 0 rfl | exact Sy.tqs (by assumption) 1 rfl | exact Sy.tqs (by assumption) 2 rfl | exact Sy.tqs (by assumption) 3 rfl | exact Sy.tqs (by assumption) 4 rfl | exact Sy.tqs (by assumption) 5 rfl
  | exact Sy.tqs (by assumption) 6 rfl | exact Sy.tqs (by assumption) 7 rfl | assumption)
local macro_rules | `(tactic| walk_at "obl") => `(tactic| first
  | exact SqL.of (by walk_at "obat")
  | exact Sy.sq (by assumption) 0 rfl | exact Sy.sq (by assumption) 1 rfl | exact Sy.sq (by assumption) 2 rfl | exact Sy.sq (by assumption) 3 rfl | exact Sy.sq (by assumption) _ (by assumption))
local macro_rules | `(tactic| walk_at "obd") => `(tactic| first
  | exact Dp.int _ | exact Dp.bl _ | exact Dp.str _ | exact Dp.non
  | exact Sy.dp (by assumption) 0 rfl | exact Sy.dp (by assumption) 1 rfl | exact Sy.dp (by assumption) 2 rfl | exact Sy.dp (by assumption) 3 rfl
  | exact Sy.dp (by assumption) 4 rfl | exact Sy.dp (by assumption) 5 rfl | exact Sy.dp (by assumption) 6 rfl | exact Sy.dp (by assumption) 7 rfl
  | exact Sy.dp (by assumption) 8 rfl | exact Sy.dp (by assumption) 9 rfl | exact Sy.dp (by assumption) _ (by assumption) | assumption)
local macro_rules | `(tactic| walk_at "obds") => `(tactic| first
  | exact DpAll.nil
  | (refine' DpAll.cons ?ob1 ?ob2; (case ob1 => walk_at "obd"); (case ob2 => walk_at "obds"))
  | exact Sy.dps (by assumption) 0 rfl | exact Sy.dps (by assumption) 1 rfl | exact Sy.dps (by assumption) 2 rfl | exact Sy.dps (by assumption) 3 rfl | assumption)
local macro_rules | `(tactic| walk_at "obsc") => `(tactic| first
  | exact ScL.nil
  | ((first | refine' ScL.int ?obz | refine' ScL.str ?obz | refine' ScL.bl ?obz | refine' ScL.non ?obz); (case obz => walk_at "obsc")))
local macro_rules | `(tactic| walk_at "ob1") => `(tactic| first
  | ((with_reducible refine' g_var ?obh ?_); (case obh => rfl))
  | with_reducible refine g_c ?_
  | with_reducible refine g_nx ?_
  | with_reducible refine g_rt ?_
  | with_reducible refine g_bk ?_
  | with_reducible refine g_ct ?_
  | with_reducible refine g_op ?_
  | with_reducible refine g_I0 ?_
  | with_reducible refine g_test ?_
  | with_reducible refine g_bl ?_
  | with_reducible refine g_blx ?_
  | with_reducible refine g_B ?_
  | with_reducible refine g_seq ?_
  | with_reducible refine g_asg ?_
  | with_reducible refine g_name ?_
  | with_reducible refine g_ifS ?_
  | with_reducible refine g_ret ?_
  | with_reducible refine g_cb ?_
  | with_reducible refine g_cons ?_
  | with_reducible refine g_nil ?_
  | with_reducible refine g_int ?_
  | with_reducible refine g_intB ?_
  | with_reducible refine g_abs ?_
  | with_reducible refine g_max ?_
  | with_reducible refine g_min ?_
  | with_reducible refine g_un ?_
  | with_reducible refine g_U ?_
  | with_reducible refine g_eqI ?_
  | with_reducible refine g_neI ?_
  | with_reducible refine g_eqS ?_
  | with_reducible refine g_neS ?_
  | with_reducible refine g_tt ?_
  | with_reducible refine g_ff ?_
  | with_reducible refine g_next ?_
  | with_reducible refine g_drop ?_
  | with_reducible refine g_if ?_
  | with_reducible refine g_andV ?_
  | with_reducible refine g_orV ?_
  | with_reducible refine g_notV ?_
  | with_reducible refine g_and ?_
  | with_reducible refine g_or ?_
  | with_reducible refine g_not ?_
  | with_reducible refine g_yes ?_
  | with_reducible refine g_chain ?_
  | with_reducible refine g_cg ?_
  | with_reducible refine g_mg ?_
  | with_reducible refine g_kg ?_
  | with_reducible refine g_pg ?_
  | ((with_reducible refine' g_call ?obh ?obj ?_); (case obh => rfl); (case obj => rfl))
  | with_reducible refine g_par ?_
  | with_reducible refine g_par2 ?_
  | with_reducible refine g_par3 ?_
  | with_reducible refine g_par33 ?_
  | with_reducible refine g_gnil ?_
  | with_reducible refine g_gcons ?_
  | with_reducible refine g_gsub ?_
  | with_reducible refine g_ipI ?_
  | with_reducible refine g_rAdd ?_
  | with_reducible refine g_rSub ?_
  | ((with_reducible refine' g_aug ?obh ?_); (case obh => rfl))
  | with_reducible refine g_tup ?_
  | with_reducible refine g_lst ?_
  | with_reducible refine g_bm ?_
  | with_reducible refine g_bm0 ?_
  | with_reducible refine g_sl ?_
  | with_reducible refine g_nopart ?_
  | with_reducible refine g_part ?_
  | with_reducible refine g_pint ?_
  | with_reducible refine isi_int ?_
  | with_reducible refine isi_intB ?_
  | ((with_reducible refine' g_I ?obh ?_); (case obh => walk_at "obc"))
  | ((with_reducible refine' g_tyl ?obh ?_); (case obh => walk_at "obl"))
  | ((with_reducible refine' g_lenL ?obh ?_); (case obh => walk_at "obl"))
  | with_reducible refine g_ne ?_
  | ((with_reducible refine' g_neN' ?obh ?_); (case obh => rfl))
  | with_reducible refine g_ntt ?_
  | with_reducible refine g_nff ?_
  | with_reducible refine g_star ?_
  | with_reducible refine g_att ?_
  | with_reducible refine g_sfld ?_
  | with_reducible refine g_faug ?_
  | with_reducible refine g_fld ?_
  | ((with_reducible refine' g_nF ?obh ?_); (case obh => omega))
  | ((with_reducible refine' g_nT ?obh ?_); (case obh => omega))
  | ((with_reducible refine' g_TD ?obh ?_); (case obh => omega))
  | ((with_reducible refine' g_FD ?obh ?_); (case obh => omega))
  | ((with_reducible refine' g_ixUL ?obh ?obi ?_); (case obh => walk_at "obl"); (case obi => exact atI_nn (by omega) (by rfl)))
  | ((with_reducible refine' g_setLS ?obs ?obh ?obi ?_); (case obs => assumption); (case obh => assumption); (case obi => rfl); intro _ _ _)
  | ((with_reducible refine' g_newT ?obs ?obh ?obi ?obj ?_); (case obs => assumption); (case obh => walk_at "obds"); (case obi => rfl); (case obj => exact Nat.le_of_ble_eq_true rfl); intro _ _ _ _)
  | ((with_reducible refine' g_newL ?obs ?obj ?_); (case obs => assumption); (case obj => exact Nat.le_of_ble_eq_true rfl); intro _ _ _ _)
  | ((with_reducible refine' isi_tup ?obh ?_); (case obh => walk_at "obt"))
  | ((with_reducible refine' g_lenT ?obh ?_); (case obh => walk_at "obt"))
  | ((with_reducible refine' g_unpT ?obh ?obi ?_); (case obh => walk_at "obt"); (case obi => rfl))
  | ((with_reducible refine' g_divmod ?obs ?obh ?_); (case obs => assumption); (case obh => exact cdivp_ok (by omega) (by omega) (by omega)); intro _ _ _ _)
  | ((with_reducible refine' g_unpD ?obh ?obi ?obj ?_); (case obh => walk_at "obd"); (case obi => walk_at "obsc"); (case obj => rfl))
  | with_reducible refine g_att ?_)
local macro_rules | `(tactic| walk_at "obat19") => `(tactic| first | assumption | walk_at "obat")
local macro_rules | `(tactic| walk_at "ob") => `(tactic| first
  | walk_at "ob1"
  | refine use_is_integer ?_
  | refine use_is_within ?_
  | refine use_balance ?_
  | refine use_rate ?_
  | refine use_year (by assumption) ?_
  | refine use_unit ?_
  | refine use_rest (by omega) (by omega) ?_
  | refine use_parts (by walk_at "obd") (by assumption) ?_
  | refine use_is_stretch (by walk_at "obd") (by assumption) ?_
  | refine g_unpT (sqt_enc (by walk_at "obd")) rfl ?_
  | ((with_reducible refine' g_fldS ?obh ?obc ?obn ?obe ?_); (case obh => walk_at "obat19"); (case obc => exact AccC.c (by assumption)); (case obn => first | exact AccC.n1 (by assumption) | exact AccC.n2 (by assumption) | exact AccC.n3 (by assumption)); (case obe => rfl))
  | ((with_reducible refine' g_attS ?obs ?obh ?obc ?obn ?obl ?_); (case obs => assumption); (case obh => assumption); (case obc => exact AccC.c (by assumption)); (case obn => first | exact AccC.n1 (by assumption) | exact AccC.n2 (by assumption) | exact AccC.n3 (by assumption)); (case obl => exact Nat.le_of_ble_eq_true rfl); intro _ _ _)
  | ((with_reducible refine' g_augS ?obh ?obc ?obn ?obe ?_); (case obh => walk_at "obat19"); (case obc => exact AccC.c (by assumption)); (case obn => first | exact AccC.n1 (by assumption) | exact AccC.n2 (by assumption) | exact AccC.n3 (by assumption)); (case obe => rfl))
  | ((with_reducible refine' g_augE ?obs ?obh ?obl ?_); (case obs => assumption); (case obh => assumption); (case obl => exact Nat.le_of_ble_eq_true rfl); intro _ _ _)
  | ((with_reducible refine' g_ixUT ?obh ?obi ?_); (case obh => first | exact sqt_enc (by walk_at "obd") | walk_at "obt"); (case obi => rfl))
  | refine use_prest (by walk_at "obat19") (by assumption) ?_
  | refine use_ppaid (by walk_at "obat19") (by assumption) ?_
  | refine use_pdays (by walk_at "obat19") (by assumption) ?_
  | with_reducible refine g_lstRg ?_
  | with_reducible refine g_rg1 ?_
  | with_reducible refine g_rg2 ?_
  | ((with_reducible refine' g_tyd ?obh ?_); (case obh => walk_at "obat19"))
  | with_reducible refine g_tTru ?_
  | ((with_reducible refine' g_truL ?obh ?_); (case obh => walk_at "obl"))
  | with_reducible refine g_forZ ?_
  | with_reducible refine g_forR2 ?_
  | with_reducible refine g_lcZ ?_)
section
variable {P : Program} {w : World} {K : Frag} {mg : Str → Option Value} {base : Heap}
def sp_law_is_first_right (K : Frag) : Sp := fun vs H Q E => vs.length = 1 ∧ ∃ (F : List (Addr × HO)) (G : List Ft) (i : Nat) (p : Addr) (n : Nat) (a b c : Int), vs = [.ref p] ∧ Sy K F G H ∧ F[i]? = some (p, potO a b c) ∧ PotOk n a b c ∧ n < 700000 ∧
  PotK K F G i p (n + 12) (Q (.bl true))
abbrev names_law_is_first_right : List Str := ["pot", "days", "balance", "rate", "year", "rest", "units", "parts", "lacking", "due"]
theorem sc_law_is_first_right : FnScope names_law_is_first_right ["pot"] (defScope (top 53)) := ⟨rfl, rfl, rfl, by decide +kernel, rfl, by decide +kernel, by decide +kernel⟩
set_option maxHeartbeats 4000000 in
theorem ok_law_is_first_right (T : Tx K mg) : FG P w K mg base CX0 6 T.a_law_is_first_right T.d_law_is_first_right ["pot"] (sp_law_is_first_right K) := by
  refine OB.Fun.fg T.F_law_is_first_right sc_law_is_first_right (fun vs H Q E h => h.1) (fun cdv A out s H vs Q E g h => ?_)
  obtain ⟨_, F, G, i, p, n, a, b, c, rfl, S, hF, po, hn, k⟩ := h
  refine ⟨_, (pss_cons (ps_asg (pe_cg (ok_law_stretch T) (g.mono (by decide : 3 ≤ 5)) (by rfl) T.m_law_stretch T.F_law_stretch.kp (OB.Fun.bd T.F_law_stretch (ps := ["pot", "most"]) (n := 2) (ks := []) (ix := [0, 1]) (fun _ _ _ _ _ _ us ws h1 h2 => match us, ws, h1, h2 with | [_, _], [], _, _ => rfl)) pass0 (pa_cons (pv 0) (pa_cons pe_int pa_nil)) pk_nil) (pg_tupK (K := K) rfl (n := 4) rfl (pgs_cons (pg_name (i := 1) sc_law_is_first_right.nd rfl (by first | exact Or.inl rfl | exact Or.inr rfl)) (pgs_cons (pg_name (i := 2) sc_law_is_first_right.nd rfl (by first | exact Or.inl rfl | exact Or.inr rfl)) (pgs_cons (pg_name (i := 3) sc_law_is_first_right.nd rfl (by first | exact Or.inl rfl | exact Or.inr rfl)) (pgs_cons (pg_name (i := 4) sc_law_is_first_right.nd rfl (by first | exact Or.inl rfl | exact Or.inr rfl)) pgs_nil))))))
      (pss_cons (ps_par (i := 5) (j := 6) rfl sc_law_is_first_right.nd rfl rfl (by decide) rfl rfl (pa_cons (pe_cg (ok_law_rest T) (g.mono (by decide : 3 ≤ 5)) (by rfl) T.m_law_rest T.F_law_rest.kp (OB.Fun.bd T.F_law_rest (ps := ["pot"]) (n := 1) (ks := []) (ix := [0]) (fun _ _ _ _ _ _ us ws h1 h2 => match us, ws, h1, h2 with | [_], [], _, _ => rfl)) pass0 (pa_cons (pv 0) pa_nil) pk_nil) (pa_cons (pe_callTy c_int (by rfl) T.n_int (by decide +kernel) (pa_cons (pe_cg (ok_law_of T) (g.mono (by decide : 2 ≤ 5)) (by rfl) T.m_law_of T.F_law_of.kp (OB.Fun.bd T.F_law_of (ps := ["pot", "some"]) (n := 2) (ks := []) (ix := [0, 1]) (fun _ _ _ _ _ _ us ws h1 h2 => match us, ws, h1, h2 with | [_, _], [], _, _ => rfl)) pass0 (pa_cons (pv 0) (pa_cons (pe_lst (pa_cons pe_int (pa_cons pe_int (pa_cons pe_int (pa_cons (pe_cg (ok_law_take T) (g.mono (by decide : 1 ≤ 5)) (by rfl) T.m_law_take T.F_law_take.kp (OB.Fun.bd T.F_law_take (ps := ["pot", "upto"]) (n := 2) (ks := []) (ix := [0, 1]) (fun _ _ _ _ _ _ us ws h1 h2 => match us, ws, h1, h2 with | [_, _], [], _, _ => rfl)) pass0 (pa_cons (pv 0) (pa_cons pe_int pa_nil)) pk_nil) (pa_cons (pe_op op_powX pe_int pe_int) pa_nil)))))) pa_nil)) pk_nil) pa_nil)) pa_nil)) (by rfl))
      (pss_cons (ps_par (i := 7) (j := 8) rfl sc_law_is_first_right.nd rfl rfl (by decide) rfl rfl (pa_cons (pe_cg (ok_law_day_parts T) (g.mono (by decide : 1 ≤ 5)) (by rfl) T.m_law_day_parts T.F_law_day_parts.kp (OB.Fun.bd T.F_law_day_parts (ps := ["balance", "rate", "year"]) (n := 3) (ks := []) (ix := [0, 1, 2]) (fun _ _ _ _ _ _ us ws h1 h2 => match us, ws, h1, h2 with | [_, _, _], [], _, _ => rfl)) pass0 (pa_cons (pv 2) (pa_cons (pv 3) (pa_cons (pv 4) pa_nil))) pk_nil) (pa_cons (pe_op op_sub (pe_op op_mul (pv 6) (pe_cg0 (ok_law_unit T) (g.mono (by decide : 1 ≤ 5)) (by rfl) T.m_law_unit T.F_law_unit.kp (OB.Fun.bd T.F_law_unit (ps := []) (n := 0) (ks := []) (ix := []) (fun _ _ _ _ _ _ us ws h1 h2 => match us, ws, h1, h2 with | [], [], _, _ => rfl)) pass0 pk_nil)) (pv 5)) pa_nil)) (by rfl))
      (pss_cons (ps_if (pt_cmpR op_eq (pv 6) pe_int (nomark _)) (pss_one (ps_set (i := 9) sc_law_is_first_right.nd rfl (by first | exact Or.inl rfl | exact Or.inr rfl) pe_int)) (pss_one (ps_set (i := 9) sc_law_is_first_right.nd rfl (by first | exact Or.inl rfl | exact Or.inr rfl) (pe_ifExp (pt_cmpR op_eq (pv 7) pe_int (nomark _)) pe_non (pe_callTy c_int (by rfl) T.n_int (by decide +kernel) (pa_cons (pe_op op_fdivW (pe_op op_sub (pe_op op_add (pv 8) (pv 7)) pe_int) (pv 7)) pa_nil))))))
      (pss_one (ps_ret (pe_cmpR op_eq (pe_callB (toK (r := rRepr) (K := K) rfl (call_repr g)) (by rfl) T.n_repr (by decide +kernel) (pa_cons (pe_cg0 (ok_first_day T) (g.mono (by decide : 5 ≤ 5)) (by rfl) T.m_first_day T.F_first_day.kp (OB.Fun.bd T.F_first_day (ps := ["balance", "rate", "year", "rest", "units"]) (n := 0) (ks := ["units", "rest", "year", "rate", "balance"]) (ix := [4, 3, 2, 1, 0]) (fun _ _ _ _ _ _ us ws h1 h2 => match us, ws, h1, h2 with | [], [_, _, _, _, _], _, _ => rfl)) pass0 (pk_cons (pv 6) (pk_cons (pv 5) (pk_cons (pv 4) (pk_cons (pv 3) (pk_cons (pv 2) pk_nil)))))) pa_nil)) (pe_callB (toK (r := rRepr) (K := K) rfl (call_repr g)) (by rfl) T.n_repr (by decide +kernel) (pa_cons (pv 9) pa_nil)) (nomark _)))))))), ?_⟩
  refine g_start (σ := [some _, none, none, none, none, none, none, none, none, none]) rfl ?_
  have e12 : (10 : Int) ^ Int.toNat 12 = 1000000000000 := by decide
  repeat walk_at "ob"
  refine ⟨rfl, _, _, i, p, _, 5, a, b, c, rfl, S, hF, po, by omega, by decide, by decide, fun s q o sd a1 b1 c1 H1 o1 S1 _ => ?_⟩
  have dp := dayP_in o
  repeat walk_at "ob"
  refine use_rest_draw (i := i) S1 (set_at hF) o1 (by omega) fun r r0 r1 a2 b2 c2 H2 o2 S2 _ => ?_
  rw [List.set_set] at S2
  clear S1 S
  repeat walk_at "ob"
  refine use_take2 S2 hF o2 (by omega) (by decide) (by decide) fun r3 a3 b3 c3 H3 l3 u3 o3 S3 => ?_
  clear S2
  repeat walk_at "ob"
  rename_i nl H4 _ S4
  refine use_of2 (ns := [0, 1, 2, r3, 10 ^ Int.toNat 12]) S4 rfl hF o3 (by omega) rfl rfl fun u hu a5 b5 c5 H5 o5 S5 => ?_
  rw [e12] at hu
  clear S3 S4
  have hu2 : 0 ≤ u ∧ u ≤ 1000000000000 := by
    simp only [List.mem_cons, List.not_mem_nil, or_false] at hu
    rcases hu with rfl | rfl | rfl | rfl | rfl <;> omega
  repeat walk_at "ob"
  refine ⟨rfl, s, rfl, o, ?_⟩
  repeat walk_at "ob"
  refine g_iteD (fun h1 => ?_) (fun h1 => ?_)
  · repeat walk_at "ob"
    refine ⟨rfl, _, _, s, r, u, rfl, S5, o, r0, r1, hu2.1, hu2.2, fun H6 S6 => ?_⟩
    have hv : firstV s r u = .int 0 := if_pos h1
    rw [hv]
    repeat walk_at "ob"
    refine g_reprS (L2.Dp.int _) (Small.int (by decide)) (by decide) (by decide) ?_
    repeat walk_at "ob"
    refine g_reprS (L2.Dp.int _) (Small.int (by decide)) (by decide) (by decide) ?_
    repeat walk_at "ob"
    rw [show decide (PyData.shown (.int 0) = PyData.shown (.int 0)) = true from decide_eq_true rfl]
    exact k.use hF (o5.mono (by omega)) S6.drop
  · repeat walk_at "ob"
    refine g_iteD (fun h2 => ?_) (fun h2 => ?_)
    · repeat walk_at "ob"
      refine ⟨rfl, _, _, s, r, u, rfl, S5, o, r0, r1, hu2.1, hu2.2, fun H6 S6 => ?_⟩
      have hv : firstV s r u = .non := by
        unfold firstV
        rw [if_neg h1, if_pos h2]
      rw [hv]
      repeat walk_at "ob"
      refine g_reprS L2.Dp.non Small.non (by decide) (by decide) ?_
      repeat walk_at "ob"
      refine g_reprS L2.Dp.non Small.non (by decide) (by decide) ?_
      repeat walk_at "ob"
      rw [show decide (PyData.shown .none = PyData.shown .none) = true from decide_eq_true rfl]
      exact k.use hF (o5.mono (by omega)) S6.drop
    · repeat walk_at "ob"
      refine g_I (C := CDivW) (cdiv_okw (by omega) (by omega)) ?_
      repeat walk_at "ob"
      refine ⟨rfl, _, _, s, r, u, rfl, S5, o, r0, r1, hu2.1, hu2.2, fun H6 S6 => ?_⟩
      have hv : firstV s r u = .int ((u * 133590000000 - r + dayP s - 1) / dayP s) := by
        unfold firstV
        rw [if_neg h1, if_neg h2]
        have := ceil_div (a := u * 133590000000 - r) (p := dayP s) (by omega)
        rw [show -(u * 133590000000 - r) = r - u * 133590000000 by omega] at this
        rw [this]
      rw [hv]
      have v0 : 0 ≤ (u * 133590000000 - r + dayP s - 1) / dayP s := Int.ediv_nonneg (by omega) (by omega)
      have v1 : (u * 133590000000 - r + dayP s - 1) / dayP s ≤ u * 133590000000 - r + dayP s - 1 := Int.ediv_le_self _ (by omega)
      generalize (u * 133590000000 - r + dayP s - 1) / dayP s = v at v0 v1 ⊢
      repeat walk_at "ob"
      refine g_reprS (L2.Dp.int _) (Small.int (by omega)) (by decide) (by decide) ?_
      repeat walk_at "ob"
      refine g_reprS (L2.Dp.int _) (Small.int (by omega)) (by decide) (by decide) ?_
      repeat walk_at "ob"
      rw [show decide (PyData.shown (.int v) = PyData.shown (.int v)) = true from decide_eq_true rfl]
      exact k.use hF (o5.mono (by omega)) S6.drop
theorem pot_under2 {F : List (Addr × HO)} {G : List Ft} {H : Hp} {i : Nat} {x y u z : Addr × HO} (S : Sy K ((x :: y :: F.set i u).set (i + 2) z) G H) : Sy K (x :: y :: F.set i z) G H := by
  have S5 : Sy K (x :: y :: (F.set i u).set i z) G H := S
  rw [List.set_set] at S5
  exact S5
theorem sum_rev : ∀ (l : List Int), l.reverse.sum = l.sum
  | [] => rfl
  | x :: l => by
    rw [List.reverse_cons, List.sum_append, sum_rev l, List.sum_cons, List.sum_cons, List.sum_nil]
    omega
theorem WOk.rev {ws : List Int} (o : WOk ws) : WOk ws.reverse := ⟨by rw [List.length_reverse]; exact o.len, fun x hx => o.w0 x (List.mem_reverse.mp hx), by rw [sum_rev]; exact o.pos⟩
theorem small_ints {l : List Int} (h : ∀ x ∈ l, x.natAbs < 10 ^ 60) (hl : l.length ≤ 6) : Small 1000 1 (.tuple (l.map .int)) := by
  have q : SmallL ((61 + 2) * (l.map PyData.int).length) 0 (l.map PyData.int) := SmallL.all fun x hx => by
    obtain ⟨s, hs, rfl⟩ := List.mem_map.mp hx
    exact Small.int (h s hs)
  rw [List.length_map] at q
  exact (Small.tup q).mono (by omega) (by decide)
def sp_law_is_split_right (K : Frag) : Sp := fun vs H Q E => vs.length = 1 ∧ ∃ (F : List (Addr × HO)) (G : List Ft) (i : Nat) (p : Addr) (n : Nat) (a b c : Int), vs = [.ref p] ∧ Sy K F G H ∧ F[i]? = some (p, potO a b c) ∧ PotOk n a b c ∧ n < 700000 ∧
  PotK K F G i p (n + 12) (Q (.bl true))
abbrev names_law_is_split_right : List Str := ["pot", "amount", "some", "weights", "lap", "whole", "found", "ahead", "here", "weight", "told"]
theorem sc_law_is_split_right : FnScope names_law_is_split_right ["pot"] (defScope (top 54)) := ⟨rfl, rfl, rfl, by decide +kernel, rfl, by decide +kernel, by decide +kernel⟩
set_option maxHeartbeats 4000000 in
theorem ok_law_is_split_right (T : Tx K mg) : FG P w K mg base CX0 5 T.a_law_is_split_right T.d_law_is_split_right ["pot"] (sp_law_is_split_right K) := by
  refine OB.Fun.fg T.F_law_is_split_right sc_law_is_split_right (fun vs H Q E h => h.1) (fun cdv A out s H vs Q E g h => ?_)
  obtain ⟨_, F, G, i, p, n, a, b, c, rfl, S, hF, po, hn, k⟩ := h
  refine ⟨_, (pss_cons (ps_set (i := 1) sc_law_is_split_right.nd rfl (by first | exact Or.inl rfl | exact Or.inr rfl) (pe_callTy c_int (by rfl) T.n_int (by decide +kernel) (pa_cons (pe_cg (ok_law_of T) (g.mono (by decide : 2 ≤ 4)) (by rfl) T.m_law_of T.F_law_of.kp (OB.Fun.bd T.F_law_of (ps := ["pot", "some"]) (n := 2) (ks := []) (ix := [0, 1]) (fun _ _ _ _ _ _ us ws h1 h2 => match us, ws, h1, h2 with | [_, _], [], _, _ => rfl)) pass0 (pa_cons (pv 0) (pa_cons (pe_lst (pa_cons pe_int (pa_cons pe_int (pa_cons pe_int (pa_cons (pe_cg (ok_law_take T) (g.mono (by decide : 1 ≤ 4)) (by rfl) T.m_law_take T.F_law_take.kp (OB.Fun.bd T.F_law_take (ps := ["pot", "upto"]) (n := 2) (ks := []) (ix := [0, 1]) (fun _ _ _ _ _ _ us ws h1 h2 => match us, ws, h1, h2 with | [_, _], [], _, _ => rfl)) pass0 (pa_cons (pv 0) (pa_cons (pe_op op_powX pe_int pe_int) pa_nil)) pk_nil) (pa_cons (pe_op op_powX pe_int pe_int) pa_nil)))))) pa_nil)) pk_nil) pa_nil)))
      (pss_cons (ps_set (i := 2) sc_law_is_split_right.nd rfl (by first | exact Or.inl rfl | exact Or.inr rfl) (pe_lst (pa_cons pe_int (pa_cons pe_int (pa_cons pe_int (pa_cons pe_int (pa_cons pe_int (pa_cons (pe_op op_powX pe_int pe_int) (pa_cons (pe_op op_add pe_int (pe_cg (ok_law_take T) (g.mono (by decide : 1 ≤ 4)) (by rfl) T.m_law_take T.F_law_take.kp (OB.Fun.bd T.F_law_take (ps := ["pot", "upto"]) (n := 2) (ks := []) (ix := [0, 1]) (fun _ _ _ _ _ _ us ws h1 h2 => match us, ws, h1, h2 with | [_, _], [], _, _ => rfl)) pass0 (pa_cons (pv 0) (pa_cons pe_int pa_nil)) pk_nil)) pa_nil)))))))))
      (pss_cons (ps_set (i := 3) sc_law_is_split_right.nd rfl (by first | exact Or.inl rfl | exact Or.inr rfl) (pe_callTy (toK (r := rTuple) (K := K) rfl c_tuple) (by rfl) T.n_tuple (by decide +kernel) (pa_cons (pe_op op_cat (pe_lc (own := [("lap", 4)]) (tt := tYes) rfl sc_law_is_split_right.nd (pi_range1 rfl T.n_range (pa_cons (pe_cg (ok_law_take T) (g.mono (by decide : 1 ≤ 4)) (by rfl) T.m_law_take T.F_law_take.kp (OB.Fun.bd T.F_law_take (ps := ["pot", "upto"]) (n := 2) (ks := []) (ix := [0, 1]) (fun _ _ _ _ _ _ us ws h1 h2 => match us, ws, h1, h2 with | [_, _], [], _, _ => rfl)) pass0 (pa_cons (pv 0) (pa_cons pe_int pa_nil)) pk_nil) pa_nil)) (blkOk_by (N := names_law_is_split_right) (sc := defScope (top 54)) (own := [("lap", 4)]) (by decide +kernel)) (fun _ _ _ _ _ => (pg_name (i := 4) sc_law_is_split_right.nd rfl (by first | exact Or.inl rfl | exact Or.inr rfl))) (fun _ _ _ _ _ => pts_nil) (fun _ _ _ _ _ => (pe_callTy c_int (by rfl) T.n_int (by decide +kernel) (pa_cons (pe_cg (ok_law_of T) (g.mono (by decide : 2 ≤ 4)) (by rfl) T.m_law_of T.F_law_of.kp (OB.Fun.bd T.F_law_of (ps := ["pot", "some"]) (n := 2) (ks := []) (ix := [0, 1]) (fun _ _ _ _ _ _ us ws h1 h2 => match us, ws, h1, h2 with | [_, _], [], _, _ => rfl)) pass0 (pa_cons (pv 0) (pa_cons (pv 2) pa_nil)) pk_nil) pa_nil)))) (pe_lst (pa_cons (pe_callTy c_int (by rfl) T.n_int (by decide +kernel) (pa_cons (pe_op op_add pe_int (pe_cg (ok_law_take T) (g.mono (by decide : 1 ≤ 4)) (by rfl) T.m_law_take T.F_law_take.kp (OB.Fun.bd T.F_law_take (ps := ["pot", "upto"]) (n := 2) (ks := []) (ix := [0, 1]) (fun _ _ _ _ _ _ us ws h1 h2 => match us, ws, h1, h2 with | [_, _], [], _, _ => rfl)) pass0 (pa_cons (pv 0) (pa_cons pe_int pa_nil)) pk_nil)) pa_nil)) pa_nil))) pa_nil)))
      (pss_cons (ps_if (pt_cmpR op_eq (pe_cg (ok_law_take T) (g.mono (by decide : 1 ≤ 4)) (by rfl) T.m_law_take T.F_law_take.kp (OB.Fun.bd T.F_law_take (ps := ["pot", "upto"]) (n := 2) (ks := []) (ix := [0, 1]) (fun _ _ _ _ _ _ us ws h1 h2 => match us, ws, h1, h2 with | [_, _], [], _, _ => rfl)) pass0 (pa_cons (pv 0) (pa_cons pe_int pa_nil)) pk_nil) pe_int (nomark _)) (pss_one (ps_set (i := 3) sc_law_is_split_right.nd rfl (by first | exact Or.inl rfl | exact Or.inr rfl) (pe_revT (K := K) rfl (pv 3)))) pss_nil)
      (pss_cons (ps_asg (pe_tup (pa_cons (pe_callB (toK (r := OB.rSumU) (K := K) rfl (c_sumU rfl)) (by rfl) T.n_sum (by decide +kernel) (pa_cons (pv 3) pa_nil)) (pa_cons (pe_lst pa_nil) (pa_cons pe_int (pa_cons pe_int pa_nil))))) (pg_tupK (K := K) rfl (n := 4) rfl (pgs_cons (pg_name (i := 5) sc_law_is_split_right.nd rfl (by first | exact Or.inl rfl | exact Or.inr rfl)) (pgs_cons (pg_name (i := 6) sc_law_is_split_right.nd rfl (by first | exact Or.inl rfl | exact Or.inr rfl)) (pgs_cons (pg_name (i := 7) sc_law_is_split_right.nd rfl (by first | exact Or.inl rfl | exact Or.inr rfl)) (pgs_cons (pg_name (i := 8) sc_law_is_split_right.nd rfl (by first | exact Or.inl rfl | exact Or.inr rfl)) pgs_nil))))))
      (pss_cons (ps_for PassesOwn.never rfl (pi_seq (pv 3)) (pg_name (i := 9) sc_law_is_split_right.nd rfl (by first | exact Or.inl rfl | exact Or.inr rfl))
      (pss_cons (ps_set (i := 8) sc_law_is_split_right.nd rfl (by first | exact Or.inl rfl | exact Or.inr rfl) (pe_op op_add (pv 8) (pv 9)))
      (pss_cons (ps_expr (pe_bm PySem.F.plainAttrs_list PySem.F.slot_list_append PySem.F.type_list_append mt_append (pv 6) (pa_cons (pe_callTy c_int (by rfl) T.n_int (by decide +kernel) (pa_cons (pe_op op_sub (pe_op op_fdivW (pe_op op_mul (pv 1) (pv 8)) (pv 5)) (pv 7)) pa_nil)) pa_nil)))
      (pss_one (ps_set (i := 7) sc_law_is_split_right.nd rfl (by first | exact Or.inl rfl | exact Or.inr rfl) (pe_op op_fdivW (pe_op op_mul (pv 1) (pv 8)) (pv 5)))))))
      (pss_cons (ps_set (i := 10) sc_law_is_split_right.nd rfl (by first | exact Or.inl rfl | exact Or.inr rfl) (pe_cg0 (ok_split T) (g.mono (by decide : 4 ≤ 4)) (by rfl) T.m_split T.F_split.kp (OB.Fun.bd T.F_split (ps := ["amount", "weights"]) (n := 0) (ks := ["weights", "amount"]) (ix := [1, 0]) (fun _ _ _ _ _ _ us ws h1 h2 => match us, ws, h1, h2 with | [], [_, _], _, _ => rfl)) pass0 (pk_cons (pv 3) (pk_cons (pv 1) pk_nil))))
      (pss_one (ps_ret (pe_and (pe_cmpR op_eq (pe_callB (toK (r := rRepr) (K := K) rfl (call_repr g)) (by rfl) T.n_repr (by decide +kernel) (pa_cons (pv 10) pa_nil)) (pe_callB (toK (r := rRepr) (K := K) rfl (call_repr g)) (by rfl) T.n_repr (by decide +kernel) (pa_cons (pe_callTy (toK (r := rTuple) (K := K) rfl c_tuple) (by rfl) T.n_tuple (by decide +kernel) (pa_cons (pv 6) pa_nil)) pa_nil)) (nomark _)) (pe_one (pe_cmpR op_eq (pe_callB (toK (r := OB.rSumU) (K := K) rfl (c_sumU rfl)) (by rfl) T.n_sum (by decide +kernel) (pa_cons (pv 10) pa_nil)) (pv 1) (nomark _))))))))))))), ?_⟩
  refine g_start (σ := [some _, none, none, none, none, none, none, none, none, none, none]) rfl ?_
  have e6 : (10 : Int) ^ Int.toNat 6 = 1000000 := by decide
  have e15 : (10 : Int) ^ Int.toNat 15 = 1000000000000000 := by decide
  have e12 : (10 : Int) ^ Int.toNat 12 = 1000000000000 := by decide
  repeat walk_at "ob"
  refine use_take S hF po (by omega) (by decide) (by decide) fun r1 a1 b1 c1 H1 l1 u1 o1 S1 _ => ?_
  rw [e6] at u1
  repeat walk_at "ob"
  rename_i nl H2 _ S2
  refine use_of2 (ns := [0, 1, 100, r1, 10 ^ Int.toNat 15]) S2 rfl hF o1 (by omega) rfl rfl fun am ham a3 b3 c3 H3 o3 S3 => ?_
  rw [e15] at ham
  clear S1 S2 S
  have hm : 0 ≤ am ∧ am ≤ 1000000000000000 := by
    simp only [List.mem_cons, List.not_mem_nil, or_false] at ham
    rcases ham with rfl | rfl | rfl | rfl | rfl <;> omega
  repeat walk_at "ob"
  refine use_take2 S3 hF o3 (by omega) (by decide) (by decide) fun r4 a4 b4 c4 H4 l4 u4 o4 S4 => ?_
  clear S3
  repeat walk_at "ob"
  rename_i sm H5 _ S5
  clear S4
  rw [e12] at S5
  have S5 : Sy K ((sm, .lst ([0, 1, 1, 2, 7, 1000000000000, 1 + r4].map V.int)) :: F.set i (p, potO a4 b4 c4)) G H5 := S5
  have hsm : ∀ x ∈ [0, 1, 1, 2, 7, 1000000000000, 1 + r4], 0 ≤ x ∧ x ≤ 1000000000000 := by
    intro x hx
    simp only [List.mem_cons, List.not_mem_nil, or_false] at hx
    rcases hx with rfl | rfl | rfl | rfl | rfl | rfl | rfl <;> omega
  have hsl : [0, 1, 1, 2, 7, 1000000000000, 1 + r4].length = 7 := rfl
  generalize [0, 1, 1, 2, 7, 1000000000000, 1 + r4] = some7 at S5 hsm hsl
  refine g_lcR (K := K) ?_
  repeat walk_at "ob"
  refine use_take (i := i + 1) S5 (set_at hF) o4 (by omega) (by decide) (by decide) fun r6 a6 b6 c6 H6 l6 u6 o6 S6 _ => ?_
  have S7 := pot_under S6
  clear S5 S6
  repeat walk_at "ob"
  refine g_rgJ (by omega) (by omega) ?_
  refine rglc_of (fun j F' ds => ∃ a b c ws, F' = (sm, .lst (some7.map V.int)) :: F.set i (p, potO a b c) ∧ PotOk (n + 4 + j) a b c ∧ ds = ws.map PyData.int ∧ ws.length = j ∧ j ≤ 5 ∧ ∀ x ∈ ws, 0 ≤ x ∧ x ≤ 1000000000000) S7 ⟨a6, b6, c6, [], rfl, o6.mono (by omega), rfl, rfl, by decide, fun x hx => nomatch hx⟩ (fun j F' ds ⟨_, _, _, ws, _, _, e, e2, _⟩ => by rw [e, List.length_map]; omega) ?_ ?_
  · rintro j hj Da H2 F2 vs ds QE QR ⟨a2, b2, c2, ws, rfl, o2, rfl, hw, hj5, hin⟩ S8 kE kR
    repeat walk_at "ob"
    refine ⟨rfl, ?_⟩
    repeat walk_at "ob"
    refine use_of (i := i + 2) (j := 1) S8 (set_at hF) rfl (by omega) o2 (by omega) (by omega) (by omega) fun x hx a3 b3 c3 H3 o3 S9 _ => ?_
    have S10 := pot_under2 S9
    repeat walk_at "ob"
    refine kE _ (.int x) _ _ ⟨a3, b3, c3, ws ++ [x], rfl, o3.mono (by omega), by rw [List.map_append]; rfl, by rw [List.length_append, List.length_singleton, hw], by omega, fun y hy => ?_⟩ (S10.fact (dps_one (L2.Dp.int _)) rfl)
    rcases List.mem_append.mp hy with hy | hy
    · exact hin y hy
    · cases List.mem_singleton.mp hy
      exact hsm x hx
  · rintro Da H2 F2 vs ds hD ⟨a2, b2, c2, ws, rfl, o2, rfl, hw, hj5, hin⟩ S8
    have hv : vs = ws.map V.int := by
      rw [dps_scal (S8.dps 0 rfl) fun d hd => by
        obtain ⟨s, _, rfl⟩ := List.mem_map.mp hd
        rfl, List.map_map]
      rfl
    subst hv
    have S9 := S8.drop
    clear S8 S7
    repeat walk_at "ob"
    refine use_take (i := i + 2) S9 (set_at hF) o2 (by omega) (by decide) (by decide) fun r9 a9 b9 c9 H9 l9 u9 o9 S10 _ => ?_
    have S11 := pot_under2 S10
    clear S9 S10
    repeat walk_at "ob"
    rename_i nl2 H10 _ S12
    clear S11
    refine g_cat (i := 1) (j := 0) S12 rfl rfl (by rw [List.length_map, List.length_singleton]; omega) fun ct H11 S13 => ?_
    have hc : ws.map V.int ++ [V.int (1 + r9)] = (ws ++ [1 + r9]).map V.int := by rw [List.map_append]; rfl
    rw [hc] at S13
    have wok : WOk (ws ++ [1 + r9]) := ⟨by rw [List.length_append, List.length_singleton]; omega, fun y hy => by
      rcases List.mem_append.mp hy with hy | hy
      · exact hin y hy
      · cases List.mem_singleton.mp hy
        omega, by
        have := sum_in hin
        rw [List.sum_append, List.sum_cons, List.sum_nil]
        omega⟩
    generalize ws ++ [1 + r9] = wt at S13 wok
    clear S12
    repeat walk_at "ob"
    refine g_tup0 S13 (SqL.of (S13.at 0 rfl)) (dps_ints wt) (ints_imm wt) fun wq H12 _ S14 => ?_
    have S15 : Sy K (F.set i (p, potO a9 b9 c9)) (.dat [.ref wq] [.tuple (wt.map .int)] :: G) H12 := S14.less.less.less.less
    clear S13 S14
    repeat walk_at "ob"
    refine use_take2 S15 hF o9 (by omega) (by decide) (by decide) fun r10 a10 b10 c10 H13 l10 u10 o10 S16 => ?_
    clear S15
    repeat walk_at "ob"
    refine g_iteD (fun h1 => ?_) (fun h1 => ?_)
    · repeat walk_at "ob"
      refine g_revT ?_
      repeat walk_at "ob"
      obtain ⟨a', xs', e', hs', hq'⟩ := g_rev1 (Q := fun v H' => Sy K (F.set i (p, potO a10 b10 c10)) (.dat [v] [.tuple (wt.map PyData.int).reverse] :: .dat [.ref wq] [.tuple (wt.map PyData.int)] :: G) H') S16 (sqt_ints (S16.dp 0 rfl)) (dps_ints wt) (ints_imm wt) fun wq2 H14 S17 => S17
      refine ⟨a', xs', e', hs', fun wq2 hw2 => ?_⟩
      have S17 := (hq' wq2 hw2).drop2
      rw [← List.map_reverse] at S17
      have wok2 := wok.rev
      generalize wt.reverse = wt2 at S17 wok2
      have wlt := wok2.le
      have wpo := wok2.pos
      have wle := wok2.len
      repeat walk_at "ob"
      refine g_sumUT (sqt_ints (S17.dp 0 rfl)) ?_
      repeat walk_at "ob"
      rename_i fl H15 _ S18
      refine g_newTq S18 (Nat.le_of_ble_eq_true rfl) fun tq H16 _ S19 => ?_
      refine g_unpT (S19.tqs 0 rfl) rfl ?_
      have S20 := (S19.drop).add (.tq wq2 (wt2.map V.int)) (sqt_ints (S19.dp 1 rfl))
      clear S17 S18 S19
      repeat walk_at "ob"
      refine g_forS (a := wq2) (xs := wt2.map V.int) false (fun j σ' H' => ∃ v9, σ' = [some (.ref p), some (.int am), some (.ref sm), some (.ref wq2), none, some (.int wt2.sum), some (.ref fl), some (.int (tld am wt2 j)), some (.int (wt2.take j).sum), v9, none] ∧ j ≤ wt2.length ∧
        Sy K ((fl, .lst ((shr am wt2 j).map V.int)) :: F.set i (p, potO a10 b10 c10)) (.tq wq2 (wt2.map V.int) :: .dat [.ref wq2] [.tuple (wt2.map .int)] :: G) H') (fun Q' q => by walk_at "ob"; exact q) ⟨none, by rw [tld_zero]; rfl, Nat.zero_le _, S20⟩ (fun j σ' H' ⟨_, _, _, S8⟩ => S8.tqs 0 rfl) ?_ ?_
      · rintro j x σ' H' hx ⟨v9, rfl, hi, S8⟩
        rw [List.getElem?_map] at hx
        obtain ⟨r, hr, rfl⟩ := Option.map_eq_some_iff.mp hx
        have hi1 := (List.getElem?_eq_some_iff.mp hr).1
        have e1 := take_sum hr
        have e2 : tld am wt2 (j + 1) = am * ((wt2.take j).sum + r) / wt2.sum := by unfold tld; rw [e1]
        repeat walk_at "ob"
        refine g_appS S8 (f := 0) rfl (by rw [List.length_map, shr_len]; omega) fun H7 S9 => ?_
        repeat walk_at "ob"
        rw [← e2, ← e1] at *
        refine ⟨_, rfl, hi1, ?_⟩
        rw [shr_succ, List.map_append]
        exact S9
      · rintro σ' H' ⟨v9, rfl, hi, S8⟩
        have hl : (wt2.map V.int).length = wt2.length := List.length_map ..
        rw [hl] at S8
        repeat walk_at "ob"
        refine ⟨rfl, _, _, wq2, wt2, am, rfl, S8, S8.dp 1 rfl, wok2, hm.1, hm.2, fun q2 H7 S9 => ?_⟩
        clear S8 S20
        have sm := small_ints (shr_in wok2 hm.1 hm.2 wt2.length) (by rw [shr_len]; exact wle)
        repeat walk_at "ob"
        refine g_reprS (S9.dp 0 rfl) sm (by decide) (by decide) ?_
        repeat walk_at "ob"
        refine g_tup0 S9 (SqL.of (S9.at 0 rfl)) (dps_ints _) (ints_imm _) fun q3 H8 _ S10 => ?_
        repeat walk_at "ob"
        refine g_reprS (S10.dp 0 rfl) sm (by decide) (by decide) ?_
        repeat walk_at "ob"
        rw [decide_eq_true (rfl : PyData.shown (.tuple ((shr am wt2 wt2.length).map .int)) = _)]
        repeat walk_at "ob"
        refine g_sumUT (sqt_ints (S10.dp 1 rfl)) ?_
        rw [shr_sum, tld_end wpo]
        repeat walk_at "ob"
        rw [show decide (am = am) = true from decide_eq_true rfl]
        exact k.use hF (o10.mono (by omega)) S10.less.drop.drop.drop.drop
    · have S17 := S16
      have wok2 := wok
      clear S16
      generalize wt = wt2 at S17 wok2
      generalize wq = wq2 at S17 ⊢
      have wlt := wok2.le
      have wpo := wok2.pos
      have wle := wok2.len
      repeat walk_at "ob"
      refine g_sumUT (sqt_ints (S17.dp 0 rfl)) ?_
      repeat walk_at "ob"
      rename_i fl H15 _ S18
      refine g_newTq S18 (Nat.le_of_ble_eq_true rfl) fun tq H16 _ S19 => ?_
      refine g_unpT (S19.tqs 0 rfl) rfl ?_
      have S20 := (S19.drop).add (.tq wq2 (wt2.map V.int)) (sqt_ints (S19.dp 1 rfl))
      clear S17 S18 S19
      repeat walk_at "ob"
      refine g_forS (a := wq2) (xs := wt2.map V.int) false (fun j σ' H' => ∃ v9, σ' = [some (.ref p), some (.int am), some (.ref sm), some (.ref wq2), none, some (.int wt2.sum), some (.ref fl), some (.int (tld am wt2 j)), some (.int (wt2.take j).sum), v9, none] ∧ j ≤ wt2.length ∧
        Sy K ((fl, .lst ((shr am wt2 j).map V.int)) :: F.set i (p, potO a10 b10 c10)) (.tq wq2 (wt2.map V.int) :: .dat [.ref wq2] [.tuple (wt2.map .int)] :: G) H') (fun Q' q => by walk_at "ob"; exact q) ⟨none, by rw [tld_zero]; rfl, Nat.zero_le _, S20⟩ (fun j σ' H' ⟨_, _, _, S8⟩ => S8.tqs 0 rfl) ?_ ?_
      · rintro j x σ' H' hx ⟨v9, rfl, hi, S8⟩
        rw [List.getElem?_map] at hx
        obtain ⟨r, hr, rfl⟩ := Option.map_eq_some_iff.mp hx
        have hi1 := (List.getElem?_eq_some_iff.mp hr).1
        have e1 := take_sum hr
        have e2 : tld am wt2 (j + 1) = am * ((wt2.take j).sum + r) / wt2.sum := by unfold tld; rw [e1]
        repeat walk_at "ob"
        refine g_appS S8 (f := 0) rfl (by rw [List.length_map, shr_len]; omega) fun H7 S9 => ?_
        repeat walk_at "ob"
        rw [← e2, ← e1] at *
        refine ⟨_, rfl, hi1, ?_⟩
        rw [shr_succ, List.map_append]
        exact S9
      · rintro σ' H' ⟨v9, rfl, hi, S8⟩
        have hl : (wt2.map V.int).length = wt2.length := List.length_map ..
        rw [hl] at S8
        repeat walk_at "ob"
        refine ⟨rfl, _, _, wq2, wt2, am, rfl, S8, S8.dp 1 rfl, wok2, hm.1, hm.2, fun q2 H7 S9 => ?_⟩
        clear S8 S20
        have sm := small_ints (shr_in wok2 hm.1 hm.2 wt2.length) (by rw [shr_len]; exact wle)
        repeat walk_at "ob"
        refine g_reprS (S9.dp 0 rfl) sm (by decide) (by decide) ?_
        repeat walk_at "ob"
        refine g_tup0 S9 (SqL.of (S9.at 0 rfl)) (dps_ints _) (ints_imm _) fun q3 H8 _ S10 => ?_
        repeat walk_at "ob"
        refine g_reprS (S10.dp 0 rfl) sm (by decide) (by decide) ?_
        repeat walk_at "ob"
        rw [decide_eq_true (rfl : PyData.shown (.tuple ((shr am wt2 wt2.length).map .int)) = _)]
        repeat walk_at "ob"
        refine g_sumUT (sqt_ints (S10.dp 1 rfl)) ?_
        rw [shr_sum, tld_end wpo]
        repeat walk_at "ob"
        rw [show decide (am = am) = true from decide_eq_true rfl]
        exact k.use hF (o10.mono (by omega)) S10.less.drop.drop.drop.drop
end
end LAW

set_option Elab.async false
set_option linter.all false
set_option maxRecDepth 100000
namespace LAW
open PySem PySem.Spec PyProof.Rows L2 PySem.W OB
local macro_rules | `(tactic| walk_at "obc") => `(tactic| first
  | exact Or.inl ⟨by omega, by omega⟩
  | exact Or.inr ⟨by omega, by omega⟩
  | exact cdiv_ok (by omega) (by omega)
  | (show (0 : Int) < _; omega)
  | exact ⟨by omega, by decide⟩
  | exact ⟨by decide, by decide⟩)
local macro_rules | `(tactic| walk_at "obat") => `(tactic| first
  | exact Sy.at (by assumption) 0 rfl | exact Sy.at (by assumption) 1 rfl | exact Sy.at (by assumption) 2 rfl | exact Sy.at (by assumption) 3 rfl
  | exact Sy.at (by assumption) 4 rfl | exact Sy.at (by assumption) 5 rfl | exact Sy.at (by assumption) 6 rfl | exact Sy.at (by assumption) _ (by assumption) | exact Sy.at (by assumption) (_ + 1) (by assumption) | exact Sy.at (by assumption) (_ + 2) (by assumption))
local macro_rules | `(tactic| walk_at "obt") => `(tactic| first
  | exact Sy.tqs (by assumption) 0 rfl | exact Sy.tqs (by assumption) 1 rfl | exact Sy.tqs (by assumption) 2 rfl | exact Sy.tqs (by assumption) 3 rfl | exact Sy.tqs (by assumption) 4 rfl | exact Sy.tqs (by assumption) 5 rfl
  | exact Sy.tqs (by assumption) 6 rfl | exact Sy.tqs (by assumption) 7 rfl | assumption)
local macro_rules | `(tactic| walk_at "obl") => `(tactic| first
  | exact SqL.of (by walk_at "obat")
  | exact Sy.sq (by assumption) 0 rfl | exact Sy.sq (by assumption) 1 rfl | exact Sy.sq (by assumption) 2 rfl | exact Sy.sq (by assumption) 3 rfl | exact Sy.sq (by assumption) _ (by assumption))
local macro_rules | `(tactic| walk_at "obd") => `(tactic| first
  | exact Dp.int _ | exact Dp.bl _ | exact Dp.str _ | exact Dp.non
  | exact Sy.dp (by assumption) 0 rfl | exact Sy.dp (by assumption) 1 rfl | exact Sy.dp (by assumption) 2 rfl | exact Sy.dp (by assumption) 3 rfl
  | exact Sy.dp (by assumption) 4 rfl | exact Sy.dp (by assumption) 5 rfl | exact Sy.dp (by assumption) 6 rfl | exact Sy.dp (by assumption) 7 rfl
  | exact Sy.dp (by assumption) 8 rfl | exact Sy.dp (by assumption) 9 rfl | exact Sy.dp (by assumption) _ (by assumption) | assumption)
local macro_rules | `(tactic| walk_at "obds") => `(tactic| first
  | exact DpAll.nil
  | (refine' DpAll.cons ?ob1 ?ob2; (case ob1 => walk_at "obd"); (case ob2 => walk_at "obds"))
  | exact Sy.dps (by assumption) 0 rfl | exact Sy.dps (by assumption) 1 rfl | exact Sy.dps (by assumption) 2 rfl | exact Sy.dps (by assumption) 3 rfl | assumption)
local macro_rules | `(tactic| walk_at "obsc") => `(tactic| first
  | exact ScL.nil
  | ((first | refine' ScL.int ?obz | refine' ScL.str ?obz | refine' ScL.bl ?obz | refine' ScL.non ?obz); (case obz => walk_at "obsc")))
local macro_rules | `(tactic| walk_at "ob1") => `(tactic| first
  | ((with_reducible refine' g_var ?obh ?_); (case obh => rfl))
  | with_reducible refine g_c ?_
  | with_reducible refine g_nx ?_
  | with_reducible refine g_rt ?_
  | with_reducible refine g_bk ?_
  | with_reducible refine g_ct ?_
  | with_reducible refine g_op ?_
  | with_reducible refine g_I0 ?_
  | with_reducible refine g_test ?_
  | with_reducible refine g_bl ?_
  | with_reducible refine g_blx ?_
  | with_reducible refine g_B ?_
  | with_reducible refine g_seq ?_
  | with_reducible refine g_asg ?_
  | with_reducible refine g_name ?_
  | with_reducible refine g_ifS ?_
  | with_reducible refine g_ret ?_
  | with_reducible refine g_cb ?_
  | with_reducible refine g_cons ?_
  | with_reducible refine g_nil ?_
  | with_reducible refine g_int ?_
  | with_reducible refine g_intB ?_
  | with_reducible refine g_abs ?_
  | with_reducible refine g_max ?_
  | with_reducible refine g_min ?_
  | with_reducible refine g_un ?_
  | with_reducible refine g_U ?_
  | with_reducible refine g_eqI ?_
  | with_reducible refine g_neI ?_
  | with_reducible refine g_eqS ?_
  | with_reducible refine g_neS ?_
  | with_reducible refine g_tt ?_
  | with_reducible refine g_ff ?_
  | with_reducible refine g_next ?_
  | with_reducible refine g_drop ?_
  | with_reducible refine g_if ?_
  | with_reducible refine g_andV ?_
  | with_reducible refine g_orV ?_
  | with_reducible refine g_notV ?_
  | with_reducible refine g_and ?_
  | with_reducible refine g_or ?_
  | with_reducible refine g_not ?_
  | with_reducible refine g_yes ?_
  | with_reducible refine g_chain ?_
  | with_reducible refine g_cg ?_
  | with_reducible refine g_mg ?_
  | with_reducible refine g_kg ?_
  | with_reducible refine g_pg ?_
  | ((with_reducible refine' g_call ?obh ?obj ?_); (case obh => rfl); (case obj => rfl))
  | with_reducible refine g_par ?_
  | with_reducible refine g_par2 ?_
  | with_reducible refine g_par3 ?_
  | with_reducible refine g_par33 ?_
  | with_reducible refine g_gnil ?_
  | with_reducible refine g_gcons ?_
  | with_reducible refine g_gsub ?_
  | with_reducible refine g_ipI ?_
  | with_reducible refine g_rAdd ?_
  | with_reducible refine g_rSub ?_
  | ((with_reducible refine' g_aug ?obh ?_); (case obh => rfl))
  | with_reducible refine g_tup ?_
  | with_reducible refine g_lst ?_
  | with_reducible refine g_bm ?_
  | with_reducible refine g_bm0 ?_
  | with_reducible refine g_sl ?_
  | with_reducible refine g_nopart ?_
  | with_reducible refine g_part ?_
  | with_reducible refine g_pint ?_
  | with_reducible refine isi_int ?_
  | with_reducible refine isi_intB ?_
  | ((with_reducible refine' g_I ?obh ?_); (case obh => walk_at "obc"))
  | ((with_reducible refine' g_tyl ?obh ?_); (case obh => walk_at "obl"))
  | ((with_reducible refine' g_lenL ?obh ?_); (case obh => walk_at "obl"))
  | with_reducible refine g_ne ?_
  | ((with_reducible refine' g_neN' ?obh ?_); (case obh => rfl))
  | with_reducible refine g_ntt ?_
  | with_reducible refine g_nff ?_
  | with_reducible refine g_star ?_
  | with_reducible refine g_att ?_
  | with_reducible refine g_sfld ?_
  | with_reducible refine g_faug ?_
  | with_reducible refine g_fld ?_
  | ((with_reducible refine' g_nF ?obh ?_); (case obh => omega))
  | ((with_reducible refine' g_nT ?obh ?_); (case obh => omega))
  | ((with_reducible refine' g_TD ?obh ?_); (case obh => omega))
  | ((with_reducible refine' g_FD ?obh ?_); (case obh => omega))
  | ((with_reducible refine' g_ixUL ?obh ?obi ?_); (case obh => walk_at "obl"); (case obi => exact atI_nn (by omega) (by rfl)))
  | ((with_reducible refine' g_setLS ?obs ?obh ?obi ?_); (case obs => assumption); (case obh => assumption); (case obi => rfl); intro _ _ _)
  | ((with_reducible refine' g_newT ?obs ?obh ?obi ?obj ?_); (case obs => assumption); (case obh => walk_at "obds"); (case obi => rfl); (case obj => exact Nat.le_of_ble_eq_true rfl); intro _ _ _ _)
  | ((with_reducible refine' g_newL ?obs ?obj ?_); (case obs => assumption); (case obj => exact Nat.le_of_ble_eq_true rfl); intro _ _ _ _)
  | ((with_reducible refine' isi_tup ?obh ?_); (case obh => walk_at "obt"))
  | ((with_reducible refine' g_lenT ?obh ?_); (case obh => walk_at "obt"))
  | ((with_reducible refine' g_unpT ?obh ?obi ?_); (case obh => walk_at "obt"); (case obi => rfl))
  | ((with_reducible refine' g_divmod ?obs ?obh ?_); (case obs => assumption); (case obh => exact cdivp_ok (by omega) (by omega) (by omega)); intro _ _ _ _)
  | ((with_reducible refine' g_unpD ?obh ?obi ?obj ?_); (case obh => walk_at "obd"); (case obi => walk_at "obsc"); (case obj => rfl))
  | with_reducible refine g_att ?_)
local macro_rules | `(tactic| walk_at "obat19") => `(tactic| first | assumption | walk_at "obat")
local macro_rules | `(tactic| walk_at "ob") => `(tactic| first
  | walk_at "ob1"
  | refine use_is_integer ?_
  | refine use_is_within ?_
  | refine use_balance ?_
  | refine use_rate ?_
  | refine use_year (by assumption) ?_
  | refine use_unit ?_
  | refine use_rest (by omega) (by omega) ?_
  | refine use_parts (by walk_at "obd") (by assumption) ?_
  | refine use_is_stretch (by walk_at "obd") (by assumption) ?_
  | refine g_unpT (sqt_enc (by walk_at "obd")) rfl ?_
  | ((with_reducible refine' g_fldS ?obh ?obc ?obn ?obe ?_); (case obh => walk_at "obat19"); (case obc => exact AccC.c (by assumption)); (case obn => first | exact AccC.n1 (by assumption) | exact AccC.n2 (by assumption) | exact AccC.n3 (by assumption)); (case obe => rfl))
  | ((with_reducible refine' g_attS ?obs ?obh ?obc ?obn ?obl ?_); (case obs => assumption); (case obh => assumption); (case obc => exact AccC.c (by assumption)); (case obn => first | exact AccC.n1 (by assumption) | exact AccC.n2 (by assumption) | exact AccC.n3 (by assumption)); (case obl => exact Nat.le_of_ble_eq_true rfl); intro _ _ _)
  | ((with_reducible refine' g_augS ?obh ?obc ?obn ?obe ?_); (case obh => walk_at "obat19"); (case obc => exact AccC.c (by assumption)); (case obn => first | exact AccC.n1 (by assumption) | exact AccC.n2 (by assumption) | exact AccC.n3 (by assumption)); (case obe => rfl))
  | ((with_reducible refine' g_augE ?obs ?obh ?obl ?_); (case obs => assumption); (case obh => assumption); (case obl => exact Nat.le_of_ble_eq_true rfl); intro _ _ _)
  | ((with_reducible refine' g_ixUT ?obh ?obi ?_); (case obh => first | exact sqt_enc (by walk_at "obd") | walk_at "obt"); (case obi => rfl))
  | refine use_prest (by walk_at "obat19") (by assumption) ?_
  | refine use_ppaid (by walk_at "obat19") (by assumption) ?_
  | refine use_pdays (by walk_at "obat19") (by assumption) ?_
  | with_reducible refine g_lstRg ?_
  | with_reducible refine g_rg1 ?_
  | with_reducible refine g_rg2 ?_
  | ((with_reducible refine' g_tyd ?obh ?_); (case obh => walk_at "obat19"))
  | with_reducible refine g_tTru ?_
  | ((with_reducible refine' g_truL ?obh ?_); (case obh => walk_at "obl"))
  | with_reducible refine g_forZ ?_
  | with_reducible refine g_forR2 ?_
  | with_reducible refine g_lcZ ?_)
section
variable {P : Program} {w : World} {K : Frag} {mg : Str → Option Value} {base : Heap}
def sp_law_right (K : Frag) : Sp := fun vs H Q E => vs.length = 1 ∧ ∃ (F : List (Addr × HO)) (G : List Ft) (p : Addr) (a b c : Int), vs = [.ref p] ∧ Sy K ((p, potO a b c) :: F) G H ∧ PotOk 0 a b c ∧ ∀ H', Sy K F G H' → Q (.bl true) H'
abbrev names_law_right : List Str := ["pot", "lap"]
theorem sc_law_right : FnScope names_law_right ["pot"] (defScope (top 55)) := ⟨rfl, rfl, rfl, by decide +kernel, rfl, by decide +kernel, by decide +kernel⟩
set_option maxHeartbeats 4000000 in
theorem ok_law_right (T : Tx K mg) : FG P w K mg base CX0 7 T.a_law_right T.d_law_right ["pot"] (sp_law_right K) := by
  refine OB.Fun.fg T.F_law_right sc_law_right (fun vs H Q E h => h.1) (fun cdv A out s H vs Q E g h => ?_)
  obtain ⟨_, F, G, p, a, b, c, rfl, S, ok, k⟩ := h
  refine ⟨_, (pss_cons (ps_if (pt_not (pt_val (pe_callB (toK (r := rAll) (K := K) rfl (cr_all rfl)) (by rfl) T.n_all (by decide +kernel) (pa_cons (pe_lc (own := [("lap", 1)]) (tt := tYes) rfl sc_law_right.nd (pi_range1 rfl T.n_range (pa_cons pe_int pa_nil)) (blkOk_by (N := names_law_right) (sc := defScope (top 55)) (own := [("lap", 1)]) (by decide +kernel)) (fun _ _ _ _ _ => (pg_name (i := 1) sc_law_right.nd rfl (by first | exact Or.inl rfl | exact Or.inr rfl))) (fun _ _ _ _ _ => pts_nil) (fun _ _ _ _ _ => (pe_cg (ok_law_are_tables_right T) (g.mono (by decide : 6 ≤ 6)) (by rfl) T.m_law_are_tables_right T.F_law_are_tables_right.kp (OB.Fun.bd T.F_law_are_tables_right (ps := ["pot"]) (n := 1) (ks := []) (ix := [0]) (fun _ _ _ _ _ _ us ws h1 h2 => match us, ws, h1, h2 with | [_], [], _, _ => rfl)) pass0 (pa_cons (pv 0) pa_nil) pk_nil))) pa_nil)))) (pss_one (ps_ret pe_bl)) pss_nil)
      (pss_one (ps_ret (pe_callB (toK (r := rAll) (K := K) rfl (cr_all rfl)) (by rfl) T.n_all (by decide +kernel) (pa_cons (pe_lc (own := [("lap", 1)]) (tt := tYes) rfl sc_law_right.nd (pi_range1 rfl T.n_range (pa_cons pe_int pa_nil)) (blkOk_by (N := names_law_right) (sc := defScope (top 55)) (own := [("lap", 1)]) (by decide +kernel)) (fun _ _ _ _ _ => (pg_name (i := 1) sc_law_right.nd rfl (by first | exact Or.inl rfl | exact Or.inr rfl))) (fun _ _ _ _ _ => pts_nil) (fun _ _ _ _ _ => (pe_and (pe_cg (ok_law_is_first_right T) (g.mono (by decide : 6 ≤ 6)) (by rfl) T.m_law_is_first_right T.F_law_is_first_right.kp (OB.Fun.bd T.F_law_is_first_right (ps := ["pot"]) (n := 1) (ks := []) (ix := [0]) (fun _ _ _ _ _ _ us ws h1 h2 => match us, ws, h1, h2 with | [_], [], _, _ => rfl)) pass0 (pa_cons (pv 0) pa_nil) pk_nil) (pe_one (pe_cg (ok_law_is_split_right T) (g.mono (by decide : 5 ≤ 6)) (by rfl) T.m_law_is_split_right T.F_law_is_split_right.kp (OB.Fun.bd T.F_law_is_split_right (ps := ["pot"]) (n := 1) (ks := []) (ix := [0]) (fun _ _ _ _ _ _ us ws h1 h2 => match us, ws, h1, h2 with | [_], [], _, _ => rfl)) pass0 (pa_cons (pv 0) pa_nil) pk_nil))))) pa_nil))))), ?_⟩
  refine g_start (σ := [some _, none]) rfl ?_
  repeat walk_at "ob"
  refine g_lcR (K := K) ?_
  repeat walk_at "ob"
  refine g_rgJ (by decide) (by decide) ?_
  refine rglc_of (fun i F' ds => ∃ a b c : Int, F' = (p, potO a b c) :: F ∧ PotOk (40 * i) a b c ∧ ds = List.replicate i (.bool true) ∧ i ≤ 2) S ⟨a, b, c, rfl, ok, rfl, by decide⟩ (fun i F' ds ⟨_, _, _, _, _, e, _⟩ => by rw [e, List.length_replicate]; omega) ?_ ?_
  · rintro i hi Da H2 F2 vs ds QE QR ⟨a2, b2, c2, rfl, o2, rfl, hi2⟩ S3 kE kR
    have hi : i < 2 := hi
    repeat walk_at "ob"
    refine ⟨rfl, ?_⟩
    repeat walk_at "ob"
    refine ⟨rfl, _, _, 1, p, _, a2, b2, c2, rfl, S3, rfl, o2, by omega, fun a3 b3 c3 H3 o3 S4 _ => ?_⟩
    refine kE _ (.bool true) _ _ ⟨a3, b3, c3, rfl, o3.mono (by omega), by rw [List.replicate_succ'], hi⟩ (Sy.fact S4 (dps_one (L2.Dp.bl true)) rfl)
  rintro Da H2 F2 vs ds hD ⟨a2, b2, c2, rfl, o2, rfl, _⟩ S3
  have hv := trues (S3.dps 0 rfl)
  subst hv
  repeat walk_at "ob"
  refine g_all (by walk_at "obl") ?_
  rw [all_true]
  have S4 := S3.less.drop
  clear S3 S
  repeat walk_at "ob"
  refine g_lcR (K := K) ?_
  repeat walk_at "ob"
  refine g_rgJ (by decide) (by decide) ?_
  refine rglc_of (fun i F' ds => ∃ a b c : Int, F' = (p, potO a b c) :: F ∧ PotOk (80 + 24 * i) a b c ∧ ds = List.replicate i (.bool true) ∧ i ≤ 4) S4 ⟨a2, b2, c2, rfl, o2.mono (by decide), rfl, by decide⟩ (fun i F' ds ⟨_, _, _, _, _, e, _⟩ => by rw [e, List.length_replicate]; omega) ?_ ?_
  · rintro i hi Da H2 F2 vs ds QE QR ⟨a2, b2, c2, rfl, o2, rfl, hi2⟩ S3 kE kR
    have hi : i < 4 := hi
    repeat walk_at "ob"
    refine ⟨rfl, ?_⟩
    repeat walk_at "ob"
    refine ⟨rfl, _, _, 1, p, _, a2, b2, c2, rfl, S3, rfl, o2, by omega, fun a3 b3 c3 H3 o3 S4 _ => ?_⟩
    have S4 : Sy K (_ :: (p, potO a3 b3 c3) :: F) _ H3 := S4
    repeat walk_at "ob"
    refine ⟨rfl, _, _, 1, p, _, a3, b3, c3, rfl, S4, rfl, o3, by omega, fun a4 b4 c4 H4 o4 S5 _ => ?_⟩
    refine kE _ (.bool true) _ _ ⟨a4, b4, c4, rfl, o4.mono (by omega), by rw [List.replicate_succ'], hi⟩ (Sy.fact S5 (dps_one (L2.Dp.bl true)) rfl)
  rintro Db H3 F3 vs ds hD2 ⟨a3, b3, c3, rfl, o3, rfl, _⟩ S3
  have hv := trues (S3.dps 0 rfl)
  subst hv
  repeat walk_at "ob"
  refine g_all (by walk_at "obl") ?_
  rw [all_true]
  exact k _ S3.less.less.drop
end
end LAW

set_option Elab.async false
set_option linter.all false
set_option maxRecDepth 100000
namespace LAW
open PySem PySem.Spec PyProof.Rows L2 PySem.W OB
local macro_rules | `(tactic| walk_at "obc") => `(tactic| first
  | exact Or.inl ⟨by omega, by omega⟩
  | exact Or.inr ⟨by omega, by omega⟩
  | exact cdiv_ok (by omega) (by omega)
  | (show (0 : Int) < _; omega)
  | exact ⟨by omega, by decide⟩
  | exact ⟨by decide, by decide⟩)
local macro_rules | `(tactic| walk_at "obat") => `(tactic| first
  | exact Sy.at (by assumption) 0 rfl | exact Sy.at (by assumption) 1 rfl | exact Sy.at (by assumption) 2 rfl | exact Sy.at (by assumption) 3 rfl
  | exact Sy.at (by assumption) 4 rfl | exact Sy.at (by assumption) 5 rfl | exact Sy.at (by assumption) 6 rfl | exact Sy.at (by assumption) _ (by assumption) | exact Sy.at (by assumption) (_ + 1) (by assumption) | exact Sy.at (by assumption) (_ + 2) (by assumption))
local macro_rules | `(tactic| walk_at "obt") => `(tactic| first
  | exact Sy.tqs (by assumption) 0 rfl | exact Sy.tqs (by assumption) 1 rfl | exact Sy.tqs (by assumption) 2 rfl | exact Sy.tqs (by assumption) 3 rfl | exact Sy.tqs (by assumption) 4 rfl | exact Sy.tqs (by assumption) 5 rfl
  | exact Sy.tqs (by assumption) 6 rfl | exact Sy.tqs (by assumption) 7 rfl | assumption)
local macro_rules | `(tactic| walk_at "obl") => `(tactic| first
  | exact SqL.of (by walk_at "obat")
  | exact Sy.sq (by assumption) 0 rfl | exact Sy.sq (by assumption) 1 rfl | exact Sy.sq (by assumption) 2 rfl | exact Sy.sq (by assumption) 3 rfl | exact Sy.sq (by assumption) _ (by assumption))
local macro_rules | `(tactic| walk_at "obd") => `(tactic| first
  | exact Dp.int _ | exact Dp.bl _ | exact Dp.str _ | exact Dp.non
  | exact Sy.dp (by assumption) 0 rfl | exact Sy.dp (by assumption) 1 rfl | exact Sy.dp (by assumption) 2 rfl | exact Sy.dp (by assumption) 3 rfl
  | exact Sy.dp (by assumption) 4 rfl | exact Sy.dp (by assumption) 5 rfl | exact Sy.dp (by assumption) 6 rfl | exact Sy.dp (by assumption) 7 rfl
  | exact Sy.dp (by assumption) 8 rfl | exact Sy.dp (by assumption) 9 rfl | exact Sy.dp (by assumption) _ (by assumption) | assumption)
local macro_rules | `(tactic| walk_at "obds") => `(tactic| first
  | exact DpAll.nil
  | (refine' DpAll.cons ?ob1 ?ob2; (case ob1 => walk_at "obd"); (case ob2 => walk_at "obds"))
  | exact Sy.dps (by assumption) 0 rfl | exact Sy.dps (by assumption) 1 rfl | exact Sy.dps (by assumption) 2 rfl | exact Sy.dps (by assumption) 3 rfl | assumption)
local macro_rules | `(tactic| walk_at "obsc") => `(tactic| first
  | exact ScL.nil
  | ((first | refine' ScL.int ?obz | refine' ScL.str ?obz | refine' ScL.bl ?obz | refine' ScL.non ?obz); (case obz => walk_at "obsc")))
local macro_rules | `(tactic| walk_at "ob1") => `(tactic| first
  | ((with_reducible refine' g_var ?obh ?_); (case obh => rfl))
  | with_reducible refine g_c ?_
  | with_reducible refine g_nx ?_
  | with_reducible refine g_rt ?_
  | with_reducible refine g_bk ?_
  | with_reducible refine g_ct ?_
  | with_reducible refine g_op ?_
  | with_reducible refine g_I0 ?_
  | with_reducible refine g_test ?_
  | with_reducible refine g_bl ?_
  | with_reducible refine g_blx ?_
  | with_reducible refine g_B ?_
  | with_reducible refine g_seq ?_
  | with_reducible refine g_asg ?_
  | with_reducible refine g_name ?_
  | with_reducible refine g_ifS ?_
  | with_reducible refine g_ret ?_
  | with_reducible refine g_cb ?_
  | with_reducible refine g_cons ?_
  | with_reducible refine g_nil ?_
  | with_reducible refine g_int ?_
  | with_reducible refine g_intB ?_
  | with_reducible refine g_abs ?_
  | with_reducible refine g_max ?_
  | with_reducible refine g_min ?_
  | with_reducible refine g_un ?_
  | with_reducible refine g_U ?_
  | with_reducible refine g_eqI ?_
  | with_reducible refine g_neI ?_
  | with_reducible refine g_eqS ?_
  | with_reducible refine g_neS ?_
  | with_reducible refine g_tt ?_
  | with_reducible refine g_ff ?_
  | with_reducible refine g_next ?_
  | with_reducible refine g_drop ?_
  | with_reducible refine g_if ?_
  | with_reducible refine g_andV ?_
  | with_reducible refine g_orV ?_
  | with_reducible refine g_notV ?_
  | with_reducible refine g_and ?_
  | with_reducible refine g_or ?_
  | with_reducible refine g_not ?_
  | with_reducible refine g_yes ?_
  | with_reducible refine g_chain ?_
  | with_reducible refine g_cg ?_
  | with_reducible refine g_mg ?_
  | with_reducible refine g_kg ?_
  | with_reducible refine g_pg ?_
  | ((with_reducible refine' g_call ?obh ?obj ?_); (case obh => rfl); (case obj => rfl))
  | with_reducible refine g_par ?_
  | with_reducible refine g_par2 ?_
  | with_reducible refine g_par3 ?_
  | with_reducible refine g_par33 ?_
  | with_reducible refine g_gnil ?_
  | with_reducible refine g_gcons ?_
  | with_reducible refine g_gsub ?_
  | with_reducible refine g_ipI ?_
  | with_reducible refine g_rAdd ?_
  | with_reducible refine g_rSub ?_
  | ((with_reducible refine' g_aug ?obh ?_); (case obh => rfl))
  | with_reducible refine g_tup ?_
  | with_reducible refine g_lst ?_
  | with_reducible refine g_bm ?_
  | with_reducible refine g_bm0 ?_
  | with_reducible refine g_sl ?_
  | with_reducible refine g_nopart ?_
  | with_reducible refine g_part ?_
  | with_reducible refine g_pint ?_
  | with_reducible refine isi_int ?_
  | with_reducible refine isi_intB ?_
  | ((with_reducible refine' g_I ?obh ?_); (case obh => walk_at "obc"))
  | ((with_reducible refine' g_tyl ?obh ?_); (case obh => walk_at "obl"))
  | ((with_reducible refine' g_lenL ?obh ?_); (case obh => walk_at "obl"))
  | with_reducible refine g_ne ?_
  | ((with_reducible refine' g_neN' ?obh ?_); (case obh => rfl))
  | with_reducible refine g_ntt ?_
  | with_reducible refine g_nff ?_
  | with_reducible refine g_star ?_
  | with_reducible refine g_att ?_
  | with_reducible refine g_sfld ?_
  | with_reducible refine g_faug ?_
  | with_reducible refine g_fld ?_
  | ((with_reducible refine' g_nF ?obh ?_); (case obh => omega))
  | ((with_reducible refine' g_nT ?obh ?_); (case obh => omega))
  | ((with_reducible refine' g_TD ?obh ?_); (case obh => omega))
  | ((with_reducible refine' g_FD ?obh ?_); (case obh => omega))
  | ((with_reducible refine' g_ixUL ?obh ?obi ?_); (case obh => walk_at "obl"); (case obi => exact atI_nn (by omega) (by rfl)))
  | ((with_reducible refine' g_setLS ?obs ?obh ?obi ?_); (case obs => assumption); (case obh => assumption); (case obi => rfl); intro _ _ _)
  | ((with_reducible refine' g_newT ?obs ?obh ?obi ?obj ?_); (case obs => assumption); (case obh => walk_at "obds"); (case obi => rfl); (case obj => exact Nat.le_of_ble_eq_true rfl); intro _ _ _ _)
  | ((with_reducible refine' g_newL ?obs ?obj ?_); (case obs => assumption); (case obj => exact Nat.le_of_ble_eq_true rfl); intro _ _ _ _)
  | ((with_reducible refine' isi_tup ?obh ?_); (case obh => walk_at "obt"))
  | ((with_reducible refine' g_lenT ?obh ?_); (case obh => walk_at "obt"))
  | ((with_reducible refine' g_unpT ?obh ?obi ?_); (case obh => walk_at "obt"); (case obi => rfl))
  | ((with_reducible refine' g_divmod ?obs ?obh ?_); (case obs => assumption); (case obh => exact cdivp_ok (by omega) (by omega) (by omega)); intro _ _ _ _)
  | ((with_reducible refine' g_unpD ?obh ?obi ?obj ?_); (case obh => walk_at "obd"); (case obi => walk_at "obsc"); (case obj => rfl))
  | with_reducible refine g_att ?_)
local macro_rules | `(tactic| walk_at "obat19") => `(tactic| first | assumption | walk_at "obat")
local macro_rules | `(tactic| walk_at "ob") => `(tactic| first
  | walk_at "ob1"
  | refine use_is_integer ?_
  | refine use_is_within ?_
  | refine use_balance ?_
  | refine use_rate ?_
  | refine use_year (by assumption) ?_
  | refine use_unit ?_
  | refine use_rest (by omega) (by omega) ?_
  | refine use_parts (by walk_at "obd") (by assumption) ?_
  | refine use_is_stretch (by walk_at "obd") (by assumption) ?_
  | refine g_unpT (sqt_enc (by walk_at "obd")) rfl ?_
  | ((with_reducible refine' g_fldS ?obh ?obc ?obn ?obe ?_); (case obh => walk_at "obat19"); (case obc => exact AccC.c (by assumption)); (case obn => first | exact AccC.n1 (by assumption) | exact AccC.n2 (by assumption) | exact AccC.n3 (by assumption)); (case obe => rfl))
  | ((with_reducible refine' g_attS ?obs ?obh ?obc ?obn ?obl ?_); (case obs => assumption); (case obh => assumption); (case obc => exact AccC.c (by assumption)); (case obn => first | exact AccC.n1 (by assumption) | exact AccC.n2 (by assumption) | exact AccC.n3 (by assumption)); (case obl => exact Nat.le_of_ble_eq_true rfl); intro _ _ _)
  | ((with_reducible refine' g_augS ?obh ?obc ?obn ?obe ?_); (case obh => walk_at "obat19"); (case obc => exact AccC.c (by assumption)); (case obn => first | exact AccC.n1 (by assumption) | exact AccC.n2 (by assumption) | exact AccC.n3 (by assumption)); (case obe => rfl))
  | ((with_reducible refine' g_augE ?obs ?obh ?obl ?_); (case obs => assumption); (case obh => assumption); (case obl => exact Nat.le_of_ble_eq_true rfl); intro _ _ _)
  | ((with_reducible refine' g_ixUT ?obh ?obi ?_); (case obh => first | exact sqt_enc (by walk_at "obd") | walk_at "obt"); (case obi => rfl))
  | refine use_prest (by walk_at "obat19") (by assumption) ?_
  | refine use_ppaid (by walk_at "obat19") (by assumption) ?_
  | refine use_pdays (by walk_at "obat19") (by assumption) ?_
  | with_reducible refine g_lstRg ?_
  | with_reducible refine g_rg1 ?_
  | with_reducible refine g_rg2 ?_
  | ((with_reducible refine' g_tyd ?obh ?_); (case obh => walk_at "obat19"))
  | with_reducible refine g_tTru ?_
  | ((with_reducible refine' g_truL ?obh ?_); (case obh => walk_at "obl"))
  | with_reducible refine g_forZ ?_
  | with_reducible refine g_forR2 ?_
  | with_reducible refine g_lcZ ?_)
section
variable {P : Program} {w : World} {K : Frag} {mg : Str → Option Value} {base : Heap}
theorem g_lcE2 {σ : L2.St} {H : Hp} {Q : VK} {g : TG} {tl te : TE} {tt : TT} {own : List Nat} (k : tl σ H fun x H1 => tLc (iSeq K (tC x)) g tt te own σ H1 Q) : tLc (iSeq K tl) g tt te own σ H Q := k
def sp_law (K : Frag) : Sp := fun vs H Q E => vs.length = 1 ∧ ∃ (a : Addr) (ns : List Int), vs = [.ref a] ∧ Sy K [] [.sq a (ns.map V.int)] H ∧ ns.length ≤ 63 ∧ ∀ H', Q (.bl true) H'
abbrev names_law : List Str := ["script", "place"]
theorem sc_law : FnScope names_law ["script"] (defScope (top 56)) := ⟨rfl, rfl, rfl, by decide +kernel, rfl, by decide +kernel, by decide +kernel⟩
set_option maxHeartbeats 4000000 in
theorem ok_law (T : Tx K mg) : FG P w K mg base CX0 8 T.a_law T.d_law ["script"] (sp_law K) := by
  refine OB.Fun.fg T.F_law sc_law (fun vs H Q E h => h.1) (fun cdv A out s H vs Q E g h => ?_)
  obtain ⟨_, a, ns, rfl, S, hn, k⟩ := h
  refine ⟨_, (pss_one (ps_ret (pe_callB (toK (r := rAll) (K := K) rfl (cr_all rfl)) (by rfl) T.n_all (by decide +kernel) (pa_cons (pe_lc (own := [("place", 1)]) (tt := tYes) rfl sc_law.nd (pi_seq (pe_cg (ok_law_cells T) (g.mono (by decide : 1 ≤ 7)) (by rfl) T.m_law_cells T.F_law_cells.kp (OB.Fun.bd T.F_law_cells (ps := ["script", "most"]) (n := 2) (ks := []) (ix := [0, 1]) (fun _ _ _ _ _ _ us ws h1 h2 => match us, ws, h1, h2 with | [_, _], [], _, _ => rfl)) pass0 (pa_cons (pv 0) (pa_cons pe_int pa_nil)) pk_nil)) (blkOk_by (N := names_law) (sc := defScope (top 56)) (own := [("place", 1)]) (by decide +kernel)) (fun _ _ _ _ _ => (pg_name (i := 1) sc_law.nd rfl (by first | exact Or.inl rfl | exact Or.inr rfl))) (fun _ _ _ _ _ => pts_nil) (fun _ _ _ _ _ => (pe_cg (ok_law_right T) (g.mono (by decide : 7 ≤ 7)) (by rfl) T.m_law_right T.F_law_right.kp (OB.Fun.bd T.F_law_right (ps := ["pot"]) (n := 1) (ks := []) (ix := [0]) (fun _ _ _ _ _ _ us ws h1 h2 => match us, ws, h1, h2 with | [_], [], _, _ => rfl)) pass0 (pa_cons (pe_cg (ok_law_pot T) (g.mono (by decide : 1 ≤ 7)) (by rfl) T.m_law_pot T.F_law_pot.kp (OB.Fun.bd T.F_law_pot (ps := ["script", "place"]) (n := 2) (ks := []) (ix := [0, 1]) (fun _ _ _ _ _ _ us ws h1 h2 => match us, ws, h1, h2 with | [_, _], [], _, _ => rfl)) pass0 (pa_cons (pv 0) (pa_cons (pv 1) pa_nil)) pk_nil) pa_nil) pk_nil))) pa_nil)))), ?_⟩
  refine g_start (σ := [some _, none]) rfl ?_
  repeat walk_at "ob"
  refine g_lcE2 ?_
  repeat walk_at "ob"
  refine ⟨rfl, [], [], a, ns, 3, rfl, S, hn, by decide, by decide, fun ms p H1 hms hml S1 => ?_⟩
  repeat walk_at "ob"
  refine g_lcS (a := p) (xs := ms.map V.int) true (fun i F' ds => F' = [(p, .lst (ms.map V.int))] ∧ ds = List.replicate i (.bool true) ∧ i ≤ ms.length) S1 (fun Q' q => q) ⟨rfl, rfl, Nat.zero_le _⟩ (fun i F' ds H' hi S3 => SqL.of ((hi.1 ▸ S3).at 0 rfl)) (fun i F' ds hi => by
      rw [hi.2.1, List.length_replicate]
      omega) ?_ ?_
  · intro i x hx Dp H2 F2 vs ds QE QR hi S3 kE kR
    obtain ⟨rfl, rfl, hi2⟩ := hi
    have hi3 : i < ms.length := by
      have := (List.getElem?_eq_some_iff.mp hx).1
      rw [List.length_map] at this
      exact this
    rw [List.getElem?_map] at hx
    obtain ⟨m, hm, rfl⟩ := Option.map_eq_some_iff.mp hx
    obtain ⟨m0, m1⟩ := hms m (List.mem_of_getElem? hm)
    repeat walk_at "ob"
    refine ⟨rfl, ?_⟩
    repeat walk_at "ob"
    refine ⟨rfl, _, _, a, ns, m, rfl, S3.add (.sq a (ns.map V.int)) (S3.ft _ (by simp)), hn, m0, m1, fun x y z q H4 o S4 => ?_⟩
    repeat walk_at "ob"
    refine ⟨rfl, _, _, q, x, y, z, rfl, S4, o, fun H5 S5 => ?_⟩
    repeat walk_at "ob"
    exact kE _ (.bool true) _ _ ⟨rfl, by rw [List.replicate_succ'], hi3⟩ (S5.drop.fact (dps_one (L2.Dp.bl true)) rfl)
  · rintro Dp H2 F2 vs ds hD ⟨rfl, rfl, _⟩ S3
    have hv : vs = (List.replicate (ms.map V.int).length true).map V.bl := by
      rw [dps_scal (S3.dps 0 rfl) fun d hd => by rw [(List.mem_replicate.mp hd).2]; rfl, List.map_replicate, List.map_replicate]
      rfl
    subst hv
    repeat walk_at "ob"
    refine g_all (by walk_at "obl") ?_
    have e : ((List.replicate (ms.map V.int).length true).all id) = true := List.all_eq_true.mpr fun b hb => (List.mem_replicate.mp hb).2
    rw [e]
    exact k H2
end
theorem sy_script {K : Frag} {H : Hp} {a : Addr} {xs : List V} (o : Only H) (h : SqL K H a xs) : Sy K [] [.sq a xs] H := by
  refine Sy.nil.add _ ?_
  rcases h with (h | h) | h
  · rcases o a with e | ⟨ob, ys, e⟩
    · rw [e] at h; cases h
    · rw [e] at h; cases h
  · exact .inl h
  · exact .inr h
theorem law_in (K : Frag) (H : Hp) (a : Addr) (ns : List Int) (hn : ns.length ≤ 63) (o : Only H) (h : SqL K H a (ns.map V.int)) : sp_law K [.ref a] H (fun v _ => v = .bl true) fun _ _ _ => False :=
  ⟨rfl, a, ns, rfl, sy_script o h, hn, fun _ => rfl⟩
theorem fin {l : PySem.W.OpenLaw} {w : World} {K : Frag} {h : Heap} {mg : Str → Option Value} {fa : Addr} (X : K.In h) (G : h.Ns mainGlobals mg) (hfa : mg "law" = some (.ref fa)) (T : Tx K mg) :
    ∃ fd : FuncData, (∀ (s : Shared) (u : Value), BindsTo s fd ⟨[u], []⟩ [("script", u)]) ∧ ∀ base : Heap, K.In base → base.Ns mainGlobals mg → FG l.prog w K mg base CX0 8 fa fd ["script"] (sp_law K) := by
  have e := hfa.symm.trans T.m_law
  cases e
  refine ⟨T.d_law, fun s u => ?_, fun base _ _ => ok_law T⟩
  exact .of_eq ((OB.Fun.bd T.F_law (ps := ["script"]) (n := 1) (ks := []) (ix := [0]) (fun _ _ _ _ _ _ us ws h1 h2 => match us, ws, h1, h2 with | [_], [], _, _ => rfl)).to [u] [] rfl rfl)
end LAW

set_option Elab.async false
set_option linter.all false
set_option maxRecDepth 100000
namespace LAW
open PySem PySem.Spec PyProof.Rows L2 PySem.W OB
theorem walk {l : PySem.W.OpenLaw} {q : Program} {loose : List Str} {XP : (Str → Option Value) → Heap → Prop} {YP : World → Heap → Prop} {d : DefRec} {K : Params → PySem.W.Frag} (hn : l.most = some 63) (hdf : d.params.defaults = [])
    (hY : ∀ (w : World) (h : Heap), YP w h → (K w.params).In h)
    (F : ∀ (w : World) (mg : Str → Option Value) (fa : Addr) (h : Heap), (K w.params).In h → h.Ns mainGlobals mg → mg d.name = some (.ref fa) →
      ∃ fd : FuncData, (∀ (s : Shared) (u : Value), BindsTo s fd ⟨[u], []⟩ [("script", u)]) ∧ ∀ base : Heap, (K w.params).In base → base.Ns mainGlobals mg → FG l.prog w (K w.params) mg base CX0 8 fa fd ["script"] (sp_law (K w.params))) :
    PySem.W.WalkO q loose XP YP l.row.toRowW d [] (fun f vs => PySem.call f vs) :=
  walk_g (n := 63) (k := 8) (x := "script") (sp := sp_law) hn (by decide) hdf ⟨⟨rfl, by decide, by decide⟩, rfl⟩ hY F law_in
end LAW
open PySem PySem.W PyProof.Rows
set_option maxRecDepth 100000 in
set_option maxHeartbeats 0 in
theorem PySem.Challenge.cw_oncebooked_k20_tables_first_days_and_sha_holds : PySem.Challenge.rw_oncebooked_k20_tables_first_days_and_sha.Holds := by
  w_on; o_law; k_head; (case hw => w_witness2)
  k_fill
  refine LAW.walk (l := PySem.Challenge.rw_oncebooked_k20_tables_first_days_and_sha) rfl rfl (fun w h Y => PySem.W.kIn_of Y) ?F
  case F =>
    intro w mg fa h KX G hmg
    refine' LAW.fin KX G hmg (LAW.mkTx KX G ?x_n_is_integer ?x_l_is_integer ?x_c_is_integer ?x_k_is_integer ?x_n_law_take ?x_l_law_take ?x_c_law_take ?x_k_law_take ?x_n_stretch_parts ?x_l_stretch_parts ?x_c_stretch_parts ?x_k_stretch_parts ?x_n_law_unit ?x_l_law_unit ?x_c_law_unit ?x_k_law_unit ?x_n_law_day_parts ?x_l_law_day_parts ?x_c_law_day_parts ?x_k_law_day_parts ?x_n_value_on ?x_l_value_on ?x_c_value_on ?x_k_value_on ?x_n_law_value_at ?x_l_law_value_at ?x_c_law_value_at ?x_k_law_value_at ?x_n_law_pot ?x_l_law_pot ?x_c_law_pot ?x_k_law_pot ?x_n_law_cells ?x_l_law_cells ?x_c_law_cells ?x_k_law_cells ?x_n_is_within ?x_l_is_within ?x_c_is_within ?x_k_is_within ?x_n_law_of ?x_l_law_of ?x_c_law_of ?x_k_law_of ?x_n_is_year ?x_l_is_year ?x_c_is_year ?x_k_is_year ?x_n_days_told ?x_l_days_told ?x_c_days_told ?x_k_days_told ?x_n_law_stretches_in ?x_l_law_stretches_in ?x_c_law_stretches_in ?x_k_law_stretches_in ?x_n_check_number ?x_l_check_number ?x_c_check_number ?x_k_check_number ?x_n_is_rate ?x_l_is_rate ?x_c_is_rate ?x_k_is_rate ?x_n_is_balance ?x_l_is_balance ?x_c_is_balance ?x_k_is_balance ?x_n_check_rest ?x_l_check_rest ?x_c_check_rest ?x_k_check_rest ?x_n_law_stretch ?x_l_law_stretch ?x_c_law_stretch ?x_k_law_stretch ?x_n_law_rest ?x_l_law_rest ?x_c_law_rest ?x_k_law_rest ?x_n_is_table ?x_l_is_table ?x_c_is_table ?x_k_is_table ?x_n_law_table ?x_l_law_table ?x_c_law_table ?x_k_law_table ?x_n_split ?x_l_split ?x_c_split ?x_k_split ?x_n_is_stretch ?x_l_is_stretch ?x_c_is_stretch ?x_k_is_stretch ?x_n_value_at ?x_l_value_at ?x_c_value_at ?x_k_value_at ?x_n_check_tables ?x_l_check_tables ?x_c_check_tables ?x_k_check_tables ?x_n_law_tables ?x_l_law_tables ?x_c_law_tables ?x_k_law_tables ?x_n_law_is_split_right ?x_l_law_is_split_right ?x_c_law_is_split_right ?x_k_law_is_split_right ?x_n_first_day ?x_l_first_day ?x_c_first_day ?x_k_first_day ?x_n_stretches_of ?x_l_stretches_of ?x_c_stretches_of ?x_k_stretches_of ?x_n_law_is_first_right ?x_l_law_is_first_right ?x_c_law_is_first_right ?x_k_law_is_first_right ?x_n_law_are_tables_right ?x_l_law_are_tables_right ?x_c_law_are_tables_right ?x_k_law_are_tables_right ?x_n_law_right ?x_l_law_right ?x_c_law_right ?x_k_law_right ?x_n_law ?x_l_law ?x_c_law ?x_k_law ?x_g_PARTS ?x_g_MOST_RATE ?x_g_MOST_BALANCE ?x_g_MOST_DAYS ?x_g_MOST_STRETCHES ?x_g_MOST_UNITS ?x_g_MOST_AMOUNT ?x_g_MOST_WEIGHT ?x_g_MOST_TABLE ?x_g_FACTORS ?x_kd_FACTORS ?x_g_STRETCH_PARTS ?x_g_PAIR ?x_n_abs ?x_n_all ?x_n_bool ?x_n_int ?x_n_isinstance ?x_n_len ?x_n_list ?x_n_max ?x_n_min ?x_n_range ?x_n_repr ?x_n_sorted ?x_n_sum ?x_n_tuple ?x_n_zip)
    (case x_n_is_integer => k_is)
    (case x_l_is_integer => k_is)
    (case x_c_is_integer => k_is)
    (case x_k_is_integer => k_is)
    (case x_n_law_take => k_is)
    (case x_l_law_take => k_is)
    (case x_c_law_take => k_is)
    (case x_k_law_take => k_is)
    (case x_n_stretch_parts => k_is)
    (case x_l_stretch_parts => k_is)
    (case x_c_stretch_parts => k_is)
    (case x_k_stretch_parts => k_is)
    (case x_n_law_unit => k_is)
    (case x_l_law_unit => k_is)
    (case x_c_law_unit => k_is)
    (case x_k_law_unit => k_is)
    (case x_n_law_day_parts => k_is)
    (case x_l_law_day_parts => k_is)
    (case x_c_law_day_parts => k_is)
    (case x_k_law_day_parts => k_is)
    (case x_n_value_on => k_is)
    (case x_l_value_on => k_is)
    (case x_c_value_on => k_is)
    (case x_k_value_on => k_is)
    (case x_n_law_value_at => k_is)
    (case x_l_law_value_at => k_is)
    (case x_c_law_value_at => k_is)
    (case x_k_law_value_at => k_is)
    (case x_n_law_pot => k_is)
    (case x_l_law_pot => k_is)
    (case x_c_law_pot => k_is)
    (case x_k_law_pot => k_is)
    (case x_n_law_cells => k_is)
    (case x_l_law_cells => k_is)
    (case x_c_law_cells => k_is)
    (case x_k_law_cells => k_is)
    (case x_n_is_within => k_is)
    (case x_l_is_within => k_is)
    (case x_c_is_within => k_is)
    (case x_k_is_within => k_is)
    (case x_n_law_of => k_is)
    (case x_l_law_of => k_is)
    (case x_c_law_of => k_is)
    (case x_k_law_of => k_is)
    (case x_n_is_year => k_is)
    (case x_l_is_year => k_is)
    (case x_c_is_year => k_is)
    (case x_k_is_year => k_is)
    (case x_n_days_told => k_is)
    (case x_l_days_told => k_is)
    (case x_c_days_told => k_is)
    (case x_k_days_told => k_is)
    (case x_n_law_stretches_in => k_is)
    (case x_l_law_stretches_in => k_is)
    (case x_c_law_stretches_in => k_is)
    (case x_k_law_stretches_in => k_is)
    (case x_n_check_number => k_is)
    (case x_l_check_number => k_is)
    (case x_c_check_number => k_is)
    (case x_k_check_number => k_is)
    (case x_n_is_rate => k_is)
    (case x_l_is_rate => k_is)
    (case x_c_is_rate => k_is)
    (case x_k_is_rate => k_is)
    (case x_n_is_balance => k_is)
    (case x_l_is_balance => k_is)
    (case x_c_is_balance => k_is)
    (case x_k_is_balance => k_is)
    (case x_n_check_rest => k_is)
    (case x_l_check_rest => k_is)
    (case x_c_check_rest => k_is)
    (case x_k_check_rest => k_is)
    (case x_n_law_stretch => k_is)
    (case x_l_law_stretch => k_is)
    (case x_c_law_stretch => k_is)
    (case x_k_law_stretch => k_is)
    (case x_n_law_rest => k_is)
    (case x_l_law_rest => k_is)
    (case x_c_law_rest => k_is)
    (case x_k_law_rest => k_is)
    (case x_n_is_table => k_is)
    (case x_l_is_table => k_is)
    (case x_c_is_table => k_is)
    (case x_k_is_table => k_is)
    (case x_n_law_table => k_is)
    (case x_l_law_table => k_is)
    (case x_c_law_table => k_is)
    (case x_k_law_table => k_is)
    (case x_n_split => k_is)
    (case x_l_split => k_is)
    (case x_c_split => k_is)
    (case x_k_split => k_is)
    (case x_n_is_stretch => k_is)
    (case x_l_is_stretch => k_is)
    (case x_c_is_stretch => k_is)
    (case x_k_is_stretch => k_is)
    (case x_n_value_at => k_is)
    (case x_l_value_at => k_is)
    (case x_c_value_at => k_is)
    (case x_k_value_at => k_is)
    (case x_n_check_tables => k_is)
    (case x_l_check_tables => k_is)
    (case x_c_check_tables => k_is)
    (case x_k_check_tables => k_is)
    (case x_n_law_tables => k_is)
    (case x_l_law_tables => k_is)
    (case x_c_law_tables => k_is)
    (case x_k_law_tables => k_is)
    (case x_n_law_is_split_right => k_is)
    (case x_l_law_is_split_right => k_is)
    (case x_c_law_is_split_right => k_is)
    (case x_k_law_is_split_right => k_is)
    (case x_n_first_day => k_is)
    (case x_l_first_day => k_is)
    (case x_c_first_day => k_is)
    (case x_k_first_day => k_is)
    (case x_n_stretches_of => k_is)
    (case x_l_stretches_of => k_is)
    (case x_c_stretches_of => k_is)
    (case x_k_stretches_of => k_is)
    (case x_n_law_is_first_right => k_is)
    (case x_l_law_is_first_right => k_is)
    (case x_c_law_is_first_right => k_is)
    (case x_k_law_is_first_right => k_is)
    (case x_n_law_are_tables_right => k_is)
    (case x_l_law_are_tables_right => k_is)
    (case x_c_law_are_tables_right => k_is)
    (case x_k_law_are_tables_right => k_is)
    (case x_n_law_right => k_is)
    (case x_l_law_right => k_is)
    (case x_c_law_right => k_is)
    (case x_k_law_right => k_is)
    (case x_n_law => k_is)
    (case x_l_law => k_is)
    (case x_c_law => k_is)
    (case x_k_law => k_is)
    (case x_g_PARTS => k_is)
    (case x_g_MOST_RATE => k_is)
    (case x_g_MOST_BALANCE => k_is)
    (case x_g_MOST_DAYS => k_is)
    (case x_g_MOST_STRETCHES => k_is)
    (case x_g_MOST_UNITS => k_is)
    (case x_g_MOST_AMOUNT => k_is)
    (case x_g_MOST_WEIGHT => k_is)
    (case x_g_MOST_TABLE => k_is)
    (case x_g_FACTORS => k_is)
    (case x_kd_FACTORS => exact ⟨_, _, by k_is, by decide, .cons ⟨rfl, rfl, ⟨_, rfl⟩⟩ (.cons ⟨rfl, rfl, ⟨_, rfl⟩⟩ .nil)⟩)
    (case x_g_STRETCH_PARTS => k_is)
    (case x_g_PAIR => k_is)
    (case x_n_abs => k_is)
    (case x_n_all => k_is)
    (case x_n_bool => k_is)
    (case x_n_int => k_is)
    (case x_n_isinstance => k_is)
    (case x_n_len => k_is)
    (case x_n_list => k_is)
    (case x_n_max => k_is)
    (case x_n_min => k_is)
    (case x_n_range => k_is)
    (case x_n_repr => k_is)
    (case x_n_sorted => k_is)
    (case x_n_sum => k_is)
    (case x_n_tuple => k_is)
    (case x_n_zip => k_is)
#print axioms PySem.Challenge.cw_oncebooked_k20_tables_first_days_and_sha_holds

