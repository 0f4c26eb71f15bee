import PyProof.Rows.All
import HandS.ForMost
import HandS.IsInst
import HandS.TupAny
import HandS.Flow
import HandS.Deep
import HandS.Exc
import HandS.ExcOwn
import HandS.Lambda
import HandS.Zip
import PyProof.ReprRoads
import HandS.Style
import PyProof.Rows.ReprOcc
import PyProof.FitsInt
import HandS.TupSets
import KE.KeyNested
import KE.SortData
import KE.DataCmp
import KE.GoesEnum
import HandS.ExcInit
import KE.KExcSuper
import HandS.ExcSuper
import HandS.TryOnly
import HandS.HotCalls
import HandS.ExcField
import KE.KExcIs
import KE.DataFind
import HandS.EndTab
import KE.KNestM
import HandS.ExcIs
import HandS.FStr
import HandS.RaiseMore
import HandS.SetFor
import HandS.Strs
import HandS.TupMul
import PySem.Challenge.RW_keptends_k09_texts_written
set_option Elab.async false
set_option linter.all false
set_option maxRecDepth 100000
set_option maxHeartbeats 1000000
/-! DL: a data layer over HandS, by this seat. Part a: defs whose caller stands in no guard (so that repr of containers is known) -/
namespace DL
open PySem PySem.Spec PyProof.Rows L2

/-- like the layer's FnOk, for callers of whom it is known that no repr is under way -/
structure FnG (P : Program) (w : World) (K : PySem.W.Frag) (mg : Str → Option Value) (base : Heap) (CX : CXT) (k : Nat)
    (f : Addr) (fd : FuncData) (ps : List Str) (sp : Sp) : Prop where
  len : ∀ vs H Q E, sp vs H Q E → vs.length = ps.length
  run : ∀ (A : Around) (outer : List Env) (s : Shared) (H : Hp) (args : Args) (us : List Value) (vs : List V) (Q : VK) (E : XK),
    A.guards = some [] → Room k A → Env0 P w K mg base A outer s H → BindsTo s fd args (ps.zip us) → Vals vs us →
    sp vs H Q E → codeAny (model P w) A (.call (.ref f) args) (CR CX outer P w H s Q E) s

section
variable {P : Program} {w : World} {K : PySem.W.Frag} {mg : Str → Option Value} {base : Heap} {CX : CXT}
theorem FnG.of {k : Nat} {f : Addr} {fd : FuncData} {ps : List Str} {sp : Sp} (F : FnOk P w K mg base CX k f fd ps sp) :
    FnG P w K mg base CX k f fd ps sp :=
  ⟨F.len, fun A outer s H args us vs Q E _ => F.run A outer s H args us vs Q E⟩
theorem FnG.mono {j k : Nat} {f : Addr} {fd : FuncData} {ps : List Str} {sp : Sp} (F : FnG P w K mg base CX j f fd ps sp)
    (h : j ≤ k) : FnG P w K mg base CX k f fd ps sp :=
  ⟨F.len, fun A outer s H args us vs Q E g hr => F.run A outer s H args us vs Q E g (hr.mono h)⟩
theorem FnG.imp {k : Nat} {f : Addr} {fd : FuncData} {ps : List Str} {sp sp' : Sp} (F : FnG P w K mg base CX k f fd ps sp)
    (h : ∀ vs H Q E, sp' vs H Q E → sp vs H Q E) : FnG P w K mg base CX k f fd ps sp' :=
  ⟨fun vs H Q E q => F.len _ _ _ _ (h vs H Q E q),
    fun A outer s H args us vs Q E g hr e0 hb hv q => F.run A outer s H args us vs Q E g hr e0 hb hv (h vs H Q E q)⟩

/-- a def of the text: its body's walk, where no repr is under way -/
theorem fng_of {k : Nat} {f : Addr} {x qual : Str} {st : Stmt} {fd : FuncData} {N ps : List Str} {sp : Sp}
    (F : Fun K x qual st f fd) (S : FnScope N ps (defScope st)) (len : ∀ vs H Q E, sp vs H Q E → vs.length = ps.length)
    (hbody : ∀ (cdv : Value) (A : Around) (outer : List Env) (s : Shared) (H : Hp) (vs : List V) (Q : VK) (E : XK),
      (A.deeper (envOfC qual (defScope st) s.heap.objs.size f cdv)).guards = some [] →
      Room k (A.deeper (envOfC qual (defScope st) s.heap.objs.size f cdv)) → sp vs H Q E →
      ∃ t, PSs (cxOf CX P w K mg base N qual (defScope st) f cdv A outer s H E) (defBody st) t ∧
        t { nx := fun _ H' => Q .non H', rt := Q } (start N vs) H) :
    FnG P w K mg base CX (k + 1) f fd ps sp := by
  obtain ⟨oc, od, kV, doc, pm, an, cdv, ct, osl, rfl, lk, hcd⟩ := F.ex
  refine ⟨len, fun A outer s H args us vs Q E gd room e0 bnd rel want => ?_⟩
  -- the def run for this one A, by the layer's own rule over a promise that knows it
  have lv := len _ _ _ _ want
  have kin : K.In s.heap := e0.mod.kin.keeps (fun b o e => (e0.bs b o e).1)
  have nl : s.heap.NoLimit := e0.mod.nolimit.keeps (fun b o e => (e0.bs b o e).1)
  have kinds : ∀ y ∈ ps.zip us, (defScope st).names.lookup y.1 = some .local ∨
      ((defScope st).names.lookup y.1 = some .cell ∧
        ((cellsFrom (s.heap.objs.size + 1) (defScope st).names []).lookup y.1).isSome = true) := by
    rintro ⟨n, v⟩ hy
    rcases S.par n (List.of_mem_zip hy).1 with q | q
    · exact Or.inl q
    · exact Or.inr ⟨q, PySem.W.cellsFrom_some _ _ _ (Or.inl q)⟩
  refine codeAny_call_function room.depth (kin _ _ lk) rfl S.co S.gen rfl
    (PySem.W.codeRec_of kin hcd) (bnd _ _ _ _ ?_)
  refine wpAny_newFunctionEnv_cells S.kind kinds fun env he s1 into => ?_
  subst he
  refine ⟨nl.keeps into.toInCall.keep, codeAny_func ?_⟩
  obtain ⟨t, walk, reads⟩ := hbody cdv A outer s H vs Q E gd (room.deeper _) want
  have I : Inv (cxOf CX P w K mg base N qual (defScope st) f cdv A outer s H E) [] (start N vs) H s1 :=
    inv_start S room.hd e0 lv rel into
  refine wpAny_mono (walk.run [] s1 (start N vs) H _ I reads) (fun fl s' last => ?_) fun _ _ h => h
  match fl, last with
  | .ret u, ⟨v, σ', H', J, rv, q⟩ => exact ⟨v, H', J.os, J.bare, J.base, J.hok, rv, q⟩
  | .next, ⟨σ', H', J, q⟩ => exact ⟨V.non, H', J.os, J.bare, J.base, J.hok, rfl, q⟩
  | .brk, ⟨_, _, _, q⟩ => exact q.elim
  | .cont, ⟨_, _, _, q⟩ => exact q.elim
end

section
variable {X : Cx} {CX : CXT} {k : Nat} {f : Addr} {fd : FuncData} {ps ks : List Str} {sp : Sp} {E : L2.St → XK} {x : Str} {p pos : Pos} {e : Expr}
  {es : List Expr} {t tk : TA} {kws : List Keyword} {g : List Value → List Value → List Value} {gV : List V → List V → List V}
theorem after_of {pins : List (Addr × Obj)} {σ : L2.St} {H : Hp} {s s' : Shared} {Q : VK} {r : Result} (hx : PassesAt CX X σ (E σ))
    (I : Inv X pins σ H s) (q : CR CX X.stack X.prog X.w H s Q (E σ) r s') :
    match r with
    | .error e => X.xe e s'
    | .ok (.ret u) => EP X pins σ Q u s'
    | .ok _ => False := by
  match r, q with
  | .error e, q => exact hx pins H s e s' I q
  | .ok (.ret u), q => exact I.after q
  | .ok .next, q => exact q
  | .ok .brk, q => exact q
  | .ok .cont, q => exact q
theorem run_g {pins : List (Addr × Obj)} {σ : L2.St} {H : Hp} {s : Shared} {Q : VK} {us : List Value} {vs : List V}
    (F : FnG X.prog X.w X.K X.mg X.base CX k f fd ps sp) (gd : X.A.guards = some []) (hr : Room k X.A) (hb : Binds X.K fd ps [])
    (hx : PassesAt CX X σ (E σ)) (I : Inv X pins σ H s) (r : Vals vs us) (h : sp vs H Q (E σ)) :
    wpAny (model X.prog X.w) X.A (call (.ref f) us) (EP X pins σ Q) X.xe s := by
  have hl : us.length = ps.length := r.length.symm.trans (F.len _ _ _ _ h)
  have hb2 := hb s us I.kIn (by rw [List.append_nil]; exact hl)
  rw [List.append_nil] at hb2
  refine wpAny_call (codeAny_mono (F.run X.A X.stack s H ⟨us, []⟩ us vs Q (E σ) gd hr I.env0 hb2 r h) fun r s' q => ?_)
  have q2 := after_of hx I q
  cases r with
  | error e => exact q2
  | ok fl =>
    cases fl with
    | ret u => exact q2
    | _ => exact q2.elim
theorem peg_call (F : FnG X.prog X.w X.K X.mg X.base CX k f fd ps sp) (gd : X.A.guards = some []) (hr : Room k X.A) (hg : Gl X x)
    (hm : X.mg x = some (.ref f)) (hk : PySem.W.keepIn X.K (.ref f) = true) (hb : Binds X.K fd ps []) (hx : ∀ σ, PassesAt CX X σ (E σ))
    (ha : PA X (e :: es) t) (hdb : (x == ("__debug__" : Str)) = false := by decide)
    (he : starEach (e :: es) X.env = (false, eval e X.env) :: starEach es X.env := by rfl)
    (hpl : (backTo pos (starEach es X.env)).any (·.1) = false := by rfl) :
    PE X (.Call (.Name x p) (e :: es) [] pos) (fun σ H Q => t σ H fun vs H1 => sp vs H1 Q (E σ)) := by
  refine ⟨fun pins s σ H Q I h => wpAny_Call_Name_kw (ld_glob I hg hm ?_ hdb)⟩
  refine PySem.W.callWith_K (h₀ := X.base) I.ok.mod.kin hk
    (thn (ha.run pos pins s σ H _ I h) fun us s1 ⟨vs, H1, I1, r, q⟩ => ⟨I1.kIn, run_g F gd hr hb (hx σ) I1 r q⟩) he hpl
theorem peg_call0 (F : FnG X.prog X.w X.K X.mg X.base CX k f fd ps sp) (gd : X.A.guards = some []) (hr : Room k X.A) (hg : Gl X x)
    (hm : X.mg x = some (.ref f)) (hk : PySem.W.keepIn X.K (.ref f) = true) (hb : Binds X.K fd ps []) (hx : ∀ σ, PassesAt CX X σ (E σ))
    (hdb : (x == ("__debug__" : Str)) = false := by decide) :
    PE X (.Call (.Name x p) [] [] pos) (fun σ H Q => sp [] H Q (E σ)) := by
  refine ⟨fun pins s σ H Q I h => wpAny_Call_Name_kw (ld_glob I hg hm ?_ hdb)⟩
  exact PySem.W.callWith_K0 I.kIn hk (run_g (us := []) F gd hr hb (hx σ) I .nil h)
theorem run_gk {pins : List (Addr × Obj)} {σ : L2.St} {H : Hp} {s : Shared} {Q : VK} {us ws : List Value} {vs zs : List V}
    (F : FnG X.prog X.w X.K X.mg X.base CX k f fd ps sp) (gd : X.A.guards = some []) (hr : Room k X.A)
    (hb : KBinds X.K fd ps ks g gV) (hx : PassesAt CX X σ (E σ)) (I : Inv X pins σ H s) (r : Vals vs us) (rz : Vals zs ws)
    (h : sp (gV vs zs) H Q (E σ)) : wpAny (model X.prog X.w) X.A (call (.ref f) us (ks.zip ws)) (EP X pins σ Q) X.xe s := by
  have r2 := hb.rel r rz
  have hl : (g us ws).length = ps.length := r2.length.symm.trans (F.len _ _ _ _ h)
  refine wpAny_call (codeAny_mono
    (F.run X.A X.stack s H ⟨us, ks.zip ws⟩ (g us ws) (gV vs zs) Q (E σ) gd hr I.env0 (hb.to s us ws I.kIn hl) r2 h) fun r s' q => ?_)
  have q2 := after_of hx I q
  cases r with
  | error e => exact q2
  | ok fl =>
    cases fl with
    | ret u => exact q2
    | _ => exact q2.elim
theorem peg_callK (F : FnG X.prog X.w X.K X.mg X.base CX k f fd ps sp) (gd : X.A.guards = some []) (hr : Room k X.A) (hg : Gl X x)
    (hm : X.mg x = some (.ref f)) (hk : PySem.W.keepIn X.K (.ref f) = true) (hb : KBinds X.K fd ps ks g gV) (hx : ∀ σ, PassesAt CX X σ (E σ))
    (ha : PA X (e :: es) t) (hkw : PK X kws tk)
    (hall : (backToKw pos (keywordEach kws X.env)).all (·.1.isSome) = true := by rfl)
    (hks : (backToKw pos (keywordEach kws X.env)).filterMap (·.1) = ks := by rfl) (hdb : (x == ("__debug__" : Str)) = false := by decide)
    (he : starEach (e :: es) X.env = (false, eval e X.env) :: starEach es X.env := by rfl)
    (hpl : ((backTo pos (starEach (e :: es) X.env)).any (·.1) || (backToKw pos (keywordEach kws X.env)).any (·.1.isNone)) = false := by rfl) :
    PE X (.Call (.Name x p) (e :: es) kws pos) (fun σ H Q => t σ H fun vs H1 => tk σ H1 fun zs H2 => sp (gV vs zs) H2 Q (E σ)) := by
  refine ⟨fun pins s σ H Q I h => wpAny_Call_Name_kw (ld_glob I hg hm ?_ hdb)⟩
  refine PySem.W.callWith_KW (h₀ := X.base) I.ok.mod.kin hk hall
    (thn (ha.run pos pins s σ H _ I h) fun us s1 ⟨vs, H1, I1, r, q⟩ => ?_) hpl he
  refine thn (hkw.run pos pins s1 σ H1 _ I1 q) fun ws s2 ⟨zs, H2, I2, rz, q2⟩ => ⟨I2.kIn, ?_⟩
  rw [hks]
  exact run_gk F gd hr hb (hx σ) I2 r rz q2
/-- all arguments by keywords, in the parameters' order -/
def KB0 (K : PySem.W.Frag) (fd : FuncData) (ps : List Str) : Prop := ∀ (s : Shared) (ws : List Value), K.In s.heap → ws.length = ps.length → BindsTo s fd ⟨[], ps.zip ws⟩ (ps.zip ws)
theorem kb0_of {K : PySem.W.Frag} {y qual : Str} {st : Stmt} {f : Addr} {fd : FuncData} {ps : List Str} (F : Fun K y qual st f fd)
    (h : ∀ (kV doc pm : Value) (an : Option Addr) (cdv ct : Value) (ws : List Value), ws.length = ps.length → bindArgs (PySem.W.fnOf y qual (defArgs st) (defBody st) (defScope st) .none kV doc pm an cdv ct) ⟨[], ps.zip ws⟩ = pure (ps.zip ws)) : KB0 K fd ps := by
  obtain ⟨oc, od, kV, doc, pm, an, cdv, ct, osl, rfl, lk, hcd⟩ := F.ex
  exact fun s ws _ hl => .of_eq (h kV doc pm an cdv ct ws hl)
theorem peg_callK0 (F : FnG X.prog X.w X.K X.mg X.base CX k f fd ps sp) (gd : X.A.guards = some []) (hr : Room k X.A) (hg : Gl X x)
    (hm : X.mg x = some (.ref f)) (hk : PySem.W.keepIn X.K (.ref f) = true) (hb : KB0 X.K fd ps) (hx : ∀ σ, PassesAt CX X σ (E σ))
    (hkw : PK X kws tk)
    (hall : (backToKw pos (keywordEach kws X.env)).all (·.1.isSome) = true := by rfl)
    (hks : (backToKw pos (keywordEach kws X.env)).filterMap (·.1) = ps := by rfl) (hdb : (x == ("__debug__" : Str)) = false := by decide)
    (hpl : ((backTo pos (starEach [] X.env)).any (·.1) || (backToKw pos (keywordEach kws X.env)).any (·.1.isNone)) = false := by rfl) :
    PE X (.Call (.Name x p) [] kws pos) (fun σ H Q => tk σ H fun zs H2 => sp zs H2 Q (E σ)) := by
  refine ⟨fun pins s σ H Q I h => wpAny_Call_Name_kw (ld_glob I hg hm ?_ hdb)⟩
  refine PySem.W.callWith_KW0 (h₀ := X.base) I.ok.mod.kin hk hall
    (thn (hkw.run pos pins s σ H _ I h) fun ws s2 ⟨zs, H2, I2, rz, q2⟩ => ⟨I2.kIn, ?_⟩) hpl
  rw [hks]
  have hl : ws.length = ps.length := rz.length.symm.trans (F.len _ _ _ _ q2)
  refine wpAny_call (codeAny_mono (F.run X.A X.stack s2 H2 ⟨[], ps.zip ws⟩ ws zs Q (E σ) gd hr I2.env0 (hb s2 ws I2.kIn hl) rz q2) fun r s' q => ?_)
  have q2 := after_of (hx σ) I2 q
  cases r with
  | error e => exact q2
  | ok fl =>
    cases fl with
    | ret u => exact q2
    | _ => exact q2.elim
end
end DL

set_option maxHeartbeats 1000000
/-! DL, part b: data, slots, the relation of a mirrored state to the abstract heap -/
namespace DL
open PySem PySem.Spec PyProof.Rows L2

abbrev Dt := PyData

/-! ### repr of data -/
def rRepr (K : PySem.W.Frag) : List V → Hp → VK → Prop := fun xs H Q => ∃ x d, xs = [x] ∧ Dp K H x d ∧ d.showable = true ∧
  SeqAt.shaped d = true ∧ d.shown.length ≤ sizeLine ∧ Q (.str d.shown) H
theorem call_repr_d {X : Cx} (gd : X.A.guards = some []) (hu : X.A.units + 65 < cLine) : CallR X (.builtin "repr") (rRepr X.K) := by
  intro pins s σ H xs us Q I r h
  obtain ⟨x, d, rfl, hd, hs, sh, hz, q⟩ := h
  cases r with
  | cons r0 rr =>
    cases rr
    rename_i u
    obtain ⟨as, rd⟩ := Dp.reads I d x u hd r0
    have hd2 : d.depth ≤ 64 := by
      have h2 : (d.canLay0 && decide (d.depth ≤ 64)) = true := sh
      rw [Bool.and_eq_true] at h2
      exact of_decide_eq_true h2.2
    have hnd : d.hasDict = false := by
      have h2 : (d.canLay0 && decide (d.depth ≤ 64)) = true := sh
      rw [Bool.and_eq_true] at h2
      exact PyData.hasDict_of_canLay d h2.1
    cases hd with
    | non => cases (show u = Value.none from r0); exact P.repr_of_none ⟨.str _, H, I.tok _, ⟨_, rfl⟩, q⟩
    | bl b => cases (show u = Value.bool b from r0); exact P.repr_of_bool ⟨.str _, H, I.tok _, ⟨_, rfl⟩, q⟩
    | int i =>
      obtain ⟨t, rfl⟩ := r0
      have hs2 : decide (i.natAbs.log2 < 1920) = true := by simpa [PyData.showable] using hs
      exact P.repr_of_int (of_decide_eq_true hs2) ⟨.str _, H, I.tok _, ⟨_, rfl⟩, q⟩
    | str y =>
      obtain ⟨t, rfl⟩ := r0
      exact P.repr_of_str ⟨.str _, H, I.tok _, ⟨_, rfl⟩, q⟩ (by simpa [PyData.shown] using hz)
    | lst hS hA =>
      cases (show u = Value.ref _ from r0)
      exact repr_of_reads' rd hs (PyData.noDict_hsm hnd) gd (by omega) (fun _ _ e => e)
        (fun h' u tk k => ⟨.str _, H, I.kept (t' := tk) k, ⟨_, rfl⟩, q⟩) hz
    | tup hS hA =>
      cases (show u = Value.ref _ from r0)
      exact repr_of_reads' rd hs (PyData.noDict_hsm hnd) gd (by omega) (fun _ _ e => e)
        (fun h' u tk k => ⟨.str _, H, I.kept (t' := tk) k, ⟨_, rfl⟩, q⟩) hz

/-! ### growth -/
/-- all that is tracked stays -/
def Gro (H H' : Hp) : Prop := ∀ b o, H b = some o → H' b = some o
theorem Gro.refl (H : Hp) : Gro H H := fun _ _ h => h
theorem Gro.trans {H H1 H2 : Hp} (a : Gro H H1) (b : Gro H1 H2) : Gro H H2 := fun x o h => b x o (a x o h)
theorem Gro.upd {H : Hp} {p : Addr} {o : HO} (h : H p = none) : Gro H (upd H p o) := fun b u e => by
  rw [upd_ne (ne_of_none e h)]
  exact e
theorem sqL_gro {K : PySem.W.Frag} {H H' : Hp} {a : Addr} {xs : List V} (g : Gro H H') (h : SqL K H a xs) : SqL K H' a xs := by
  rcases h with (h | ⟨o, h⟩) | h
  · exact .inl (.inl (g _ _ h))
  · exact .inl (.inr ⟨o, g _ _ h⟩)
  · exact .inr h
theorem sqT_gro {K : PySem.W.Frag} {H H' : Hp} {a : Addr} {xs : List V} (g : Gro H H') (h : SqT K H a xs) : SqT K H' a xs := by
  rcases h with (h | ⟨o, h⟩) | h
  · exact .inl (.inl (g _ _ h))
  · exact .inl (.inr ⟨o, g _ _ h⟩)
  · exact .inr h
/-! data as it lies: lists are tracked lists, tuples are read -/
mutual
inductive Dq (K : PySem.W.Frag) (H : Hp) : V → Dt → Prop where
  | non : Dq K H .non .none
  | bl (b : Bool) : Dq K H (.bl b) (.bool b)
  | int (i : Int) : Dq K H (.int i) (.int i)
  | str (x : Str) : Dq K H (.str x) (.str x)
  | lst {a : Addr} {xs : List V} {ds : List Dt} : H a = some (.lst xs) → DqAll K H xs ds → Dq K H (.ref a) (.list ds)
  | tup {a : Addr} {xs : List V} {ds : List Dt} : SqT K H a xs → DqAll K H xs ds → Dq K H (.ref a) (.tuple ds)
inductive DqAll (K : PySem.W.Frag) (H : Hp) : List V → List Dt → Prop where
  | nil : DqAll K H [] []
  | cons {v : V} {vs : List V} {d : Dt} {ds : List Dt} : Dq K H v d → DqAll K H vs ds → DqAll K H (v :: vs) (d :: ds)
end
mutual
theorem Dq.dp {K : PySem.W.Frag} {H : Hp} : ∀ {v : V} {d : Dt}, Dq K H v d → Dp K H v d
  | _, _, .non => .non
  | _, _, .bl b => .bl b
  | _, _, .int i => .int i
  | _, _, .str x => .str x
  | _, _, .lst h a => .lst (SqL.of h) (DqAll.dp a)
  | _, _, .tup h a => .tup h (DqAll.dp a)
theorem DqAll.dp {K : PySem.W.Frag} {H : Hp} : ∀ {vs : List V} {ds : List Dt}, DqAll K H vs ds → DpAll K H vs ds
  | _, _, .nil => .nil
  | _, _, .cons h a => .cons h.dp a.dp
end
mutual
theorem dq_gro {K : PySem.W.Frag} {H H' : Hp} (g : Gro H H') : ∀ {v : V} {d : Dt}, Dq K H v d → Dq K H' v d
  | _, _, .non => .non
  | _, _, .bl b => .bl b
  | _, _, .int i => .int i
  | _, _, .str x => .str x
  | _, _, .lst h a => .lst (g _ _ h) (dqA_gro g a)
  | _, _, .tup h a => .tup (sqT_gro g h) (dqA_gro g a)
theorem dqA_gro {K : PySem.W.Frag} {H H' : Hp} (g : Gro H H') : ∀ {vs : List V} {ds : List Dt}, DqAll K H vs ds → DqAll K H' vs ds
  | _, _, .nil => .nil
  | _, _, .cons h a => .cons (dq_gro g h) (dqA_gro g a)
end
theorem dqA_len {K : PySem.W.Frag} {H : Hp} : ∀ {vs : List V} {ds : List Dt}, DqAll K H vs ds → vs.length = ds.length
  | _, _, .nil => rfl
  | _, _, .cons _ a => congrArg (· + 1) (dqA_len a)
theorem dqA_get {K : PySem.W.Frag} {H : Hp} : ∀ {vs : List V} {ds : List Dt} {i : Nat} {d : Dt}, DqAll K H vs ds → ds[i]? = some d → ∃ v, vs[i]? = some v ∧ Dq K H v d
  | _, _, _, _, .nil, e => by simp at e
  | _, _, 0, _, .cons h _, e => by
    simp at e
    subst e
    exact ⟨_, rfl, h⟩
  | _, _, i + 1, _, .cons _ a, e => by
    obtain ⟨v, h1, h2⟩ := dqA_get a (show _ = _ from (by simpa using e))
    exact ⟨v, by simpa using h1, h2⟩
theorem dqA_getV {K : PySem.W.Frag} {H : Hp} : ∀ {vs : List V} {ds : List Dt} {i : Nat} {v : V}, DqAll K H vs ds → vs[i]? = some v → ∃ d, ds[i]? = some d ∧ Dq K H v d
  | _, _, _, _, .nil, e => by simp at e
  | _, _, 0, _, .cons h _, e => by
    simp at e
    subst e
    exact ⟨_, rfl, h⟩
  | _, _, i + 1, _, .cons _ a, e => by
    obtain ⟨v, h1, h2⟩ := dqA_getV a (show _ = _ from (by simpa using e))
    exact ⟨v, by simpa using h1, h2⟩
theorem dqA_app {K : PySem.W.Frag} {H : Hp} : ∀ {vs us : List V} {ds es : List Dt}, DqAll K H vs ds → DqAll K H us es → DqAll K H (vs ++ us) (ds ++ es)
  | _, _, _, _, .nil, b => b
  | _, _, _, _, .cons h a, b => .cons h (dqA_app a b)
theorem dqA_drop {K : PySem.W.Frag} {H : Hp} : ∀ {vs : List V} {ds : List Dt} (n : Nat), DqAll K H vs ds → DqAll K H (vs.drop n) (ds.drop n)
  | _, _, 0, a => a
  | _, _, _ + 1, .nil => .nil
  | _, _, n + 1, .cons _ a => dqA_drop n a
theorem dqA_take {K : PySem.W.Frag} {H : Hp} : ∀ {vs : List V} {ds : List Dt} (n : Nat), DqAll K H vs ds → DqAll K H (vs.take n) (ds.take n)
  | _, _, 0, _ => .nil
  | _, _, _ + 1, .nil => .nil
  | _, _, n + 1, .cons h a => .cons h (dqA_take n a)
theorem dqA_rev {K : PySem.W.Frag} {H : Hp} : ∀ {vs : List V} {ds : List Dt}, DqAll K H vs ds → DqAll K H vs.reverse ds.reverse
  | _, _, .nil => .nil
  | _, _, .cons h a => by
    rw [List.reverse_cons, List.reverse_cons]
    exact dqA_app (dqA_rev a) (.cons h .nil)
theorem dqA_ints {K : PySem.W.Frag} {H : Hp} : ∀ ns : List Int, DqAll K H (ns.map V.int) (ns.map PyData.int)
  | [] => .nil
  | n :: ns => .cons (.int n) (dqA_ints ns)
theorem dqA_bools {K : PySem.W.Frag} {H : Hp} : ∀ {vs : List V} {bs : List Bool}, DqAll K H vs (bs.map PyData.bool) → vs = bs.map V.bl
  | _, [], .nil => rfl
  | _, b :: bs, .cons h a => by
    cases h
    rw [dqA_bools a]
    rfl

/-! ### the mirrored state -/
/-- the feed of a law: its cells and three counters -/
structure Fd where
  cells : List Int
  spot : Int
  left : Int
  count : Int
/-- an error: its class, its fields -/
structure Er where
  cls : Str
  fields : List (Str × Dt)
/-- a slot of a mirrored frame: not assigned; data; a list of the frame's own that nobody else knows; the feed -/
inductive Sl where
  | un | dat (d : Dt) | own (ds : List Dt) | fd | exc (e : Er)
abbrev Rho := List Sl
inductive Res (α : Type) where
  | ok (a : α) (φ : Fd) | err (e : Er) (φ : Fd) | no
def Res.bind {α β : Type} (r : Res α) (f : α → Fd → Res β) : Res β :=
  match r with
  | .ok a φ => f a φ
  | .err e φ => .err e φ
  | .no => .no
def opt {α : Type} : Option α → Fd → Res α
  | some a, φ => .ok a φ
  | none, _ => .no
abbrev ME := Rho → Fd → Res Dt
abbrev MT := Rho → Fd → Res Bool
abbrev MA := Rho → Fd → Res (List Dt)
inductive Fl where
  | nx (ρ : Rho) | rt (d : Dt) | bk (ρ : Rho) | ct (ρ : Rho) | ex (e : Er) (ρ : Rho)
abbrev MS := Rho → Fd → Res Fl

/-- of a law: the written part, its feed's keys, how an error lies; of a def's run: the feed's address, the feed's address, that of its cells, its keys, the addresses hidden from data, the heap at the entry, how an error lies -/
structure Lw where
  K : PySem.W.Frag
  k1 : Str
  k2 : Str
  k3 : Str
  k4 : Str
  T : List (Addr × Str)
  cls : Str → Addr → Prop
structure Cn where
  L : Lw
  fa : Addr
  ca : Addr
  Z : Addr → Prop
  H0 : Hp
  xa : Option (Addr × Value × Option Addr)
abbrev Cn.K (c : Cn) : PySem.W.Frag := c.L.K
/-- the fields of an error as they lie -/
inductive Flds (K : PySem.W.Frag) (F : Hp) : List (Str × V) → List (Str × Dt) → Prop where
  | nil : Flds K F [] []
  | cons {f : Str} {v : V} {d : Dt} {vs : List (Str × V)} {ds : List (Str × Dt)} : Dq K F v d → Flds K F vs ds → Flds K F ((f, v) :: vs) ((f, d) :: ds)
/-- an error as it lies: its class, its dict -/
def Cn.er (c : Cn) (e : Er) (C : Value) (x : Option Addr) (F : Hp) : Prop := ∃ (a d : Addr) (fs : List (Str × V)), c.L.cls e.cls a ∧ C = .ref a ∧ x = some d ∧ F d = some (.xd fs) ∧ Flds c.K F fs e.fields
theorem flds_gro {K : PySem.W.Frag} {F F' : Hp} (g : Gro F F') : ∀ {vs : List (Str × V)} {ds : List (Str × Dt)}, Flds K F vs ds → Flds K F' vs ds
  | _, _, .nil => .nil
  | _, _, .cons h t => .cons (dq_gro g h) (flds_gro g t)
theorem er_gro {c : Cn} {e : Er} {C : Value} {x : Option Addr} {F F' : Hp} (g : Gro F F') (h : c.er e C x F) : c.er e C x F' := by
  obtain ⟨a, d, fs, h1, h2, h3, h4, h5⟩ := h
  exact ⟨a, d, fs, h1, h2, h3, g _ _ h4, flds_gro g h5⟩
/-- a heap without its tables of code objects -/
def Hn (H : Hp) : Hp := fun b => match H b with
  | some (.tbl _) => none
  | o => o
def Nt (o : HO) : Prop := ∀ ps, o ≠ .tbl ps
theorem nt_lst {xs : List V} : Nt (.lst xs) := fun _ z => by cases z
theorem nt_tup {xs : List V} : Nt (.tup xs) := fun _ z => by cases z
theorem nt_dK {xs : List (Key × V)} : Nt (.dK xs) := fun _ z => by cases z
theorem hn_ne {H : Hp} {p b : Addr} {o : HO} (h : b ≠ p) : Hn (upd H p o) b = Hn H b := by
  unfold Hn
  rw [upd_ne h]
theorem hn_of {H : Hp} {b : Addr} {o : HO} (h : H b = some o) (n : Nt o) : Hn H b = some o := by
  unfold Hn
  split
  · rename_i ps e
    rw [e] at h
    exact absurd (Option.some.inj h).symm (n ps)
  · exact h
theorem hn_some {H : Hp} {b : Addr} {o : HO} (h : Hn H b = some o) : H b = some o ∧ Nt o := by
  unfold Hn at h
  split at h
  · cases h
  · rename_i hne
    exact ⟨h, fun ps e => hne ps (by rw [h, e])⟩
theorem hn_none {H : Hp} {b : Addr} (h : H b = none) : Hn H b = none := by
  unfold Hn
  rw [h]
theorem hn_gro {H H' : Hp} (g : Gro H H') : Gro (Hn H) (Hn H') := fun b o h => let ⟨h1, h2⟩ := hn_some h; hn_of (g b o h1) h2
theorem hn_upd {H : Hp} {p : Addr} {o : HO} (n : Nt o) : Hn (upd H p o) = upd (Hn H) p o := by
  funext b
  by_cases h : b = p
  · rw [h, upd_same]
    exact hn_of upd_same n
  · rw [upd_ne h]
    unfold Hn
    rw [upd_ne h]
structure Cn.Ok (c : Cn) : Prop where
  zf : c.Z c.fa
  z0 : ∀ b, c.Z b → ∃ o, c.H0 b = some o
  cne : c.ca ≠ c.fa
  zc : ¬ c.Z c.ca
  c0 : ∃ o, c.H0 c.ca = some o
def fkv (c : Cn) (φ : Fd) : List (Key × V) := [(.inr c.L.k1, .ref c.ca), (.inr c.L.k2, .int φ.spot), (.inr c.L.k3, .int φ.left), (.inr c.L.k4, .int φ.count)]
/-- the heap as data may see it: without what is hidden and the lists of the frame's own -/
noncomputable def Fr (c : Cn) (O : Nat → Option Addr) (H : Hp) : Hp := open Classical in fun b => if c.Z b ∨ ∃ i, O i = some b then none else Hn H b
theorem fr_some {c : Cn} {O : Nat → Option Addr} {H : Hp} {b : Addr} {o : HO} (h : Fr c O H b = some o) : H b = some o ∧ ¬ c.Z b ∧ ∀ i, O i ≠ some b := by
  unfold Fr at h
  split at h
  · cases h
  · rename_i hn
    exact ⟨(hn_some h).1, fun z => hn (.inl z), fun i z => hn (.inr ⟨i, z⟩)⟩
theorem fr_nt {c : Cn} {O : Nat → Option Addr} {H : Hp} {b : Addr} {o : HO} (h : Fr c O H b = some o) : Nt o := by
  unfold Fr at h
  split at h
  · cases h
  · exact (hn_some h).2
theorem fr_of {c : Cn} {O : Nat → Option Addr} {H : Hp} {b : Addr} {o : HO} (h : H b = some o) (hz : ¬ c.Z b) (ho : ∀ i, O i ≠ some b) (hn : Nt o := by first | (intro _ z; cases z; done) | exact fr_nt (by assumption)) : Fr c O H b = some o := by
  unfold Fr
  rw [if_neg]
  · exact hn_of h hn
  · rintro (z | ⟨i, z⟩)
    · exact hz z
    · exact ho i z
/-- a slot as it lies -/
def SlotOk (c : Cn) (O : Nat → Option Addr) (H : Hp) (i : Nat) (v : Option (Option V)) : Sl → Prop
  | .un => True
  | .dat d => ∃ x, v = some (some x) ∧ Dq c.K (Fr c O H) x d
  | .own ds => ∃ a vs, O i = some a ∧ v = some (some (.ref a)) ∧ H a = some (.lst vs) ∧ DqAll c.K (Fr c O H) vs ds
  | .fd => v = some (some (.ref c.fa))
  | .exc e => ∃ a C d, c.xa = some (a, C, d) ∧ v = some (some (.ref a)) ∧ c.er e C d (Fr c O H)
structure Rel (c : Cn) (O : Nat → Option Addr) (H : Hp) (σ : L2.St) (ρ : Rho) (φ : Fd) : Prop where
  ok : c.Ok
  slot : ∀ i s, ρ[i]? = some s → SlotOk c O H i σ[i]? s
  len : σ.length = ρ.length
  inj : ∀ i j a, O i = some a → O j = some a → i = j
  fin : ∃ B, ∀ i, B ≤ i → O i = none
  own : ∀ i a, O i = some a → (∃ o, Hn H a = some o) ∧ c.H0 a = none
  feed : H c.fa = some (.dK (fkv c φ))
  cells : H c.ca = some (.lst (φ.cells.map V.int))
  entry : ∀ b o, c.H0 b = some o → b ≠ c.fa → Hn H b = some o
  tabs : LamX.Tabs c.L.T H
/-- an object that is no table and no code object is written -/
theorem tabs_upd {T : List (Addr × Str)} {H : Hp} {a : Addr} {o o' : HO} (t : LamX.Tabs T H) (h : H a = some o) (n : Nt o := by intro _ z; cases z) (nc : ∀ c q, o ≠ LamX.CodeO c q := by intro _ _ z; cases z) : LamX.Tabs T (upd H a o') := fun p hp => by
  obtain ⟨ps, h1, h2, h3⟩ := t p hp
  refine ⟨ps, ?_, h2, fun pos cv hc => ?_⟩
  · rw [upd_ne (fun z => by rw [z, h] at h1; exact n ps (Option.some.inj h1))]
    exact h1
  · obtain ⟨c, e1, e2⟩ := h3 pos cv hc
    refine ⟨c, e1, ?_⟩
    rw [upd_ne (fun z => by rw [z, h] at e2; exact nc _ _ (Option.some.inj e2))]
    exact e2
/-- what an expression may do to the heap: make new things, move the feed -/
def Step (c : Cn) (H H' : Hp) : Prop := (∀ b o, Hn H b = some o → b ≠ c.fa → Hn H' b = some o) ∧ (LamX.Tabs c.L.T H → LamX.Tabs c.L.T H')
theorem Step.at {c : Cn} {H H' : Hp} (s : Step c H H') {b : Addr} {o : HO} (h : H b = some o) (n : b ≠ c.fa) (hn : Nt o := by intro _ z; cases z) : H' b = some o := (hn_some (s.1 b o (hn_of h hn) n)).1
theorem Step.refl {c : Cn} (H : Hp) : Step c H H := ⟨fun _ _ h _ => h, id⟩
theorem Step.trans {c : Cn} {H H1 H2 : Hp} (a : Step c H H1) (b : Step c H1 H2) : Step c H H2 := ⟨fun x o h n => b.1 x o (a.1 x o h n) n, fun t => b.2 (a.2 t)⟩
theorem Step.of {c : Cn} {H H' : Hp} (g : Gro H H') : Step c H H' := ⟨fun b o h _ => hn_gro g b o h, fun t => t.ext g⟩
theorem Step.fr {c : Cn} {O : Nat → Option Addr} {H H' : Hp} (ok : c.Ok) (s : Step c H H') : Gro (Fr c O H) (Fr c O H') := fun b o h => by
  obtain ⟨h1, h2, h3⟩ := fr_some h
  exact fr_of (hn_some (s.1 b o (hn_of h1 (fr_nt h)) fun e => h2 (e ▸ ok.zf))).1 h2 h3
theorem Rel.fresh {c : Cn} {O : Nat → Option Addr} {H : Hp} {σ : L2.St} {ρ : Rho} {φ : Fd} (R : Rel c O H σ ρ φ) {p : Addr} (hp : H p = none) : ¬ c.Z p ∧ (∀ i, O i ≠ some p) ∧ p ≠ c.fa ∧ c.H0 p = none := by
  have pf : p ≠ c.fa := fun e => by rw [e, R.feed] at hp; cases hp
  refine ⟨fun z => ?_, fun i e => ?_, pf, ?_⟩
  · obtain ⟨o, h⟩ := R.ok.z0 p z
    rw [(hn_some (R.entry p o h pf)).1] at hp
    cases hp
  · obtain ⟨⟨o, h⟩, _⟩ := R.own i p e
    rw [(hn_some h).1] at hp
    cases hp
  · cases h : c.H0 p with
    | none => rfl
    | some o =>
      rw [(hn_some (R.entry p o h pf)).1] at hp
      cases hp
theorem SlotOk.gro {c : Cn} {O : Nat → Option Addr} {H H' : Hp} {i : Nat} {v : Option (Option V)} {s : Sl} (ok : c.Ok) (st : Step c H H') (hf : O i ≠ some c.fa) (h : SlotOk c O H i v s) : SlotOk c O H' i v s := by
  cases s with
  | un => trivial
  | dat d => obtain ⟨x, e, p⟩ := h; exact ⟨x, e, dq_gro (st.fr ok) p⟩
  | own ds => obtain ⟨a, vs, e1, e2, e3, p⟩ := h; exact ⟨a, vs, e1, e2, st.at e3 (fun e => hf (e ▸ e1)), dqA_gro (st.fr ok) p⟩
  | fd => exact h
  | exc e => obtain ⟨a, C, d, e1, e2, e3⟩ := h; exact ⟨a, C, d, e1, e2, er_gro (st.fr ok) e3⟩
theorem Rel.ownfa {c : Cn} {O : Nat → Option Addr} {H : Hp} {σ : L2.St} {ρ : Rho} {φ : Fd} (R : Rel c O H σ ρ φ) (i : Nat) : O i ≠ some c.fa := fun e => by
  obtain ⟨_, h⟩ := R.own i _ e
  obtain ⟨o, h2⟩ := R.ok.z0 _ R.ok.zf
  rw [h] at h2
  cases h2
theorem Rel.gro {c : Cn} {O : Nat → Option Addr} {H H' : Hp} {σ : L2.St} {ρ : Rho} {φ : Fd} (R : Rel c O H σ ρ φ) (g : Gro H H') : Rel c O H' σ ρ φ :=
  ⟨R.ok, fun i s e => (R.slot i s e).gro R.ok (.of g) (R.ownfa i), R.len, R.inj, R.fin, fun i a e => let ⟨⟨o, h⟩, n⟩ := R.own i a e; ⟨⟨o, hn_gro g a o h⟩, n⟩, g _ _ R.feed, g _ _ R.cells, fun b o h n => hn_gro g b o (R.entry b o h n), R.tabs.ext g⟩
/-- the feed moves, new things are made -/
theorem Rel.step {c : Cn} {O : Nat → Option Addr} {H H' : Hp} {σ : L2.St} {ρ : Rho} {φ φ' : Fd} (R : Rel c O H σ ρ φ) (s : Step c H H') (hf : H' c.fa = some (.dK (fkv c φ'))) (hc : H' c.ca = some (.lst (φ'.cells.map V.int))) : Rel c O H' σ ρ φ' :=
  ⟨R.ok, fun i sl e => (R.slot i sl e).gro R.ok s (R.ownfa i), R.len, R.inj, R.fin, fun i a e => let ⟨⟨o, h⟩, n⟩ := R.own i a e; ⟨⟨o, s.1 a o h (fun z => R.ownfa i (z ▸ e))⟩, n⟩, hf, hc, fun b o h n => s.1 b o (R.entry b o h n) n, s.2 R.tabs⟩

/-! ### what readings of mirrored code ask -/
/-- the wish about errors, at the slots -/
abbrev WX' := L2.WX
abbrev W0 : WX' := fun _ _ _ _ => False
def GE (c : Cn) (W : WX') (O : Nat → Option Addr) (σ : L2.St) (ρ : Rho) (H : Hp) (Q : VK) : Res Dt → Prop
  | .ok d φ' => ∀ v H', Rel c O H' σ ρ φ' → Step c H H' → Dq c.K (Fr c O H') v d → Q v H'
  | .err e φ' => ∀ C x H', Rel c O H' σ ρ φ' → Step c H H' → c.er e C x (Fr c O H') → W C x σ H'
  | .no => False
def tD (c : Cn) (W : WX') (f : ME) : TE := fun σ H Q => ∃ O ρ φ, Rel c O H σ ρ φ ∧ GE c W O σ ρ H Q (f ρ φ)
def GT (c : Cn) (W : WX') (O : Nat → Option Addr) (σ : L2.St) (ρ : Rho) (H : Hp) (Q : Bool → Hp → Prop) : Res Bool → Prop
  | .ok b φ' => ∀ H', Rel c O H' σ ρ φ' → Step c H H' → Q b H'
  | .err e φ' => ∀ C x H', Rel c O H' σ ρ φ' → Step c H H' → c.er e C x (Fr c O H') → W C x σ H'
  | .no => False
def tDT (c : Cn) (W : WX') (f : MT) : TT := fun σ H Q => ∃ O ρ φ, Rel c O H σ ρ φ ∧ GT c W O σ ρ H Q (f ρ φ)
def GA (c : Cn) (W : WX') (O : Nat → Option Addr) (σ : L2.St) (ρ : Rho) (H : Hp) (Q : List V → Hp → Prop) : Res (List Dt) → Prop
  | .ok ds φ' => ∀ vs H', Rel c O H' σ ρ φ' → Step c H H' → DqAll c.K (Fr c O H') vs ds → Q vs H'
  | .err e φ' => ∀ C x H', Rel c O H' σ ρ φ' → Step c H H' → c.er e C x (Fr c O H') → W C x σ H'
  | .no => False
def tDA (c : Cn) (W : WX') (f : MA) : TA := fun σ H Q => ∃ O ρ φ, Rel c O H σ ρ φ ∧ GA c W O σ ρ H Q (f ρ φ)
/-- F0: what data could see ahead of the statement -/
def GS (c : Cn) (W : WX') (F0 : Hp) (D : Ends) : Res Fl → Prop
  | .ok (.nx ρ') φ' => ∀ O' σ' H', Rel c O' H' σ' ρ' φ' → Gro F0 (Fr c O' H') → D.nx σ' H'
  | .ok (.bk ρ') φ' => ∀ O' σ' H', Rel c O' H' σ' ρ' φ' → Gro F0 (Fr c O' H') → D.bk σ' H'
  | .ok (.ct ρ') φ' => ∀ O' σ' H', Rel c O' H' σ' ρ' φ' → Gro F0 (Fr c O' H') → D.ct σ' H'
  | .ok (.rt d) φ' => ∀ O' σ' ρ' v H', Rel c O' H' σ' ρ' φ' → Dq c.K (Fr c O' H') v d → D.rt v H'
  | .ok (.ex e ρ') φ' => ∀ O' σ' C x H', Rel c O' H' σ' ρ' φ' → Gro F0 (Fr c O' H') → c.er e C x (Fr c O' H') → W C x σ' H'
  | .err _ _ => False
  | .no => False
def tS (c : Cn) (W : WX') (f : MS) : TS := fun D σ H => ∃ O ρ φ, Rel c O H σ ρ φ ∧ GS c W (Fr c O H) D (f ρ φ)
theorem GS.gro {c : Cn} {W : WX'} {F0 F1 : Hp} {D : Ends} {r : Res Fl} (g : Gro F0 F1) (h : GS c W F0 D r) : GS c W F1 D r := by
  cases r with
  | ok f φ =>
    cases f with
    | nx ρ' => exact fun O' σ' H' R g' => h O' σ' H' R (g.trans g')
    | bk ρ' => exact fun O' σ' H' R g' => h O' σ' H' R (g.trans g')
    | ct ρ' => exact fun O' σ' H' R g' => h O' σ' H' R (g.trans g')
    | rt d => exact h
    | ex e ρ' => exact fun O' σ' C x H' R g' => h O' σ' C x H' R (g.trans g')
  | err e φ => exact h
  | no => exact h
theorem GE.step {c : Cn} {W : WX'} {O : Nat → Option Addr} {σ : L2.St} {ρ : Rho} {H H1 : Hp} {Q : VK} {r : Res Dt} (s : Step c H H1) (h : GE c W O σ ρ H Q r) : GE c W O σ ρ H1 Q r := by
  cases r with
  | ok d φ => exact fun v H' R t p => h v H' R (s.trans t) p
  | err e φ => exact fun C x H' R t => h C x H' R (s.trans t)
  | no => exact h
theorem GT.step {c : Cn} {W : WX'} {O : Nat → Option Addr} {σ : L2.St} {ρ : Rho} {H H1 : Hp} {Q : Bool → Hp → Prop} {r : Res Bool} (s : Step c H H1) (h : GT c W O σ ρ H Q r) : GT c W O σ ρ H1 Q r := by
  cases r with
  | ok d φ => exact fun H' R t => h H' R (s.trans t)
  | err e φ => exact fun C x H' R t => h C x H' R (s.trans t)
  | no => exact h
theorem GA.step {c : Cn} {W : WX'} {O : Nat → Option Addr} {σ : L2.St} {ρ : Rho} {H H1 : Hp} {Q : List V → Hp → Prop} {r : Res (List Dt)} (s : Step c H H1) (h : GA c W O σ ρ H Q r) : GA c W O σ ρ H1 Q r := by
  cases r with
  | ok d φ => exact fun v H' R t p => h v H' R (s.trans t) p
  | err e φ => exact fun C x H' R t => h C x H' R (s.trans t)
  | no => exact h
section
variable {X : Cx}
theorem pe_imp {e : Expr} {t t' : TE} (h : PE X e t) (i : ∀ σ H Q, t' σ H Q → t σ H Q) : PE X e t' := ⟨fun pins s σ H Q I q => h.run pins s σ H Q I (i σ H Q q)⟩
theorem pt_imp {e : Expr} {t t' : TT} (h : PT X e t) (i : ∀ σ H Q, t' σ H Q → t σ H Q) : PT X e t' := ⟨fun pins s σ H Q I q => h.run pins s σ H Q I (i σ H Q q)⟩
theorem pw_imp {e : Expr} {t t' : TT} (h : PW X e t) (i : ∀ σ H Q, t' σ H Q → t σ H Q) : PW X e t' := ⟨fun wh pins s σ H Q I q => h.run wh pins s σ H Q I (i σ H Q q)⟩
theorem pa_imp {es : List Expr} {t t' : TA} (h : PA X es t) (i : ∀ σ H Q, t' σ H Q → t σ H Q) : PA X es t' := ⟨fun pos pins s σ H Q I q => h.run pos pins s σ H Q I (i σ H Q q)⟩
theorem pk_imp {es : List Keyword} {t t' : TA} (h : PK X es t) (i : ∀ σ H Q, t' σ H Q → t σ H Q) : PK X es t' := ⟨fun pos pins s σ H Q I q => h.run pos pins s σ H Q I (i σ H Q q)⟩
theorem ps_imp {st : Stmt} {t t' : TS} (h : PS X st t) (i : ∀ D σ H, t' D σ H → t D σ H) : PS X st t' := ⟨fun pins s σ H D I q => h.run pins s σ H D I (i D σ H q)⟩
theorem pss_imp {st : List Stmt} {t t' : TS} (h : PSs X st t) (i : ∀ D σ H, t' D σ H → t D σ H) : PSs X st t' := ⟨fun pins s σ H D I q => h.run pins s σ H D I (i D σ H q)⟩
end
end DL

set_option maxHeartbeats 1000000
/-! DL, part c: expressions -/
namespace DL
open PySem PySem.Spec PyProof.Rows L2

/-! ### names, constants -/
def mVar (i : Nat) : ME := fun ρ φ => match ρ[i]? with | some (.dat d) => .ok d φ | _ => .no
def mC (d : Dt) : ME := fun _ φ => .ok d φ
def m2 (g : Dt → Dt → Option Dt) (f1 f2 : ME) : ME := fun ρ φ => (f1 ρ φ).bind fun x φ1 => (f2 ρ φ1).bind fun y φ2 => opt (g x y) φ2
def m1 (g : Dt → Option Dt) (f1 : ME) : ME := fun ρ φ => (f1 ρ φ).bind fun x φ1 => opt (g x) φ1

/-- what an operation by values asks: the answer's data at a grown heap -/
def Ans (c : Cn) (O : Nat → Option Addr) (H : Hp) (Q : VK) (z : Dt) : Prop := ∀ v H', Gro H H' → Dq c.K (Fr c O H') v z → Q v H'
/-- new things are seen -/
def Nw (c : Cn) (O : Nat → Option Addr) (H : Hp) : Prop := ∀ p, H p = none → ¬ c.Z p ∧ ∀ i, O i ≠ some p
def OpD (c : Cn) (r : R2) (g : Dt → Dt → Option Dt) : Prop := ∀ (O : Nat → Option Addr) (H : Hp) (x y : V) (d1 d2 z : Dt) (Q : VK), Nw c O H →
  Dq c.K (Fr c O H) x d1 → Dq c.K (Fr c O H) y d2 → g d1 d2 = some z → Ans c O H Q z → r x y H Q
def CaD (c : Cn) (r : List V → Hp → VK → Prop) (g : List Dt → Option Dt) : Prop := ∀ (O : Nat → Option Addr) (H : Hp) (xs : List V) (ds : List Dt) (z : Dt) (Q : VK), Nw c O H →
  DqAll c.K (Fr c O H) xs ds → g ds = some z → Ans c O H Q z → r xs H Q
theorem Rel.nw {c : Cn} {O : Nat → Option Addr} {H : Hp} {σ : L2.St} {ρ : Rho} {φ : Fd} (R : Rel c O H σ ρ φ) : Nw c O H := fun p hp => let ⟨a, b, _, _⟩ := R.fresh hp; ⟨a, b⟩

section
variable {X : Cx} {c : Cn} {W : WX'} {pos : Pos} {a b : Expr} {f f1 f2 : ME}
theorem fr_gro {O : Nat → Option Addr} {H H' : Hp} (g : Gro H H') : Gro (Fr c O H) (Fr c O H') := fun b o h => by
  obtain ⟨h1, h2, h3⟩ := fr_some h
  exact fr_of (g b o h1) h2 h3
/-- a sequence of two: the first one's end -/
theorem ge_bind {O : Nat → Option Addr} {σ : L2.St} {ρ : Rho} {H : Hp} {Q : VK} {r : Res Dt} {k : Dt → Fd → Res Dt} {R : VK} (h : GE c W O σ ρ H Q (r.bind k))
    (go : ∀ d φ' v H', r = .ok d φ' → Rel c O H' σ ρ φ' → Step c H H' → Dq c.K (Fr c O H') v d → GE c W O σ ρ H' Q (k d φ') → R v H') : GE c W O σ ρ H R r := by
  cases r with
  | ok d φ' => exact fun v H' R' st p => go d φ' v H' rfl R' st p (GE.step st h)
  | err e φ' => exact h
  | no => exact h
theorem ge_opt {O : Nat → Option Addr} {σ : L2.St} {ρ : Rho} {φ : Fd} {H : Hp} {Q : VK} {o : Option Dt} (R : Rel c O H σ ρ φ) (h : GE c W O σ ρ H Q (opt o φ)) : ∃ z, o = some z ∧ Ans c O H Q z := by
  cases o with
  | none => exact h.elim
  | some z => exact ⟨z, rfl, fun v H' g p => h v H' (R.gro g) (.of g) p⟩
theorem ge_ok {O : Nat → Option Addr} {σ : L2.St} {ρ : Rho} {φ : Fd} {H : Hp} {Q : VK} {z : Dt} (R : Rel c O H σ ρ φ) (h : GE c W O σ ρ H Q (.ok z φ)) : Ans c O H Q z := fun v H' g p => h v H' (R.gro g) (.of g) p

theorem qe_var {i : Nat} {x : Str} (hN : X.N[i]? = some x := by rfl) (hv : Vis X.env.scope x := by first | exact Or.inl rfl | exact Or.inr (Or.inl rfl) | exact Or.inr (Or.inr rfl))
    (hd : (x == ("__debug__" : Str)) = false := by decide) (hcd : (x == ("__classdict__" : Str)) = false := by decide) : PE X (.Name x pos) (tD c W (mVar i)) :=
  pe_imp (pe_var hN hv hd hcd) fun σ H Q ⟨O, ρ, φ, R, h⟩ => by
    unfold mVar at h
    split at h
    · rename_i d e
      obtain ⟨x, e1, p⟩ := R.slot i _ e
      exact ⟨x, e1, h x H R (.refl H) p⟩
    · exact h.elim
theorem qe_c {e : Expr} {v : V} {d : Dt} (h : PE X e (tC v)) (hd : ∀ H, Dq c.K H v d) : PE X e (tD c W (mC d)) :=
  pe_imp h fun σ H Q ⟨O, ρ, φ, R, h⟩ => h v H R (.refl H) (hd _)
theorem qe_int {i : Int} {j : Nat} : PE X (.Constant (.int i) j pos) (tD c W (mC (.int i))) := qe_c pe_int fun _ => .int i
theorem qe_bl {i : Bool} {j : Nat} : PE X (.Constant (.bool i) j pos) (tD c W (mC (.bool i))) := qe_c pe_bl fun _ => .bl i
theorem qe_non {j : Nat} : PE X (.Constant .none j pos) (tD c W (mC .none)) := qe_c pe_non fun _ => .non
theorem qe_str {i : Str} {j : Nat} : PE X (.Constant (.str i) j pos) (tD c W (mC (.str i))) := qe_c pe_str fun _ => .str i
/-- a module's constant -/
theorem qe_glob {x : Str} {v : V} {u : Value} {d : Dt} (hg : Gl X x) (hm : X.mg x = some u) (r : RelV v u) (hd : ∀ H, Dq c.K H v d) (hdb : (x == ("__debug__" : Str)) = false := by decide) : PE X (.Name x pos) (tD c W (mC d)) :=
  qe_c (pe_glob hg hm r hdb) hd

/-! ### two-place operations -/
theorem t_op {r : R2} {g : Dt → Dt → Option Dt} (hr : OpD c r g) {σ : L2.St} {H : Hp} {Q : VK} (h : tD c W (m2 g f1 f2) σ H Q) : tOp r (tD c W f1) (tD c W f2) σ H Q := by
  obtain ⟨O, ρ, φ, R, h⟩ := h
  refine ⟨O, ρ, φ, R, ge_bind h fun x φ1 v H1 _ R1 s1 p1 h1 => ?_⟩
  refine ⟨O, ρ, φ1, R1, ge_bind h1 fun y φ2 u H2 _ R2 s2 p2 h2 => ?_⟩
  obtain ⟨z, e, k⟩ := ge_opt R2 h2
  exact hr O H2 v u x y z Q R2.nw (dq_gro (s2.fr R.ok) p1) p2 e k
theorem qe_bin {op : Operator} {r : R2} {g : Dt → Dt → Option Dt} (ho : OpR X (binaryOp op) r) (hr : OpD c r g) (ha : PE X a (tD c W f1)) (hb : PE X b (tD c W f2)) : PE X (.BinOp a op b pos) (tD c W (m2 g f1 f2)) :=
  pe_imp (pe_op ho ha hb) fun _ _ _ h => t_op hr h
theorem qe_cmp {op : CmpOp} {r : R2} {g : Dt → Dt → Option Dt} (ho : OpR X (compareOp op) r) (hr : OpD c r g) (ha : PE X a (tD c W f1)) (hb : PE X b (tD c W f2))
    (hm : behindInMarks op b = false := by first | exact nobehind _ (by decide) (by decide) | rfl) : PE X (.Compare a [op] [b] pos) (tD c W (m2 g f1 f2)) :=
  pe_imp (pe_cmpR ho ha hb hm) fun _ _ _ h => t_op hr h
theorem qe_ix {r : R2} {g : Dt → Dt → Option Dt} (ho : IxR X r) (hr : OpD c r g) (ha : PE X a (tD c W f1)) (hb : PE X b (tD c W f2)) (hs : PlainIx b := by exact fun _ _ => rfl) : PE X (.Subscript a b pos) (tD c W (m2 g f1 f2)) :=
  pe_imp (pe_ix ho ha hb hs) fun _ _ _ h => t_op hr h

/-! ### tests -/
def mtE (f : ME) (t : Dt → Option Bool) : MT := fun ρ φ => (f ρ φ).bind fun x φ1 => opt (t x) φ1
def mtNot (t : MT) : MT := fun ρ φ => (t ρ φ).bind fun x φ1 => .ok (!x) φ1
def mtAnd (t u : MT) : MT := fun ρ φ => (t ρ φ).bind fun x φ1 => if x = true then u ρ φ1 else .ok false φ1
def mtOr (t u : MT) : MT := fun ρ φ => (t ρ φ).bind fun x φ1 => if x = true then .ok true φ1 else u ρ φ1
/-- a value's truth (texts, as they go, are short) -/
def truth : Dt → Option Bool
  | .none => some false
  | .bool b => some b
  | .int i => some (i != 0)
  | .str x => if x.length ≤ sizeLine then some ((x.length : Int) != 0) else none
  | .list xs => some (!xs.isEmpty)
  | .tuple xs => some (!xs.isEmpty)
  | .dict _ => none
def asBool : Dt → Option Bool
  | .bool b => some b
  | _ => none
theorem isEmpty_eq {α β : Type} {xs : List α} {ys : List β} (h : xs.length = ys.length) : xs.isEmpty = ys.isEmpty := by
  cases xs <;> cases ys <;> simp_all
theorem truth_ok {K : PySem.W.Frag} {F H : Hp} {v : V} {d : Dt} {b : Bool} (g : Gro F H) (h : Dq K F v d) (e : truth d = some b) : TruV K v H b := by
  cases h with
  | non => exact (Option.some.inj e).symm
  | bl x => exact (Option.some.inj e).symm
  | int i => exact (Option.some.inj e).symm
  | str x =>
    have e' : (if x.length ≤ sizeLine then some ((x.length : Int) != 0) else none) = some b := e
    by_cases hz : x.length ≤ sizeLine
    · rw [if_pos hz] at e'
      exact ⟨hz, (Option.some.inj e').symm⟩
    · rw [if_neg hz] at e'
      cases e'
  | lst h1 h2 => exact Or.inl ⟨_, SqL.of (g _ _ h1), by rw [isEmpty_eq (dqA_len h2)]; exact (Option.some.inj e).symm⟩
  | tup h1 h2 => exact Or.inr (Or.inl ⟨_, sqT_gro g h1, by rw [isEmpty_eq (dqA_len h2)]; exact (Option.some.inj e).symm⟩)
theorem fr_in {O : Nat → Option Addr} {H : Hp} : Gro (Fr c O H) H := fun b o h => (fr_some h).1
theorem gt_bind {β : Type} {O : Nat → Option Addr} {σ : L2.St} {ρ : Rho} {H : Hp} {Q : Bool → Hp → Prop} {r : Res Dt} {k : Dt → Fd → Res Bool} {R : VK} (h : GT c W O σ ρ H Q (r.bind k))
    (go : ∀ d φ' v H', r = .ok d φ' → Rel c O H' σ ρ φ' → Step c H H' → Dq c.K (Fr c O H') v d → GT c W O σ ρ H' Q (k d φ') → R v H') : GE c W O σ ρ H R r := by
  cases r with
  | ok d φ' => exact fun v H' R' st p => go d φ' v H' rfl R' st p (GT.step st h)
  | err e φ' => exact h
  | no => exact h
theorem qt_val (hK : X.K = c.K) (ha : PE X a (tD c W f)) (he : ∀ whole, isTrue a X.env whole = (do let v ← whole; standAt a.pos; holding [v] (truthy v)) := by intro _; rfl) : PT X a (tDT c W (mtE f truth)) :=
  pt_imp (pt_truth ha he) fun σ H Q ⟨O, ρ, φ, R, h⟩ => ⟨O, ρ, φ, R, gt_bind (β := Unit) h fun d φ1 v H1 _ R1 s1 p h1 => by
    cases e : truth d with
    | none => rw [e] at h1; exact h1.elim
    | some k =>
      rw [e] at h1
      exact ⟨k, truth_ok fr_in (hK ▸ p) e, h1 H1 R1 (.refl _)⟩⟩
theorem qt_cmp {op : CmpOp} {r : R2} {g : Dt → Dt → Option Dt} (ho : OpR X (compareOp op) r) (hr : OpD c r g) (ha : PE X a (tD c W f1)) (hb : PE X b (tD c W f2))
    (hm : behindInMarks op b = false := by first | exact nobehind _ (by decide) (by decide) | rfl) : PT X (.Compare a [op] [b] pos) (tDT c W (mtE (m2 g f1 f2) asBool)) :=
  pt_imp (pt_cmpR ho ha hb hm) fun σ H Q ⟨O, ρ, φ, R, h⟩ => by
    refine t_op (c := c) (W := W) hr ⟨O, ρ, φ, R, gt_bind (β := Unit) h fun d φ1 v H1 _ R1 s1 p h1 => ?_⟩
    cases p with
    | bl k => exact ⟨k, rfl, h1 H1 R1 (.refl _)⟩
    | _ => exact h1.elim
variable {t u : MT} {rest : List Expr}
theorem gtt_bind {O : Nat → Option Addr} {σ : L2.St} {ρ : Rho} {H : Hp} {Q R : Bool → Hp → Prop} {r : Res Bool} {k : Bool → Fd → Res Bool} (h : GT c W O σ ρ H Q (r.bind k))
    (go : ∀ d φ' H', r = .ok d φ' → Rel c O H' σ ρ φ' → Step c H H' → GT c W O σ ρ H' Q (k d φ') → R d H') : GT c W O σ ρ H R r := by
  cases r with
  | ok d φ' => exact fun H' R' st => go d φ' H' rfl R' st (GT.step st h)
  | err e φ' => exact h
  | no => exact h
theorem qt_not (ha : PT X a (tDT c W t)) : PT X (.UnaryOp .Not a pos) (tDT c W (mtNot t)) :=
  pt_imp (pt_not ha) fun σ H Q ⟨O, ρ, φ, R, h⟩ => ⟨O, ρ, φ, R, gtt_bind h fun d φ1 H1 _ R1 s1 h1 => h1 H1 R1 (.refl _)⟩
theorem qw_and1 (ha : PT X a (tDT c W t)) : PW X (.BoolOp .And [a] pos) (tDT c W t) := pw_and1 ha
theorem qw_or1 (ha : PT X a (tDT c W t)) : PW X (.BoolOp .Or [a] pos) (tDT c W t) := pw_or1 ha
theorem qw_and (ha : PT X a (tDT c W t)) (hb : PW X (.BoolOp .And (b :: rest) pos) (tDT c W u)) : PW X (.BoolOp .And (a :: b :: rest) pos) (tDT c W (mtAnd t u)) :=
  pw_imp (pw_and ha hb) fun σ H Q ⟨O, ρ, φ, R, h⟩ => ⟨O, ρ, φ, R, gtt_bind h fun d φ1 H1 _ R1 s1 h1 => by
    cases d with
    | true => rw [if_pos rfl] at h1 ⊢; exact ⟨O, ρ, φ1, R1, h1⟩
    | false => rw [if_neg Bool.false_ne_true] at h1 ⊢; exact h1 H1 R1 (.refl _)⟩
theorem qw_or (ha : PT X a (tDT c W t)) (hb : PW X (.BoolOp .Or (b :: rest) pos) (tDT c W u)) : PW X (.BoolOp .Or (a :: b :: rest) pos) (tDT c W (mtOr t u)) :=
  pw_imp (pw_or ha hb) fun σ H Q ⟨O, ρ, φ, R, h⟩ => ⟨O, ρ, φ, R, gtt_bind h fun d φ1 H1 _ R1 s1 h1 => by
    cases d with
    | true => rw [if_pos rfl] at h1 ⊢; exact h1 H1 R1 (.refl _)
    | false => rw [if_neg Bool.false_ne_true] at h1 ⊢; exact ⟨O, ρ, φ1, R1, h1⟩⟩

/-! ### and, or, not as values; a if t else b -/
def mNot (f : ME) : ME := m1 (fun d => (truth d).map fun b => .bool (!b)) f
def mAnd (f1 f2 : ME) : ME := fun ρ φ => (f1 ρ φ).bind fun x φ1 => (opt (truth x) φ1).bind fun b φ2 => if b = true then f2 ρ φ2 else .ok x φ2
def mOr (f1 f2 : ME) : ME := fun ρ φ => (f1 ρ φ).bind fun x φ1 => (opt (truth x) φ1).bind fun b φ2 => if b = true then .ok x φ2 else f2 ρ φ2
def mIf (t : MT) (f1 f2 : ME) : ME := fun ρ φ => (t ρ φ).bind fun b φ1 => if b = true then f1 ρ φ1 else f2 ρ φ1
theorem qe_not (hK : X.K = c.K) (ha : PE X a (tD c W f)) : PE X (.UnaryOp .Not a pos) (tD c W (mNot f)) :=
  pe_imp (pe_notT ha) fun σ H Q ⟨O, ρ, φ, R, h⟩ => ⟨O, ρ, φ, R, ge_bind h fun d φ1 v H1 _ R1 s1 p h1 => by
    cases e : truth d with
    | none => simp only [e] at h1; exact h1.elim
    | some k =>
      simp only [e] at h1
      exact ⟨k, truth_ok fr_in (hK ▸ p) e, h1 _ H1 R1 (.refl _) (.bl _)⟩⟩
theorem qe_one {op : BoolOp} (ha : PE X a (tD c W f)) : PE X (.BoolOp op [a] pos) (tD c W f) := pe_one ha
theorem qe_and (hK : X.K = c.K) (ha : PE X a (tD c W f1)) (hb : PE X (.BoolOp .And (b :: rest) pos) (tD c W f2)) : PE X (.BoolOp .And (a :: b :: rest) pos) (tD c W (mAnd f1 f2)) :=
  pe_imp (pe_andT ha hb) fun σ H Q ⟨O, ρ, φ, R, h⟩ => ⟨O, ρ, φ, R, ge_bind h fun d φ1 v H1 _ R1 s1 p h1 => by
    cases e : truth d with
    | none => rw [e] at h1; exact h1.elim
    | some k =>
      rw [e] at h1
      refine ⟨k, truth_ok fr_in (hK ▸ p) e, ?_⟩
      cases k with
      | true => exact ⟨O, ρ, φ1, R1, h1⟩
      | false => exact h1 v H1 R1 (.refl _) p⟩
theorem qe_or (hK : X.K = c.K) (ha : PE X a (tD c W f1)) (hb : PE X (.BoolOp .Or (b :: rest) pos) (tD c W f2)) : PE X (.BoolOp .Or (a :: b :: rest) pos) (tD c W (mOr f1 f2)) :=
  pe_imp (pe_orT ha hb) fun σ H Q ⟨O, ρ, φ, R, h⟩ => ⟨O, ρ, φ, R, ge_bind h fun d φ1 v H1 _ R1 s1 p h1 => by
    cases e : truth d with
    | none => rw [e] at h1; exact h1.elim
    | some k =>
      rw [e] at h1
      refine ⟨k, truth_ok fr_in (hK ▸ p) e, ?_⟩
      cases k with
      | true => exact h1 v H1 R1 (.refl _) p
      | false => exact ⟨O, ρ, φ1, R1, h1⟩⟩
theorem getT_bind {O : Nat → Option Addr} {σ : L2.St} {ρ : Rho} {H : Hp} {Q : VK} {R : Bool → Hp → Prop} {r : Res Bool} {k : Bool → Fd → Res Dt} (h : GE c W O σ ρ H Q (r.bind k))
    (go : ∀ d φ' H', r = .ok d φ' → Rel c O H' σ ρ φ' → Step c H H' → GE c W O σ ρ H' Q (k d φ') → R d H') : GT c W O σ ρ H R r := by
  cases r with
  | ok d φ' => exact fun H' R' st => go d φ' H' rfl R' st (GE.step st h)
  | err e φ' => exact h
  | no => exact h
theorem qe_if {q : Expr} (hq : PT X q (tDT c W t)) (ha : PE X a (tD c W f1)) (hb : PE X b (tD c W f2)) : PE X (.IfExp q a b pos) (tD c W (mIf t f1 f2)) :=
  pe_imp (pe_ifExp hq ha hb) fun σ H Q ⟨O, ρ, φ, R, h⟩ => ⟨O, ρ, φ, R, getT_bind h fun d φ1 H1 _ R1 s1 h1 => by
    cases d with
    | true => exact ⟨O, ρ, φ1, R1, h1⟩
    | false => exact ⟨O, ρ, φ1, R1, h1⟩⟩

def negD : Dt → Option Dt
  | .int i => some (.int (-i))
  | _ => none
theorem qe_neg (ha : PE X a (tD c W f)) : PE X (.UnaryOp .USub a pos) (tD c W (m1 negD f)) :=
  pe_imp (pe_un un_neg ha) fun σ H Q ⟨O, ρ, φ, R, h⟩ => ⟨O, ρ, φ, R, ge_bind h fun d φ1 v H1 _ R1 s1 p h1 => by
    cases p with
    | int i => exact ⟨i, rfl, h1 _ H1 R1 (.refl _) (.int _)⟩
    | _ => exact h1.elim⟩

/-! ### argument lists, displays, calls of built-ins -/
def maNil : MA := fun _ φ => .ok [] φ
def maCons (f : ME) (g : MA) : MA := fun ρ φ => (f ρ φ).bind fun x φ1 => (g ρ φ1).bind fun xs φ2 => .ok (x :: xs) φ2
variable {fa : MA} {e : Expr} {es : List Expr}
theorem qa_nil : PA X [] (tDA c W maNil) := pa_imp pa_nil fun σ H Q ⟨O, ρ, φ, R, h⟩ => h [] H R (.refl _) .nil
theorem gae_bind {O : Nat → Option Addr} {σ : L2.St} {ρ : Rho} {H : Hp} {Q : List V → Hp → Prop} {r : Res Dt} {k : Dt → Fd → Res (List Dt)} {R : VK} (h : GA c W O σ ρ H Q (r.bind k))
    (go : ∀ d φ' v H', r = .ok d φ' → Rel c O H' σ ρ φ' → Step c H H' → Dq c.K (Fr c O H') v d → GA c W O σ ρ H' Q (k d φ') → R v H') : GE c W O σ ρ H R r := by
  cases r with
  | ok d φ' => exact fun v H' R' st p => go d φ' v H' rfl R' st p (GA.step st h)
  | err e φ' => exact h
  | no => exact h
theorem gaa_bind {O : Nat → Option Addr} {σ : L2.St} {ρ : Rho} {H : Hp} {Q R : List V → Hp → Prop} {r : Res (List Dt)} {k : List Dt → Fd → Res (List Dt)} (h : GA c W O σ ρ H Q (r.bind k))
    (go : ∀ d φ' v H', r = .ok d φ' → Rel c O H' σ ρ φ' → Step c H H' → DqAll c.K (Fr c O H') v d → GA c W O σ ρ H' Q (k d φ') → R v H') : GA c W O σ ρ H R r := by
  cases r with
  | ok d φ' => exact fun v H' R' st p => go d φ' v H' rfl R' st p (GA.step st h)
  | err e φ' => exact h
  | no => exact h
theorem gea_bind {O : Nat → Option Addr} {σ : L2.St} {ρ : Rho} {H : Hp} {Q : VK} {R : List V → Hp → Prop} {r : Res (List Dt)} {k : List Dt → Fd → Res Dt} (h : GE c W O σ ρ H Q (r.bind k))
    (go : ∀ d φ' v H', r = .ok d φ' → Rel c O H' σ ρ φ' → Step c H H' → DqAll c.K (Fr c O H') v d → GE c W O σ ρ H' Q (k d φ') → R v H') : GA c W O σ ρ H R r := by
  cases r with
  | ok d φ' => exact fun v H' R' st p => go d φ' v H' rfl R' st p (GE.step st h)
  | err e φ' => exact h
  | no => exact h
theorem ta_cons {σ : L2.St} {H : Hp} {Q : List V → Hp → Prop} (h : tDA c W (maCons f fa) σ H Q) : tCons (tD c W f) (tDA c W fa) σ H Q := by
  obtain ⟨O, ρ, φ, R, h⟩ := h
  refine ⟨O, ρ, φ, R, gae_bind h fun x φ1 v H1 _ R1 s1 p1 h1 => ?_⟩
  refine ⟨O, ρ, φ1, R1, gaa_bind h1 fun xs φ2 vs H2 _ R2 s2 p2 h2 => ?_⟩
  exact h2 (v :: vs) H2 R2 (.refl _) (.cons (dq_gro (s2.fr R.ok) p1) p2)
theorem qa_cons (ha : PE X e (tD c W f)) (hr : PA X es (tDA c W fa)) (hs : starEach (e :: es) X.env = (false, eval e X.env) :: starEach es X.env := by rfl) : PA X (e :: es) (tDA c W (maCons f fa)) :=
  pa_imp (pa_cons ha hr hs) fun _ _ _ h => ta_cons h
def mTup (g : MA) : ME := fun ρ φ => (g ρ φ).bind fun xs φ1 => if xs.length ≤ sizeLine then .ok (.tuple xs) φ1 else .no
def mLst (g : MA) : ME := fun ρ φ => (g ρ φ).bind fun xs φ1 => if xs.length ≤ sizeLine then .ok (.list xs) φ1 else .no
theorem new_tup {O : Nat → Option Addr} {H : Hp} {vs : List V} {ds : List Dt} {Q : VK} (n : Nw c O H) (p : DqAll c.K (Fr c O H) vs ds) (k : Ans c O H Q (.tuple ds)) {a : Addr} (ha : H a = none) : Q (.ref a) (upd H a (.tup vs)) :=
  k _ _ (Gro.upd ha) (.tup (.inl (.inl (fr_of upd_same (n a ha).1 (n a ha).2))) (dqA_gro (fr_gro (Gro.upd ha)) p))
theorem new_lst {O : Nat → Option Addr} {H : Hp} {vs : List V} {ds : List Dt} {Q : VK} (n : Nw c O H) (p : DqAll c.K (Fr c O H) vs ds) (k : Ans c O H Q (.list ds)) {a : Addr} (ha : H a = none) : Q (.ref a) (upd H a (.lst vs)) :=
  k _ _ (Gro.upd ha) (.lst (fr_of upd_same (n a ha).1 (n a ha).2) (dqA_gro (fr_gro (Gro.upd ha)) p))
theorem qe_tup {k : Nat} (h : PA X es (tDA c W fa)) : PE X (.Tuple es k pos) (tD c W (mTup fa)) :=
  pe_imp (pe_tup h) fun σ H Q ⟨O, ρ, φ, R, h⟩ => ⟨O, ρ, φ, R, gea_bind h fun ds φ1 vs H1 _ R1 s1 p h1 => by
    by_cases z : ds.length ≤ sizeLine
    · rw [if_pos z] at h1
      exact ⟨by rw [dqA_len p]; exact z, fun a ha => new_tup R1.nw p (ge_ok R1 h1) ha⟩
    · rw [if_neg z] at h1
      exact h1.elim⟩
theorem qe_lst (h : PA X es (tDA c W fa)) : PE X (.List es pos) (tD c W (mLst fa)) :=
  pe_imp (pe_lst h) fun σ H Q ⟨O, ρ, φ, R, h⟩ => ⟨O, ρ, φ, R, gea_bind h fun ds φ1 vs H1 _ R1 s1 p h1 => by
    by_cases z : ds.length ≤ sizeLine
    · rw [if_pos z] at h1
      exact ⟨by rw [dqA_len p]; exact z, fun a ha => new_lst R1.nw p (ge_ok R1 h1) ha⟩
    · rw [if_neg z] at h1
      exact h1.elim⟩
def mCa (g : List Dt → Option Dt) (f : MA) : ME := fun ρ φ => (f ρ φ).bind fun xs φ1 => opt (g xs) φ1
theorem t_ca {r : List V → Hp → VK → Prop} {g : List Dt → Option Dt} (hr : CaD c r g) {σ : L2.St} {H : Hp} {Q : VK} (h : tD c W (mCa g fa) σ H Q) : tCB r (tDA c W fa) σ H Q := by
  obtain ⟨O, ρ, φ, R, h⟩ := h
  refine ⟨O, ρ, φ, R, gea_bind h fun ds φ1 vs H1 _ R1 s1 p h1 => ?_⟩
  obtain ⟨z, e, k⟩ := ge_opt R1 h1
  exact hr O H1 vs ds z Q R1.nw p e k
theorem qe_callB {x : Str} {id : String} {r : List V → Hp → VK → Prop} {g : List Dt → Option Dt} {p : Pos} (hc : CallR X (.builtin id) r) (hr : CaD c r g) (hm : X.mg x = none) (ha : PA X (e :: es) (tDA c W fa)) (hg : Gl X x := by rfl) (hv : bootBuiltins x = some (.builtin id) := by decide +kernel)
    (hn : x ≠ "__name__" := by decide) (hdb : (x == ("__debug__" : Str)) = false := by decide)
    (he : starEach (e :: es) X.env = (false, eval e X.env) :: starEach es X.env := by rfl) (hpl : (backTo pos (starEach es X.env)).any (·.1) = false := by rfl) : PE X (.Call (.Name x p) (e :: es) [] pos) (tD c W (mCa g fa)) :=
  pe_imp (pe_callB hc hg hm hv ha hn hdb he hpl) fun _ _ _ h => t_ca hr h
theorem qe_callTy {x : Str} {T : String} {r : List V → Hp → VK → Prop} {g : List Dt → Option Dt} {p : Pos} (hc : CallR X (.type T) r) (hr : CaD c r g) (hm : X.mg x = none) (ha : PA X (e :: es) (tDA c W fa)) (hg : Gl X x := by rfl) (hv : bootBuiltins x = some (.type T) := by decide +kernel)
    (hn : x ≠ "__name__" := by decide) (hdb : (x == ("__debug__" : Str)) = false := by decide)
    (he : starEach (e :: es) X.env = (false, eval e X.env) :: starEach es X.env := by rfl) (hpl : (backTo pos (starEach es X.env)).any (·.1) = false := by rfl) : PE X (.Call (.Name x p) (e :: es) [] pos) (tD c W (mCa g fa)) :=
  pe_imp (pe_callTy hc hg hm hv ha hn hdb he hpl) fun _ _ _ h => t_ca hr h
end
end DL

set_option maxHeartbeats 1000000
/-! DL, part d: operations by values -/
namespace DL
open PySem PySem.Spec PyProof.Rows L2

theorem opr_or {X : Cx} {f : Value → Value → Sem Value} {r r' : R2} (h : OpR X f r) (h' : OpR X f r') : OpR X f (fun x y H Q => r x y H Q ∨ r' x y H Q) := by
  intro pins s σ H x y v u Q I rx ry q
  rcases q with q | q
  · exact h pins s σ H x y v u Q I rx ry q
  · exact h' pins s σ H x y v u Q I rx ry q
theorem slr_or {X : Cx} {r r' : V → Option Int → Option Int → Hp → VK → Prop} (h : SlR X r) (h' : SlR X r') : SlR X (fun x lo hi H Q => r x lo hi H Q ∨ r' x lo hi H Q) := by
  intro pins s σ H x v vl vu lo hi sl Q I rx hs pl pu q
  rcases q with q | q
  · exact h pins s σ H x v vl vu lo hi sl Q I rx hs pl pu q
  · exact h' pins s σ H x v vl vu lo hi sl Q I rx hs pl pu q

section
variable {X : Cx} {c : Cn}
theorem ans_here {O : Nat → Option Addr} {H : Hp} {Q : VK} {z : Dt} {v : V} (k : Ans c O H Q z) (p : Dq c.K (Fr c O H) v z) : Q v H := k v H (Gro.refl H) p

/-! ### arithmetic -/
def subD : Dt → Dt → Option Dt
  | .int i, .int j => some (.int (i - j))
  | _, _ => none
def fdivD : Dt → Dt → Option Dt
  | .int i, .int j => if 0 < j ∧ j < 1073741824 then some (.int (i / j)) else none
  | _, _ => none
def modD : Dt → Dt → Option Dt
  | .int i, .int j => if 0 < j then some (.int (i % j)) else none
  | _, _ => none
def powD : Dt → Dt → Option Dt
  | .int i, .int j => if 0 ≤ j ∧ j ≤ 1000000 ∧ i.natAbs < 2 ^ 64 then some (.int (i ^ j.toNat)) else none
  | _, _ => none
def mulD : Dt → Dt → Option Dt
  | .int i, .int j => if (-(2 ^ 64) < i ∧ i < 2 ^ 64) ∨ (-(2 ^ 64) < j ∧ j < 2 ^ 64) then some (.int (i * j)) else none
  | _, _ => none
def addD : Dt → Dt → Option Dt
  | .int i, .int j => some (.int (i + j))
  | .str x, .str y => if x.length + y.length ≤ sizeLine then some (.str (x ++ y)) else none
  | .tuple xs, .tuple ys => if xs.length + ys.length ≤ sizeLine then some (.tuple (xs ++ ys)) else none
  | .list xs, .list ys => if xs.length + ys.length ≤ sizeLine then some (.list (xs ++ ys)) else none
  | _, _ => none
theorem sub_d : OpD c (rI0 fun i j => .int (i - j)) subD := fun O H x y d1 d2 z Q _ h1 h2 e k => by
  cases h1 <;> cases h2 <;> first | cases e | skip
  exact ⟨_, _, rfl, rfl, ans_here k (.int _)⟩
theorem fdiv_d : OpD c (rI CDiv fun i j => .int (i / j)) fdivD := fun O H x y d1 d2 z Q _ h1 h2 e k => by
  cases h1 <;> cases h2 <;> first | cases e | skip
  rename_i i j
  have e' : (if 0 < j ∧ j < 1073741824 then some (PyData.int (i / j)) else none) = some z := e
  by_cases hc : 0 < j ∧ j < 1073741824
  · rw [if_pos hc] at e'
    cases e'
    exact ⟨_, _, rfl, rfl, hc, ans_here k (.int _)⟩
  · rw [if_neg hc] at e'
    cases e'
theorem mod_d : OpD c (rI (fun _ j => 0 < j) fun i j => .int (i % j)) modD := fun O H x y d1 d2 z Q _ h1 h2 e k => by
  cases h1 <;> cases h2 <;> first | cases e | skip
  rename_i i j
  have e' : (if 0 < j then some (PyData.int (i % j)) else none) = some z := e
  by_cases hc : 0 < j
  · rw [if_pos hc] at e'
    cases e'
    exact ⟨_, _, rfl, rfl, hc, ans_here k (.int _)⟩
  · rw [if_neg hc] at e'
    cases e'
theorem pow_d : OpD c (rI CPow fun i j => .int (i ^ j.toNat)) powD := fun O H x y d1 d2 z Q _ h1 h2 e k => by
  cases h1 <;> cases h2 <;> first | cases e | skip
  rename_i i j
  have e' : (if 0 ≤ j ∧ j ≤ 1000000 ∧ i.natAbs < 2 ^ 64 then some (PyData.int (i ^ j.toNat)) else none) = some z := e
  by_cases hc : 0 ≤ j ∧ j ≤ 1000000 ∧ i.natAbs < 2 ^ 64
  · rw [if_pos hc] at e'
    cases e'
    exact ⟨_, _, rfl, rfl, hc, ans_here k (.int _)⟩
  · rw [if_neg hc] at e'
    cases e'
theorem mul_d : OpD c (rI CMul fun i j => .int (i * j)) mulD := fun O H x y d1 d2 z Q _ h1 h2 e k => by
  cases h1 <;> cases h2 <;> first | cases e | skip
  rename_i i j
  have e' : (if (-(2 ^ 64) < i ∧ i < 2 ^ 64) ∨ (-(2 ^ 64) < j ∧ j < 2 ^ 64) then some (PyData.int (i * j)) else none) = some z := e
  by_cases hc : (-(2 ^ 64) < i ∧ i < 2 ^ 64) ∨ (-(2 ^ 64) < j ∧ j < 2 ^ 64)
  · rw [if_pos hc] at e'
    cases e'
    exact ⟨_, _, rfl, rfl, hc, ans_here k (.int _)⟩
  · rw [if_neg hc] at e'
    cases e'
def rAddS : R2 := fun x y H Q => ∃ i j, x = .str i ∧ y = .str j ∧ i.length + j.length ≤ sizeLine ∧ Q (.str (i ++ j)) H
def rAddD (K : PySem.W.Frag) : R2 := fun x y H Q => ((rI0 (fun i j => V.int (i + j)) x y H Q ∨ rAddS x y H Q) ∨ rCatA K x y H Q) ∨ rCat x y H Q
theorem op_addD : OpR X (binaryOp .Add) (rAddD X.K) := opr_or (opr_or (opr_or op_add op_add_str) op_catA) op_cat
theorem add_d {K : PySem.W.Frag} (hK : K = c.K) : OpD c (rAddD K) addD := fun O H x y d1 d2 z Q n h1 h2 e k => by
  subst hK
  cases h1 with
  | int i =>
    cases h2 <;> first | cases e | skip
    exact .inl (.inl (.inl ⟨_, _, rfl, rfl, ans_here k (.int _)⟩))
  | str x =>
    cases h2 <;> first | cases e | skip
    rename_i y
    have e' : (if x.length + y.length ≤ sizeLine then some (PyData.str (x ++ y)) else none) = some z := e
    by_cases hz : x.length + y.length ≤ sizeLine
    · rw [if_pos hz] at e'
      cases e'
      exact .inl (.inl (.inr ⟨_, _, rfl, rfl, hz, ans_here k (.str _)⟩))
    · rw [if_neg hz] at e'
      cases e'
  | @tup a xs ds g1 p1 =>
    cases h2 <;> first | cases e | skip
    rename_i b ys es g2 p2
    have e' : (if ds.length + es.length ≤ sizeLine then some (PyData.tuple (ds ++ es)) else none) = some z := e
    by_cases hz : ds.length + es.length ≤ sizeLine
    · rw [if_pos hz] at e'
      cases e'
      refine .inl (.inr ⟨_, _, _, _, rfl, rfl, sqT_gro fr_in g1, sqT_gro fr_in g2, by rw [dqA_len p1, dqA_len p2]; exact hz, fun h => ?_, fun h h' => ?_, fun h h' p hp => ?_⟩)
      · refine ans_here k ?_
        have : ds = [] := by
          have := dqA_len p1
          rw [h] at this
          exact List.eq_nil_of_length_eq_zero this.symm
        rw [this]
        exact .tup g2 p2
      · refine ans_here k ?_
        have : es = [] := by
          have := dqA_len p2
          rw [h'] at this
          exact List.eq_nil_of_length_eq_zero this.symm
        rw [this, List.append_nil]
        exact .tup g1 p1
      · exact new_tup n (dqA_app p1 p2) k hp
    · rw [if_neg hz] at e'
      cases e'
  | @lst a xs ds g1 p1 =>
    cases h2 <;> first | cases e | skip
    rename_i b ys es g2 p2
    have e' : (if ds.length + es.length ≤ sizeLine then some (PyData.list (ds ++ es)) else none) = some z := e
    by_cases hz : ds.length + es.length ≤ sizeLine
    · rw [if_pos hz] at e'
      cases e'
      exact .inr ⟨_, _, _, _, rfl, rfl, fr_in _ _ g1, fr_in _ _ g2, by rw [dqA_len p1, dqA_len p2]; exact hz, fun p hp => new_lst n (dqA_app p1 p2) k hp⟩
    · rw [if_neg hz] at e'
      cases e'
  | _ => cases h2 <;> cases e

/-! ### comparisons -/
def eqD : Dt → Dt → Option Dt := fun x y => if SeqAt.shaped x = true ∧ SeqAt.shaped y = true then some (.bool (PyData.eqv x y)) else none
def neD : Dt → Dt → Option Dt := fun x y => if SeqAt.shaped x = true ∧ SeqAt.shaped y = true then some (.bool (!PyData.eqv x y)) else none
theorem eq_d {K : PySem.W.Frag} (hK : K = c.K) : OpD c (rEqD K) eqD := fun O H x y d1 d2 z Q _ h1 h2 e k => by
  subst hK
  unfold eqD at e
  by_cases hs : SeqAt.shaped d1 = true ∧ SeqAt.shaped d2 = true
  · rw [if_pos hs] at e
    cases e
    exact ⟨d1, d2, (dq_gro fr_in h1).dp, (dq_gro fr_in h2).dp, hs.1, hs.2, ans_here k (.bl _)⟩
  · rw [if_neg hs] at e
    cases e
theorem ne_d {K : PySem.W.Frag} (hK : K = c.K) : OpD c (rNeD K) neD := fun O H x y d1 d2 z Q _ h1 h2 e k => by
  subst hK
  unfold neD at e
  by_cases hs : SeqAt.shaped d1 = true ∧ SeqAt.shaped d2 = true
  · rw [if_pos hs] at e
    cases e
    exact ⟨d1, d2, (dq_gro fr_in h1).dp, (dq_gro fr_in h2).dp, hs.1, hs.2, ans_here k (.bl _)⟩
  · rw [if_neg hs] at e
    cases e
def cmpD (p : Int → Int → Bool) : Dt → Dt → Option Dt
  | .int i, .int j => some (.bool (p i j))
  | _, _ => none
theorem cmp_d {p : Int → Int → Bool} : OpD c (rI0 fun i j => .bl (p i j)) (cmpD p) := fun O H x y d1 d2 z Q _ h1 h2 e k => by
  cases h1 <;> cases h2 <;> first | cases e | skip
  exact ⟨_, _, rfl, rfl, ans_here k (.bl _)⟩
abbrev ltD := cmpD fun i j => decide (i < j)
abbrev leD := cmpD fun i j => decide (i ≤ j)
abbrev gtD := cmpD fun i j => decide (j < i)
abbrev geD := cmpD fun i j => decide (j ≤ i)
/-- flat data -/
def flatD : Dt → Bool
  | .none => true
  | .bool _ => true
  | .int _ => true
  | .str _ => true
  | _ => false
theorem flat_ok {K : PySem.W.Frag} {H : Hp} {v : V} {d : Dt} (h : Dq K H v d) (e : flatD d = true) : flatV v = true := by
  cases h <;> first | rfl | cases e
theorem eqV_ok {K : PySem.W.Frag} {H : Hp} {v u : V} {d e : Dt} (h : Dq K H v d) (g : Dq K H u e) (f1 : flatD d = true) (f2 : flatD e = true) : eqV v u = PyData.eqv d e := by
  cases h <;> cases g <;> first | (cases f1; done) | (cases f2; done) | rfl | (simp only [eqV, PyData.eqv])
theorem flats_ok {K : PySem.W.Frag} {H : Hp} : ∀ {vs : List V} {ds : List Dt}, DqAll K H vs ds → ds.all flatD = true → vs.all flatV = true
  | _, _, .nil, _ => rfl
  | _, _, .cons h a, e => by
    rw [List.all_cons, Bool.and_eq_true] at e ⊢
    exact ⟨flat_ok h e.1, flats_ok a e.2⟩
theorem inV_ok {K : PySem.W.Frag} {H : Hp} {x : V} {dx : Dt} (hx : Dq K H x dx) (fx : flatD dx = true) : ∀ {vs : List V} {ds : List Dt}, DqAll K H vs ds → ds.all flatD = true → inV x vs = ds.any fun y => PyData.eqv y dx
  | _, _, .nil, _ => rfl
  | _, _, .cons h a, e => by
    rw [List.all_cons, Bool.and_eq_true] at e
    have ih := inV_ok hx fx a e.2
    unfold inV at ih ⊢
    rw [List.any_cons, List.any_cons, ih, eqV_ok h hx e.1 fx]
/-- x in y: y a text and x one sign or more; y flat items; y a list of data -/
def isInB (x y : Dt) : Option Bool :=
  match x, y with
  | .str a, .str b => some (!(Builtin.Str.occurrences b a 0 b.length 1).isEmpty)
  | x, .tuple ys => if flatD x = true ∧ ys.all flatD = true then some (ys.any fun y => PyData.eqv y x) else none
  | x, .list ys => if SeqAt.shaped x = true ∧ SeqAt.shaped (.list ys) = true then some (ys.any fun y => PyData.eqv y x) else none
  | _, _ => none
def inD (x y : Dt) : Option Dt := (isInB x y).map .bool
def ninD (x y : Dt) : Option Dt := (isInB x y).map fun b => .bool (!b)
def rInDt (K : PySem.W.Frag) : R2 := fun x y H Q => ((fun x y H Q => ∃ i j, x = V.str i ∧ y = V.str j ∧ Q (.bl (!(Builtin.Str.occurrences j i 0 j.length 1).isEmpty)) H) x y H Q ∨ rIn K false x y H Q) ∨ L2.rInD K x y H Q
def rNInDt (K : PySem.W.Frag) : R2 := fun x y H Q => ((fun x y H Q => ∃ i j, x = V.str i ∧ y = V.str j ∧ Q (.bl (!(!(Builtin.Str.occurrences j i 0 j.length 1).isEmpty))) H) x y H Q ∨ rIn K true x y H Q) ∨ L2.rNotInD K x y H Q
theorem op_inDt (hu : X.A.units + 65 < cLine) : OpR X (compareOp .In) (rInDt X.K) := opr_or (opr_or op_in_str op_in_seq) (op_inD hu)
theorem op_ninDt (hu : X.A.units + 65 < cLine) : OpR X (compareOp .NotIn) (rNInDt X.K) := opr_or (opr_or op_notin_str op_notIn_seq) (op_notInD hu)
theorem map_some_eq {α β : Type} {f : α → β} {o : Option α} {z : β} (h : o.map f = some z) : ∃ a, o = some a ∧ f a = z := by
  cases o with
  | none => cases h
  | some a => exact ⟨a, rfl, Option.some.inj h⟩
theorem in_d {K : PySem.W.Frag} (hK : K = c.K) : OpD c (rInDt K) inD := fun O H x y d1 d2 z Q _ h1 h2 e k => by
  subst hK
  obtain ⟨b, q, rfl⟩ := map_some_eq e
  clear e
  have kk := ans_here k (.bl b)
  cases h2 with
  | str j =>
    cases h1 with
    | str i => cases q; exact .inl (.inl ⟨i, j, rfl, rfl, kk⟩)
    | _ => cases q
  | @tup a xs ds g2 p2 =>
    have e' : (if flatD d1 = true ∧ ds.all flatD = true then some (ds.any fun y => PyData.eqv y d1) else none) = some b := by
      cases h1 <;> exact q
    by_cases hf : flatD d1 = true ∧ ds.all flatD = true
    · rw [if_pos hf] at e'
      cases e'
      exact .inl (.inr ⟨_, _, rfl, .inr (sqT_gro fr_in g2), flat_ok h1 hf.1, flats_ok p2 hf.2, by rw [if_neg Bool.false_ne_true, inV_ok h1 hf.1 p2 hf.2]; exact kk⟩)
    · rw [if_neg hf] at e'
      cases e'
  | @lst a xs ds g2 p2 =>
    have e' : (if SeqAt.shaped d1 = true ∧ SeqAt.shaped (.list ds) = true then some (ds.any fun y => PyData.eqv y d1) else none) = some b := by
      cases h1 <;> exact q
    by_cases hf : SeqAt.shaped d1 = true ∧ SeqAt.shaped (.list ds) = true
    · rw [if_pos hf] at e'
      cases e'
      exact .inr ⟨d1, ds, (dq_gro fr_in h1).dp, (dq_gro fr_in (.lst g2 p2)).dp, hf.1, hf.2, kk⟩
    · rw [if_neg hf] at e'
      cases e'
  | _ => cases h1 <;> cases q
theorem nin_d {K : PySem.W.Frag} (hK : K = c.K) : OpD c (rNInDt K) ninD := fun O H x y d1 d2 z Q _ h1 h2 e k => by
  subst hK
  obtain ⟨b, q, rfl⟩ := map_some_eq e
  clear e
  have kk := ans_here k (.bl (!b))
  cases h2 with
  | str j =>
    cases h1 with
    | str i => cases q; exact .inl (.inl ⟨i, j, rfl, rfl, kk⟩)
    | _ => cases q
  | @tup a xs ds g2 p2 =>
    have e' : (if flatD d1 = true ∧ ds.all flatD = true then some (ds.any fun y => PyData.eqv y d1) else none) = some b := by
      cases h1 <;> exact q
    by_cases hf : flatD d1 = true ∧ ds.all flatD = true
    · rw [if_pos hf] at e'
      cases e'
      exact .inl (.inr ⟨_, _, rfl, .inr (sqT_gro fr_in g2), flat_ok h1 hf.1, flats_ok p2 hf.2, by rw [if_pos rfl, inV_ok h1 hf.1 p2 hf.2]; exact kk⟩)
    · rw [if_neg hf] at e'
      cases e'
  | @lst a xs ds g2 p2 =>
    have e' : (if SeqAt.shaped d1 = true ∧ SeqAt.shaped (.list ds) = true then some (ds.any fun y => PyData.eqv y d1) else none) = some b := by
      cases h1 <;> exact q
    by_cases hf : SeqAt.shaped d1 = true ∧ SeqAt.shaped (.list ds) = true
    · rw [if_pos hf] at e'
      cases e'
      exact .inr ⟨d1, ds, (dq_gro fr_in h1).dp, (dq_gro fr_in (.lst g2 p2)).dp, hf.1, hf.2, kk⟩
    · rw [if_neg hf] at e'
      cases e'
  | _ => cases h1 <;> cases q

/-! ### subscripts -/
def ixD : Dt → Dt → Option Dt
  | .list xs, .int i => atI xs i
  | .tuple xs, .int i => atI xs i
  | .str x, .int i => if x.length ≤ sizeLine then (atI x.cps.toList i).map fun n => .str ⟨#[n]⟩ else none
  | _, _ => none
theorem atI_dq {K : PySem.W.Frag} {H : Hp} {vs : List V} {ds : List Dt} {i : Int} {d : Dt} (h : DqAll K H vs ds) (e : atI ds i = some d) : ∃ v, atI vs i = some v ∧ Dq K H v d := by
  unfold atI at e ⊢
  rw [dqA_len h]
  cases q : ixN ds.length i with
  | none => rw [q] at e; cases e
  | some j =>
    rw [q] at e
    exact dqA_get h e
theorem ix_d {K : PySem.W.Frag} (hK : K = c.K) : OpD c (rIx K) ixD := fun O H x y d1 d2 z Q _ h1 h2 e k => by
  subst hK
  cases h1 with
  | lst g1 p1 =>
    cases h2 with
    | int i =>
      obtain ⟨v, ev, pv⟩ := atI_dq p1 e
      exact .inl ⟨_, _, i, v, rfl, rfl, SqL.of (fr_in _ _ g1), ev, ans_here k pv⟩
    | _ => cases e
  | tup g1 p1 =>
    cases h2 with
    | int i =>
      obtain ⟨v, ev, pv⟩ := atI_dq p1 e
      exact .inr (.inl ⟨_, _, i, v, rfl, rfl, sqT_gro fr_in g1, ev, ans_here k pv⟩)
    | _ => cases e
  | str x =>
    cases h2 with
    | int i =>
      have e' : (if x.length ≤ sizeLine then (atI x.cps.toList i).map fun n => PyData.str ⟨#[n]⟩ else none) = some z := e
      by_cases hz : x.length ≤ sizeLine
      · rw [if_pos hz] at e'
        obtain ⟨n, en, rfl⟩ := map_some_eq e'
        exact .inr (.inr ⟨x, i, n, rfl, rfl, hz, en, ans_here k (.str _)⟩)
      · rw [if_neg hz] at e'
        cases e'
    | _ => cases e
  | _ => cases h2 <;> cases e

/-! ### slices -/
def cutL {α : Type} (xs : List α) (lo hi : Option Int) : List α := (xs.drop (HT.sIx xs.length 0 lo)).take (HT.sIx xs.length xs.length hi - HT.sIx xs.length 0 lo)
def slD (x : Dt) (lo hi : Option Int) : Option Dt :=
  match x with
  | .list xs => some (.list (cutL xs lo hi))
  | .tuple xs => some (.tuple (cutL xs lo hi))
  | .str z => if z.length ≤ sizeLine then some (.str (cutS z lo hi)) else none
  | _ => none
theorem cut_dq {K : PySem.W.Frag} {H : Hp} {vs : List V} {ds : List Dt} {lo hi : Option Int} (h : DqAll K H vs ds) : DqAll K H (cutV vs lo hi) (cutL ds lo hi) := by
  unfold cutV cutL
  rw [dqA_len h]
  exact dqA_take _ (dqA_drop _ h)
theorem cut_whole {α : Type} {xs : List α} {lo hi : Option Int} (h : HT.sIx xs.length 0 lo = 0 ∧ HT.sIx xs.length xs.length hi = xs.length) : cutL xs lo hi = xs := by
  unfold cutL
  rw [h.1, h.2, List.drop_zero, Nat.sub_zero, List.take_length]
def rSlD (K : PySem.W.Frag) : V → Option Int → Option Int → Hp → VK → Prop := fun x lo hi H Q => (rSlL K x lo hi H Q ∨ rSlA K x lo hi H Q) ∨ rSlS x lo hi H Q
theorem sl_D : SlR X (rSlD X.K) := slr_or (slr_or sl_list sl_tupA) sl_str
theorem sl_d {K : PySem.W.Frag} (hK : K = c.K) {O : Nat → Option Addr} {H : Hp} {x : V} {d z : Dt} {lo hi : Option Int} {Q : VK} (n : Nw c O H) (h : Dq c.K (Fr c O H) x d) (e : slD d lo hi = some z) (k : Ans c O H Q z) : rSlD K x lo hi H Q := by
  subst hK
  cases h with
  | lst g p =>
    cases e
    exact .inl (.inl ⟨_, _, rfl, SqL.of (fr_in _ _ g), fun q hq => new_lst n (cut_dq p) k hq⟩)
  | tup g p =>
    cases e
    refine .inl (.inr ⟨_, _, rfl, sqT_gro fr_in g, fun hw => ans_here k ?_, fun hw q hq => new_tup n (cut_dq p) k hq⟩)
    rw [dqA_len p] at hw
    rw [cut_whole hw]
    exact .tup g p
  | str y =>
    have e' : (if y.length ≤ sizeLine then some (PyData.str (cutS y lo hi)) else none) = some z := e
    by_cases hz : y.length ≤ sizeLine
    · rw [if_pos hz] at e'
      cases e'
      exact .inr ⟨y, rfl, hz, ans_here k (.str _)⟩
    · rw [if_neg hz] at e'
      cases e'
  | _ => cases e
/-- a part of a slice: left out, or an int -/
abbrev MO := Rho → Fd → Res (Option Int)
def moNone : MO := fun _ φ => .ok none φ
def asInt : Dt → Option Int
  | .int i => some i
  | _ => none
def moSome (f : ME) : MO := fun ρ φ => (f ρ φ).bind fun x φ1 => (opt (asInt x) φ1).bind fun i φ2 => .ok (some i) φ2
def mSl (f : ME) (l h : MO) : ME := fun ρ φ => (f ρ φ).bind fun x φ1 => (l ρ φ1).bind fun a φ2 => (h ρ φ2).bind fun b φ3 => opt (slD x a b) φ3
def GO (c : Cn) (W : WX') (O : Nat → Option Addr) (σ : L2.St) (ρ : Rho) (H : Hp) (Q : Option Int → Hp → Prop) : Res (Option Int) → Prop
  | .ok o φ' => ∀ H', Rel c O H' σ ρ φ' → Step c H H' → Q o H'
  | .err e φ' => ∀ C x H', Rel c O H' σ ρ φ' → Step c H H' → c.er e C x (Fr c O H') → W C x σ H'
  | .no => False
def tDO (c : Cn) (W : WX') (f : MO) : TO := fun σ H Q => ∃ O ρ φ, Rel c O H σ ρ φ ∧ GO c W O σ ρ H Q (f ρ φ)
variable {W : WX'} {pos : Pos} {a : Expr} {f : ME} {l h : MO}
theorem po_imp {e : Option Expr} {t t' : TO} (h : PO X e t) (i : ∀ σ H Q, t' σ H Q → t σ H Q) : PO X e t' := ⟨fun pins s σ H Q I q => h.run pins s σ H Q I (i σ H Q q)⟩
theorem qo_none : PO X none (tDO c W moNone) := po_imp po_none fun σ H Q ⟨O, ρ, φ, R, h⟩ => h H R (.refl _)
theorem goe_bind {O : Nat → Option Addr} {σ : L2.St} {ρ : Rho} {H : Hp} {Q : Option Int → Hp → Prop} {r : Res Dt} {k : Dt → Fd → Res (Option Int)} {R : VK} (h : GO c W O σ ρ H Q (r.bind k))
    (go : ∀ d φ' v H', r = .ok d φ' → Rel c O H' σ ρ φ' → Step c H H' → Dq c.K (Fr c O H') v d → GO c W O σ ρ H' Q (k d φ') → R v H') : GE c W O σ ρ H R r := by
  cases r with
  | ok d φ' => exact fun v H' R' st p => go d φ' v H' rfl R' st p (by
      have h' : GO c W O σ ρ H Q (k d φ') := h
      revert h'
      cases k d φ' with
      | ok o φ2 => exact fun h' H2 R2 s2 => h' H2 R2 (st.trans s2)
      | err e φ2 => exact fun h' C x H2 R2 s2 => h' C x H2 R2 (st.trans s2)
      | no => exact fun h' => h')
  | err e φ' => exact h
  | no => exact h
theorem geo_bind {O : Nat → Option Addr} {σ : L2.St} {ρ : Rho} {H : Hp} {Q : VK} {R : Option Int → Hp → Prop} {r : Res (Option Int)} {k : Option Int → Fd → Res Dt} (h : GE c W O σ ρ H Q (r.bind k))
    (go : ∀ d φ' H', r = .ok d φ' → Rel c O H' σ ρ φ' → Step c H H' → GE c W O σ ρ H' Q (k d φ') → R d H') : GO c W O σ ρ H R r := by
  cases r with
  | ok d φ' => exact fun H' R' st => go d φ' H' rfl R' st (GE.step st h)
  | err e φ' => exact h
  | no => exact h
theorem qo_some (ha : PE X a (tD c W f)) : PO X (some a) (tDO c W (moSome f)) :=
  po_imp (po_some ha) fun σ H Q ⟨O, ρ, φ, R, h⟩ => ⟨O, ρ, φ, R, goe_bind h fun d φ1 v H1 _ R1 s1 p h1 => by
    cases p with
    | int i => exact ⟨i, rfl, h1 H1 R1 (.refl _)⟩
    | _ => exact h1.elim⟩
theorem qe_sl {lo hi : Option Expr} {p2 : Pos} (hK : X.K = c.K) (ha : PE X a (tD c W f)) (hl : PO X lo (tDO c W l)) (hh : PO X hi (tDO c W h)) : PE X (.Subscript a (.Slice lo hi none p2) pos) (tD c W (mSl f l h)) :=
  pe_imp (pe_slice sl_D ha hl hh) fun σ H Q ⟨O, ρ, φ, R, h⟩ => ⟨O, ρ, φ, R, ge_bind h fun d φ1 v H1 _ R1 s1 p1 h1 =>
    ⟨O, ρ, φ1, R1, geo_bind h1 fun a φ2 H2 _ R2 s2 h2 => ⟨O, ρ, φ2, R2, geo_bind h2 fun b φ3 H3 _ R3 s3 h3 => by
      obtain ⟨z, e, k⟩ := ge_opt R3 h3
      exact sl_d hK R3.nw (dq_gro ((s2.trans s3).fr R.ok) p1) e k⟩⟩⟩

/-! ### built-ins -/
def lenD : List Dt → Option Dt
  | [.list xs] => some (.int xs.length)
  | [.tuple xs] => some (.int xs.length)
  | [.str x] => if x.length ≤ sizeLine then some (.int x.length) else none
  | _ => none
def rLen (K : PySem.W.Frag) : List V → Hp → VK → Prop := fun xs H Q => (fun xs H Q => ∃ p ys, xs = [V.ref p] ∧ (SqL K H p ys ∨ SqT K H p ys) ∧ Q (.int ys.length) H) xs H Q ∨ (fun xs H Q => ∃ z, xs = [V.str z] ∧ z.length ≤ sizeLine ∧ Q (.int z.length) H) xs H Q
theorem call_lenDt : CallR X (.builtin "len") (rLen X.K) := CallR.or call_len_seq call_len_str
theorem len_d {K : PySem.W.Frag} (hK : K = c.K) : CaD c (rLen K) lenD := fun O H xs ds z Q _ p e k => by
  subst hK
  cases p with
  | nil => cases e
  | cons h t =>
    cases t with
    | cons _ _ => cases h <;> cases e
    | nil =>
      cases h with
      | lst g a => cases e; exact .inl ⟨_, _, rfl, .inl (SqL.of (fr_in _ _ g)), by rw [dqA_len a]; exact ans_here k (.int _)⟩
      | tup g a => cases e; exact .inl ⟨_, _, rfl, .inr (sqT_gro fr_in g), by rw [dqA_len a]; exact ans_here k (.int _)⟩
      | str x =>
        have e' : (if x.length ≤ sizeLine then some (PyData.int x.length) else none) = some z := e
        by_cases hz : x.length ≤ sizeLine
        · rw [if_pos hz] at e'
          cases e'
          exact .inr ⟨x, rfl, hz, ans_here k (.int _)⟩
        · rw [if_neg hz] at e'
          cases e'
      | _ => cases e
def intD : List Dt → Option Dt
  | [.int i] => some (.int i)
  | [.bool b] => some (.int (if b then 1 else 0))
  | _ => none
theorem int_d : CaD c (fun xs H Q => (∃ i, xs = [.int i] ∧ Q (.int i) H) ∨ ∃ k, xs = [.bl k] ∧ Q (.int (if k then 1 else 0)) H) intD := fun O H xs ds z Q _ p e k => by
  cases p with
  | nil => cases e
  | cons h t =>
    cases t with
    | cons _ _ => cases h <;> cases e
    | nil =>
      cases h with
      | int i => cases e; exact .inl ⟨i, rfl, ans_here k (.int _)⟩
      | bl b => cases e; exact .inr ⟨b, rfl, ans_here k (.int _)⟩
      | _ => cases e
def strD : List Dt → Option Dt
  | [.int i] => if i.natAbs.log2 < 1920 then some (.str (toString i)) else none
  | _ => none
theorem str_d : CaD c (fun xs H Q => ∃ i, xs = [V.int i] ∧ i.natAbs.log2 < 1920 ∧ Q (.str (toString i)) H) strD := fun O H xs ds z Q _ p e k => by
  cases p with
  | nil => cases e
  | cons h t =>
    cases t with
    | cons _ _ => cases h <;> cases e
    | nil =>
      cases h with
      | int i =>
        have e' : (if i.natAbs.log2 < 1920 then some (PyData.str (toString i)) else none) = some z := e
        by_cases hz : i.natAbs.log2 < 1920
        · rw [if_pos hz] at e'
          cases e'
          exact ⟨i, rfl, hz, ans_here k (.str _)⟩
        · rw [if_neg hz] at e'
          cases e'
      | _ => cases e
def listD : List Dt → Option Dt
  | [.list xs] => some (.list xs)
  | [.tuple xs] => some (.list xs)
  | _ => none
theorem list_d {K : PySem.W.Frag} (hK : K = c.K) : CaD c (fun xs H Q => ∃ p ys, xs = [V.ref p] ∧ (SqL K H p ys ∨ SqT K H p ys) ∧ ∀ l, H l = none → Q (.ref l) (upd H l (.lst ys))) listD := fun O H xs ds z Q n p e k => by
  subst hK
  cases p with
  | nil => cases e
  | cons h t =>
    cases t with
    | cons _ _ => cases h <;> cases e
    | nil =>
      cases h with
      | lst g a => cases e; exact ⟨_, _, rfl, .inl (SqL.of (fr_in _ _ g)), fun q hq => new_lst n a k hq⟩
      | tup g a => cases e; exact ⟨_, _, rfl, .inr (sqT_gro fr_in g), fun q hq => new_lst n a k hq⟩
      | _ => cases e
def tupleD : List Dt → Option Dt
  | [.list xs] => some (.tuple xs)
  | [.tuple xs] => some (.tuple xs)
  | _ => none
theorem tuple_d {K : PySem.W.Frag} (hK : K = c.K) : CaD c (fun xs H Q => ∃ p ys, xs = [V.ref p] ∧ ((SqL K H p ys ∧ ∀ l, H l = none → Q (.ref l) (upd H l (.tup ys))) ∨ (SqT K H p ys ∧ Q (.ref p) H))) tupleD := fun O H xs ds z Q n p e k => by
  subst hK
  cases p with
  | nil => cases e
  | cons h t =>
    cases t with
    | cons _ _ => cases h <;> cases e
    | nil =>
      cases h with
      | lst g a => cases e; exact ⟨_, _, rfl, .inl ⟨SqL.of (fr_in _ _ g), fun q hq => new_tup n a k hq⟩⟩
      | tup g a => cases e; exact ⟨_, _, rfl, .inr ⟨sqT_gro fr_in g, ans_here k (.tup g a)⟩⟩
      | _ => cases e
def boolsOf : List Dt → Option (List Bool)
  | [] => some []
  | .bool b :: r => (boolsOf r).map (b :: ·)
  | _ :: _ => none
theorem boolsOf_eq : ∀ {ds : List Dt} {bs : List Bool}, boolsOf ds = some bs → ds = bs.map PyData.bool
  | [], bs, h => by cases h; rfl
  | d :: r, bs, h => by
    cases d with
    | bool b =>
      obtain ⟨a, e, rfl⟩ := map_some_eq (show (boolsOf r).map (b :: ·) = some bs from h)
      rw [boolsOf_eq e]
      rfl
    | _ => cases h
def allD : List Dt → Option Dt
  | [.list xs] => (boolsOf xs).map fun bs => .bool (bs.all id)
  | _ => none
theorem all_d {K : PySem.W.Frag} (hK : K = c.K) : CaD c (rAll K) allD := fun O H xs ds z Q n p e k => by
  subst hK
  cases p with
  | nil => cases e
  | cons h t =>
    cases t with
    | cons _ _ => cases h <;> cases e
    | nil =>
      cases h with
      | lst g a =>
        obtain ⟨bs, e1, rfl⟩ := map_some_eq e
        have e2 := boolsOf_eq e1
        subst e2
        have e3 := dqA_bools a
        subst e3
        exact ⟨_, bs, rfl, SqL.of (fr_in _ _ g), ans_here k (.bl _)⟩
      | _ => cases e
def reprD : List Dt → Option Dt
  | [d] => if d.showable = true ∧ SeqAt.shaped d = true ∧ d.shown.length ≤ sizeLine then some (.str d.shown) else none
  | _ => none
theorem repr_d {K : PySem.W.Frag} (hK : K = c.K) : CaD c (rRepr K) reprD := fun O H xs ds z Q n p e k => by
  subst hK
  cases p with
  | nil => cases e
  | @cons x _ d _ h t =>
    cases t with
    | cons _ _ => cases e
    | nil =>
      have e' : (if d.showable = true ∧ SeqAt.shaped d = true ∧ d.shown.length ≤ sizeLine then some (PyData.str d.shown) else none) = some z := e
      by_cases hz : d.showable = true ∧ SeqAt.shaped d = true ∧ d.shown.length ≤ sizeLine
      · rw [if_pos hz] at e'
        cases e'
        exact ⟨x, d, rfl, (dq_gro fr_in h).dp, hz.1, hz.2.1, hz.2.2, ans_here k (.str _)⟩
      · rw [if_neg hz] at e'
        cases e'

/-! ### isinstance of a built-in class -/
def tyN : Dt → String
  | .none => "NoneType"
  | .bool _ => "bool"
  | .int _ => "int"
  | .str _ => "str"
  | .list _ => "list"
  | .tuple _ => "tuple"
  | .dict _ => "dict"
theorem tyX_ok {K : PySem.W.Frag} {F H : Hp} {v : V} {d : Dt} (g : Gro F H) (h : Dq K F v d) : TyX K H v (.type (tyN d)) := by
  cases h with
  | non => exact .base .non
  | bl b => exact .base (.bl b)
  | int i => exact .base (.int i)
  | str x => exact .base (.str x)
  | lst h1 h2 => exact .base (.lst (g _ _ h1))
  | tup h1 h2 =>
    rcases h1 with (h1 | ⟨o, h1⟩) | ⟨o, its, n, hk, hc, _⟩
    · exact .base (.tup (g _ _ h1))
    · exact .fTuple (g _ _ h1)
    · exact .kTuple hk hc
/-- isinstance(x, T), T the built-in class of this name -/
def isiD (T : String) (d : Dt) : Bool := tyN d == T || (T == "int" && tyN d == "bool")
def IsiT (T : String) : Prop := ∀ t ∈ ["NoneType", "bool", "int", "str", "list", "tuple", "dict"], kitB t T = some (t == T || (T == "int" && t == "bool"))
theorem isi_tuple : IsiT "tuple" := by unfold IsiT; decide +kernel
theorem isi_list : IsiT "list" := by unfold IsiT; decide +kernel
theorem isi_str : IsiT "str" := by unfold IsiT; decide +kernel
theorem isi_int : IsiT "int" := by unfold IsiT; decide +kernel
theorem isi_bool : IsiT "bool" := by unfold IsiT; decide +kernel
theorem isi_dict : IsiT "dict" := by unfold IsiT; decide +kernel
theorem tyN_mem (d : Dt) : tyN d ∈ ["NoneType", "bool", "int", "str", "list", "tuple", "dict"] := by
  cases d <;> simp [tyN]
def mIsi (T : String) (f : ME) : ME := m1 (fun d => some (.bool (isiD T d))) f
theorem qe_isi {T : String} {x : Str} {e : Expr} {p p2 : Pos} (hT : IsiT T) (hm : X.mg "isinstance" = none) (hmx : X.mg x = none) (hK : X.K = c.K) (ha : PE X e (tD c W f)) (hgx : Gl X x := by rfl) (hbx : bootBuiltins x = some (.type T) := by decide +kernel)
    (hg : Gl X "isinstance" := by rfl) (hdb : (x == ("__debug__" : Str)) = false := by decide) (hnx : x ≠ "__name__" := by decide)
    (he : starEach [e, .Name x p2] X.env = (false, eval e X.env) :: starEach [.Name x p2] X.env := by rfl) (hpl : (backTo pos (starEach [.Name x p2] X.env)).any (·.1) = false := by rfl)
    (hs2 : starEach [.Name x p2] X.env = (false, eval (.Name x p2) X.env) :: starEach [] X.env := by rfl) :
    PE X (.Call (.Name "isinstance" p) [e, .Name x p2] [] pos) (tD c W (mIsi T f)) := by
  have h1 : PE X (.Name x p2) (tC (.ty T)) := pe_bltn hgx hmx hbx rfl hnx hdb
  refine pe_imp (pe_callB call_isi hg hm (by decide +kernel) (pa_cons ha (pa_cons h1 pa_nil hs2) he) (by decide) (by decide) he hpl) fun σ H Q ⟨O, ρ, φ, R, h⟩ => ?_
  refine ⟨O, ρ, φ, R, ge_bind h fun d φ1 v H1 _ R1 s1 p1 h1 => ?_⟩
  refine ⟨v, .ty T, .type (tyN d), .type T, isiD T d, rfl, .ty T, tyX_ok fr_in (hK ▸ p1), kit_ty (hT _ (tyN_mem d)), h1 _ H1 R1 (.refl _) (.bl _)⟩
end
end DL

set_option maxHeartbeats 1000000
/-! DL, part e: promises of defs and their calls, the feed, what is walked, comprehensions -/
namespace DL
open PySem PySem.Spec PyProof.Rows L2

/-! ### arguments -/
def ArgOk (c : Cn) (O : Nat → Option Addr) (H : Hp) (v : V) : Sl → Prop
  | .dat d => Dq c.K (Fr c O H) v d
  | .fd => v = .ref c.fa
  | _ => False
abbrev MG := Rho → Fd → Res (List Sl)
def GG (c : Cn) (W : WX') (O : Nat → Option Addr) (σ : L2.St) (ρ : Rho) (H : Hp) (Q : List V → Hp → Prop) : Res (List Sl) → Prop
  | .ok as φ' => ∀ vs H', Rel c O H' σ ρ φ' → Step c H H' → Paired (ArgOk c O H') vs as → Q vs H'
  | .err e φ' => ∀ C x H', Rel c O H' σ ρ φ' → Step c H H' → c.er e C x (Fr c O H') → W C x σ H'
  | .no => False
def tDG (c : Cn) (W : WX') (f : MG) : TA := fun σ H Q => ∃ O ρ φ, Rel c O H σ ρ φ ∧ GG c W O σ ρ H Q (f ρ φ)
theorem GG.step {c : Cn} {W : WX'} {O : Nat → Option Addr} {σ : L2.St} {ρ : Rho} {H H1 : Hp} {Q : List V → Hp → Prop} {r : Res (List Sl)} (s : Step c H H1) (h : GG c W O σ ρ H Q r) : GG c W O σ ρ H1 Q r := by
  cases r with
  | ok d φ => exact fun v H' R t p => h v H' R (s.trans t) p
  | err e φ => exact fun C x H' R t => h C x H' R (s.trans t)
  | no => exact h
theorem ArgOk.gro {c : Cn} {O : Nat → Option Addr} {H H' : Hp} {v : V} {s : Sl} (g : Gro (Fr c O H) (Fr c O H')) (h : ArgOk c O H v s) : ArgOk c O H' v s := by
  cases s with
  | dat d => exact dq_gro g h
  | fd => exact h
  | _ => exact h.elim
def mgNil : MG := fun _ φ => .ok [] φ
def mgD (f : ME) (g : MG) : MG := fun ρ φ => (f ρ φ).bind fun x φ1 => (g ρ φ1).bind fun xs φ2 => .ok (.dat x :: xs) φ2
def mgF (i : Nat) (g : MG) : MG := fun ρ φ => match ρ[i]? with | some .fd => (g ρ φ).bind fun xs φ2 => .ok (.fd :: xs) φ2 | _ => .no

section
variable {X : Cx} {c : Cn} {W : WX'} {pos : Pos} {a b e : Expr} {es : List Expr} {f f1 f2 : ME} {g : MG}
theorem gge_bind {O : Nat → Option Addr} {σ : L2.St} {ρ : Rho} {H : Hp} {Q : List V → Hp → Prop} {r : Res Dt} {k : Dt → Fd → Res (List Sl)} {R : VK} (h : GG c W O σ ρ H Q (r.bind k))
    (go : ∀ d φ' v H', r = .ok d φ' → Rel c O H' σ ρ φ' → Step c H H' → Dq c.K (Fr c O H') v d → GG c W O σ ρ H' Q (k d φ') → R v H') : GE c W O σ ρ H R r := by
  cases r with
  | ok d φ' => exact fun v H' R' st p => go d φ' v H' rfl R' st p (GG.step st h)
  | err e φ' => exact h
  | no => exact h
theorem ggg_bind {O : Nat → Option Addr} {σ : L2.St} {ρ : Rho} {H : Hp} {Q R : List V → Hp → Prop} {r : Res (List Sl)} {k : List Sl → Fd → Res (List Sl)} (h : GG c W O σ ρ H Q (r.bind k))
    (go : ∀ d φ' v H', r = .ok d φ' → Rel c O H' σ ρ φ' → Step c H H' → Paired (ArgOk c O H') v d → GG c W O σ ρ H' Q (k d φ') → R v H') : GG c W O σ ρ H R r := by
  cases r with
  | ok d φ' => exact fun v H' R' st p => go d φ' v H' rfl R' st p (GG.step st h)
  | err e φ' => exact h
  | no => exact h
theorem geg_bind {O : Nat → Option Addr} {σ : L2.St} {ρ : Rho} {H : Hp} {Q : VK} {R : List V → Hp → Prop} {r : Res (List Sl)} {k : List Sl → Fd → Res Dt} (h : GE c W O σ ρ H Q (r.bind k))
    (go : ∀ d φ' v H', r = .ok d φ' → Rel c O H' σ ρ φ' → Step c H H' → Paired (ArgOk c O H') v d → GE c W O σ ρ H' Q (k d φ') → R v H') : GG c W O σ ρ H R r := by
  cases r with
  | ok d φ' => exact fun v H' R' st p => go d φ' v H' rfl R' st p (GE.step st h)
  | err e φ' => exact h
  | no => exact h
theorem qg_nil : PA X [] (tDG c W mgNil) := pa_imp pa_nil fun σ H Q ⟨O, ρ, φ, R, h⟩ => h [] H R (.refl _) .nil
theorem qg_d (ha : PE X e (tD c W f)) (hr : PA X es (tDG c W g)) (hs : starEach (e :: es) X.env = (false, eval e X.env) :: starEach es X.env := by rfl) : PA X (e :: es) (tDG c W (mgD f g)) :=
  pa_imp (pa_cons ha hr hs) fun σ H Q ⟨O, ρ, φ, R, h⟩ => ⟨O, ρ, φ, R, gge_bind h fun x φ1 v H1 _ R1 s1 p1 h1 =>
    ⟨O, ρ, φ1, R1, ggg_bind h1 fun xs φ2 vs H2 _ R2 s2 p2 h2 => h2 (v :: vs) H2 R2 (.refl _) (.cons (dq_gro (s2.fr R.ok) p1) p2)⟩⟩
theorem qg_f {i : Nat} {x : Str} (hr : PA X es (tDG c W g)) (hN : X.N[i]? = some x := by rfl) (hv : Vis X.env.scope x := by first | exact Or.inl rfl | exact Or.inr (Or.inl rfl) | exact Or.inr (Or.inr rfl))
    (hd : (x == ("__debug__" : Str)) = false := by decide) (hcd : (x == ("__classdict__" : Str)) = false := by decide) (hs : starEach (.Name x pos :: es) X.env = (false, eval (.Name x pos) X.env) :: starEach es X.env := by rfl) : PA X (.Name x pos :: es) (tDG c W (mgF i g)) :=
  pa_imp (pa_cons (pe_var hN hv hd hcd) hr hs) fun σ H Q ⟨O, ρ, φ, R, h⟩ => by
    unfold mgF at h
    split at h
    · rename_i e
      exact ⟨_, R.slot i _ e, O, ρ, φ, R, ggg_bind h fun xs φ2 vs H2 _ R2 s2 p2 h2 => h2 (_ :: vs) H2 R2 (.refl _) (.cons rfl p2)⟩
    · exact h.elim
/-- the arguments by keywords -/
theorem qk_nil : PK X [] (tDG c W mgNil) := pk_imp pk_nil fun σ H Q ⟨O, ρ, φ, R, h⟩ => h [] H R (.refl _) .nil
theorem qk_d {kws : List Keyword} {nm : Option Str} {kpos : Pos} (ha : PE X e (tD c W f)) (hr : PK X kws (tDG c W g)) : PK X (⟨nm, e, kpos⟩ :: kws) (tDG c W (mgD f g)) :=
  pk_imp (pk_cons ha hr) fun σ H Q ⟨O, ρ, φ, R, h⟩ => ⟨O, ρ, φ, R, gge_bind h fun x φ1 v H1 _ R1 s1 p1 h1 =>
    ⟨O, ρ, φ1, R1, ggg_bind h1 fun xs φ2 vs H2 _ R2 s2 p2 h2 => h2 (v :: vs) H2 R2 (.refl _) (.cons (dq_gro (s2.fr R.ok) p1) p2)⟩⟩

/-! ### a def's promise: it hands back what its mirror says -/
abbrev MF := List Sl → Fd → Res Dt
def nO : Nat → Option Addr := fun _ => none
def GF (c : Cn) (H : Hp) (Q : VK) (E : XK) : Res Dt → Prop
  | .ok d φ' => ∀ v H', Step c H H' → H' c.fa = some (.dK (fkv c φ')) → H' c.ca = some (.lst (φ'.cells.map V.int)) → Dq c.K (Fr c nO H') v d → Q v H'
  | .err e φ' => ∀ C x H', Step c H H' → H' c.fa = some (.dK (fkv c φ')) → H' c.ca = some (.lst (φ'.cells.map V.int)) → c.er e C x (Fr c nO H') → E C x H'
  | .no => False
def spD (L : Lw) (n : Nat) (m : MF) : Sp := fun vs H Q E => ∃ c φ as, c.L = L ∧ c.Ok ∧ c.H0 = Hn H ∧ LamX.Tabs c.L.T H ∧ H c.fa = some (.dK (fkv c φ)) ∧ H c.ca = some (.lst (φ.cells.map V.int)) ∧ vs.length = n ∧
  Paired (ArgOk c nO H) vs as ∧ GF c H Q E (m as φ)
theorem spD_len {L : Lw} {n : Nat} {m : MF} : ∀ vs H Q E, spD L n m vs H Q E → vs.length = n := fun _ _ _ _ ⟨_, _, _, _, _, _, _, _, _, h, _⟩ => h
/-- a body, run from its arguments -/
def mFn (N : Nat) (body : MS) : MF := fun as φ => match body (as ++ List.replicate (N - as.length) .un) φ with
  | .ok (.rt d) φ' => .ok d φ'
  | .ok (.nx _) φ' => .ok .none φ'
  | .ok (.ex e _) φ' => .err e φ'
  | _ => .no
theorem start_rel {c : Cn} {H : Hp} {φ : Fd} {N : List Str} {vs : List V} {as : List Sl} (ok : c.Ok) (h0 : c.H0 = Hn H) (tb : LamX.Tabs c.L.T H) (hf : H c.fa = some (.dK (fkv c φ))) (hc : H c.ca = some (.lst (φ.cells.map V.int)))
    (p : Paired (ArgOk c nO H) vs as) (hl : vs.length ≤ N.length) : Rel c nO H (L2.start N vs) (as ++ List.replicate (N.length - as.length) .un) φ := by
  have pl : vs.length = as.length := Paired.length p
  refine ⟨ok, fun i s e => ?_, ?_, fun _ _ _ h => (nomatch h), ⟨0, fun _ _ => rfl⟩, fun _ _ h => (nomatch h), hf, hc, fun b o h _ => h0 ▸ h, tb⟩
  · by_cases hi : i < as.length
    · rw [List.getElem?_append_left hi] at e
      have get : ∀ (vs : List V) (as : List Sl) (i : Nat) (s : Sl), Paired (ArgOk c nO H) vs as → as[i]? = some s → ∃ v, vs[i]? = some v ∧ ArgOk c nO H v s := by
        intro vs as i s p e
        induction p generalizing i with
        | nil => simp at e
        | cons h t ih =>
          cases i with
          | zero => simp at e; subst e; exact ⟨_, rfl, h⟩
          | succ i =>
            obtain ⟨v, h1, h2⟩ := ih i (by simpa using e)
            exact ⟨v, by simpa using h1, h2⟩
      obtain ⟨v, h1, h2⟩ := get vs as i s p e
      have es : (L2.start N vs)[i]? = some (some v) := by
        unfold L2.start
        rw [List.getElem?_append_left (by rw [List.length_map]; omega), List.getElem?_map, h1]
        rfl
      rw [es]
      cases s with
      | dat d => exact ⟨v, rfl, h2⟩
      | fd => cases h2; exact rfl
      | un => trivial
      | own ds => exact h2.elim
      | exc e => exact h2.elim
    · rw [List.getElem?_append_right (by omega), List.getElem?_replicate] at e
      split at e
      · cases e; trivial
      · cases e
  · unfold L2.start
    simp only [List.length_append, List.length_map, List.length_replicate]
    omega
/-- the context of a def's run -/
abbrev dX (P : Program) (w : World) (L : Lw) (mg : Str → Option Value) (base : Heap) (N : List Str) (qual : Str) (st : Stmt) (f0 : Addr) (cdv : Value) (A : Around) (outer : List Env) (s : Shared) (H : Hp) (E : XK) : Cx :=
  cxOf (L2.CX P w) P w L.K mg base N qual (defScope st) f0 cdv A outer s H E
abbrev wE (E : XK) : WX' := fun C x _ H' => E C x H'
/-- THE RULE of a def: from the judgement of its body -/
theorem def_ok {P : Program} {w : World} {L : Lw} {mg : Str → Option Value} {base : Heap} {k : Nat} {f0 : Addr} {x qual : Str} {st : Stmt} {fd : FuncData} {N ps : List Str} {body : MS}
    (F : Fun L.K x qual st f0 fd) (S : FnScope N ps (defScope st)) (hb : ps.length ≤ N.length)
    (walk : ∀ (c : Cn), c.L = L → ∀ (cdv : Value) (A : Around) (outer : List Env) (s : Shared) (H : Hp) (E : XK), (dX P w L mg base N qual st f0 cdv A outer s H E).A.guards = some [] →
      Room k (dX P w L mg base N qual st f0 cdv A outer s H E).A → PSs (dX P w L mg base N qual st f0 cdv A outer s H E) (defBody st) (tS c (wE E) body)) :
    FnG P w L.K mg base (L2.CX P w) (k + 1) f0 fd ps (spD L ps.length (mFn N.length body)) := by
  refine fng_of F S spD_len fun cdv A outer s H vs Q E gd room want => ?_
  obtain ⟨c, φ, as, hL, ok, h0, tb, hf, hc, hl, p, G⟩ := want
  refine ⟨_, walk c hL cdv A outer s H E gd room, ?_⟩
  refine ⟨nO, _, φ, start_rel ok h0 tb hf hc p (by rw [hl]; exact hb), ?_⟩
  have ent : ∀ {O' : Nat → Option Addr} {σ' : L2.St} {ρ' : Rho} {φ' : Fd} {H' : Hp}, Rel c O' H' σ' ρ' φ' → Step c H H' := fun R => ⟨fun b o h n => R.entry b o (h0.symm ▸ h) n, fun _ => R.tabs⟩
  have fr : ∀ {O' : Nat → Option Addr} {H' : Hp}, Gro (Fr c O' H') (Fr c nO H') := fun b o h => let ⟨h1, h2, _⟩ := fr_some h; fr_of h1 h2 fun _ z => nomatch z
  unfold mFn at G
  revert G
  cases body (as ++ List.replicate (N.length - as.length) .un) φ with
  | ok fl φ' =>
    cases fl with
    | rt d => exact fun G O' σ' ρ' v H' R q => G v H' (ent R) R.feed R.cells (dq_gro fr q)
    | nx ρ' => exact fun G O' σ' H' R _ => G _ H' (ent R) R.feed R.cells .non
    | ex e ρ' => exact fun G O' σ' C x H' R _ q => G C x H' (ent R) R.feed R.cells (er_gro fr q)
    | bk ρ' => exact fun G => G.elim
    | ct ρ' => exact fun G => G.elim
  | err e φ' => exact fun G => G.elim
  | no => exact fun G => G.elim
/-- nothing is promised of a mirror that is stuck -/
theorem fng_no {P : Program} {w : World} {L : Lw} {mg : Str → Option Value} {base : Heap} {k : Nat} {f0 : Addr} {fd : FuncData} {ps : List Str} : FnG P w L.K mg base (L2.CX P w) k f0 fd ps (spD L ps.length fun _ _ => .no) :=
  ⟨spD_len, fun _ _ _ _ _ _ _ _ _ _ _ _ _ _ h => let ⟨_, _, _, _, _, _, _, _, _, _, _, z⟩ := h; z.elim⟩

/-! ### a call -/
def Cn.inner (c : Cn) (O : Nat → Option Addr) (H : Hp) : Cn := { c with Z := fun b => c.Z b ∨ ∃ i, O i = some b, H0 := Hn H }
theorem inner_fr {c : Cn} {O : Nat → Option Addr} {H H1 : Hp} : Fr (c.inner O H) nO H1 = Fr c O H1 := by
  funext b
  unfold Fr
  have : ((c.inner O H).Z b ∨ ∃ i, nO i = some b) ↔ (c.Z b ∨ ∃ i, O i = some b) := ⟨fun z => z.elim id fun ⟨_, z⟩ => (nomatch z), .inl⟩
  by_cases h : c.Z b ∨ ∃ i, O i = some b
  · rw [if_pos h, if_pos (this.mpr h)]
  · rw [if_neg h, if_neg fun z => h (this.mp z)]
theorem inner_ok {c : Cn} {O : Nat → Option Addr} {H : Hp} {σ : L2.St} {ρ : Rho} {φ : Fd} (R : Rel c O H σ ρ φ) : (c.inner O H).Ok where
  zf := .inl R.ok.zf
  z0 := fun b h => by
    rcases h with h | ⟨i, h⟩
    · obtain ⟨o, e⟩ := R.ok.z0 b h
      by_cases hb : b = c.fa
      · exact ⟨_, hb ▸ hn_of R.feed nt_dK⟩
      · exact ⟨o, R.entry b o e hb⟩
    · exact (R.own i b h).1
  cne := R.ok.cne
  zc := fun h => by
    rcases h with h | ⟨i, h⟩
    · exact R.ok.zc h
    · obtain ⟨_, n⟩ := R.own i _ h
      obtain ⟨o, e⟩ := R.ok.c0
      have n' : c.H0 c.ca = none := n
      rw [e] at n'
      cases n'
  c0 := ⟨_, hn_of R.cells nt_lst⟩
theorem Paired.imp' {α β : Type} {F G : α → β → Prop} (h : ∀ a b, F a b → G a b) : ∀ {xs : List α} {ys : List β}, Paired F xs ys → Paired G xs ys
  | _, _, .nil => .nil
  | _, _, .cons a t => .cons (h _ _ a) (Paired.imp' h t)
def mCall (m : MF) (g : MG) : ME := fun ρ φ => (g ρ φ).bind m
theorem call_fits {n : Nat} {m : MF} {O : Nat → Option Addr} {σ : L2.St} {ρ : Rho} {φ : Fd} {H : Hp} {Q : VK} {vs : List V} {as : List Sl} (R : Rel c O H σ ρ φ) (p : Paired (ArgOk c O H) vs as) (hl : as.length = n)
    (h : GE c W O σ ρ H Q (m as φ)) : spD c.L n m vs H Q (WE W σ) := by
  refine ⟨c.inner O H, φ, as, rfl, inner_ok R, rfl, R.tabs, R.feed, R.cells, (Paired.length p).trans hl, Paired.imp' (fun v s q => ?_) p, ?_⟩
  · cases s with
    | dat d => show Dq c.K (Fr (c.inner O H) nO H) v d; rw [inner_fr]; exact q
    | fd => exact q
    | _ => exact q.elim
  · revert h
    cases m as φ with
    | ok d φ' => exact fun h v H' st hf hc q => h v H' (R.step st hf hc) st (by rw [inner_fr] at q; exact q)
    | err e φ' => exact fun h C x H' st hf hc q => h C x H' (R.step st hf hc) st (by rw [inner_fr] at q; exact q)
    | no => exact fun h => h.elim
theorem mg_len {n : Nat} {O : Nat → Option Addr} {ρ : Rho} {φ φ' : Fd} {as : List Sl} (hn : ∀ ρ φ as φ', g ρ φ = .ok as φ' → as.length = n) (e : g ρ φ = .ok as φ') : as.length = n := hn ρ φ as φ' e
/-- how many arguments a row has -/
def GLen (g : MG) (n : Nat) : Prop := ∀ ρ φ as φ', g ρ φ = .ok as φ' → as.length = n
theorem glen_nil : GLen mgNil 0 := fun _ _ _ _ e => by cases e; rfl
theorem glen_d {n : Nat} (h : GLen g n) : GLen (mgD f g) (n + 1) := fun ρ φ as φ' e => by
  unfold mgD at e
  cases e1 : f ρ φ with
  | ok x φ1 =>
    rw [e1] at e
    have e : (g ρ φ1).bind (fun xs φ2 => Res.ok (Sl.dat x :: xs) φ2) = .ok as φ' := e
    cases e2 : g ρ φ1 with
    | ok xs φ2 => rw [e2] at e; cases e; exact congrArg (· + 1) (h _ _ _ _ e2)
    | err _ _ => rw [e2] at e; cases e
    | no => rw [e2] at e; cases e
  | err _ _ => rw [e1] at e; cases e
  | no => rw [e1] at e; cases e
theorem glen_f {i n : Nat} (h : GLen g n) : GLen (mgF i g) (n + 1) := fun ρ φ as φ' e => by
  unfold mgF at e
  split at e
  · cases e2 : g ρ φ with
    | ok xs φ2 => rw [e2] at e; cases e; exact congrArg (· + 1) (h _ _ _ _ e2)
    | err _ _ => rw [e2] at e; cases e
    | no => rw [e2] at e; cases e
  · cases e
theorem qe_call {L : Lw} {k : Nat} {f0 : Addr} {fd : FuncData} {ps : List Str} {m : MF} {x : Str} {p : Pos} (hL : c.L = L) (F : FnG X.prog X.w X.K X.mg X.base (L2.CX X.prog X.w) k f0 fd ps (spD L ps.length m)) (gd : X.A.guards = some []) (hr : Room k X.A)
    (hm : X.mg x = some (.ref f0)) (hk : PySem.W.keepIn X.K (.ref f0) = true) (hb : Binds X.K fd ps []) (tk : Takes X W) (ha : PA X (e :: es) (tDG c W g)) (hn : GLen g ps.length) (hg : Gl X x := by rfl) (hdb : (x == ("__debug__" : Str)) = false := by decide)
    (he : starEach (e :: es) X.env = (false, eval e X.env) :: starEach es X.env := by rfl) (hpl : (backTo pos (starEach es X.env)).any (·.1) = false := by rfl) :
    PE X (.Call (.Name x p) (e :: es) [] pos) (tD c W (mCall m g)) :=
  pe_imp (peg_call F gd hr hg hm hk hb (passAt tk) ha hdb he hpl) fun σ H Q ⟨O, ρ, φ, R, h⟩ => ⟨O, ρ, φ, R, geg_bind h fun as φ1 vs H1 e1 R1 s1 p1 h1 => hL ▸ call_fits R1 p1 (hn _ _ _ _ e1) h1⟩
theorem qe_call0 {L : Lw} {k : Nat} {f0 : Addr} {fd : FuncData} {ps : List Str} {m : MF} {x : Str} {p : Pos} (hL : c.L = L) (F : FnG X.prog X.w X.K X.mg X.base (L2.CX X.prog X.w) k f0 fd ps (spD L ps.length m)) (gd : X.A.guards = some []) (hr : Room k X.A)
    (hm : X.mg x = some (.ref f0)) (hk : PySem.W.keepIn X.K (.ref f0) = true) (hb : Binds X.K fd ps []) (tk : Takes X W) (hn : ps.length = 0) (hg : Gl X x := by rfl) (hdb : (x == ("__debug__" : Str)) = false := by decide) :
    PE X (.Call (.Name x p) [] [] pos) (tD c W (mCall m mgNil)) :=
  pe_imp (peg_call0 F gd hr hg hm hk hb (passAt tk) hdb) fun σ H Q ⟨O, ρ, φ, R, h⟩ => hL ▸ call_fits R .nil hn.symm h
theorem qe_callK0 {L : Lw} {k : Nat} {f0 : Addr} {fd : FuncData} {ps : List Str} {m : MF} {x : Str} {p : Pos} {kws : List Keyword} (hL : c.L = L) (F : FnG X.prog X.w X.K X.mg X.base (L2.CX X.prog X.w) k f0 fd ps (spD L ps.length m)) (gd : X.A.guards = some []) (hr : Room k X.A)
    (hm : X.mg x = some (.ref f0)) (hk : PySem.W.keepIn X.K (.ref f0) = true) (hb : KB0 X.K fd ps) (tk : Takes X W) (ha : PK X kws (tDG c W g)) (hn : GLen g ps.length) (hg : Gl X x := by rfl) (hdb : (x == ("__debug__" : Str)) = false := by decide)
    (hall : (backToKw pos (keywordEach kws X.env)).all (·.1.isSome) = true := by rfl)
    (hks : (backToKw pos (keywordEach kws X.env)).filterMap (·.1) = ps := by rfl)
    (hpl : ((backTo pos (starEach [] X.env)).any (·.1) || (backToKw pos (keywordEach kws X.env)).any (·.1.isNone)) = false := by rfl) :
    PE X (.Call (.Name x p) [] kws pos) (tD c W (mCall m g)) :=
  pe_imp (peg_callK0 F gd hr hg hm hk hb (passAt tk) ha hall hks hdb hpl) fun σ H Q ⟨O, ρ, φ, R, h⟩ => ⟨O, ρ, φ, R, geg_bind h fun as φ1 vs H1 e1 R1 s1 p1 h1 => hL ▸ call_fits R1 p1 (hn _ _ _ _ e1) h1⟩

/-! ### the feed's items -/
inductive Fk | c | s | l | n
def Lw.key (L : Lw) : Fk → Str
  | .c => L.k1
  | .s => L.k2
  | .l => L.k3
  | .n => L.k4
def Lw.Nk (L : Lw) : Prop := L.k1 ≠ L.k2 ∧ L.k1 ≠ L.k3 ∧ L.k1 ≠ L.k4 ∧ L.k2 ≠ L.k3 ∧ L.k2 ≠ L.k4 ∧ L.k3 ≠ L.k4
def fdGet (φ : Fd) : Fk → Dt
  | .c => .list (φ.cells.map .int)
  | .s => .int φ.spot
  | .l => .int φ.left
  | .n => .int φ.count
def mFg (i : Nat) (k : Fk) : ME := fun ρ φ => match ρ[i]? with | some .fd => .ok (fdGet φ k) φ | _ => .no
theorem fkv_get (c : Cn) (nk : c.L.Nk) (φ : Fd) (k : Fk) : valV (fkv c φ) (.inr (c.L.key k)) = some (match k with | .c => .ref c.ca | .s => .int φ.spot | .l => .int φ.left | .n => .int φ.count) := by
  obtain ⟨h12, h13, h14, h23, h24, h34⟩ := nk
  have ne : ∀ {a b : Str}, a ≠ b → ¬ ((Sum.inr a : Key) = Sum.inr b) := fun h z => h (Sum.inr.inj z)
  cases k with
  | c => exact valV_pos rfl
  | s => exact (valV_neg (ne h12)).trans (valV_pos rfl)
  | l => exact (valV_neg (ne h13)).trans ((valV_neg (ne h23)).trans (valV_pos rfl))
  | n => exact (valV_neg (ne h14)).trans ((valV_neg (ne h24)).trans ((valV_neg (ne h34)).trans (valV_pos rfl)))
theorem qe_fg {i j : Nat} {k : Fk} {x y : Str} {p1 p2 : Pos} (hk : c.L.key k = y) (nk : c.L.Nk) (hu : X.A.units + 1 < cLine) (hN : X.N[i]? = some x := by rfl) (hv : Vis X.env.scope x := by first | exact Or.inl rfl | exact Or.inr (Or.inl rfl) | exact Or.inr (Or.inr rfl))
    (hd : (x == ("__debug__" : Str)) = false := by decide) (hcd : (x == ("__classdict__" : Str)) = false := by decide) : PE X (.Subscript (.Name x p1) (.Constant (.str y) j p2) pos) (tD c W (mFg i k)) :=
  pe_imp (pe_dget hu (pe_var hN hv hd hcd) pe_str (fun _ _ => rfl)) fun σ H Q ⟨O, ρ, φ, R, h⟩ => by
    unfold mFg at h
    split at h
    · rename_i e
      refine ⟨_, R.slot i _ e, ?_⟩
      subst hk
      refine ⟨c.fa, _, rfl, by have q := DGet.k (k := Sum.inr (c.L.key k)) R.feed; rw [fkv_get c nk φ k] at q; exact q, ?_⟩
      have k' := ge_ok R h
      cases k with
      | c => exact ans_here k' (.lst (fr_of R.cells R.ok.zc fun i z => by
          obtain ⟨_, n⟩ := R.own i _ z
          obtain ⟨o, e⟩ := R.ok.c0
          have n' : c.H0 c.ca = none := n
          rw [e] at n'
          cases n') (dqA_ints _))
      | _ => exact ans_here k' (.int _)
    · exact h.elim

/-! ### what is walked -/
abbrev MI := Rho → Fd → Res (List Dt)
/-- J yields these data, from H on, whatever of new things comes -/
def Walks (c : Cn) (O : Nat → Option Addr) (H : Hp) (J : It) (ds : List Dt) : Prop := ∀ O' H1 i, Gro (Fr c O H) (Fr c O' H1) → Nw c O' H1 →
  (i < ds.length → J.go i H1 ∧ ∀ x H2, J.yld i H1 x H2 → Gro H1 H2 ∧ ∃ d, ds[i]? = some d ∧ Dq c.K (Fr c O' H2) x d) ∧ (i = ds.length → J.stop i H1)
def GI (c : Cn) (W : WX') (O : Nat → Option Addr) (σ : L2.St) (ρ : Rho) (H : Hp) (Q : It → Hp → Prop) : Res (List Dt) → Prop
  | .ok ds φ' => ∀ J H', Rel c O H' σ ρ φ' → Step c H H' → Walks c O H' J ds → Q J H'
  | .err e φ' => ∀ C x H', Rel c O H' σ ρ φ' → Step c H H' → c.er e C x (Fr c O H') → W C x σ H'
  | .no => False
def tDI (c : Cn) (W : WX') (f : MI) : TI := fun σ H Q => ∃ O ρ φ, Rel c O H σ ρ φ ∧ GI c W O σ ρ H Q (f ρ φ)
theorem GI.step {O : Nat → Option Addr} {σ : L2.St} {ρ : Rho} {H H1 : Hp} {Q : It → Hp → Prop} {r : Res (List Dt)} (s : Step c H H1) (h : GI c W O σ ρ H Q r) : GI c W O σ ρ H1 Q r := by
  cases r with
  | ok d φ => exact fun v H' R t p => h v H' R (s.trans t) p
  | err e φ => exact fun C x H' R t => h C x H' R (s.trans t)
  | no => exact h
theorem gie_bind {O : Nat → Option Addr} {σ : L2.St} {ρ : Rho} {H : Hp} {Q : It → Hp → Prop} {r : Res Dt} {k : Dt → Fd → Res (List Dt)} {R : VK} (h : GI c W O σ ρ H Q (r.bind k))
    (go : ∀ d φ' v H', r = .ok d φ' → Rel c O H' σ ρ φ' → Step c H H' → Dq c.K (Fr c O H') v d → GI c W O σ ρ H' Q (k d φ') → R v H') : GE c W O σ ρ H R r := by
  cases r with
  | ok d φ' => exact fun v H' R' st p => go d φ' v H' rfl R' st p (GI.step st h)
  | err e φ' => exact h
  | no => exact h
theorem gia_bind {O : Nat → Option Addr} {σ : L2.St} {ρ : Rho} {H : Hp} {Q : It → Hp → Prop} {R : List V → Hp → Prop} {r : Res (List Dt)} {k : List Dt → Fd → Res (List Dt)} (h : GI c W O σ ρ H Q (r.bind k))
    (go : ∀ d φ' v H', r = .ok d φ' → Rel c O H' σ ρ φ' → Step c H H' → DqAll c.K (Fr c O H') v d → GI c W O σ ρ H' Q (k d φ') → R v H') : GA c W O σ ρ H R r := by
  cases r with
  | ok d φ' => exact fun v H' R' st p => go d φ' v H' rfl R' st p (GI.step st h)
  | err e φ' => exact h
  | no => exact h
theorem pi_imp {tg : Expr} {t t' : TI} (h : PI X tg e t) (i : ∀ σ H Q, t' σ H Q → t σ H Q) : PI X tg e t' := ⟨fun pins s σ H Q I q => h.run pins s σ H Q I (i σ H Q q)⟩
/-- a list, a tuple or a text -/
def iAny (K : PySem.W.Frag) (te : TE) : TI := fun σ H R => te σ H fun v H1 => ((∃ a, v = .ref a ∧ (∃ xs, SqL K H1 a xs) ∧ R (Itl K a) H1) ∨ ∃ a, v = .ref a ∧ (∃ xs, SqT K H1 a xs) ∧ R (Itt K a) H1) ∨ ∃ x, v = .str x ∧ R (Its x) H1
theorem pi_any {tg : Expr} {te : TE} (he : PE X e te) : PI X tg e (iAny X.K te) := by
  refine ⟨fun pins s σ H R I h => thn (he.run pins s σ H _ I h) fun v s1 ⟨y, H1, I1, r1, q1⟩ => ?_⟩
  rcases q1 with (⟨a, ey, ⟨xs, hq⟩, q⟩ | ⟨a, ey, ⟨xs, hq⟩, q⟩) | ⟨x, ey, q⟩
  · subst ey
    cases (show v = Value.ref a from r1)
    obtain ⟨its, rv, pl, hz⟩ := I1.list hq
    exact wpAny_pyIter_list pl.isList (pi_one (tk := s1.toks) I1 _ (turn_list a _) ⟨_, Heap.get?_push_size _ rfl, rfl, rfl⟩ q)
  · subst ey
    cases (show v = Value.ref a from r1)
    obtain ⟨its, rv, pl, hz⟩ := I1.tuple hq
    exact wpAny_pyIter_tuple (show s1.heap.IsTuple a its.toArray from pl) (pi_one (tk := s1.toks) I1 _ (turn_tuple a _) ⟨_, Heap.get?_push_size _ rfl, rfl, rfl⟩ q)
  · subst ey
    obtain ⟨t, rfl⟩ := r1
    cases ha : x.cps.all (· < 128)
    · exact wpAny_pyIter_wide ha (pi_one (tk := s1.toks) I1 _ (turn_str _ x t "str_iterator" (.inr rfl)) ⟨_, Heap.get?_push_size _ rfl, rfl, rfl⟩ q)
    · exact wpAny_pyIter_ascii ha (pi_one (tk := s1.toks) I1 _ (turn_str _ x t "str_ascii_iterator" (.inl rfl)) ⟨_, Heap.get?_push_size _ rfl, rfl, rfl⟩ q)
def itemsD : Dt → Option (List Dt)
  | .list xs => some xs
  | .tuple xs => some xs
  | .str x => some (x.cps.toList.map fun n => .str ⟨#[n]⟩)
  | _ => none
def miV (f : ME) : MI := fun ρ φ => (f ρ φ).bind fun x φ1 => opt (itemsD x) φ1
theorem qi_v {tg : Expr} (hK : X.K = c.K) (he : PE X e (tD c W f)) : PI X tg e (tDI c W (miV f)) :=
  pi_imp (pi_any he) fun σ H Q ⟨O, ρ, φ, R, h⟩ => ⟨O, ρ, φ, R, gie_bind h fun d φ1 v H1 _ R1 s1 p1 h1 => by
    rw [hK]
    cases p1 with
    | lst g a =>
      refine .inl (.inl ⟨_, rfl, ⟨_, SqL.of (fr_in _ _ g)⟩, h1 _ _ R1 (.refl _) fun O' H2 i gr nw => ⟨fun hi => ?_, fun hi => ?_⟩⟩)
      · have l2 : SqL c.K H2 _ _ := SqL.of (fr_in _ _ (gr _ _ g))
        have lt : i < _ := (dqA_len a).symm ▸ hi
        refine ⟨⟨_, _, l2, List.getElem?_eq_getElem lt⟩, fun x H3 y => ?_⟩
        obtain ⟨rfl, y⟩ := y
        obtain ⟨d, ed, pd⟩ := dqA_getV a (y _ l2)
        exact ⟨.refl _, d, ed, dq_gro gr pd⟩
      · exact ⟨_, SqL.of (fr_in _ _ (gr _ _ g)), by rw [dqA_len a]; omega⟩
    | tup g a =>
      refine .inl (.inr ⟨_, rfl, ⟨_, sqT_gro fr_in g⟩, h1 _ _ R1 (.refl _) fun O' H2 i gr nw => ⟨fun hi => ?_, fun hi => ?_⟩⟩)
      · have l2 : SqT c.K H2 _ _ := sqT_gro fr_in (sqT_gro gr g)
        have lt : i < _ := (dqA_len a).symm ▸ hi
        refine ⟨⟨_, _, l2, List.getElem?_eq_getElem lt⟩, fun x H3 y => ?_⟩
        obtain ⟨rfl, y⟩ := y
        obtain ⟨d, ed, pd⟩ := dqA_getV a (y _ l2)
        exact ⟨.refl _, d, ed, dq_gro gr pd⟩
      · exact ⟨_, sqT_gro fr_in (sqT_gro gr g), by rw [dqA_len a]; omega⟩
    | str x =>
      refine .inr ⟨x, rfl, h1 _ _ R1 (.refl _) fun O' H2 i gr nw => ⟨fun hi => ?_, fun hi => ?_⟩⟩
      · have lt : i < x.cps.size := by simpa using hi
        refine ⟨lt, fun v H3 y => ?_⟩
        obtain ⟨rfl, n, en, rfl⟩ := y
        refine ⟨.refl _, .str ⟨#[n]⟩, ?_, .str _⟩
        have : x.cps.toList[i]? = some n := by rw [Array.getElem?_toList]; exact en
        rw [List.getElem?_map, this]
        rfl
      · have : x.cps.size ≤ i := by rw [hi]; simp
        exact this
    | _ => exact h1.elim⟩
def miR1 (g : MA) : MI := fun ρ φ => (g ρ φ).bind fun xs φ1 => match xs with
  | [.int n] => if n < 4611686018427387904 ∧ -4611686018427387904 ≤ n then .ok ((List.range n.toNat).map fun i => .int (i : Nat)) φ1 else .no
  | _ => .no
variable {fa : MA}
theorem qi_r1 {tg : Expr} {p : Pos} (hm : X.mg "range" = none) (ha : PA X [a] (tDA c W fa)) (hg : Gl X "range" := by rfl) (hs : starEach [a] X.env = [(false, eval a X.env)] := by rfl) : PI X tg (.Call (.Name "range" p) [a] [] pos) (tDI c W (miR1 fa)) :=
  pi_imp (pi_range1 hg hm ha hs) fun σ H Q ⟨O, ρ, φ, R, h⟩ => ⟨O, ρ, φ, R, gia_bind h fun ds φ1 vs H1 _ R1 s1 p1 h1 => by
    split at h1
    · rename_i n _
      cases p1 with
      | cons q1 q2 =>
        cases q1
        cases q2
        by_cases hz : n < 4611686018427387904 ∧ -4611686018427387904 ≤ n
        · rw [if_pos hz] at h1
          refine ⟨n, rfl, by omega, by omega, h1 _ _ R1 (.refl _) fun O' H2 i gr nw => ⟨fun hi => ?_, fun hi => ?_⟩⟩
          · have lt : i < n.toNat := by simpa using hi
            refine ⟨lt, fun v H3 y => ?_⟩
            obtain ⟨rfl, rfl⟩ := y
            refine ⟨.refl _, .int (i : Nat), ?_, ?_⟩
            · rw [List.getElem?_map, List.getElem?_range lt]; rfl
            · rw [show (0 : Int) + (i : Int) = ((i : Nat) : Int) from Int.zero_add _]; exact .int _
          · have : n.toNat ≤ i := by rw [hi]; simp
            exact this
        · rw [if_neg hz] at h1
          exact h1.elim
    · exact h1.elim⟩

/-! ### targets -/
inductive Tg | nm (j : Nat) | tp (js : List Nat)
def Tg.js : Tg → List Nat
  | .nm j => [j]
  | .tp js => js
def setV (σ : L2.St) : List Nat → List V → L2.St
  | j :: js, x :: xs => setV (σ.set j (some x)) js xs
  | _, _ => σ
def gNames : List Nat → TGs
  | [] => gNil
  | j :: js => gCons (gName j) (gNames js)
def gTg (K : PySem.W.Frag) : Tg → TG
  | .nm j => gName j
  | .tp js => gTup K js.length (gNames js)
theorem gNames_ok : ∀ (js : List Nat) (xs : List V) (σ : L2.St) (H : Hp) (Q : L2.St → Hp → Prop), xs.length = js.length → Q (setV σ js xs) H → gNames js xs σ H Q
  | [], [], _, _, _, _, q => ⟨rfl, q⟩
  | j :: js, x :: xs, σ, H, Q, h, q => ⟨x, xs, rfl, gNames_ok js xs (σ.set j (some x)) H Q (by simpa using h) q⟩
  | [], _ :: _, _, _, _, h, _ => by simp at h
  | _ :: _, [], _, _, _, h, _ => by simp at h
def setR (ρ : Rho) : List Nat → List Dt → Rho
  | j :: js, x :: xs => setR (ρ.set j (.dat x)) js xs
  | _, _ => ρ
/-- a target takes data -/
def bindT (t : Tg) (d : Dt) (ρ : Rho) : Option Rho :=
  match t with
  | .nm j => some (ρ.set j (.dat d))
  | .tp js => match d with
    | .tuple xs => if xs.length = js.length then some (setR ρ js xs) else none
    | _ => none
theorem Rel.set {O : Nat → Option Addr} {H : Hp} {σ : L2.St} {ρ : Rho} {φ : Fd} (R : Rel c O H σ ρ φ) (j : Nat) {x : V} {d : Dt} (p : Dq c.K (Fr c O H) x d) : Rel c O H (σ.set j (some x)) (ρ.set j (.dat d)) φ := by
  refine ⟨R.ok, fun i s e => ?_, by rw [List.length_set, List.length_set]; exact R.len, R.inj, R.fin, R.own, R.feed, R.cells, R.entry, R.tabs⟩
  by_cases h : j = i
  · subst h
    have lt : j < ρ.length := by
      have := (List.getElem?_eq_some_iff.mp e).1
      rwa [List.length_set] at this
    rw [List.getElem?_set_self lt] at e
    cases e
    exact ⟨x, List.getElem?_set_self (by rw [R.len]; exact lt), p⟩
  · rw [List.getElem?_set_ne h] at e
    rw [List.getElem?_set_ne h]
    exact R.slot i s e
theorem Rel.setAll {O : Nat → Option Addr} {H : Hp} {φ : Fd} : ∀ (js : List Nat) {σ : L2.St} {ρ : Rho} {xs : List V} {ds : List Dt}, Rel c O H σ ρ φ → DqAll c.K (Fr c O H) xs ds → Rel c O H (setV σ js xs) (setR ρ js ds) φ
  | [], _, _, _, _, R, p => by cases p <;> exact R
  | _ :: _, _, _, _, _, R, .nil => R
  | j :: js, _, _, _, _, R, .cons h t => Rel.setAll js (R.set j h) t
/-- what a target's reading asks, for data -/
theorem gTg_ok {K : PySem.W.Frag} (hK : K = c.K) {O : Nat → Option Addr} {H : Hp} {σ : L2.St} {ρ ρ' : Rho} {φ : Fd} {t : Tg} {x : V} {d : Dt} {Q : L2.St → Hp → Prop} (R : Rel c O H σ ρ φ) (p : Dq c.K (Fr c O H) x d) (e : bindT t d ρ = some ρ')
    (k : ∀ σ', (∃ js xs, σ' = setV σ js xs ∧ js = t.js) → Rel c O H σ' ρ' φ → Q σ' H) : gTg K t x σ H Q := by
  subst hK
  cases t with
  | nm j =>
    cases e
    exact k _ ⟨[j], [x], rfl, rfl⟩ (R.set j p)
  | tp js =>
    cases p with
    | tup g a =>
      rename_i ad xs ds
      have e' : (if ds.length = js.length then some (setR ρ js ds) else none) = some ρ' := e
      by_cases hl : ds.length = js.length
      · rw [if_pos hl] at e'
        cases e'
        have hl2 : xs.length = js.length := (dqA_len a).trans hl
        exact ⟨_, _, rfl, sqT_gro fr_in g, hl2, gNames_ok js xs σ H Q hl2 (k _ ⟨js, xs, rfl, rfl⟩ (R.setAll js a))⟩
      · rw [if_neg hl] at e'
        cases e'
    | _ => cases e

/-! ### comprehensions -/
def wipeR (ρ : Rho) : List Nat → Rho
  | [] => ρ
  | v :: vs => (wipeR ρ vs).set v .un
theorem Rel.wipe {O : Nat → Option Addr} {H : Hp} {σ : L2.St} {ρ : Rho} {φ : Fd} (R : Rel c O H σ ρ φ) : ∀ vs : List Nat, Rel c O H (L2.wipe σ vs) (wipeR ρ vs) φ
  | [] => R
  | v :: vs => by
    have R' := Rel.wipe R vs
    refine ⟨R'.ok, fun i s e => ?_, by unfold L2.wipe wipeR; rw [List.length_set, List.length_set]; exact R'.len, R'.inj, R'.fin, R'.own, R'.feed, R'.cells, R'.entry, R'.tabs⟩
    unfold wipeR at e
    unfold L2.wipe
    by_cases h : v = i
    · subst h
      have lt : v < (wipeR ρ vs).length := by
        have := (List.getElem?_eq_some_iff.mp e).1
        rwa [List.length_set] at this
      rw [List.getElem?_set_self lt] at e
      cases e
      trivial
    · rw [List.getElem?_set_ne h] at e
      rw [List.getElem?_set_ne h]
      exact R'.slot i s e
theorem wipe_at (σ : L2.St) (vs : List Nat) (i : Nat) : (L2.wipe σ vs)[i]? = if i ∈ vs then (σ[i]?).map (fun _ => none) else σ[i]? := by
  induction vs with
  | nil => simp [L2.wipe]
  | cons v vs ih =>
    show ((L2.wipe σ vs).set v none)[i]? = _
    rw [List.getElem?_set]
    by_cases h : v = i
    · subst h
      rw [if_pos rfl, if_pos List.mem_cons_self, wipe_length]
      by_cases hl : v < σ.length
      · rw [if_pos hl, List.getElem?_eq_getElem hl]; rfl
      · rw [if_neg hl, List.getElem?_eq_none (by omega)]; rfl
    · rw [if_neg h, ih]
      have hm : (i ∈ v :: vs) ↔ i ∈ vs := ⟨fun z => (List.mem_cons.mp z).elim (fun z => absurd z.symm h) id, List.mem_cons_of_mem _⟩
      by_cases hi : i ∈ vs
      · rw [if_pos hi, if_pos (hm.mpr hi)]
      · rw [if_neg hi, if_neg fun z => hi (hm.mp z)]
theorem setV_at : ∀ (js : List Nat) (xs : List V) (σ : L2.St) (i : Nat), i ∉ js → (setV σ js xs)[i]? = σ[i]?
  | [], _, _, _, _ => by cases ‹List V› <;> rfl
  | _ :: _, [], _, _, _ => rfl
  | j :: js, x :: xs, σ, i, h => by
    have h1 : j ≠ i := fun z => h (z ▸ List.mem_cons_self)
    show (setV (σ.set j (some x)) js xs)[i]? = _
    rw [setV_at js xs _ i (fun z => h (List.mem_cons_of_mem _ z)), List.getElem?_set_ne h1]
theorem setV_len : ∀ (js : List Nat) (xs : List V) (σ : L2.St), (setV σ js xs).length = σ.length
  | [], xs, _ => by cases xs <;> rfl
  | _ :: _, [], _ => rfl
  | j :: js, x :: xs, σ => (setV_len js xs (σ.set j (some x))).trans List.length_set
theorem wipe_setV {σ : L2.St} {vs js : List Nat} {xs : List V} (h : ∀ j ∈ js, j ∈ vs) : L2.wipe (setV (L2.wipe σ vs) js xs) vs = L2.wipe σ vs := by
  apply List.ext_getElem?
  intro i
  rw [wipe_at, wipe_at]
  by_cases hi : i ∈ vs
  · rw [if_pos hi, if_pos hi]
    by_cases hl : i < σ.length
    · have h1 : i < (setV (L2.wipe σ vs) js xs).length := by rw [setV_len, wipe_length]; exact hl
      rw [List.getElem?_eq_getElem h1, List.getElem?_eq_getElem hl]
      rfl
    · have h1 : (setV (L2.wipe σ vs) js xs).length ≤ i := by rw [setV_len, wipe_length]; omega
      rw [List.getElem?_eq_none h1, List.getElem?_eq_none (by omega)]
  · rw [if_neg hi, if_neg hi, setV_at js xs _ i (fun z => hi (h i z)), wipe_at, if_neg hi]
def noErr {α : Type} : Res α → Res α
  | .ok a φ => .ok a φ
  | _ => .no
/-- [elt for t in ds if test] from the slots ρ (wiped) -/
def lcGo (t : Tg) (test : MT) (elt : ME) (ρ : Rho) : List Dt → Fd → Res (List Dt)
  | [], φ => .ok [] φ
  | x :: xs, φ => match bindT t x ρ with
    | none => .no
    | some ρ1 => (test ρ1 φ).bind fun b φ1 => if b = true then (elt ρ1 φ1).bind fun y φ2 => (lcGo t test elt ρ xs φ2).bind fun ys φ3 => .ok (y :: ys) φ3 else lcGo t test elt ρ xs φ1
def mLc (it : MI) (t : Tg) (test : MT) (elt : ME) (vs : List Nat) : ME := fun ρ φ => (it ρ φ).bind fun xs φ1 => if xs.length ≤ sizeLine then
    noErr ((lcGo t test elt (wipeR ρ vs) xs φ1).bind fun ys φ2 => .ok (.list ys) φ2) else .no
def mtYes : MT := fun _ φ => .ok true φ
theorem gei_bind {O : Nat → Option Addr} {σ : L2.St} {ρ : Rho} {H : Hp} {Q : VK} {R : It → Hp → Prop} {r : Res (List Dt)} {k : List Dt → Fd → Res Dt} (h : GE c W O σ ρ H Q (r.bind k))
    (go : ∀ d φ' J H', r = .ok d φ' → Rel c O H' σ ρ φ' → Step c H H' → Walks c O H' J d → GE c W O σ ρ H' Q (k d φ') → R J H') : GI c W O σ ρ H R r := by
  cases r with
  | ok d φ' => exact fun J H' R' st p => go d φ' J H' rfl R' st p (GE.step st h)
  | err e φ' => exact h
  | no => exact h
/-- one more own list, at a far slot -/
theorem Rel.moreAt {O : Nat → Option Addr} {H : Hp} {σ : L2.St} {ρ : Rho} {φ : Fd} (R : Rel c O H σ ρ φ) {D : Addr} {vs : List V} {m : Nat} (hD : H D = none) (om : O m = none) (far : ρ.length ≤ m) :
    Rel c (fun i => if i = m then some D else O i) (upd H D (.lst vs)) σ ρ φ ∧ Fr c (fun i => if i = m then some D else O i) (upd H D (.lst vs)) = Fr c O H := by
  obtain ⟨B, hB⟩ := R.fin
  obtain ⟨f1, f2, f3, f4⟩ := R.fresh hD
  have fe : Fr c (fun i => if i = m then some D else O i) (upd H D (.lst vs)) = Fr c O H := by
    funext b
    unfold Fr
    by_cases hb : b = D
    · subst hb
      rw [if_pos (.inr ⟨m, if_pos rfl⟩), if_neg, hn_none hD]
      rintro (z | ⟨i, z⟩)
      · exact f1 z
      · exact f2 i z
    · have : (c.Z b ∨ ∃ i, (if i = m then some D else O i) = some b) ↔ (c.Z b ∨ ∃ i, O i = some b) := by
        constructor
        · rintro (z | ⟨i, z⟩)
          · exact .inl z
          · by_cases hi : i = m
            · rw [if_pos hi] at z
              exact absurd (Option.some.inj z).symm hb
            · rw [if_neg hi] at z
              exact .inr ⟨i, z⟩
        · rintro (z | ⟨i, z⟩)
          · exact .inl z
          · have hi : i ≠ m := fun h => by rw [h, om] at z; cases z
            exact .inr ⟨i, by rw [if_neg hi]; exact z⟩
      by_cases hz : c.Z b ∨ ∃ i, O i = some b
      · rw [if_pos hz, if_pos (this.mpr hz)]
      · rw [if_neg hz, if_neg fun z => hz (this.mp z), hn_upd nt_lst, upd_ne hb]
  refine ⟨⟨R.ok, fun i s e => ?_, R.len, fun i j a h1 h2 => ?_, ⟨max B (m + 1), fun i hi => ?_⟩, fun i a h => ?_, ?_, ?_, fun b o h n => ?_, R.tabs.ext (Gro.upd hD)⟩, fe⟩
  · have lt : i < ρ.length := (List.getElem?_eq_some_iff.mp e).1
    have im : i ≠ m := by omega
    have q := R.slot i s e
    cases s with
    | un => trivial
    | dat d => obtain ⟨x, e1, p⟩ := q; exact ⟨x, e1, by rw [fe]; exact p⟩
    | own ds =>
      obtain ⟨a, us, e1, e2, e3, p⟩ := q
      refine ⟨a, us, (if_neg im).trans e1, e2, ?_, by rw [fe]; exact p⟩
      have an : a ≠ D := fun z => f2 i (by rw [← z]; exact e1)
      rw [upd_ne an]
      exact e3
    | fd => exact q
    | exc e => obtain ⟨a, C, d, e1, e2, e3⟩ := q; exact ⟨a, C, d, e1, e2, by rw [fe]; exact e3⟩
  · by_cases hi : i = m <;> by_cases hj : j = m
    · rw [hi, hj]
    · rw [if_pos hi] at h1
      rw [if_neg hj] at h2
      exact absurd (h1 ▸ h2) (f2 j)
    · rw [if_neg hi] at h1
      rw [if_pos hj] at h2
      exact absurd (h2 ▸ h1) (f2 i)
    · rw [if_neg hi] at h1
      rw [if_neg hj] at h2
      exact R.inj i j a h1 h2
  · have h1 : B ≤ i := Nat.le_trans (Nat.le_max_left _ _) hi
    have h2 : m + 1 ≤ i := Nat.le_trans (Nat.le_max_right _ _) hi
    rw [if_neg (by omega)]
    exact hB i h1
  · by_cases hi : i = m
    · rw [if_pos hi] at h
      cases h
      exact ⟨⟨_, hn_of upd_same nt_lst⟩, f4⟩
    · rw [if_neg hi] at h
      obtain ⟨⟨o, ho⟩, n⟩ := R.own i a h
      have an : a ≠ D := fun z => f2 i (by rw [← z]; exact h)
      exact ⟨⟨o, by rw [hn_upd nt_lst, upd_ne an]; exact ho⟩, n⟩
  · rw [upd_ne (Ne.symm f3)]
    exact R.feed
  · have cn : c.ca ≠ D := fun z => by
      have q := R.cells
      rw [z, hD] at q
      cases q
    rw [upd_ne cn]
    exact R.cells
  · have bn : b ≠ D := fun z => by
      rw [z, f4] at h
      cases h
    rw [hn_upd nt_lst, upd_ne bn]
    exact R.entry b o h n
end
end DL

set_option maxHeartbeats 1000000
/-! DL, part f: list comprehensions -/
namespace DL
open PySem PySem.Spec PyProof.Rows L2
section
variable {X : Cx} {c : Cn} {W : WX'} {pos : Pos}

theorem Rel.less {O : Nat → Option Addr} {H : Hp} {σ : L2.St} {ρ : Rho} {φ : Fd} {m : Nat} {D : Addr} (om : O m = none) (hm : ρ.length ≤ m) (R : Rel c (fun i => if i = m then some D else O i) H σ ρ φ) : Rel c O H σ ρ φ := by
  have sub : ∀ i b, O i = some b → (if i = m then some D else O i) = some b := fun i b h => by
    have : i ≠ m := fun z => by rw [z, om] at h; cases h
    rw [if_neg this]
    exact h
  have fg : Gro (Fr c (fun i => if i = m then some D else O i) H) (Fr c O H) := fun b o h => by
    obtain ⟨h1, h2, h3⟩ := fr_some h
    exact fr_of h1 h2 fun i z => h3 i (sub i b z)
  obtain ⟨B, hB⟩ := R.fin
  refine ⟨R.ok, fun i s e => ?_, R.len, fun i j a h1 h2 => R.inj i j a (sub _ _ h1) (sub _ _ h2), ⟨B, fun i hi => ?_⟩, fun i a h => R.own i a (sub _ _ h), R.feed, R.cells, R.entry, R.tabs⟩
  · have lt : i < ρ.length := (List.getElem?_eq_some_iff.mp e).1
    have im : i ≠ m := by omega
    have q := R.slot i s e
    cases s with
    | un => trivial
    | dat d => obtain ⟨x, e1, p⟩ := q; exact ⟨x, e1, dq_gro fg p⟩
    | own ds => obtain ⟨a, us, e1, e2, e3, p⟩ := q; exact ⟨a, us, (if_neg im).symm.trans e1, e2, e3, dqA_gro fg p⟩
    | fd => exact q
    | exc e => obtain ⟨a, C, d, e1, e2, e3⟩ := q; exact ⟨a, C, d, e1, e2, er_gro fg e3⟩
  · by_cases im : i = m
    · rw [im]; exact om
    · exact (if_neg im).symm.trans (hB i hi)
/-- an own thing that no slot holds changes -/
theorem fr_upd {O : Nat → Option Addr} {H : Hp} {m : Nat} {D : Addr} {o : HO} (hm : O m = some D) : Fr c O (upd H D o) = Fr c O H := by
  funext b
  unfold Fr
  by_cases hz : c.Z b ∨ ∃ i, O i = some b
  · rw [if_pos hz, if_pos hz]
  · rw [if_neg hz, if_neg hz, hn_ne fun z => hz (.inr ⟨m, by rw [z]; exact hm⟩)]
theorem Rel.updFar {O : Nat → Option Addr} {H : Hp} {σ : L2.St} {ρ : Rho} {φ : Fd} {m : Nat} {D : Addr} {vs us : List V} (R : Rel c O H σ ρ φ) (hm : O m = some D) (far : ρ.length ≤ m) (hD : H D = some (.lst us)) : Rel c O (upd H D (.lst vs)) σ ρ φ := by
  have fe := fr_upd (c := c) (H := H) (o := .lst vs) hm
  have nD : ∀ i a, O i = some a → i ≠ m → a ≠ D := fun i a h hi z => hi (R.inj i m D (z ▸ h) hm)
  have h0 : c.H0 D = none := (R.own m D hm).2
  refine ⟨R.ok, fun i s e => ?_, R.len, R.inj, R.fin, fun i a h => ?_, ?_, ?_, fun b u h n => ?_, tabs_upd R.tabs hD⟩
  · have lt : i < ρ.length := (List.getElem?_eq_some_iff.mp e).1
    have q := R.slot i s e
    cases s with
    | un => trivial
    | dat d => obtain ⟨x, e1, p⟩ := q; exact ⟨x, e1, by rw [fe]; exact p⟩
    | own ds => obtain ⟨a, us, e1, e2, e3, p⟩ := q; exact ⟨a, us, e1, e2, by rw [upd_ne (nD i a e1 (by omega))]; exact e3, by rw [fe]; exact p⟩
    | fd => exact q
    | exc e => obtain ⟨a, C, d, e1, e2, e3⟩ := q; exact ⟨a, C, d, e1, e2, by rw [fe]; exact e3⟩
  · obtain ⟨⟨u, hu⟩, n⟩ := R.own i a h
    by_cases ha : a = D
    · exact ⟨⟨_, by rw [ha]; exact hn_of upd_same nt_lst⟩, n⟩
    · exact ⟨⟨u, by rw [hn_ne ha]; exact hu⟩, n⟩
  · have fn : c.fa ≠ D := fun z => R.ownfa m (by rw [z]; exact hm)
    rw [upd_ne fn]
    exact R.feed
  · have cn : c.ca ≠ D := fun z => by
      obtain ⟨o, e⟩ := R.ok.c0
      rw [z, h0] at e
      cases e
    rw [upd_ne cn]
    exact R.cells
  · have bn : b ≠ D := fun z => by
      rw [z, h0] at h
      cases h
    rw [hn_ne bn]
    exact R.entry b u h n
theorem noErr_bind {α β : Type} {r : Res α} {k : α → Fd → Res β} : noErr (r.bind k) = match r with | .ok a φ => noErr (k a φ) | _ => .no := by
  cases r <;> rfl
theorem pts_imp {ifs : List Expr} {t t' : TT} (h : PTs X ifs t) (i : ∀ σ H Q, t' σ H Q → t σ H Q) : PTs X ifs t' := ⟨fun pins s σ H Q I q => h.run pins s σ H Q I (i σ H Q q)⟩
theorem qts_nil : PTs X [] (tDT c W mtYes) := pts_imp pts_nil fun σ H Q ⟨O, ρ, φ, R, h⟩ => h H R (.refl _)
theorem qts_one {a : Expr} {t : MT} (h : PT X a (tDT c W t)) : PTs X [a] (tDT c W t) := pts_one h
theorem bindR_len {t : Tg} {d : Dt} {ρ ρ' : Rho} (e : bindT t d ρ = some ρ') : ρ'.length = ρ.length := by
  have sl : ∀ (js : List Nat) (ds : List Dt) (ρ : Rho), (setR ρ js ds).length = ρ.length := by
    intro js
    induction js with
    | nil => intro ds ρ; cases ds <;> rfl
    | cons j js ih =>
      intro ds ρ
      cases ds with
      | nil => rfl
      | cons d ds => exact (ih ds _).trans List.length_set
  cases t with
  | nm j => cases e; exact List.length_set
  | tp js =>
    cases d with
    | tuple xs =>
      have e' : (if xs.length = js.length then some (setR ρ js xs) else none) = some ρ' := e
      by_cases hl : xs.length = js.length
      · rw [if_pos hl] at e'; cases e'; exact sl _ _ _
      · rw [if_neg hl] at e'; cases e'
    | _ => cases e
theorem wipeR_len (ρ : Rho) : ∀ vs : List Nat, (wipeR ρ vs).length = ρ.length
  | [] => rfl
  | v :: vs => by unfold wipeR; rw [List.length_set, wipeR_len ρ vs]
/-- the reading of a comprehension -/
theorem t_lc {K : PySem.W.Frag} (hK : K = c.K) {it : MI} {t : Tg} {test : MT} {elt : ME} {vs : List Nat} (hj : ∀ j ∈ t.js, j ∈ vs) {σ : L2.St} {H : Hp} {Q : VK} (h : tD c W (mLc it t test elt vs) σ H Q) :
    tLc (tDI c W it) (gTg K t) (tDT c W0 test) (tD c W0 elt) vs σ H Q := by
  obtain ⟨O, ρ, φ, R, h⟩ := h
  refine ⟨O, ρ, φ, R, gei_bind h fun xs φ1 J H1 _ R1 s1 wk h1 => ?_⟩
  by_cases hz : xs.length ≤ sizeLine
  rotate_left
  · rw [if_neg hz] at h1
    exact h1.elim
  rw [if_pos hz] at h1
  intro D hD
  obtain ⟨B, hB⟩ := R1.fin
  obtain ⟨f1, f2, f3, f4⟩ := R1.fresh hD
  obtain ⟨m, om, R2, fe, far⟩ : ∃ m, O m = none ∧ Rel c (fun i => if i = m then some D else O i) (upd H1 D (.lst [])) σ ρ φ1 ∧ Fr c (fun i => if i = m then some D else O i) (upd H1 D (.lst [])) = Fr c O H1 ∧ ρ.length ≤ m := by
    obtain ⟨q1, q2⟩ := R1.moreAt (m := max B ρ.length) (vs := []) hD (hB _ (Nat.le_max_left _ _)) (Nat.le_max_right _ _)
    exact ⟨max B ρ.length, hB _ (Nat.le_max_left _ _), q1, q2, Nat.le_max_right _ _⟩
  generalize hO : (fun i => if i = m then some D else O i) = O' at R2 fe
  have oD : O' m = some D := by rw [← hO]; exact if_pos rfl
  refine ⟨fun i mm H2 => mm = xs.length - i ∧ i ≤ xs.length ∧ ∃ φ2 acc accD, Rel c O' H2 σ ρ φ2 ∧ Step c H1 H2 ∧ H2 D = some (.lst acc) ∧ DqAll c.K (Fr c O' H2) acc accD ∧ acc.length ≤ i ∧
      GE c W O σ ρ H1 Q (noErr ((lcGo t test elt (wipeR ρ vs) (xs.drop i) φ2).bind fun ys φ3 => .ok (.list (accD ++ ys)) φ3)), ⟨xs.length, rfl, Nat.zero_le _, φ1, [], [], R2, .of (.upd hD), upd_same, .nil, Nat.le_refl _, h1⟩, ?_⟩
  rintro i mm H2 ⟨rfl, hi, φ2, acc, accD, R3, s2, eD, pa, la, G⟩
  have gr2 : Gro (Fr c O H1) (Fr c O' H2) := fun b o hb => by
    obtain ⟨b1, b2, b3⟩ := fr_some hb
    refine fr_of (s2.at b1 (fun z => b2 (z ▸ R.ok.zf)) (fr_nt hb)) b2 fun j z => ?_
    rw [← hO] at z
    have z : (if j = m then some D else O j) = some b := z
    by_cases hj : j = m
    · rw [if_pos hj] at z
      cases z
      rw [hD] at b1
      cases b1
    · rw [if_neg hj] at z
      exact b3 j z
  have WK := wk O' H2 i gr2 R3.nw
  by_cases hlt : i < xs.length
  rotate_left
  · have e : i = xs.length := by omega
    refine .inl ⟨WK.2 e, ?_⟩
    rw [e, List.drop_length] at G
    have G' : GE c W O σ ρ H1 Q (.ok (.list (accD ++ [])) φ2) := G
    rw [List.append_nil] at G'
    have R4 : Rel c O H2 σ ρ φ2 := Rel.less om far (by rw [hO]; exact R3)
    refine G' (.ref D) H2 R4 s2 (.lst (fr_of eD f1 f2) (dqA_gro (fun b o hb => ?_) pa))
    obtain ⟨b1, b2, b3⟩ := fr_some hb
    refine fr_of b1 b2 fun j z => b3 j ?_
    rw [← hO]
    have : j ≠ m := fun y => by rw [y, om] at z; cases z
    show (if j = m then some D else O j) = some b
    rw [if_neg this]
    exact z
  · obtain ⟨go, item⟩ := WK.1 hlt
    refine .inr ⟨go, fun H' => ∃ φ2 acc accD, Rel c O' H' σ ρ φ2 ∧ Step c H1 H' ∧ H' D = some (.lst acc) ∧ DqAll c.K (Fr c O' H') acc accD ∧ acc.length ≤ i + 1 ∧
      GE c W O σ ρ H1 Q (noErr ((lcGo t test elt (wipeR ρ vs) (xs.drop (i + 1)) φ2).bind fun ys φ3 => .ok (.list (accD ++ ys)) φ3)), fun H' n => ⟨xs.length - (i + 1), by omega, rfl, hlt, n⟩, fun x H3 y => ?_⟩
    obtain ⟨g3, d, ed, pd⟩ := item x H3 y
    have edd : xs.drop i = d :: xs.drop (i + 1) := by
      obtain ⟨lt, e⟩ := List.getElem?_eq_some_iff.mp ed
      rw [← e]
      exact List.drop_eq_getElem_cons lt
    rw [edd] at G
    have R4 : Rel c O' H3 σ ρ φ2 := R3.gro g3
    have G1 : GE c W O σ ρ H1 Q (noErr ((match bindT t d (wipeR ρ vs) with
      | none => .no
      | some ρ1 => (test ρ1 φ2).bind fun b φ1 => if b = true then (elt ρ1 φ1).bind fun y φ2 => (lcGo t test elt (wipeR ρ vs) (xs.drop (i + 1)) φ2).bind fun ys φ3 => .ok (y :: ys) φ3 else lcGo t test elt (wipeR ρ vs) (xs.drop (i + 1)) φ1 : Res (List Dt)).bind fun ys φ3 => .ok (.list (accD ++ ys)) φ3)) := G
    cases eb : bindT t d (wipeR ρ vs) with
    | none => rw [eb] at G1; exact G1.elim
    | some ρ1 =>
      rw [eb] at G1
      refine gTg_ok hK (R4.wipe vs) pd eb fun σ2 ⟨js, us, e2, ejs⟩ R5 => ⟨by rw [e2]; exact wipe_setV (fun j hj' => hj j (ejs ▸ hj')), O', ρ1, φ2, R5, ?_⟩
      have G1 : GE c W O σ ρ H1 Q (noErr (((test ρ1 φ2).bind fun b φ1 => if b = true then (elt ρ1 φ1).bind fun y φ2 => (lcGo t test elt (wipeR ρ vs) (xs.drop (i + 1)) φ2).bind fun ys φ3 => .ok (y :: ys) φ3 else lcGo t test elt (wipeR ρ vs) (xs.drop (i + 1)) φ1).bind fun ys φ3 => .ok (.list (accD ++ ys)) φ3)) := G1
      have G2 : GE c W O σ ρ H1 Q (noErr ((test ρ1 φ2).bind fun b φ1 => (if b = true then (elt ρ1 φ1).bind fun y φ2 => (lcGo t test elt (wipeR ρ vs) (xs.drop (i + 1)) φ2).bind fun ys φ3 => .ok (y :: ys) φ3 else lcGo t test elt (wipeR ρ vs) (xs.drop (i + 1)) φ1).bind fun ys φ3 => .ok (.list (accD ++ ys)) φ3)) := by
        revert G1
        cases test ρ1 φ2 <;> exact fun h => h
      clear G1
      rw [noErr_bind] at G2
      cases et : test ρ1 φ2 with
      | err e φ' => rw [et] at G2; exact G2.elim
      | no => rw [et] at G2; exact G2.elim
      | ok b φ3 =>
        rw [et] at G2
        intro H4 R6 s4
        have sAll : Step c H1 H4 := (s2.trans (.of g3)).trans s4
        have eD4 : H4 D = some (.lst acc) := s4.at (g3 _ _ eD) f3
        have pa4 : DqAll c.K (Fr c O' H4) acc accD := dqA_gro ((Step.trans (.of g3) s4).fr R.ok) pa
        cases b with
        | false =>
          rw [if_neg Bool.false_ne_true]
          exact ⟨φ3, acc, accD, R4.step s4 R6.feed R6.cells, sAll, eD4, pa4, by omega, G2⟩
        | true =>
          rw [if_pos rfl]
          refine ⟨O', ρ1, φ3, R6, ?_⟩
          have G3 : GE c W O σ ρ H1 Q (noErr ((elt ρ1 φ3).bind fun y φ2 => ((lcGo t test elt (wipeR ρ vs) (xs.drop (i + 1)) φ2).bind fun ys φ3 => .ok (.list ((accD ++ [y]) ++ ys)) φ3))) := by
            revert G2
            show GE c W O σ ρ H1 Q (noErr (((elt ρ1 φ3).bind fun y φ2 => (lcGo t test elt (wipeR ρ vs) (xs.drop (i + 1)) φ2).bind fun ys φ3 => .ok (y :: ys) φ3).bind fun ys φ3 => .ok (.list (accD ++ ys)) φ3)) → _
            cases elt ρ1 φ3 with
            | ok y φ4 =>
              show GE c W O σ ρ H1 Q (noErr (((lcGo t test elt (wipeR ρ vs) (xs.drop (i + 1)) φ4).bind fun ys φ3 => .ok (y :: ys) φ3).bind fun ys φ3 => .ok (.list (accD ++ ys)) φ3)) → GE c W O σ ρ H1 Q (noErr ((lcGo t test elt (wipeR ρ vs) (xs.drop (i + 1)) φ4).bind fun ys φ3 => .ok (.list ((accD ++ [y]) ++ ys)) φ3))
              cases lcGo t test elt (wipeR ρ vs) (xs.drop (i + 1)) φ4 with
              | ok ys φ5 =>
                show GE c W O σ ρ H1 Q (noErr (.ok (.list (accD ++ (y :: ys))) φ5)) → GE c W O σ ρ H1 Q (noErr (.ok (.list ((accD ++ [y]) ++ ys)) φ5))
                rw [List.append_assoc]
                exact fun h => h
              | err e φ5 => exact fun h => h
              | no => exact fun h => h
            | err e φ4 => exact fun h => h
            | no => exact fun h => h
          clear G2
          rw [noErr_bind] at G3
          cases ee : elt ρ1 φ3 with
          | err e φ' => rw [ee] at G3; exact G3.elim
          | no => rw [ee] at G3; exact G3.elim
          | ok yd φ4 =>
            rw [ee] at G3
            intro v H5 R7 s5 pv
            have eD5 : H5 D = some (.lst acc) := s5.at eD4 f3
            refine ⟨acc, eD5, by omega, φ4, acc ++ [v], accD ++ [yd], ?_, ?_, upd_same, ?_, by rw [List.length_append]; show acc.length + 1 ≤ i + 1; omega, G3⟩
            · exact (R4.step (s4.trans s5) R7.feed R7.cells).updFar oD far eD5
            · refine ⟨fun b o hb n => ?_, fun t => tabs_upd ((sAll.trans s5).2 t) eD5⟩
              have bn : b ≠ D := fun z => by rw [z, hn_none hD] at hb; cases hb
              rw [hn_ne bn]
              exact (sAll.trans s5).1 b o hb n
            · rw [fr_upd oD]
              exact dqA_app (dqA_gro (s5.fr R.ok) pa4) (.cons pv .nil)
/-- [elt for tg in iter if ..] -/
theorem qe_lc {elt tg iter : Expr} {ifs : List Expr} {scope : Scope} {own : List (Str × Nat)} {it : MI} {t : Tg} {test : MT} {melt : ME} (hK : X.K = c.K) (hc : X.calm = true) (hN : X.N.Nodup) (hi : PI X tg iter (tDI c W it)) (ok : BlkOk X.N X.env.scope scope own)
    (hj : ∀ j ∈ t.js, j ∈ own.map (·.2))
    (hg : ∀ (s : Shared) (H : Hp) (C : Addr) (cl : List (Str × Addr)) (fp : List Addr), PG (X.blk s H scope (compEnvC scope cl C X.env) fp) tg (gTg X.K t))
    (ht : ∀ (s : Shared) (H : Hp) (C : Addr) (cl : List (Str × Addr)) (fp : List Addr), PTs (X.blk s H scope (compEnvC scope cl C X.env) fp) ifs (tDT c W0 test))
    (he : ∀ (s : Shared) (H : Hp) (C : Addr) (cl : List (Str × Addr)) (fp : List Addr), PE (X.blk s H scope (compEnvC scope cl C X.env) fp) elt (tD c W0 melt))
    (hs : ∀ x, foldedSetIterable iter X.env x = pure x := by intro _; rfl) : PE X (.ListComp elt [⟨tg, iter, ifs, 0⟩] scope pos) (tD c W (mLc it t test melt (own.map (·.2)))) :=
  pe_imp (pe_lc hc hN hi ok hg ht he hs) fun σ H Q h => t_lc hK hj h
end
end DL

set_option maxHeartbeats 1000000
/-! DL, part g: statements -/
namespace DL
open PySem PySem.Spec PyProof.Rows L2

def sNx : MS := fun ρ φ => .ok (.nx ρ) φ
def sSeq (f g : MS) : MS := fun ρ φ => match f ρ φ with
  | .ok (.nx ρ') φ' => g ρ' φ'
  | r => r
/-- an expression's end within a statement -/
def eS (r : Res Dt) (ρ : Rho) (k : Dt → Fd → Res Fl) : Res Fl := match r with
  | .ok d φ' => k d φ'
  | .err e φ' => .ok (.ex e ρ) φ'
  | .no => .no
def tSt (r : Res Bool) (ρ : Rho) (k : Bool → Fd → Res Fl) : Res Fl := match r with
  | .ok d φ' => k d φ'
  | .err e φ' => .ok (.ex e ρ) φ'
  | .no => .no
def aS (r : Res (List Dt)) (ρ : Rho) (k : List Dt → Fd → Res Fl) : Res Fl := match r with
  | .ok d φ' => k d φ'
  | .err e φ' => .ok (.ex e ρ) φ'
  | .no => .no
def sSet (j : Nat) (f : ME) : MS := fun ρ φ => eS (f ρ φ) ρ fun d φ' => .ok (.nx (ρ.set j (.dat d))) φ'
def sExpr (f : ME) : MS := fun ρ φ => eS (f ρ φ) ρ fun _ φ' => .ok (.nx ρ) φ'
def sRet (f : ME) : MS := fun ρ φ => eS (f ρ φ) ρ fun d φ' => .ok (.rt d) φ'
def sRetN : MS := fun _ φ => .ok (.rt .none) φ
def sBrk : MS := fun ρ φ => .ok (.bk ρ) φ
def sCnt : MS := fun ρ φ => .ok (.ct ρ) φ
def sIf (t : MT) (f g : MS) : MS := fun ρ φ => tSt (t ρ φ) ρ fun b φ' => if b = true then f ρ φ' else g ρ φ'
def sUnp (t : Tg) (f : ME) : MS := fun ρ φ => eS (f ρ φ) ρ fun d φ' => match bindT t d ρ with
  | some ρ' => .ok (.nx ρ') φ'
  | none => .no
def sPar (i j : Nat) (g : MA) : MS := fun ρ φ => aS (g ρ φ) ρ fun ds φ' => match ds with
  | [a, b] => .ok (.nx ((ρ.set i (.dat a)).set j (.dat b))) φ'
  | _ => .no
def sPar3 (i j l : Nat) (g : MA) : MS := fun ρ φ => aS (g ρ φ) ρ fun ds φ' => match ds with
  | [a, b, d] => .ok (.nx (((ρ.set i (.dat a)).set j (.dat b)).set l (.dat d))) φ'
  | _ => .no
def sOwn (j : Nat) (g : MA) : MS := fun ρ φ => aS (g ρ φ) ρ fun ds φ' => if ds.length ≤ sizeLine then .ok (.nx (ρ.set j (.own ds))) φ' else .no
def sApp (j : Nat) (f : ME) : MS := fun ρ φ => match ρ[j]? with
  | some (.own ds) => eS (f ρ φ) ρ fun d φ' => if ds.length < sizeLine then .ok (.nx (ρ.set j (.own (ds ++ [d])))) φ' else .no
  | _ => .no
/-- an own list is handed over: from here on it is data -/
def sFrz (j : Nat) : MS := fun ρ φ => match ρ[j]? with
  | some (.own ds) => .ok (.nx (ρ.set j (.dat (.list ds)))) φ
  | _ => .no
def fdSet (φ : Fd) : Fk → Dt → Option Fd
  | .s, .int i => some { φ with spot := i }
  | .l, .int i => some { φ with left := i }
  | .n, .int i => some { φ with count := i }
  | _, _ => none
def sFd (i : Nat) (k : Fk) (f : ME) : MS := fun ρ φ => match ρ[i]? with
  | some .fd => eS (f ρ φ) ρ fun d φ' => match fdSet φ' k d with
    | some φ2 => .ok (.nx ρ) φ2
    | none => .no
  | _ => .no
def forGo (t : Tg) (body : MS) : List Dt → Rho → Fd → Res Fl
  | [], ρ, φ => .ok (.nx ρ) φ
  | x :: xs, ρ, φ => match bindT t x ρ with
    | none => .no
    | some ρ1 => match body ρ1 φ with
      | .ok (.nx ρ2) φ2 => forGo t body xs ρ2 φ2
      | .ok (.ct ρ2) φ2 => forGo t body xs ρ2 φ2
      | .ok (.bk ρ2) φ2 => .ok (.nx ρ2) φ2
      | r => r
def sFor (it : MI) (t : Tg) (body : MS) : MS := fun ρ φ => aS (it ρ φ) ρ fun xs φ' => forGo t body xs ρ φ'
def whGo (t : MT) (body : MS) : Nat → Rho → Fd → Res Fl
  | 0, _, _ => .no
  | n + 1, ρ, φ => tSt (t ρ φ) ρ fun b φ1 => if b = true then match body ρ φ1 with
      | .ok (.nx ρ2) φ2 => whGo t body n ρ2 φ2
      | .ok (.ct ρ2) φ2 => whGo t body n ρ2 φ2
      | .ok (.bk ρ2) φ2 => .ok (.nx ρ2) φ2
      | r => r
    else .ok (.nx ρ) φ1

section
variable {X : Cx} {c : Cn} {W : WX'} {pos : Pos} {st : Stmt} {rest : List Stmt} {e : Expr} {f g : MS} {me : ME} {D : Ends}

theorem gs_e {O : Nat → Option Addr} {σ : L2.St} {ρ : Rho} {H F0 : Hp} {r : Res Dt} {k : Dt → Fd → Res Fl} {R : VK} (h : GS c W F0 D (eS r ρ k))
    (go : ∀ d φ' v H', r = .ok d φ' → Rel c O H' σ ρ φ' → Step c H H' → Dq c.K (Fr c O H') v d → GS c W F0 D (k d φ') → R v H') (g0 : Gro F0 (Fr c O H) := by exact .refl _) : GE c W O σ ρ H R r := by
  cases r with
  | ok d φ' => exact fun v H' R' st p => go d φ' v H' rfl R' st p h
  | err e φ' => exact fun C x H' R' st q => h O σ C x H' R' (g0.trans (st.fr R'.ok)) q
  | no => exact h
theorem gs_t {O : Nat → Option Addr} {σ : L2.St} {ρ : Rho} {H F0 : Hp} {r : Res Bool} {k : Bool → Fd → Res Fl} {R : Bool → Hp → Prop} (h : GS c W F0 D (tSt r ρ k))
    (go : ∀ d φ' H', r = .ok d φ' → Rel c O H' σ ρ φ' → Step c H H' → GS c W F0 D (k d φ') → R d H') (g0 : Gro F0 (Fr c O H) := by exact .refl _) : GT c W O σ ρ H R r := by
  cases r with
  | ok d φ' => exact fun H' R' st => go d φ' H' rfl R' st h
  | err e φ' => exact fun C x H' R' st q => h O σ C x H' R' (g0.trans (st.fr R'.ok)) q
  | no => exact h
theorem gs_a {O : Nat → Option Addr} {σ : L2.St} {ρ : Rho} {H F0 : Hp} {r : Res (List Dt)} {k : List Dt → Fd → Res Fl} {R : List V → Hp → Prop} (h : GS c W F0 D (aS r ρ k))
    (go : ∀ d φ' v H', r = .ok d φ' → Rel c O H' σ ρ φ' → Step c H H' → DqAll c.K (Fr c O H') v d → GS c W F0 D (k d φ') → R v H') (g0 : Gro F0 (Fr c O H) := by exact .refl _) : GA c W O σ ρ H R r := by
  cases r with
  | ok d φ' => exact fun v H' R' st p => go d φ' v H' rfl R' st p h
  | err e φ' => exact fun C x H' R' st q => h O σ C x H' R' (g0.trans (st.fr R'.ok)) q
  | no => exact h
theorem gs_i {O : Nat → Option Addr} {σ : L2.St} {ρ : Rho} {H F0 : Hp} {r : Res (List Dt)} {k : List Dt → Fd → Res Fl} {R : It → Hp → Prop} (h : GS c W F0 D (aS r ρ k))
    (go : ∀ d φ' J H', r = .ok d φ' → Rel c O H' σ ρ φ' → Step c H H' → Walks c O H' J d → GS c W F0 D (k d φ') → R J H') (g0 : Gro F0 (Fr c O H) := by exact .refl _) : GI c W O σ ρ H R r := by
  cases r with
  | ok d φ' => exact fun J H' R' st p => go d φ' J H' rfl R' st p h
  | err e φ' => exact fun C x H' R' st q => h O σ C x H' R' (g0.trans (st.fr R'.ok)) q
  | no => exact h

theorem qs_nil : PSs X [] (tS c W sNx) := pss_imp pss_nil fun D σ H ⟨O, ρ, φ, R, h⟩ => h O σ H R (.refl _)
theorem t_seq {σ : L2.St} {H : Hp} (h : tS c W (sSeq f g) D σ H) : tSeq (tS c W f) (tS c W g) D σ H := by
  obtain ⟨O, ρ, φ, R, h⟩ := h
  refine ⟨O, ρ, φ, R, ?_⟩
  unfold sSeq at h
  revert h
  cases f ρ φ with
  | ok fl φ' =>
    cases fl with
    | nx ρ' => exact fun h O' σ' H' R' gr => ⟨O', ρ', φ', R', h.gro gr⟩
    | _ => exact fun h => h
  | err e φ' => exact fun h => h
  | no => exact fun h => h
theorem qs_cons (h1 : PS X st (tS c W f)) (h2 : PSs X rest (tS c W g)) : PSs X (st :: rest) (tS c W (sSeq f g)) := pss_imp (pss_cons h1 h2) fun _ _ _ h => t_seq h
theorem qs_one (h1 : PS X st (tS c W f)) : PSs X [st] (tS c W f) := pss_one h1
theorem qs_pass : PS X (.Pass pos) (tS c W sNx) := ps_imp ps_pass fun D σ H ⟨O, ρ, φ, R, h⟩ => h O σ H R (.refl _)
theorem qs_break : PS X (.Break pos) (tS c W sBrk) := ps_imp ps_break fun D σ H ⟨O, ρ, φ, R, h⟩ => h O σ H R (.refl _)
theorem qs_continue : PS X (.Continue pos) (tS c W sCnt) := ps_imp ps_continue fun D σ H ⟨O, ρ, φ, R, h⟩ => h O σ H R (.refl _)
theorem qs_set {j : Nat} {x : Str} {pos' : Pos} (he : PE X e (tD c W me)) (hN : X.N.Nodup) (hi : X.N[j]? = some x := by rfl) (hx : Loc X.env.scope x := by first | exact Or.inl rfl | exact Or.inr rfl)
    (hs : swapsWith e (some (.Name x pos')) pos.line X.env = pure false := by rfl) (hf : X.fn x = true ∨ X.env.scope.names.lookup x = some .local := by first | exact .inl rfl | exact .inr rfl | assumption) : PS X (.Assign [.Name x pos'] e pos) (tS c W (sSet j me)) :=
  ps_imp (ps_set hN hi hx he hs hf) fun D σ H ⟨O, ρ, φ, R, h⟩ => ⟨O, ρ, φ, R, gs_e h fun d φ1 v H1 _ R1 s1 p1 h1 => h1 O _ _ (R1.set j p1) (s1.fr R.ok)⟩
theorem qs_expr (he : PE X e (tD c W me)) (hs : swapsWith e none pos.line X.env = pure false := by rfl) : PS X (.Expr e pos) (tS c W (sExpr me)) :=
  ps_imp (ps_expr he hs) fun D σ H ⟨O, ρ, φ, R, h⟩ => ⟨O, ρ, φ, R, gs_e h fun d φ1 v H1 _ R1 s1 p1 h1 => h1 O _ _ R1 (s1.fr R.ok)⟩
theorem qs_ret (he : PE X e (tD c W me)) : PS X (.Return (some e) pos) (tS c W (sRet me)) :=
  ps_imp (ps_ret he) fun D σ H ⟨O, ρ, φ, R, h⟩ => ⟨O, ρ, φ, R, gs_e h fun d φ1 v H1 _ R1 s1 p1 h1 => h1 O σ ρ v H1 R1 p1⟩
theorem qs_retN : PS X (.Return none pos) (tS c W sRetN) := ps_imp ps_retN fun D σ H ⟨O, ρ, φ, R, h⟩ => h O σ ρ .non H R .non
theorem qs_if {t : MT} {a b : List Stmt} (hc : PT X e (tDT c W t)) (ha : PSs X a (tS c W f)) (hb : PSs X b (tS c W g)) : PS X (.If e a b pos) (tS c W (sIf t f g)) :=
  ps_imp (ps_if hc ha hb) fun D σ H ⟨O, ρ, φ, R, h⟩ => ⟨O, ρ, φ, R, gs_t h fun d φ1 H1 _ R1 s1 h1 => by
    cases d with
    | true => exact ⟨O, ρ, φ1, R1, h1.gro (s1.fr R.ok)⟩
    | false => exact ⟨O, ρ, φ1, R1, h1.gro (s1.fr R.ok)⟩⟩
/-- (a, b, ..) = e -/
theorem qs_unp {tg : Expr} {t : Tg} (hK : X.K = c.K) (he : PE X e (tD c W me)) (hg : PG X tg (gTg X.K t)) (hs : swapsWithSole [tg] e pos.line X.env = pure false := by rfl) (hw : swappedStores [tg] e X.env = pure none := by rfl)
    (h1 : (assignEach [tg] X.env).map (·.2) = [assign tg X.env] := by rfl) : PS X (.Assign [tg] e pos) (tS c W (sUnp t me)) :=
  ps_imp (ps_asg he hg hs hw h1) fun D σ H ⟨O, ρ, φ, R, h⟩ => ⟨O, ρ, φ, R, gs_e h fun d φ1 v H1 _ R1 s1 p1 h1 => by
    cases eb : bindT t d ρ with
    | none => rw [eb] at h1; exact h1.elim
    | some ρ' =>
      rw [eb] at h1
      exact gTg_ok hK R1 p1 eb fun σ' _ R2 => h1 O σ' H1 R2 (s1.fr R.ok)⟩
theorem qs_par {i j : Nat} {x y : Str} {a b : Expr} {ga : MA} {px py pt : Pos} {kt k2 : Nat} {pt2 : Pos} (hc : X.calm = true) (hN : X.N.Nodup) (ha : PA X [a, b] (tDA c W ga)) (hi : X.N[i]? = some x := by rfl) (hj : X.N[j]? = some y := by rfl) (hij : i ≠ j := by decide)
    (hx : X.env.scope.names.lookup x = some .local := by rfl) (hy : X.env.scope.names.lookup y = some .local := by rfl)
    (hw : swappedStores [.Tuple [.Name x px, .Name y py] kt pt] (.Tuple [a, b] k2 pt2) X.env = pure (some [x, y]) := by rfl)
    (hs : swapsWithSole [.Tuple [.Name x px, .Name y py] kt pt] (.Tuple [a, b] k2 pt2) pos.line X.env = pure false := by rfl) :
    PS X (.Assign [.Tuple [.Name x px, .Name y py] kt pt] (.Tuple [a, b] k2 pt2) pos) (tS c W (sPar i j ga)) :=
  ps_imp (ps_par hc hN hi hj hij hx hy ha hw hs) fun D σ H ⟨O, ρ, φ, R, h⟩ => ⟨O, ρ, φ, R, gs_a h fun ds φ1 vs H1 _ R1 s1 p1 h1 => by
    split at h1
    · cases p1 with
      | cons q1 t1 =>
        cases t1 with
        | cons q2 t2 =>
          cases t2
          exact ⟨_, _, rfl, h1 O _ H1 ((R1.set i q1).set j q2) (s1.fr R.ok)⟩
    · exact h1.elim⟩
theorem qs_par3 {i j l : Nat} {x y z : Str} {a b d : Expr} {ga : MA} {px py pz pt : Pos} {kt k2 : Nat} {pt2 : Pos} (hc : X.calm = true) (hN : X.N.Nodup) (ha : PA X [a, b, d] (tDA c W ga)) (hi : X.N[i]? = some x := by rfl) (hj : X.N[j]? = some y := by rfl) (hl : X.N[l]? = some z := by rfl)
    (hij : i ≠ j := by decide) (hil : i ≠ l := by decide) (hjl : j ≠ l := by decide)
    (hx : X.env.scope.names.lookup x = some .local := by rfl) (hy : X.env.scope.names.lookup y = some .local := by rfl) (hz : X.env.scope.names.lookup z = some .local := by rfl)
    (hw : swappedStores [.Tuple [.Name x px, .Name y py, .Name z pz] kt pt] (.Tuple [a, b, d] k2 pt2) X.env = pure (some [x, y, z]) := by rfl)
    (hs : swapsWithSole [.Tuple [.Name x px, .Name y py, .Name z pz] kt pt] (.Tuple [a, b, d] k2 pt2) pos.line X.env = pure false := by rfl) :
    PS X (.Assign [.Tuple [.Name x px, .Name y py, .Name z pz] kt pt] (.Tuple [a, b, d] k2 pt2) pos) (tS c W (sPar3 i j l ga)) :=
  ps_imp (ps_par3 hc hN hi hj hl hij hil hjl hx hy hz ha hw hs) fun D σ H ⟨O, ρ, φ, R, h⟩ => ⟨O, ρ, φ, R, gs_a h fun ds φ1 vs H1 _ R1 s1 p1 h1 => by
    split at h1
    · cases p1 with
      | cons q1 t1 =>
        cases t1 with
        | cons q2 t2 =>
          cases t2 with
          | cons q3 t3 =>
            cases t3
            exact ⟨_, _, _, rfl, h1 O _ H1 (((R1.set i q1).set j q2).set l q3) (s1.fr R.ok)⟩
    · exact h1.elim⟩
/-- name = [..], on one line -/
theorem qs_setLc {i : Nat} {y : Str} {py : Pos} {elt tg iter : Expr} {ifs : List Expr} {scope : Scope} {own : List (Str × Nat)} {spos : Pos} {it : MI} {t : Tg} {test : MT} {melt : ME} (hK : X.K = c.K) (hc : X.calm = true) (hN : X.N.Nodup)
    (hi : PI X tg iter (tDI c W it)) (ok : BlkOk X.N X.env.scope scope own) (hj : ∀ j ∈ t.js, j ∈ own.map (·.2))
    (hg : ∀ (s : Shared) (H : Hp) (C : Addr) (cl : List (Str × Addr)) (fp : List Addr), PG (X.blk s H scope (compEnvC scope cl C X.env) fp) tg (gTg X.K t))
    (ht : ∀ (s : Shared) (H : Hp) (C : Addr) (cl : List (Str × Addr)) (fp : List Addr), PTs (X.blk s H scope (compEnvC scope cl C X.env) fp) ifs (tDT c W0 test))
    (he : ∀ (s : Shared) (H : Hp) (C : Addr) (cl : List (Str × Addr)) (fp : List Addr), PE (X.blk s H scope (compEnvC scope cl C X.env) fp) elt (tD c W0 melt))
    (hy : X.N[i]? = some y := by rfl) (hyl : X.env.scope.names.lookup y = some .local := by rfl)
    (hsw : swapsWith (.ListComp elt [⟨tg, iter, ifs, 0⟩] scope pos) (some (.Name y py)) spos.line X.env = pure true := by exact sw_true rfl rfl rfl (by decide +kernel))
    (hs : ∀ x, foldedSetIterable iter X.env x = pure x := by intro _; rfl) : PS X (.Assign [.Name y py] (.ListComp elt [⟨tg, iter, ifs, 0⟩] scope pos) spos) (tS c W (sSet i (mLc it t test melt (own.map (·.2))))) :=
  ps_imp (ps_setLc hc hN hy hyl hsw hi ok hg ht he hs) fun D σ H ⟨O, ρ, φ, R, h⟩ =>
    t_lc (c := c) (W := W) hK hj ⟨O, ρ, φ, R, gs_e h fun d φ1 v H1 _ R1 s1 p1 h1 => h1 O _ _ (R1.set i p1) (s1.fr R.ok)⟩

/-! ### lists of the frame's own -/
/-- slot j takes the new list p -/
theorem Rel.setOwn {O : Nat → Option Addr} {H : Hp} {σ : L2.St} {ρ : Rho} {φ : Fd} (R : Rel c O H σ ρ φ) {p : Addr} {vs : List V} {ds : List Dt} {j : Nat} (hp : H p = none) (pa : DqAll c.K (Fr c O H) vs ds) :
    ∃ O', Rel c O' (upd H p (.lst vs)) (σ.set j (some (.ref p))) (ρ.set j (.own ds)) φ ∧ Gro (Fr c O H) (Fr c O' (upd H p (.lst vs))) := by
  obtain ⟨f1, f2, f3, f4⟩ := R.fresh hp
  let O' : Nat → Option Addr := fun i => if i = j then some p else O i
  have oj : O' j = some p := if_pos rfl
  have oi : ∀ i, i ≠ j → O' i = O i := fun i h => if_neg h
  have gr : Gro (Fr c O H) (Fr c O' (upd H p (.lst vs))) := fun b o hb => by
    obtain ⟨b1, b2, b3⟩ := fr_some hb
    have bp : b ≠ p := fun z => by rw [z, hp] at b1; cases b1
    refine fr_of (by rw [upd_ne bp]; exact b1) b2 fun i z => ?_
    by_cases hi : i = j
    · rw [hi, oj] at z
      exact bp (Option.some.inj z).symm
    · rw [oi i hi] at z
      exact b3 i z
  obtain ⟨B, hB⟩ := R.fin
  refine ⟨O', ⟨R.ok, fun i s e => ?_, by rw [List.length_set, List.length_set]; exact R.len, fun i k a h1 h2 => ?_, ⟨max B (j + 1), fun i hi => ?_⟩, fun i a h => ?_, ?_, ?_, fun b o h n => ?_, R.tabs.ext (Gro.upd hp)⟩, gr⟩
  · by_cases h : j = i
    · subst h
      have lt : j < ρ.length := by
        have := (List.getElem?_eq_some_iff.mp e).1
        rwa [List.length_set] at this
      rw [List.getElem?_set_self lt] at e
      cases e
      exact ⟨p, vs, oj, List.getElem?_set_self (by rw [R.len]; exact lt), upd_same, dqA_gro gr pa⟩
    · rw [List.getElem?_set_ne h] at e
      rw [List.getElem?_set_ne h]
      have q := R.slot i s e
      cases s with
      | un => trivial
      | dat d => obtain ⟨x, e1, p1⟩ := q; exact ⟨x, e1, dq_gro gr p1⟩
      | own es =>
        obtain ⟨a, us, e1, e2, e3, p1⟩ := q
        have an : a ≠ p := fun z => f2 i (by rw [← z]; exact e1)
        exact ⟨a, us, (oi i (Ne.symm h)).trans e1, e2, by rw [upd_ne an]; exact e3, dqA_gro gr p1⟩
      | fd => exact q
      | exc e => obtain ⟨a, C, d, e1, e2, e3⟩ := q; exact ⟨a, C, d, e1, e2, er_gro gr e3⟩
  · by_cases hi : i = j <;> by_cases hk : k = j
    · rw [hi, hk]
    · rw [hi, oj] at h1
      rw [oi k hk] at h2
      exact absurd (h1 ▸ h2) (f2 k)
    · rw [oi i hi] at h1
      rw [hk, oj] at h2
      exact absurd (h2 ▸ h1) (f2 i)
    · rw [oi i hi] at h1
      rw [oi k hk] at h2
      exact R.inj i k a h1 h2
  · have h1 : B ≤ i := Nat.le_trans (Nat.le_max_left _ _) hi
    have h2 : j + 1 ≤ i := Nat.le_trans (Nat.le_max_right _ _) hi
    rw [oi i (by omega)]
    exact hB i h1
  · by_cases hi : i = j
    · rw [hi, oj] at h
      cases h
      exact ⟨⟨_, hn_of upd_same nt_lst⟩, f4⟩
    · rw [oi i hi] at h
      obtain ⟨⟨o, ho⟩, n⟩ := R.own i a h
      have an : a ≠ p := fun z => f2 i (by rw [← z]; exact h)
      exact ⟨⟨o, by rw [hn_ne an]; exact ho⟩, n⟩
  · rw [upd_ne (Ne.symm f3)]
    exact R.feed
  · have cn : c.ca ≠ p := fun z => by
      have q := R.cells
      rw [z, hp] at q
      cases q
    rw [upd_ne cn]
    exact R.cells
  · have bn : b ≠ p := fun z => by
      rw [z, f4] at h
      cases h
    rw [hn_ne bn]
    exact R.entry b o h n
theorem qs_own {j : Nat} {x : Str} {pos' lp : Pos} {es : List Expr} {ga : MA} (ha : PA X es (tDA c W ga)) (hN : X.N.Nodup) (hi : X.N[j]? = some x := by rfl) (hx : Loc X.env.scope x := by first | exact Or.inl rfl | exact Or.inr rfl)
    (hs : swapsWith (.List es lp) (some (.Name x pos')) pos.line X.env = pure false := by rfl) (hf : X.fn x = true ∨ X.env.scope.names.lookup x = some .local := by first | exact .inl rfl | exact .inr rfl | assumption) : PS X (.Assign [.Name x pos'] (.List es lp) pos) (tS c W (sOwn j ga)) :=
  ps_imp (ps_set hN hi hx (pe_lst ha) hs hf) fun D σ H ⟨O, ρ, φ, R, h⟩ => ⟨O, ρ, φ, R, gs_a h fun ds φ1 vs H1 _ R1 s1 p1 h1 => by
    by_cases z : ds.length ≤ sizeLine
    · rw [if_pos z] at h1
      refine ⟨by rw [dqA_len p1]; exact z, fun p hp => ?_⟩
      obtain ⟨O', R2, gr⟩ := R1.setOwn (j := j) hp p1
      exact h1 O' _ _ R2 ((s1.fr R.ok).trans gr)
    · rw [if_neg z] at h1
      exact h1.elim⟩
/-- what an own list held grows -/
theorem Rel.updOwn {O : Nat → Option Addr} {H : Hp} {σ : L2.St} {ρ : Rho} {φ : Fd} (R : Rel c O H σ ρ φ) {a : Addr} {vs : List V} {ds : List Dt} {j : Nat} (oj : O j = some a) (hs : σ[j]? = some (some (.ref a))) {us : List V} (hA : H a = some (.lst us)) (pa : DqAll c.K (Fr c O H) vs ds) :
    Rel c O (upd H a (.lst vs)) σ (ρ.set j (.own ds)) φ := by
  have fe := fr_upd (c := c) (H := H) (o := .lst vs) oj
  have h0 : c.H0 a = none := (R.own j a oj).2
  refine ⟨R.ok, fun i s e => ?_, by rw [List.length_set]; exact R.len, R.inj, R.fin, fun i b h => ?_, ?_, ?_, fun b u h n => ?_, tabs_upd R.tabs hA⟩
  · by_cases h : j = i
    · subst h
      have lt : j < ρ.length := by
        have := (List.getElem?_eq_some_iff.mp e).1
        rwa [List.length_set] at this
      rw [List.getElem?_set_self lt] at e
      cases e
      exact ⟨a, vs, oj, hs, upd_same, by rw [fe]; exact pa⟩
    · rw [List.getElem?_set_ne h] at e
      have q := R.slot i s e
      cases s with
      | un => trivial
      | dat d => obtain ⟨x, e1, p1⟩ := q; exact ⟨x, e1, by rw [fe]; exact p1⟩
      | own es =>
        obtain ⟨b, us, e1, e2, e3, p1⟩ := q
        have bn : b ≠ a := fun z => h (R.inj j i a oj (z ▸ e1))
        exact ⟨b, us, e1, e2, by rw [upd_ne bn]; exact e3, by rw [fe]; exact p1⟩
      | fd => exact q
      | exc e => obtain ⟨a, C, d, e1, e2, e3⟩ := q; exact ⟨a, C, d, e1, e2, by rw [fe]; exact e3⟩
  · obtain ⟨⟨u, hu⟩, n⟩ := R.own i b h
    by_cases hb : b = a
    · exact ⟨⟨_, by rw [hb]; exact hn_of upd_same nt_lst⟩, n⟩
    · exact ⟨⟨u, by rw [hn_ne hb]; exact hu⟩, n⟩
  · have fn : c.fa ≠ a := fun z => R.ownfa j (by rw [z]; exact oj)
    rw [upd_ne fn]
    exact R.feed
  · have cn : c.ca ≠ a := fun z => by
      obtain ⟨o, e⟩ := R.ok.c0
      rw [z, h0] at e
      cases e
    rw [upd_ne cn]
    exact R.cells
  · have bn : b ≠ a := fun z => by
      rw [z, h0] at h
      cases h
    rw [hn_ne bn]
    exact R.entry b u h n
theorem qs_app {j : Nat} {x : Str} {np ap cpos : Pos} (he : PE X e (tD c W me)) (hN : X.N[j]? = some x := by rfl) (hv : Vis X.env.scope x := by first | exact Or.inl rfl | exact Or.inr (Or.inl rfl) | exact Or.inr (Or.inr rfl))
    (hd : (x == ("__debug__" : Str)) = false := by decide) (hcd : (x == ("__classdict__" : Str)) = false := by decide)
    (hbase : attributeBase (.Name x np) "append" X.env (eval (.Name x np) X.env) = eval (.Name x np) X.env := by rfl)
    (hfew : ((backTo cpos (starEach [e] X.env)).all (fun x => !x.1) && (backToKw cpos (keywordEach [] X.env)).all (fun x => x.1.isSome)
      && decide (([e] : List Expr).length + ([] : List Keyword).length + (if ([] : List Keyword).isEmpty then 0 else 1) < 30)) = true := by rfl)
    (hline : (ap.endLine == cpos.line) = true := by rfl) (hst : starEach [e] X.env = (false, eval e X.env) :: starEach [] X.env := by rfl) (hplain : (backTo cpos (starEach [] X.env)).any (·.1) = false := by rfl)
    (hs : swapsWith (.Call (.Attribute (.Name x np) "append" ap) [e] [] cpos) none pos.line X.env = pure false := by rfl) :
    PS X (.Expr (.Call (.Attribute (.Name x np) "append" ap) [e] [] cpos) pos) (tS c W (sApp j me)) :=
  ps_imp (ps_expr (pe_bm PySem.F.plainAttrs_list PySem.F.slot_list_append PySem.F.type_list_append mt_append (pe_var hN hv hd hcd) (pa_cons he pa_nil hst) hbase hfew hline hst hplain) hs) fun D σ H ⟨O, ρ, φ, R, h⟩ => by
    unfold sApp at h
    split at h
    · rename_i ds er
      obtain ⟨a, us, e1, e2, e3, p0⟩ := R.slot j _ er
      refine ⟨_, e2, .inl ⟨rfl, _, SqL.of e3⟩, ⟨O, ρ, φ, R, gs_e h fun d φ1 v H1 _ R1 s1 p1 h1 => ?_⟩⟩
      by_cases z : ds.length < sizeLine
      · rw [if_pos z] at h1
        have an : a ≠ c.fa := fun q => R.ownfa j (by rw [← q]; exact e1)
        have e4 : H1 a = some (.lst us) := s1.at e3 an
        refine ⟨a, us, v, rfl, rfl, e4, by rw [dqA_len p0]; exact z, ?_⟩
        have R2 := R1.updOwn (vs := us ++ [v]) (ds := ds ++ [d]) e1 e2 e4 (dqA_app (dqA_gro (s1.fr R.ok) p0) (.cons p1 .nil))
        refine h1 O σ _ R2 ?_
        rw [fr_upd e1]
        exact s1.fr R.ok
      · rw [if_neg z] at h1
        exact h1.elim
    · exact h.elim
/-- no statement: an own list is data from here on -/
theorem qs_frz {j : Nat} (h2 : PSs X rest (tS c W g)) : PSs X rest (tS c W (sSeq (sFrz j) g)) :=
  pss_imp h2 fun D σ H ⟨O, ρ, φ, R, h⟩ => by
    unfold sSeq sFrz at h
    cases er : ρ[j]? with
    | none => rw [er] at h; exact h.elim
    | some s =>
      rw [er] at h
      cases s with
      | own ds =>
        obtain ⟨a, us, e1, e2, e3, p0⟩ := R.slot j _ er
        have h : GS c W (Fr c O H) D (g (ρ.set j (.dat (.list ds))) φ) := h
        let O' : Nat → Option Addr := fun i => if i = j then none else O i
        have oi : ∀ i b, O' i = some b → O i = some b ∧ i ≠ j := fun i b z => by
          have z : (if i = j then none else O i) = some b := z
          by_cases hi : i = j
          · rw [if_pos hi] at z; cases z
          · rw [if_neg hi] at z; exact ⟨z, hi⟩
        have gr : Gro (Fr c O H) (Fr c O' H) := fun b o hb => by
          obtain ⟨b1, b2, b3⟩ := fr_some hb
          exact fr_of b1 b2 fun i z => b3 i (oi i b z).1
        obtain ⟨_, n0⟩ := R.own j a e1
        have az : ¬ c.Z a := fun z => by
          obtain ⟨o, q⟩ := R.ok.z0 a z
          rw [n0] at q
          cases q
        have va : Fr c O' H a = some (.lst us) := fr_of e3 az fun i z => (oi i a z).2 (R.inj i j a (oi i a z).1 e1)
        obtain ⟨B, hB⟩ := R.fin
        refine ⟨O', _, φ, ⟨R.ok, fun i s e => ?_, by rw [List.length_set]; exact R.len, fun i k b h1 h2 => R.inj i k b (oi i b h1).1 (oi k b h2).1, ⟨B, fun i hi => ?_⟩, fun i b q => R.own i b (oi i b q).1, R.feed, R.cells, R.entry, R.tabs⟩, h.gro gr⟩
        · by_cases hh : j = i
          · subst hh
            have lt : j < ρ.length := by
              have := (List.getElem?_eq_some_iff.mp e).1
              rwa [List.length_set] at this
            rw [List.getElem?_set_self lt] at e
            cases e
            exact ⟨.ref a, e2, .lst va (dqA_gro gr p0)⟩
          · rw [List.getElem?_set_ne hh] at e
            have q := R.slot i s e
            cases s with
            | un => trivial
            | dat d => obtain ⟨x, q1, q2⟩ := q; exact ⟨x, q1, dq_gro gr q2⟩
            | own es => obtain ⟨b, vs, q1, q2, q3, q4⟩ := q; exact ⟨b, vs, (if_neg (Ne.symm hh)).trans q1, q2, q3, dqA_gro gr q4⟩
            | fd => exact q
            | exc e => obtain ⟨a', C, d, q1, q2, q3⟩ := q; exact ⟨a', C, d, q1, q2, er_gro gr q3⟩
        · show (if i = j then none else O i) = none
          by_cases hi' : i = j
          · rw [if_pos hi']
          · rw [if_neg hi']; exact hB i hi
      | _ => exact h.elim

/-! ### the feed is written -/
theorem fkv_len (c : Cn) (φ : Fd) : (fkv c φ).length = 4 := rfl
theorem fkv_put (c : Cn) (nk : c.L.Nk) (φ φ2 : Fd) (k : Fk) (d : Dt) (v : V) {H : Hp} (p : Dq c.K H v d) (e : fdSet φ k d = some φ2) : putK (fkv c φ) (.inr (c.L.key k)) v = fkv c φ2 ∧ φ2.cells = φ.cells := by
  obtain ⟨h12, h13, h14, h23, h24, h34⟩ := nk
  have ne : ∀ {a b : Str}, a ≠ b → ¬ ((Sum.inr a : Key) = Sum.inr b) := fun h z => h (Sum.inr.inj z)
  have n12 := ne h12
  have n13 := ne h13
  have n14 := ne h14
  have n23 := ne h23
  have n24 := ne h24
  have n34 := ne h34
  have n21 := ne (Ne.symm h12)
  have n31 := ne (Ne.symm h13)
  have n41 := ne (Ne.symm h14)
  have n32 := ne (Ne.symm h23)
  have n42 := ne (Ne.symm h24)
  have n43 := ne (Ne.symm h34)
  cases k with
  | c => cases d <;> cases e
  | s =>
    cases p <;> cases e
    refine ⟨?_, rfl⟩
    have a : ((fkv c φ).any fun kv => decide (kv.1 = Sum.inr (c.L.key .s))) = true := by rw [valV_any, fkv_get c ⟨h12, h13, h14, h23, h24, h34⟩ φ .s]; rfl
    unfold putK
    rw [if_pos a]
    simp only [fkv, Lw.key, List.map_cons, List.map_nil, n12, n32, n42, if_false, if_true]
  | l =>
    cases p <;> cases e
    refine ⟨?_, rfl⟩
    have a : ((fkv c φ).any fun kv => decide (kv.1 = Sum.inr (c.L.key .l))) = true := by rw [valV_any, fkv_get c ⟨h12, h13, h14, h23, h24, h34⟩ φ .l]; rfl
    unfold putK
    rw [if_pos a]
    simp only [fkv, Lw.key, List.map_cons, List.map_nil, n13, n23, n43, if_false, if_true]
  | n =>
    cases p <;> cases e
    refine ⟨?_, rfl⟩
    have a : ((fkv c φ).any fun kv => decide (kv.1 = Sum.inr (c.L.key .n))) = true := by rw [valV_any, fkv_get c ⟨h12, h13, h14, h23, h24, h34⟩ φ .n]; rfl
    unfold putK
    rw [if_pos a]
    simp only [fkv, Lw.key, List.map_cons, List.map_nil, n14, n24, n34, if_false, if_true]
theorem qs_fd {i j : Nat} {k : Fk} {x y : Str} {p1 p2 p3 : Pos} (hk : c.L.key k = y) (nk : c.L.Nk) (hu : X.A.units + 1 < cLine) (he : PE X e (tD c W me)) (hN : X.N[i]? = some x := by rfl) (hv : Vis X.env.scope x := by first | exact Or.inl rfl | exact Or.inr (Or.inl rfl) | exact Or.inr (Or.inr rfl))
    (hd : (x == ("__debug__" : Str)) = false := by decide) (hcd : (x == ("__classdict__" : Str)) = false := by decide)
    (hs : swapsWith e (some (.Subscript (.Name x p1) (.Constant (.str y) j p2) p3)) pos.line X.env = pure false := by rfl) : PS X (.Assign [.Subscript (.Name x p1) (.Constant (.str y) j p2) p3] e pos) (tS c W (sFd i k me)) :=
  ps_imp (ps_dput hu (pe_var hN hv hd hcd) pe_str he hs) fun D σ H ⟨O, ρ, φ, R, h⟩ => by
    unfold sFd at h
    split at h
    · rename_i e0
      refine ⟨O, ρ, φ, R, gs_e h fun d φ1 v H1 _ R1 s1 p1 h1 => ⟨_, R1.slot i _ e0, ?_⟩⟩
      cases e1 : fdSet φ1 k d with
      | none => rw [e1] at h1; exact h1.elim
      | some φ2 =>
        rw [e1] at h1
        obtain ⟨q1, q2⟩ := fkv_put c nk φ1 φ2 k d v p1 e1
        subst hk
        refine ⟨c.fa, _, rfl, DPut.k (k := Sum.inr (c.L.key k)) R1.feed (by rw [fkv_len]; decide), ?_⟩
        rw [q1]
        have st : Step c H1 (upd H1 c.fa (.dK (fkv c φ2))) := ⟨fun b o hb n => by rw [hn_ne n]; exact hb, fun t => tabs_upd t R1.feed⟩
        have R2 := R1.step st (φ' := φ2) upd_same (by rw [upd_ne R.ok.cne, q2]; exact R1.cells)
        exact h1 O σ _ R2 ((s1.trans st).fr R.ok)
    · exact h.elim

/-! ### loops -/
theorem qs_for {tg iter : Expr} {body : List Stmt} {it : MI} {t : Tg} (hK : X.K = c.K) (hp : PassesOwn (model X.prog X.w) X.A X.env X.xe) (hc : X.calm = true) (hi : PI X tg iter (tDI c W it)) (hg : PG X tg (gTg X.K t)) (hb : PSs X body (tS c W f))
    (hs : ∀ x, foldedSetIterable iter X.env x = pure x := by intro _; rfl) : PS X (.For tg iter body [] pos) (tS c W (sFor it t f)) :=
  ps_imp (ps_for hp hc hi hg hb hs) fun D σ H ⟨O, ρ, φ, R, h⟩ => ⟨O, ρ, φ, R, gs_i h fun xs φ1 J H1 _ R1 s1 wk h1 => by
    have g0 := s1.fr R.ok (O := O)
    refine ⟨fun i m σ2 H2 => m = xs.length - i ∧ i ≤ xs.length ∧ ∃ O2 ρ2 φ2, Rel c O2 H2 σ2 ρ2 φ2 ∧ Gro (Fr c O H1) (Fr c O2 H2) ∧ GS c W (Fr c O H) D (forGo t f (xs.drop i) ρ2 φ2),
      ⟨xs.length, rfl, Nat.zero_le _, O, ρ, φ1, R1, .refl _, h1⟩, ?_⟩
    rintro i m σ2 H2 ⟨rfl, hi, O2, ρ2, φ2, R2, g2, G⟩
    have WK := wk O2 H2 i g2 R2.nw
    by_cases hlt : i < xs.length
    rotate_left
    · have e : i = xs.length := by omega
      refine .inl ⟨WK.2 e, ?_⟩
      rw [e, List.drop_length] at G
      exact G O2 σ2 H2 R2 (g0.trans g2)
    · obtain ⟨go, item⟩ := WK.1 hlt
      refine .inr ⟨go, fun σ' H' => ∃ O2 ρ2 φ2, Rel c O2 H' σ' ρ2 φ2 ∧ Gro (Fr c O H1) (Fr c O2 H') ∧ GS c W (Fr c O H) D (forGo t f (xs.drop (i + 1)) ρ2 φ2), fun σ' H' n => ⟨xs.length - (i + 1), by omega, rfl, hlt, n⟩, fun x H3 y => ?_⟩
      obtain ⟨g3, d, ed, pd⟩ := item x H3 y
      have edd : xs.drop i = d :: xs.drop (i + 1) := by
        obtain ⟨lt, e⟩ := List.getElem?_eq_some_iff.mp ed
        rw [← e]
        exact List.drop_eq_getElem_cons lt
      rw [edd] at G
      have R3 := R2.gro g3
      have gg : Gro (Fr c O H1) (Fr c O2 H3) := g2.trans (fr_gro g3)
      unfold forGo at G
      cases eb : bindT t d ρ2 with
      | none => rw [eb] at G; exact G.elim
      | some ρ3 =>
        simp only [eb] at G
        refine gTg_ok hK R3 pd eb fun σ4 _ R4 => ⟨O2, ρ3, φ2, R4, ?_⟩
        revert G
        cases f ρ3 φ2 with
        | ok fl φ4 =>
          cases fl with
          | nx ρ5 => exact fun G O5 σ5 H5 R5 g5 => ⟨O5, ρ5, φ4, R5, gg.trans g5, G⟩
          | ct ρ5 => exact fun G O5 σ5 H5 R5 g5 => ⟨O5, ρ5, φ4, R5, gg.trans g5, G⟩
          | bk ρ5 => exact fun G O5 σ5 H5 R5 g5 => G O5 σ5 H5 R5 ((g0.trans gg).trans g5)
          | rt d => exact fun G => G
          | ex e ρ5 => exact fun G O' σ' C x H' R g => G O' σ' C x H' R ((g0.trans gg).trans g)
        | err e φ4 => exact fun G => G
        | no => exact fun G => G⟩
theorem qs_while {body : List Stmt} {t : MT} (n : Nat) (hp : PassesOwn (model X.prog X.w) X.A X.env X.xe) (hc : PT X e (tDT c W t)) (hb : PSs X body (tS c W f)) : PS X (.While e body [] pos) (tS c W (whGo t f n)) :=
  ps_imp (ps_while hp hc hb) fun D σ H ⟨O, ρ, φ, R, h⟩ => by
    refine ⟨fun m σ2 H2 => ∃ O2 ρ2 φ2, Rel c O2 H2 σ2 ρ2 φ2 ∧ Gro (Fr c O H) (Fr c O2 H2) ∧ GS c W (Fr c O H) D (whGo t f m ρ2 φ2), ⟨n, O, ρ, φ, R, .refl _, h⟩, ?_⟩
    rintro m σ2 H2 ⟨O2, ρ2, φ2, R2, g2, G⟩
    cases m with
    | zero => exact G.elim
    | succ m =>
      refine ⟨O2, ρ2, φ2, R2, gs_t (g0 := g2) G fun b φ3 H3 _ R3 s3 h3 => ?_⟩
      have g3 : Gro (Fr c O H) (Fr c O2 H3) := g2.trans (s3.fr R.ok)
      cases b with
      | false => exact h3 O2 σ2 H3 R3 g3
      | true =>
        rw [if_pos rfl] at h3 ⊢
        refine ⟨fun σ' H' => ∃ O2 ρ2 φ2, Rel c O2 H' σ' ρ2 φ2 ∧ Gro (Fr c O H) (Fr c O2 H') ∧ GS c W (Fr c O H) D (whGo t f m ρ2 φ2), fun σ' H' n => ⟨m, Nat.lt_succ_self m, n⟩, O2, ρ2, φ3, R3, ?_⟩
        revert h3
        cases f ρ2 φ3 with
        | ok fl φ4 =>
          cases fl with
          | nx ρ5 => exact fun G O5 σ5 H5 R5 g5 => ⟨O5, ρ5, φ4, R5, g3.trans g5, G⟩
          | ct ρ5 => exact fun G O5 σ5 H5 R5 g5 => ⟨O5, ρ5, φ4, R5, g3.trans g5, G⟩
          | bk ρ5 => exact fun G O5 σ5 H5 R5 g5 => G O5 σ5 H5 R5 (g3.trans g5)
          | rt d => exact fun G => G
          | ex e ρ5 => exact fun G O' σ' C x H' R g => G O' σ' C x H' R (g3.trans g)
        | err e φ4 => exact fun G => G
        | no => exact fun G => G
end
end DL

set_option maxHeartbeats 1000000
/-! DL, part h: t[::-1] of a tuple -/
namespace DL
open PySem PySem.Spec PyProof.Rows L2 HT
theorem rev_places (n : Nat) : Builtin.Slice.slicePlaces ((n : Int) - 1) (-1) (-1) = n := by
  unfold Builtin.Slice.slicePlaces
  first
    | omega
    | (simp; omega)
    | (split <;> omega)
    | (simp only []; split <;> simp_all <;> omega)
theorem rev_adjust (n : Nat) : Builtin.Slice.sliceAdjust none none (-1) (n : Int) = ((n : Int) - 1, -1) := by
  unfold Builtin.Slice.sliceAdjust
  first | rfl | simp
section
variable {prog : Program} {w : World} {A : Around} {E : Value → Shared → Prop} {s : Shared}
theorem rev_applied {sl : Addr} {n : Nat} {t : Tok} {Q : Int × Int × Nat → Shared → Prop} (hs : s.heap.IsSliceOf sl .none .none (.int (-1) t)) (h : Q ((n : Int) - 1, -1, n) s) :
    wpAny (model prog w) A (Builtin.Slice.sliceApplied (.ref sl) (pure (n : Int))) Q E s := by
  obtain ⟨os, at0, cl, dat⟩ := id hs
  unfold Builtin.Slice.sliceApplied Builtin.Slice.sliceFields
  refine wpAny_bind (wpAny_bind (wpAny_field at0 dat (x := .none) rfl (wpAny_bind (wpAny_field at0 dat (x := .none) rfl (wpAny_bind (wpAny_field at0 dat (x := .int (-1) t) rfl (wpAny_pure ?_)))))))
  refine wpAny_bind (slicePart_ (.int (-1) t) ?_)
  show wpAny _ _ (if ((-1 : Int) == 0) = true then _ else _) _ _ s
  rw [if_neg (by decide)]
  refine wpAny_bind (slicePart_none (wpAny_bind (slicePart_none (wpAny_bind (wpAny_pure ?_)))))
  show wpAny _ _ (match Builtin.Slice.sliceAdjust none none (-1) (n : Int) with | (lo, hi) => pure (lo, (-1 : Int), Builtin.Slice.slicePlaces lo hi (-1))) _ _ s
  rw [rev_adjust]
  show wpAny _ _ (pure ((n : Int) - 1, (-1 : Int), Builtin.Slice.slicePlaces ((n : Int) - 1) (-1) (-1))) _ _ s
  rw [rev_places]
  exact wpAny_pure h
theorem rev_pick (xs : Array Value) : ((List.range xs.size).filterMap fun (k : Nat) => xs[((xs.size : Int) - 1 + (k : Int) * (-1)).toNat]?) = xs.toList.reverse := by
  have e : (fun (k : Nat) => xs[((xs.size : Int) - 1 + (k : Int) * (-1)).toNat]?) = (xs[·]?) ∘ fun (k : Nat) => (((xs.size : Int) - 1 + (k : Int) * (-1)).toNat) := rfl
  rw [e, ← List.filterMap_map]
  have e2 : (List.range xs.size).map (fun (k : Nat) => (((xs.size : Int) - 1 + (k : Int) * (-1)).toNat)) = (List.range xs.size).reverse := by
    rw [← PySem.W.krv_range]
    apply List.map_congr_left
    intro k hk
    have := List.mem_range.mp hk
    omega
  rw [e2, List.filterMap_reverse, PySem.W.krv_all]
theorem rev_getItem {t sl : Addr} {tk : Tok} {items : Array Value} {Q : Value → Shared → Prop} (ht : IsTup s.heap t items) (hs : s.heap.IsSliceOf sl .none .none (.int (-1) tk))
    (h : Q (.ref s.heap.objs.size) { s with heap := s.heap.push { cls := .type "tuple", data := .seq items.toList.reverse.toArray } }) (hsz : items.size ≤ sizeLine) : wpAny (model prog w) A (getItem (.ref t) (.ref sl)) Q E s := by
  have hz : sizeOk (.seq items.toList.reverse.toArray) := by
    show items.toList.reverse.toArray.size ≤ sizeLine
    simpa using hsz
  obtain ⟨os, at0, cl, dat⟩ := id hs
  have ty : s.TypeIs (.ref sl) "slice" := ⟨os, at0, cl⟩
  unfold getItem
  try with_reducible refine wpAny_holding ?_
  first | refine wpAny_bind (wpAny_pure ?_) | skip
  refine wpAny_bind (wpAny_sequenceKey ht.typeIs (by decide) ?_)
  refine wpAny_bind (wpAny_callSpecial?_slot (name := Str.ofString "__getitem__") ht.typeIs PyProof.Rows.slot_tuple_getitem (wpAny_call_entry PyProof.Rows.slot_tuple_getitem ht.typeIs
    entry_tuple_getitem ?_ (args_tuple_getitem _ _)))
  show wpAny _ _ (Builtin.Tuple.tupleItemsOf (.ref t) >>= _) _ _ s
  refine wpAny_bind (tupleItemsOf_ ht (wpAny_bind (wpAny_typeOf ty ?_)))
  rw [if_pos (by decide)]
  refine wpAny_bind (rev_applied hs ?_)
  have hno : ¬ ((((items.size : Int) - 1) == 0 && (-1 : Int) == 1 && items.size == items.size) = true) := by
    rw [show ((-1 : Int) == 1) = false from rfl, Bool.and_false, Bool.false_and]
    exact Bool.false_ne_true
  show wpAny _ _ (if (((items.size : Int) - 1) == 0 && (-1 : Int) == 1 && items.size == items.size) = true then _ else _) _ _ s
  rw [if_neg hno, rev_pick]
  first
    | exact wpAny_bind (m := Builtin.Tuple.tupleExact _) (wpAny_newObj_type (wpAny_pure ⟨_, rfl, wpAny_pure h⟩) hz)
    | exact wpAny_bind (m := Builtin.Tuple.tupleExact _) (wpAny_newObj_type (wpAny_bind (wpAny_pure (wpAny_pure ⟨_, rfl, wpAny_pure h⟩))) hz)
    | exact wpAny_bind (wpAny_bind (m := Builtin.Tuple.tupleExact _) (wpAny_newObj_type (wpAny_pure (wpAny_pure ⟨_, rfl, wpAny_pure h⟩)) hz))
    | exact wpAny_bind (wpAny_bind (m := Builtin.Tuple.tupleExact _) (wpAny_newObj_type (wpAny_pure ⟨_, rfl, wpAny_pure h⟩) hz))
end
section
variable {X : Cx} {c : Cn} {W : WX'} {e : Expr} {te : TE} {k : Nat} {p1 p2 p3 pos : Pos} {f : ME}
theorem pe_revT (he : PE X e te) : PE X (.Subscript e (.Slice none none (some (.UnaryOp .USub (.Constant (.int 1) k p1) p2)) p3) pos)
    (fun σ H Q => te σ H fun x H1 => ∃ a xs, x = .ref a ∧ SqT X.K H1 a xs ∧ ∀ p, H1 p = none → Q (.ref p) (upd H1 p (.tup xs.reverse))) := by
  refine ⟨fun pins s σ H Q I h => Subscript_ (thn (he.run pins s σ H _ I h) fun v s1 ⟨x, H1, I1, r1, q1⟩ => ?_)⟩
  obtain ⟨a, xs, ex, hx, q⟩ := q1
  subst ex
  cases r1
  have step : PO X (some (.UnaryOp .USub (.Constant (.int 1) k p1) p2)) (tPart (tUn (rU fun i => .int (-i)) (tC (.int 1)))) := po_some (pe_un un_neg pe_int)
  refine wpAny_Slice (thn (po_none.run pins s1 σ H1 (fun o H2 => o = none ∧ H2 = H1) I1 ⟨rfl, rfl⟩) fun vl s2 ⟨l, H2, I2, pl, el, e2⟩ => ?_)
  subst el e2
  refine thn (po_none.run pins s2 σ H2 (fun o H3 => o = none ∧ H3 = H2) I2 ⟨rfl, rfl⟩) fun vu s3 ⟨u, H3, I3, pu, eu, e3⟩ => ?_
  subst eu e3
  refine thn (step.run pins s3 σ H3 (fun o H4 => o = some (-1) ∧ H4 = H3) I3 ⟨1, rfl, -1, rfl, rfl, rfl⟩) fun vs s4 ⟨o, H4, I4, ps, eo, e4⟩ => ?_
  subst eo e4
  cases pl
  cases pu
  obtain ⟨tk, rfl⟩ : ∃ tk, vs = Value.int (-1) tk := by cases ps with | int i t => exact ⟨t, rfl⟩
  have I5 : Inv X pins σ H4 { s4 with heap := s4.heap.push { cls := .type "slice", data := .fields #[.none, .none, .int (-1) tk] } } := I4.kept (t' := s4.toks) fun b ob q => Heap.get?_push_of_some _ q
  obtain ⟨its, r, ht, hz⟩ := I5.tuple hx
  have len := r.length
  show wpAny (model X.prog X.w) X.A (subscriptTail e (.Slice none none (some (.UnaryOp .USub (.Constant (.int 1) k p1) p2)) p3) (.ref a) (.ref s4.heap.objs.size)) (EP X pins σ Q) X.xe
    { s4 with heap := s4.heap.push { cls := .type "slice", data := .fields #[.none, .none, .int (-1) tk] } }
  refine tail_any (ops := [.ref a, .ref s4.heap.objs.size]) ht.typeIs PyProof.Rows.slot_tuple_getitem.lookup ?_ (by with_unfolding_all rfl)
  refine rev_getItem ht (Heap.IsSliceOf.new _ .none .none (.int (-1) tk)) ?_ (by rw [List.size_toArray]; omega)
  refine ⟨.ref _, _, I5.laid (t' := s4.toks) (o := .tup xs.reverse) (fun b ob q => Heap.get?_push_of_some _ q) (Nat.le_refl _) ?_, rfl, q _ (I5.hok.fresh (Nat.le_refl _))⟩
  exact ⟨by rw [List.length_reverse]; exact hz, _, r.reverse, IsTup.new _ _⟩
def revD : Dt → Option Dt
  | .tuple xs => some (.tuple xs.reverse)
  | _ => none
theorem qe_revT (hK : X.K = c.K) (he : PE X e (tD c W f)) : PE X (.Subscript e (.Slice none none (some (.UnaryOp .USub (.Constant (.int 1) k p1) p2)) p3) pos) (tD c W (m1 revD f)) :=
  pe_imp (pe_revT he) fun σ H Q ⟨O, ρ, φ, R, h⟩ => ⟨O, ρ, φ, R, ge_bind h fun d φ1 v H1 _ R1 s1 p1 h1 => by
    cases p1 with
    | tup g a => exact ⟨_, _, rfl, by rw [hK]; exact sqT_gro fr_in g, fun p hp => new_tup R1.nw (dqA_rev a) (ge_ok R1 h1) hp⟩
    | _ => exact h1.elim⟩
end
theorem room65 {k : Nat} {A : Around} (r : Room k A) : A.units + 65 < cLine := by have := r.un; omega
/-- a module's constant is data -/
def GC (K : PySem.W.Frag) (mg : Str → Option Value) (x : Str) (d : Dt) : Prop := ∃ u v, mg x = some u ∧ RelV v u ∧ ∀ H, Dq K H v d
theorem qe_gc {X : Cx} {c : Cn} {W : WX'} {x : Str} {d : Dt} {pos : Pos} (h : GC X.K X.mg x d) (hK : X.K = c.K := by rfl) (hg : Gl X x := by rfl) (hdb : (x == ("__debug__" : Str)) = false := by decide) : PE X (.Name x pos) (tD c W (mC d)) := by
  obtain ⟨u, v, hm, r, hd⟩ := h
  exact qe_glob hg hm r (fun H => hK ▸ hd H) hdb
end DL

set_option maxHeartbeats 1000000
/-! DL, part i: how a feed comes to be, the law's own def, the row's end -/
namespace DL
open PySem PySem.Spec PyProof.Rows L2

/-! ### the end of a row, for a law's def whose callers are told to stand in no guard -/
theorem lawG {P : Program} {w : World} {K : PySem.W.Frag} {mg mb : Str → Option Value} {CX : CXT} {k : Nat} {fa a : Addr} {fd : FuncData} {x : Str} {sp : Sp} {sh : Shared} {vs : List Value} {ns : List Int}
    (kx : K.In sh.heap) (gl : sh.heap.Ns mainGlobals mg) (bl : sh.heap.Ns builtinsNs mb) (bb : ∀ x : Str, x ≠ "__name__" → mb x = bootBuiltins x) (nl : sh.heap.NoLimit) (ge : sh.gens = #[])
    (at0 : sh.heap.get? a = some { cls := .type "list", data := .seq vs.toArray }) (ia : IntsAre vs ns) (sz : ns.length ≤ sizeLine) (room : Room k callerA)
    (F : ∀ base : Heap, K.In base → base.Ns mainGlobals mg → FnG P w K mg base CX k fa fd [x] sp) (bind : ∀ (s : Shared) (u : Value), BindsTo s fd ⟨[u], []⟩ [(x, u)])
    (want : ∀ H : Hp, Only H → SqL K H a (ns.map V.int) → sp [.ref a] H (fun v _ => v = .bl true) fun _ _ _ => False)
    (noerr : ∀ H e s', CX [] H sh (fun _ _ _ => False) e s' → False) :
    codeAny (model P w) callerA (.call (.ref fa) ⟨[.ref a], []⟩) (fun r s' => r = .ok (.ret (.bool true)) ∧ OldK sh.heap s'.heap ∧ s'.os = sh.os ∧ AllBare s'.gens) sh := by
  have rel := vals_ints ia
  have lenV := ia.length
  -- H tracks the script at most
  have main : ∀ H : Hp, Only H → SqL K H a (ns.map V.int) → HOk P w H sh.heap → (∀ b, H b ≠ none → b = a) → (H a ≠ none → K.lookup a = none) →
      codeAny (model P w) callerA (.call (.ref fa) ⟨[.ref a], []⟩) (fun r s' => r = .ok (.ret (.bool true)) ∧ OldK sh.heap s'.heap ∧ s'.os = sh.os ∧ AllBare s'.gens) sh := by
    intro H only sq hok onlyA notK
    have dictFree : ∀ {b : Addr} {o : Obj} {es : Array DictEntry} {ep : Nat}, sh.heap.get? b = some o → o.data = .dict es ep → H b = none := by
      intro b o es ep e d
      cases q : H b with
      | none => rfl
      | some u =>
        obtain rfl : b = a := onlyA b (by rw [q]; simp)
        rw [at0] at e
        cases e
        exact nomatch (show Data.seq vs.toArray _ = Data.dict es ep from d)
    have names : ∀ {b : Addr} {m : Str → Option Value}, sh.heap.Ns b m → (hidT sh.heap H).Ns b m := fun ⟨o, es, ep, e, d, r⟩ => ⟨o, es, ep, hidT_get e (dictFree e d), d, r⟩
    have kin : K.In (hidT sh.heap H) := by
      intro b o e
      refine hidT_get (kx b o e) ?_
      cases q : H b with
      | none => rfl
      | some u =>
        obtain rfl : b = a := onlyA b (by rw [q]; simp)
        rw [notK (by rw [q]; simp)] at e
        cases e
    have md : Mod K mg (hidT sh.heap H) := ⟨kin, names gl, ⟨mb, names bl, bb⟩, by obtain ⟨mc, h1, h2⟩ := nl; exact ⟨mc, names h1, h2⟩⟩
    have e0 : Env0 P w K mg (hidT sh.heap H) callerA [] sh H :=
      ⟨rfl, md, fun b o e => of_hidT e, Nat.le_of_eq (hidT_size _ _), trivial, fun b hb => absurd (show b ∈ ([] : List Addr) from hb) (by simp), hok, .of_eq ge⟩
    have run := (F _ kin (names gl)).run callerA [] sh H ⟨[.ref a], []⟩ [.ref a] [.ref a] _ _ rfl room e0 (bind sh (.ref a)) (.cons rfl .nil) (want H only sq)
    refine codeAny_mono run fun r s' h => ?_
    cases r with
    | error e => exact (noerr H e s' h).elim
    | ok fl =>
      cases fl with
      | ret u =>
        obtain ⟨v, H', os, bare, un, hok', rv, tv⟩ := h
        obtain rfl : v = .bl true := tv
        obtain rfl : u = Value.bool true := rv
        refine ⟨rfl, OldK.of_keep fun b o e => ?_, os, bare⟩
        cases q : H b with
        | none => exact un.keep b o e q (fun z => absurd (show b ∈ ([] : List Addr) from z) (by simp)) (by simp)
        | some u =>
          rcases only b with z | ⟨ob, xs, z⟩
          · rw [q] at z
            cases z
          · obtain ⟨e1, _⟩ := hok b _ z
            obtain ⟨e2, _⟩ := hok' b _ (un.frzs b ob _ z)
            rw [e] at e1
            cases e1
            exact e2
      | next => exact False.elim h
      | brk => exact False.elim h
      | cont => exact False.elim h
  cases hk : K.lookup a with
  | some o =>
    have e := kx a o hk
    rw [at0] at e
    cases e
    exact main (fun _ => none) (fun _ => .inl rfl) (.inr ⟨_, vs.toArray, _, hk, rfl, rfl, rfl, by rw [List.size_toArray, lenV]; exact sz, by simpa using rel⟩)
      (fun b u z => nomatch (show (none : Option HO) = some u from z)) (fun b z => absurd rfl z) fun z => absurd rfl z
  | none =>
    let ob : Obj := { cls := .type "list", data := .seq vs.toArray }
    have yes : ∀ b, b = a → (if b = a then some (HO.frz ob (.lst (ns.map V.int))) else none) = some (.frz ob (.lst (ns.map V.int))) := fun b h => if_pos h
    have no : ∀ b, b ≠ a → (if b = a then some (HO.frz ob (.lst (ns.map V.int))) else none) = none := fun b h => if_neg h
    refine main (fun b => if b = a then some (.frz ob (.lst (ns.map V.int))) else none) (fun b => ?_) (.inl (.inr ⟨ob, yes a rfl⟩)) (fun b u z => ?_) (fun b z => ?_) fun _ => hk
    · by_cases hb : b = a
      · exact .inr ⟨_, _, yes b hb⟩
      · exact .inl (no b hb)
    · by_cases hb : b = a
      · have z' := (yes b hb).symm.trans z
        cases z'
        subst hb
        exact ⟨at0, by rw [List.length_map]; exact sz, vs, _, rel, at0⟩
      · exact nomatch (no b hb).symm.trans z
    · exact Decidable.byContradiction fun hb => z (no b hb)
/-- what k_head leaves, by a law's promise -/
theorem walkG {l : PySem.W.OpenLaw} {n k : Nat} {q : Program} {loose : List Str} {XP : (Str → Option Value) → Heap → Prop} {YP : World → Heap → Prop} {d : DefRec} {K : Params → PySem.W.Frag} {CX : World → CXT} {sp : World → Sp} {x : Str}
    (hn : l.most = some n) (hn2 : n ≤ sizeLine) (hdf : d.params.defaults = []) (room : Room k callerA) (hY : ∀ (w : World) (h : Heap), YP w h → (K w.params).In h)
    (F : ∀ (w : World) (mg : Str → Option Value) (fa : Addr) (h : Heap), (K w.params).In h → h.Ns mainGlobals mg → mg d.name = some (.ref fa) → ∃ fd : FuncData, (∀ (s : Shared) (u : Value), BindsTo s fd ⟨[u], []⟩ [(x, u)]) ∧
      ∀ base : Heap, (K w.params).In base → base.Ns mainGlobals mg → FnG l.prog w (K w.params) mg base (CX w) k fa fd [x] (sp w))
    (want : ∀ (w : World) (H : Hp) (a : Addr) (ns : List Int), ns.length ≤ n → Only H → SqL (K w.params) H a (ns.map V.int) → sp w [.ref a] H (fun v _ => v = .bl true) fun _ _ _ => False)
    (noerr : ∀ (w : World) (H : Hp) (s : Shared) (e : Value) (s' : Shared), CX w [] H s (fun _ _ _ => False) e s' → False) :
    PySem.W.WalkO q loose XP YP l.row.toRowW d [] (fun f vs => PySem.call f vs) := by
  refine Att.attach_call hn hdf fun w s₀ s₁ mg mb fa o pm cd doc a vs ns G Y ho hd hcd hmg hobj hints hlen hg => ?_
  obtain ⟨fd, hb, hF⟩ := F w mg fa _ (hY w _ Y) G.T.g hmg
  exact lawG (hY w _ Y) G.T.g G.T.b G.T.builtins G.T.nolimit hg hobj hints (Nat.le_trans hlen hn2) room hF hb (fun H only sq => want w H a ns hlen only sq) fun H e s' => noerr w H s₁ e s'
theorem no_cx {P : Program} {w : World} {H : Hp} {s : Shared} {e : Value} {s' : Shared} (h : L2.CX P w [] H s (fun _ _ _ => False) e s') : False := by
  obtain ⟨_, _, _, _, _, _, _, _, _, _, _, _, z⟩ := h
  exact z

/-! ### a feed is made -/
def fd0 (cells : List Int) : Fd := ⟨cells, 0, 0, 0⟩
/-- what a law's maker of feeds promises -/
def spFeed (L : Lw) : Sp := fun vs H Q _ => ∃ (a : Addr) (ns : List Int), vs = [.ref a] ∧ SqL L.K H a (ns.map V.int) ∧ ns.length ≤ 63 ∧
  ∀ (H' : Hp) (p q : Addr) (cells : List Int), Gro H H' → p ≠ q → H' p = some (.dK [(.inr L.k1, .ref q), (.inr L.k2, .int 0), (.inr L.k3, .int 0), (.inr L.k4, .int 0)]) → H' q = some (.lst (cells.map V.int)) → Q (.ref p) H'
def cn0 (L : Lw) (p q : Addr) (H : Hp) : Cn := ⟨L, p, q, fun b => b = p, Hn H, none⟩
theorem rel0 {L : Lw} {H : Hp} {p q : Addr} {cells : List Int} {σ : L2.St} {N : Nat} (hl : σ.length = N) (ne : p ≠ q) (hp : H p = some (.dK [(.inr L.k1, .ref q), (.inr L.k2, .int 0), (.inr L.k3, .int 0), (.inr L.k4, .int 0)]))
    (hq : H q = some (.lst (cells.map V.int))) (tb : LamX.Tabs L.T H) : Rel (cn0 L p q H) nO H σ (List.replicate N .un) (fd0 cells) := by
  refine ⟨⟨rfl, fun b e => ⟨_, e ▸ hn_of hp nt_dK⟩, Ne.symm ne, fun e => ne e.symm, ⟨_, hn_of hq nt_lst⟩⟩, fun i s e => ?_, by rw [hl, List.length_replicate], fun _ _ _ h => (nomatch h), ⟨0, fun _ _ => rfl⟩, fun _ _ h => (nomatch h), hp, hq, fun b o h _ => h, tb⟩
  rw [List.getElem?_replicate] at e
  split at e
  · cases e
    trivial
  · cases e
theorem Rel.setFd {c : Cn} {O : Nat → Option Addr} {H : Hp} {σ : L2.St} {ρ : Rho} {φ : Fd} (R : Rel c O H σ ρ φ) (j : Nat) : Rel c O H (σ.set j (some (.ref c.fa))) (ρ.set j .fd) φ := by
  refine ⟨R.ok, fun i s e => ?_, by rw [List.length_set, List.length_set]; exact R.len, R.inj, R.fin, R.own, R.feed, R.cells, R.entry, R.tabs⟩
  by_cases h : j = i
  · subst h
    have lt : j < ρ.length := by
      have := (List.getElem?_eq_some_iff.mp e).1
      rwa [List.length_set] at this
    rw [List.getElem?_set_self lt] at e
    cases e
    exact List.getElem?_set_self (by rw [R.len]; exact lt)
  · rw [List.getElem?_set_ne h] at e
    rw [List.getElem?_set_ne h]
    exact R.slot i s e
section
variable {X : Cx} {L : Lw} {W : WX'}
theorem pss_ex {st : List Stmt} {f : MS} (h : ∀ c : Cn, c.L = L → PSs X st (tS c W f)) : PSs X st (fun D σ H => ∃ c : Cn, c.L = L ∧ tS c W f D σ H) :=
  ⟨fun pins s σ H D I ⟨c, hc, q⟩ => (h c hc).run pins s σ H D I q⟩
theorem pe_ex {e : Expr} {f : ME} (h : ∀ c : Cn, c.L = L → PE X e (tD c W f)) : PE X e (fun σ H Q => ∃ c : Cn, c.L = L ∧ tD c W f σ H Q) :=
  ⟨fun pins s σ H Q I ⟨c, hc, q⟩ => (h c hc).run pins s σ H Q I q⟩
end
/-- the cells' expression makes a new list of ints out of the script -/
def Cells (K : PySem.W.Frag) (tc : TE) : Prop := ∀ (a : Addr) (ns : List Int) (σ : L2.St) (H : Hp) (Q : VK), σ[0]? = some (some (.ref a)) → SqL K H a (ns.map V.int) → ns.length ≤ 63 →
  (∀ (H' : Hp) (q : Addr) (cells : List Int), Gro H H' → H q = none → H' q = some (.lst (cells.map V.int)) → Q (.ref q) H') → tc σ H Q
theorem cut_ints (ns : List Int) (lo hi : Option Int) : cutV (ns.map V.int) lo hi = (cutL ns lo hi).map V.int := by
  unfold cutV cutL
  rw [List.length_map, List.map_take, List.map_drop]
/-- list(script[:n]) -/
theorem cells_list {K : PySem.W.Frag} {n : Int} : Cells K (tCB (fun xs H Q => ∃ p ys, xs = [V.ref p] ∧ (SqL K H p ys ∨ SqT K H p ys) ∧ ∀ l, H l = none → Q (.ref l) (upd H l (.lst ys))) (tCons (tSl (rSlL K) (tVar 0) tNoPart (tPart (tC (.int n)))) tNil)) := by
  intro a ns σ H Q h0 sq le fin
  refine ⟨_, h0, n, rfl, a, _, rfl, sq, fun p hp => ⟨p, _, rfl, .inl (SqL.of upd_same), fun l hl => ?_⟩⟩
  have hl0 : H l = none := by
    cases e : H l with
    | none => rfl
    | some o =>
      rw [Gro.upd hp _ _ e] at hl
      cases hl
  refine fin _ l (cutL ns none (some n)) ((Gro.upd hp).trans (Gro.upd hl)) hl0 ?_
  rw [upd_same, cut_ints]
/-- script[:n] -/
theorem cells_cut {K : PySem.W.Frag} {n : Int} : Cells K (tSl (rSlL K) (tVar 0) tNoPart (tPart (tC (.int n)))) := by
  intro a ns σ H Q h0 sq le fin
  refine ⟨_, h0, n, rfl, a, _, rfl, sq, fun p hp => ?_⟩
  refine fin _ p (cutL ns none (some n)) (Gro.upd hp) hp ?_
  rw [upd_same, cut_ints]
theorem feed_read {L : Lw} (nk : L.Nk) {tc : TE} (hc : Cells L.K tc) {vs : List V} {H : Hp} {Q : VK} {E : XK} {N : List Str} (h : spFeed L vs H Q E) :
    tDisp [(tC (.str L.k1), tc), (tC (.str L.k2), tC (.int 0)), (tC (.str L.k3), tC (.int 0)), (tC (.str L.k4), tC (.int 0))] (L2.start N vs) H Q := by
  obtain ⟨a, ns, rfl, sq, le, fin⟩ := h
  intro p hp
  refine hc a ns _ _ _ rfl (sqL_gro (Gro.upd hp) sq) le fun H' q cells gr hq hq' => ?_
  have ne : p ≠ q := fun e => by rw [e, upd_same] at hq; cases hq
  refine ⟨gr _ _ upd_same, [(.inr L.k1, .ref q), (.inr L.k2, .int 0), (.inr L.k3, .int 0), (.inr L.k4, .int 0)], rfl, (by show 4 ≤ 15; decide), ?_⟩
  obtain ⟨h12, h13, h14, h23, h24, h34⟩ := nk
  have n' : ∀ {x y : Str}, x ≠ y → decide ((Sum.inr x : Key) = Sum.inr y) = false := fun h => decide_eq_false fun z => h (Sum.inr.inj z)
  have em : mergeK [] [((.inr L.k1 : Key), V.ref q), (.inr L.k2, .int 0), (.inr L.k3, .int 0), (.inr L.k4, .int 0)] = [(.inr L.k1, .ref q), (.inr L.k2, .int 0), (.inr L.k3, .int 0), (.inr L.k4, .int 0)] := by
    simp only [mergeK, List.foldl_cons, List.foldl_nil, putK, List.any_nil, List.any_cons, n' h12, n' h13, n' h14, n' h23, n' h24, n' h34, Bool.or_false, Bool.false_eq_true, if_false, List.nil_append, List.cons_append]
  rw [em]
  refine fin _ p q cells (fun b o hb => ?_) ne upd_same ?_
  · have bp : b ≠ p := fun e => by rw [e, hp] at hb; cases hb
    rw [upd_ne bp]
    exact gr _ _ (Gro.upd hp _ _ hb)
  · rw [upd_ne (Ne.symm ne)]
    exact hq'
theorem gc_int {K : PySem.W.Frag} {h : Heap} {mg : Str → Option Value} {x : Str} {i : Int} {t : Tok} (X : K.In h) (G : h.Ns mainGlobals mg) (e : PySem.W.nsIn K mainGlobals x = some (some (.int i t))) : GC K mg x (.int i) :=
  ⟨_, .int i, PySem.W.mg_of X G e, ⟨t, rfl⟩, fun _ => .int i⟩
theorem gc_str {K : PySem.W.Frag} {h : Heap} {mg : Str → Option Value} {x y : Str} {t : Tok} (X : K.In h) (G : h.Ns mainGlobals mg) (e : PySem.W.nsIn K mainGlobals x = some (some (.str y t))) : GC K mg x (.str y) :=
  ⟨_, .str y, PySem.W.mg_of X G e, ⟨t, rfl⟩, fun _ => .str y⟩
theorem dq_strs {K : PySem.W.Frag} {H : Hp} : ∀ ys : List Str, DqAll K H (ys.map V.str) (ys.map PyData.str)
  | [] => .nil
  | y :: ys => .cons (.str y) (dq_strs ys)
/-- a module's tuple of texts -/
theorem gc_strs {K : PySem.W.Frag} {h : Heap} {mg : Str → Option Value} {x : Str} {a : Addr} {d : Option Addr} {its : Array Value} {n : Nat} {sl : Array (Option Value)} (ys : List Str) (X : K.In h) (G : h.Ns mainGlobals mg) (e : PySem.W.nsIn K mainGlobals x = some (some (.ref a)))
    (l : K.lookup a = some ⟨.type "tuple", d, .seq its n, sl⟩) (v : Vals (ys.map V.str) its.toList) (z : its.size ≤ sizeLine) : GC K mg x (.tuple (ys.map .str)) :=
  ⟨_, .ref a, PySem.W.mg_of X G e, rfl, fun _ => .tup (.inr ⟨_, its, n, l, rfl, rfl, z, v⟩) (dq_strs ys)⟩
/-- a law's promise -/
def spLaw (L : Lw) : Sp := fun vs H Q _ => ∃ (a : Addr) (ns : List Int), vs = [.ref a] ∧ SqL L.K H a (ns.map V.int) ∧ ns.length ≤ 63 ∧ LamX.Tabs L.T H ∧ ∀ H', Q (.bl true) H'
section
variable {P : Program} {w : World} {L : Lw} {mg : Str → Option Value} {base : Heap} {k : Nat} {f0 fF : Addr} {x qual : Str} {st : Stmt} {fd fdF : FuncData} {N : List Str} {px fx : Str} {s1 : Stmt} {rest : List Stmt} {body : MS} {i : Nat} {xi : Str}
/-- the call of the maker of feeds, as it is read -/
def tFeed (L : Lw) (W : WX') : TE := fun σ H Q => tCons (tVar 0) tNil σ H fun vs H1 => spFeed L vs H1 Q (WE W σ)
theorem start_len {N : List Str} {a : Addr} (hN : 1 ≤ N.length) : (L2.start N [V.ref a]).length = N.length := by
  unfold L2.start
  simp only [List.length_append, List.length_map, List.length_replicate, List.length_cons, List.length_nil]
  omega
/-- law(script): feed = make(script); rest -/
theorem law_A (F : Fun L.K x qual st f0 fd) (S : FnScope N [px] (defScope st)) (hN : 1 ≤ N.length) (eb : defBody st = s1 :: rest)
    (first : ∀ (cdv : Value) (A : Around) (outer : List Env) (s : Shared) (H : Hp) (E : XK), (dX P w L mg base N qual st f0 cdv A outer s H E).A.guards = some [] →
      Room k (dX P w L mg base N qual st f0 cdv A outer s H E).A → PS (dX P w L mg base N qual st f0 cdv A outer s H E) s1 (tAsg (tFeed L (wE E)) (gName i)))
    (walk : ∀ (c : Cn), c.L = L → ∀ (cdv : Value) (A : Around) (outer : List Env) (s : Shared) (H : Hp) (E : XK), (dX P w L mg base N qual st f0 cdv A outer s H E).A.guards = some [] →
      Room k (dX P w L mg base N qual st f0 cdv A outer s H E).A → PSs (dX P w L mg base N qual st f0 cdv A outer s H E) rest (tS c (wE E) body))
    (math : ∀ cells : List Int, ∃ φ', body ((List.replicate N.length .un).set i .fd) (fd0 cells) = .ok (.rt (.bool true)) φ') :
    FnG P w L.K mg base (L2.CX P w) (k + 1) f0 fd [px] (spLaw L) := by
  refine fng_of F S (fun vs H Q E h => by obtain ⟨a, ns, rfl, _⟩ := h; rfl) fun cdv A outer s H vs Q E gd room want => ?_
  obtain ⟨a, ns, rfl, sq, le, tb, fin⟩ := want
  refine ⟨_, eb ▸ pss_cons (first cdv A outer s H E gd room) (pss_ex fun c hc => walk c hc cdv A outer s H E gd room), ?_⟩
  refine ⟨_, rfl, a, ns, rfl, sq, le, fun H' p q cells gr ne hp hq => ?_⟩
  have R := (rel0 (L := L) (start_len (a := a) hN) ne hp hq (tb.ext gr)).setFd i
  refine ⟨cn0 L p q H', rfl, nO, _, _, R, ?_⟩
  obtain ⟨φ', e⟩ := math cells
  rw [e]
  intro O' σ' ρ' v H2 R2 d
  cases d
  exact fin _
/-- law(script): feed, more = make(script), e; rest -/
theorem law_B {j : Nat} {f : ME} (F : Fun L.K x qual st f0 fd) (S : FnScope N [px] (defScope st)) (hN : 1 ≤ N.length) (eb : defBody st = s1 :: rest)
    (first : ∀ (cdv : Value) (A : Around) (outer : List Env) (s : Shared) (H : Hp) (E : XK), (dX P w L mg base N qual st f0 cdv A outer s H E).A.guards = some [] →
      Room k (dX P w L mg base N qual st f0 cdv A outer s H E).A → PS (dX P w L mg base N qual st f0 cdv A outer s H E) s1 (tPar i j (tCons (tFeed L (wE E)) (tCons (fun σ H Q => ∃ c : Cn, c.L = L ∧ tD c (wE E) f σ H Q) tNil))))
    (walk : ∀ (c : Cn), c.L = L → ∀ (cdv : Value) (A : Around) (outer : List Env) (s : Shared) (H : Hp) (E : XK), (dX P w L mg base N qual st f0 cdv A outer s H E).A.guards = some [] →
      Room k (dX P w L mg base N qual st f0 cdv A outer s H E).A → PSs (dX P w L mg base N qual st f0 cdv A outer s H E) rest (tS c (wE E) body))
    (math : ∀ cells : List Int, ∃ d φ φ', f (List.replicate N.length .un) (fd0 cells) = .ok d φ ∧ body (((List.replicate N.length .un).set i .fd).set j (.dat d)) φ = .ok (.rt (.bool true)) φ') :
    FnG P w L.K mg base (L2.CX P w) (k + 1) f0 fd [px] (spLaw L) := by
  refine fng_of F S (fun vs H Q E h => by obtain ⟨a, ns, rfl, _⟩ := h; rfl) fun cdv A outer s H vs Q E gd room want => ?_
  obtain ⟨a, ns, rfl, sq, le, tb, fin⟩ := want
  refine ⟨_, eb ▸ pss_cons (first cdv A outer s H E gd room) (pss_ex fun c hc => walk c hc cdv A outer s H E gd room), ?_⟩
  refine ⟨_, rfl, a, ns, rfl, sq, le, fun H' p q cells gr ne hp hq => ?_⟩
  have R := rel0 (L := L) (start_len (a := a) hN) ne hp hq (tb.ext gr)
  obtain ⟨d, φ, φ', e1, e2⟩ := math cells
  refine ⟨cn0 L p q H', rfl, nO, _, _, R, ?_⟩
  rw [e1]
  intro v H2 R2 s2 dv
  refine ⟨_, _, rfl, ?_⟩
  refine ⟨cn0 L p q H', rfl, nO, _, _, (R2.setFd i).set j dv, ?_⟩
  rw [e2]
  intro O' σ' ρ' v H3 R3 d
  cases d
  exact fin _
/-- the same where one of the names is a cell: the pair is made and taken apart -/
theorem law_C {j : Nat} {f : ME} (F : Fun L.K x qual st f0 fd) (S : FnScope N [px] (defScope st)) (hN : 1 ≤ N.length) (eb : defBody st = s1 :: rest)
    (first : ∀ (cdv : Value) (A : Around) (outer : List Env) (s : Shared) (H : Hp) (E : XK), (dX P w L mg base N qual st f0 cdv A outer s H E).A.guards = some [] →
      Room k (dX P w L mg base N qual st f0 cdv A outer s H E).A → PS (dX P w L mg base N qual st f0 cdv A outer s H E) s1 (tAsg (tTup (tCons (tFeed L (wE E)) (tCons (fun σ H Q => ∃ c : Cn, c.L = L ∧ tD c (wE E) f σ H Q) tNil))) (gTup L.K 2 (gNames [i, j]))))
    (walk : ∀ (c : Cn), c.L = L → ∀ (cdv : Value) (A : Around) (outer : List Env) (s : Shared) (H : Hp) (E : XK), (dX P w L mg base N qual st f0 cdv A outer s H E).A.guards = some [] →
      Room k (dX P w L mg base N qual st f0 cdv A outer s H E).A → PSs (dX P w L mg base N qual st f0 cdv A outer s H E) rest (tS c (wE E) body))
    (math : ∀ cells : List Int, ∃ d φ φ', f (List.replicate N.length .un) (fd0 cells) = .ok d φ ∧ body (((List.replicate N.length .un).set i .fd).set j (.dat d)) φ = .ok (.rt (.bool true)) φ') :
    FnG P w L.K mg base (L2.CX P w) (k + 1) f0 fd [px] (spLaw L) := by
  refine fng_of F S (fun vs H Q E h => by obtain ⟨a, ns, rfl, _⟩ := h; rfl) fun cdv A outer s H vs Q E gd room want => ?_
  obtain ⟨a, ns, rfl, sq, le, tb, fin⟩ := want
  refine ⟨_, eb ▸ pss_cons (first cdv A outer s H E gd room) (pss_ex fun c hc => walk c hc cdv A outer s H E gd room), ?_⟩
  refine ⟨_, rfl, a, ns, rfl, sq, le, fun H' p q cells gr ne hp hq => ?_⟩
  have R := rel0 (L := L) (start_len (a := a) hN) ne hp hq (tb.ext gr)
  obtain ⟨d, φ, φ', e1, e2⟩ := math cells
  refine ⟨cn0 L p q H', rfl, nO, _, _, R, ?_⟩
  rw [e1]
  intro v H2 R2 s2 dv
  refine ⟨by show 2 ≤ sizeLine; decide, fun t ht => ?_⟩
  have gt := Gro.upd (o := .tup [V.ref p, v]) ht
  have R3 := (((R2.gro gt).setFd i).set j (dq_gro (fr_gro gt) dv))
  refine ⟨t, _, rfl, .inl (.inl upd_same), rfl, _, _, rfl, _, _, rfl, rfl, ?_⟩
  refine ⟨cn0 L p q H', rfl, nO, _, _, R3, ?_⟩
  rw [e2]
  intro O' σ' ρ' v H3 R3 d
  cases d
  exact fin _
end
end DL

set_option maxHeartbeats 1000000
/-! DL, part j: what a mirror may answer, whatever the feed holds -/
namespace DL
open PySem PySem.Spec PyProof.Rows L2

def Can {α : Type} (f : Fd → Res α) (P : α → Prop) : Prop := ∀ φ, ∃ a φ', f φ = .ok a φ' ∧ P a
abbrev wE1 (f : ME) (ρ : Rho) (P : Dt → Prop) : Prop := Can (f ρ) P
abbrev wT1 (f : MT) (ρ : Rho) (P : Bool → Prop) : Prop := Can (f ρ) P
abbrev wA1 (f : MA) (ρ : Rho) (P : List Dt → Prop) : Prop := Can (f ρ) P
abbrev wG1 (f : MG) (ρ : Rho) (P : List Sl → Prop) : Prop := Can (f ρ) P
abbrev wO1 (f : MO) (ρ : Rho) (P : Option Int → Prop) : Prop := Can (f ρ) P
abbrev wS1 (f : MS) (ρ : Rho) (P : Fl → Prop) : Prop := Can (f ρ) P
theorem Can.mono {α : Type} {f : Fd → Res α} {P Q : α → Prop} (h : Can f P) (k : ∀ a, P a → Q a) : Can f Q := fun φ => let ⟨a, φ', e, p⟩ := h φ; ⟨a, φ', e, k a p⟩
theorem can_bind {α β : Type} {f : Fd → Res α} {g : α → Fd → Res β} {Q : β → Prop} (h : Can f fun a => Can (g a) Q) : Can (fun φ => (f φ).bind g) Q := fun φ => by
  obtain ⟨a, φ', e, k⟩ := h φ
  obtain ⟨b, φ2, e2, q⟩ := k φ'
  exact ⟨b, φ2, by show (f φ).bind g = _; rw [e]; exact e2, q⟩
theorem can_ok {α : Type} {a : α} {P : α → Prop} (h : P a) : Can (fun φ => .ok a φ) P := fun φ => ⟨a, φ, rfl, h⟩
theorem can_opt {α : Type} {o : Option α} {P : α → Prop} (h : ∃ a, o = some a ∧ P a) : Can (opt o) P := fun φ => by
  obtain ⟨a, e, p⟩ := h
  exact ⟨a, φ, by rw [e]; rfl, p⟩
section
variable {ρ : Rho} {P : Dt → Prop} {f f1 f2 : ME} {t u : MT}
theorem we_var {i : Nat} {d : Dt} (e : ρ[i]? = some (.dat d)) (h : P d) : wE1 (mVar i) ρ P := fun φ => ⟨d, φ, by unfold mVar; rw [e], h⟩
theorem we_c {d : Dt} (h : P d) : wE1 (mC d) ρ P := can_ok h
theorem we_2 {g : Dt → Dt → Option Dt} (h : wE1 f1 ρ fun x => wE1 f2 ρ fun y => ∃ z, g x y = some z ∧ P z) : wE1 (m2 g f1 f2) ρ P :=
  can_bind (h.mono fun _ k => can_bind (k.mono fun _ q => can_opt q))
theorem we_1 {g : Dt → Option Dt} (h : wE1 f ρ fun x => ∃ z, g x = some z ∧ P z) : wE1 (m1 g f) ρ P := can_bind (h.mono fun _ q => can_opt q)
theorem we_isi {T : String} (h : wE1 f ρ fun x => P (.bool (isiD T x))) : wE1 (mIsi T f) ρ P := we_1 (h.mono fun _ k => ⟨_, rfl, k⟩)
theorem wt_e {t : Dt → Option Bool} {P : Bool → Prop} (h : wE1 f ρ fun x => ∃ z, t x = some z ∧ P z) : wT1 (mtE f t) ρ P := can_bind (h.mono fun _ q => can_opt q)
theorem wt_yes {P : Bool → Prop} (h : P true) : wT1 mtYes ρ P := can_ok h
theorem wt_not {P : Bool → Prop} (h : wT1 t ρ fun b => P (!b)) : wT1 (mtNot t) ρ P := can_bind (h.mono fun _ k => can_ok k)
theorem wt_and {P : Bool → Prop} (h : wT1 t ρ fun b => (b = true → wT1 u ρ P) ∧ (b = false → P false)) : wT1 (mtAnd t u) ρ P :=
  can_bind (h.mono fun b k => by
    cases b with
    | true => exact k.1 rfl
    | false => exact can_ok (k.2 rfl))
theorem wt_or {P : Bool → Prop} (h : wT1 t ρ fun b => (b = true → P true) ∧ (b = false → wT1 u ρ P)) : wT1 (mtOr t u) ρ P :=
  can_bind (h.mono fun b k => by
    cases b with
    | true => exact can_ok (k.1 rfl)
    | false => exact k.2 rfl)
theorem we_if (h : wT1 t ρ fun b => (b = true → wE1 f1 ρ P) ∧ (b = false → wE1 f2 ρ P)) : wE1 (mIf t f1 f2) ρ P :=
  can_bind (h.mono fun b k => by
    cases b with
    | true => exact k.1 rfl
    | false => exact k.2 rfl)
theorem we_not (h : wE1 f ρ fun x => ∃ b, truth x = some b ∧ P (.bool (!b))) : wE1 (mNot f) ρ P := we_1 (h.mono fun x k => by
  obtain ⟨b, e, p⟩ := k
  exact ⟨_, by rw [e]; rfl, p⟩)
theorem we_and (h : wE1 f1 ρ fun x => ∃ b, truth x = some b ∧ (b = true → wE1 f2 ρ P) ∧ (b = false → P x)) : wE1 (mAnd f1 f2) ρ P :=
  can_bind (h.mono fun x k => by
    obtain ⟨b, e, p, q⟩ := k
    rw [e]
    cases b with
    | true => exact p rfl
    | false => exact can_ok (q rfl))
theorem we_or (h : wE1 f1 ρ fun x => ∃ b, truth x = some b ∧ (b = true → P x) ∧ (b = false → wE1 f2 ρ P)) : wE1 (mOr f1 f2) ρ P :=
  can_bind (h.mono fun x k => by
    obtain ⟨b, e, p, q⟩ := k
    rw [e]
    cases b with
    | true => exact can_ok (p rfl)
    | false => exact q rfl)
variable {A : List Dt → Prop} {g : MA}
theorem wa_nil (h : A []) : wA1 maNil ρ A := can_ok h
theorem wa_cons (h : wE1 f ρ fun x => wA1 g ρ fun xs => A (x :: xs)) : wA1 (maCons f g) ρ A := can_bind (h.mono fun _ k => can_bind (k.mono fun _ q => can_ok q))
theorem we_tup (h : wA1 g ρ fun xs => xs.length ≤ sizeLine ∧ P (.tuple xs)) : wE1 (mTup g) ρ P :=
  can_bind (h.mono fun xs k => by rw [show (fun φ => if xs.length ≤ sizeLine then Res.ok (PyData.tuple xs) φ else .no) = fun φ => .ok (.tuple xs) φ from funext fun _ => if_pos k.1]; exact can_ok k.2)
theorem we_lst (h : wA1 g ρ fun xs => xs.length ≤ sizeLine ∧ P (.list xs)) : wE1 (mLst g) ρ P :=
  can_bind (h.mono fun xs k => by rw [show (fun φ => if xs.length ≤ sizeLine then Res.ok (PyData.list xs) φ else .no) = fun φ => .ok (.list xs) φ from funext fun _ => if_pos k.1]; exact can_ok k.2)
theorem we_ca {c : List Dt → Option Dt} (h : wA1 g ρ fun xs => ∃ z, c xs = some z ∧ P z) : wE1 (mCa c g) ρ P := can_bind (h.mono fun _ q => can_opt q)
variable {O : Option Int → Prop}
theorem wo_none (h : O none) : wO1 moNone ρ O := can_ok h
theorem wo_some (h : wE1 f ρ fun x => ∃ i, x = .int i ∧ O (some i)) : wO1 (moSome f) ρ O := can_bind (h.mono fun x k => by
  obtain ⟨i, rfl, q⟩ := k
  exact can_bind (can_opt ⟨i, rfl, can_ok q⟩))
theorem we_sl {l h : MO} (k : wE1 f ρ fun x => wO1 l ρ fun a => wO1 h ρ fun b => ∃ z, slD x a b = some z ∧ P z) : wE1 (mSl f l h) ρ P :=
  can_bind (k.mono fun _ k => can_bind (k.mono fun _ k => can_bind (k.mono fun _ q => can_opt q)))
variable {G : List Sl → Prop} {gg : MG} {m : MF}
theorem wg_nil (h : G []) : wG1 mgNil ρ G := can_ok h
theorem wg_d (h : wE1 f ρ fun x => wG1 gg ρ fun xs => G (.dat x :: xs)) : wG1 (mgD f gg) ρ G := can_bind (h.mono fun _ k => can_bind (k.mono fun _ q => can_ok q))
theorem wg_f {i : Nat} (e : ρ[i]? = some .fd) (h : wG1 gg ρ fun xs => G (.fd :: xs)) : wG1 (mgF i gg) ρ G := by
  have : (mgF i gg ρ) = fun φ => (gg ρ φ).bind fun xs φ2 => .ok (.fd :: xs) φ2 := funext fun φ => by unfold mgF; rw [e]
  unfold wG1
  rw [this]
  exact can_bind (h.mono fun _ q => can_ok q)
theorem we_call (h : wG1 gg ρ fun as => Can (m as) P) : wE1 (mCall m gg) ρ P := can_bind h
variable {D : Fl → Prop} {s r : MS}
theorem ws_seq (h : wS1 s ρ fun fl => match fl with
    | .nx ρ' => wS1 r ρ' D
    | x => D x) : wS1 (sSeq s r) ρ D := fun φ => by
  obtain ⟨a, φ', e, k⟩ := h φ
  cases a with
  | nx ρ' =>
    obtain ⟨b, φ2, e2, q⟩ := k φ'
    exact ⟨b, φ2, by unfold sSeq; rw [e]; exact e2, q⟩
  | _ => exact ⟨_, φ', by unfold sSeq; rw [e], k⟩
theorem ws_nx (h : D (.nx ρ)) : wS1 sNx ρ D := can_ok h
theorem ws_set {j : Nat} (h : wE1 f ρ fun d => D (.nx (ρ.set j (.dat d)))) : wS1 (sSet j f) ρ D := fun φ => by
  obtain ⟨a, φ', e, k⟩ := h φ
  exact ⟨_, φ', by unfold sSet; rw [e]; rfl, k⟩
theorem ws_expr (h : wE1 f ρ fun d => D (.nx ρ)) : wS1 (sExpr f) ρ D := fun φ => by
  obtain ⟨a, φ', e, k⟩ := h φ
  exact ⟨_, φ', by unfold sExpr; rw [e]; rfl, k⟩
theorem ws_ret (h : wE1 f ρ fun d => D (.rt d)) : wS1 (sRet f) ρ D := fun φ => by
  obtain ⟨a, φ', e, k⟩ := h φ
  exact ⟨_, φ', by unfold sRet; rw [e]; rfl, k⟩
theorem ws_if (h : wT1 t ρ fun b => (b = true → wS1 s ρ D) ∧ (b = false → wS1 r ρ D)) : wS1 (sIf t s r) ρ D := fun φ => by
  obtain ⟨b, φ', e, k⟩ := h φ
  unfold sIf
  rw [e]
  cases b with
  | true => exact k.1 rfl φ'
  | false => exact k.2 rfl φ'
theorem ws_unp {t : Tg} (h : wE1 f ρ fun d => ∃ ρ', bindT t d ρ = some ρ' ∧ D (.nx ρ')) : wS1 (sUnp t f) ρ D := fun φ => by
  obtain ⟨a, φ', e, ρ', e2, k⟩ := h φ
  exact ⟨_, φ', by unfold sUnp; rw [e]; show (match bindT t a ρ with | some ρ' => Res.ok (Fl.nx ρ') φ' | none => .no) = _; rw [e2], k⟩
theorem ws_par {i j : Nat} (h : wA1 g ρ fun ds => ∃ a b, ds = [a, b] ∧ D (.nx ((ρ.set i (.dat a)).set j (.dat b)))) : wS1 (sPar i j g) ρ D := fun φ => by
  obtain ⟨a, φ', e, x, y, rfl, k⟩ := h φ
  exact ⟨_, φ', by unfold sPar; rw [e]; rfl, k⟩
theorem ws_par3 {i j l : Nat} (h : wA1 g ρ fun ds => ∃ a b c, ds = [a, b, c] ∧ D (.nx (((ρ.set i (.dat a)).set j (.dat b)).set l (.dat c)))) : wS1 (sPar3 i j l g) ρ D := fun φ => by
  obtain ⟨a, φ', e, x, y, z, rfl, k⟩ := h φ
  exact ⟨_, φ', by unfold sPar3; rw [e]; rfl, k⟩
theorem ws_own {j : Nat} (h : wA1 g ρ fun ds => ds.length ≤ sizeLine ∧ D (.nx (ρ.set j (.own ds)))) : wS1 (sOwn j g) ρ D := fun φ => by
  obtain ⟨a, φ', e, z, k⟩ := h φ
  exact ⟨_, φ', by unfold sOwn; rw [e]; exact if_pos z, k⟩
theorem ws_app {j : Nat} {ds : List Dt} (e0 : ρ[j]? = some (.own ds)) (h : wE1 f ρ fun d => ds.length < sizeLine ∧ D (.nx (ρ.set j (.own (ds ++ [d]))))) : wS1 (sApp j f) ρ D := fun φ => by
  obtain ⟨a, φ', e, z, k⟩ := h φ
  refine ⟨_, φ', ?_, k⟩
  unfold sApp
  rw [e0]
  show eS (f ρ φ) ρ _ = _
  rw [e]
  exact if_pos z
theorem ws_frz {j : Nat} {ds : List Dt} (e0 : ρ[j]? = some (.own ds)) (h : D (.nx (ρ.set j (.dat (.list ds))))) : wS1 (sFrz j) ρ D := fun φ => ⟨_, φ, by unfold sFrz; rw [e0], h⟩
variable {it : MI} {tg : Tg}
/-- a walk with an invariant -/
theorem forGo_inv {J : Rho → Prop} {xs : List Dt} (hb : ∀ x ∈ xs, ∀ ρ, J ρ → ∃ ρ1, bindT tg x ρ = some ρ1 ∧ wS1 s ρ1 fun fl => match fl with
    | .nx ρ' => J ρ'
    | .ct ρ' => J ρ'
    | _ => False) {ρ : Rho} (h : J ρ) (k : ∀ ρ', J ρ' → D (.nx ρ')) : Can (forGo tg s xs ρ) D := by
  induction xs generalizing ρ with
  | nil => exact can_ok (k ρ h)
  | cons x xs ih =>
    intro φ
    obtain ⟨ρ1, e1, w⟩ := hb x List.mem_cons_self ρ h
    obtain ⟨a, φ', e, q⟩ := w φ
    cases a with
    | nx ρ' =>
      obtain ⟨b, φ2, e2, d⟩ := ih (fun y hy => hb y (List.mem_cons_of_mem _ hy)) q φ'
      exact ⟨b, φ2, by unfold forGo; rw [e1]; simp only [e]; exact e2, d⟩
    | ct ρ' =>
      obtain ⟨b, φ2, e2, d⟩ := ih (fun y hy => hb y (List.mem_cons_of_mem _ hy)) q φ'
      exact ⟨b, φ2, by unfold forGo; rw [e1]; simp only [e]; exact e2, d⟩
    | _ => exact q.elim
theorem ws_for (h : Can (it ρ) fun xs => Can (forGo tg s xs ρ) D) : wS1 (sFor it tg s) ρ D := fun φ => by
  obtain ⟨a, φ', e, k⟩ := h φ
  obtain ⟨b, φ2, e2, d⟩ := k φ'
  exact ⟨b, φ2, by unfold sFor; rw [e]; exact e2, d⟩
theorem wi_v {I : List Dt → Prop} (h : wE1 f ρ fun x => ∃ xs, itemsD x = some xs ∧ I xs) : Can (miV f ρ) I := can_bind (h.mono fun _ q => can_opt q)
theorem wi_r1 {I : List Dt → Prop} {n : Nat} (h : wA1 g ρ fun xs => xs = [.int n] ∧ n < 4611686018427387904 ∧ I ((List.range n).map fun i => .int (i : Nat))) : Can (miR1 g ρ) I := can_bind (h.mono fun xs k => by
  obtain ⟨rfl, hn, q⟩ := k
  intro φ
  exact ⟨_, φ, if_pos ⟨by omega, by omega⟩, by rw [Int.toNat_natCast]; exact q⟩)
/-- what a comprehension keeps: each item's test and answer are known -/
theorem we_lc {vs : List Nat} {elt : ME} {j : Nat} {p : Dt → Bool} {q : Dt → Dt} (h : Can (it ρ) fun xs => xs.length ≤ sizeLine ∧ (∀ x ∈ xs, wT1 t ((wipeR ρ vs).set j (.dat x)) (fun b => b = p x) ∧ (p x = true → wE1 elt ((wipeR ρ vs).set j (.dat x)) fun y => y = q x)) ∧
    P (.list ((xs.filter p).map q))) : wE1 (mLc it (.nm j) t elt vs) ρ P := fun φ => by
  obtain ⟨xs, φ', e, hz, hx, hP⟩ := h φ
  have go : ∀ (xs : List Dt) (φ : Fd), (∀ x ∈ xs, wT1 t ((wipeR ρ vs).set j (.dat x)) (fun b => b = p x) ∧ (p x = true → wE1 elt ((wipeR ρ vs).set j (.dat x)) fun y => y = q x)) → ∃ φ', lcGo (.nm j) t elt (wipeR ρ vs) xs φ = .ok ((xs.filter p).map q) φ' := by
    intro xs
    induction xs with
    | nil => exact fun φ _ => ⟨φ, rfl⟩
    | cons x xs ih =>
      intro φ hx
      obtain ⟨ht, he⟩ := hx x List.mem_cons_self
      obtain ⟨b, φ1, e1, rfl⟩ := ht φ
      unfold lcGo
      show ∃ φ', ((t _ φ).bind _ : Res (List Dt)) = _
      rw [e1]
      cases hp : p x with
      | true =>
        obtain ⟨y, φ2, e2, rfl⟩ := he hp φ1
        obtain ⟨φ3, e3⟩ := ih φ2 fun y hy => hx y (List.mem_cons_of_mem _ hy)
        refine ⟨φ3, ?_⟩
        show (((elt _ φ1).bind _ : Res (List Dt))) = _
        rw [e2]
        show (((lcGo _ _ _ _ _ φ2).bind _ : Res (List Dt))) = _
        rw [e3, List.filter_cons, if_pos hp]
        rfl
      | false =>
        obtain ⟨φ3, e3⟩ := ih φ1 fun y hy => hx y (List.mem_cons_of_mem _ hy)
        refine ⟨φ3, ?_⟩
        show lcGo _ _ _ _ _ φ1 = _
        rw [e3, List.filter_cons, if_neg (by rw [hp]; exact Bool.false_ne_true)]
  obtain ⟨φ2, e2⟩ := go xs φ' hx
  refine ⟨_, φ2, ?_, hP⟩
  unfold mLc
  rw [e]
  show (if xs.length ≤ sizeLine then _ else _) = _
  rw [if_pos hz, e2]
  rfl
/-- a def's answer -/
theorem can_fn {N : Nat} {body : MS} {as : List Sl} (h : wS1 body (as ++ List.replicate (N - as.length) .un) fun fl => match fl with
    | .rt d => P d
    | .nx _ => P .none
    | _ => False) : Can (mFn N body as) P := fun φ => by
  obtain ⟨a, φ', e, k⟩ := h φ
  unfold mFn
  rw [e]
  cases a with
  | rt d => exact ⟨d, φ', rfl, k⟩
  | nx _ => exact ⟨.none, φ', rfl, k⟩
  | _ => exact k.elim
end
end DL

set_option maxHeartbeats 1000000
/-! DL, part k: plain data and how repr shows it -/
namespace DL
open PySem PySem.Spec PyProof.Rows L2

def okc (c : Nat) : Bool := decide (32 ≤ c) && decide (c ≤ 126) && c != 39 && c != 92
def okS (x : Str) : Bool := x.cps.toList.all okc
theorem okc_lt {c : Nat} (h : okc c = true) : 32 ≤ c ∧ c ≤ 126 ∧ c ≠ 39 ∧ c ≠ 92 := by
  unfold okc at h
  simp only [Bool.and_eq_true, decide_eq_true_eq, bne_iff_ne] at h
  exact ⟨h.1.1.1, h.1.1.2, h.1.2, h.2⟩
theorem okc_print : ∀ c : Fin 127, 32 ≤ c.val → Unicode.isPrintable c.val = true := by decide +kernel
theorem okc_repr {c : Nat} (h : okc c = true) : Builtin.Str.reprChar 39 c = [c] := by
  obtain ⟨h1, h2, h3, h4⟩ := okc_lt h
  have hp := okc_print ⟨c, by omega⟩ h1
  unfold Builtin.Str.reprChar
  have e1 : (c == 39) = false := by simpa using h3
  have e2 : (c == 92) = false := by simpa using h4
  have e3 : (c == 10) = false := by simp; omega
  have e4 : (c == 13) = false := by simp; omega
  have e5 : (c == 9) = false := by simp; omega
  simp only [e1, e2, e3, e4, e5, Bool.or_self, Bool.false_eq_true, if_false]
  rw [if_pos hp]
abbrev cl (x : Str) : List Nat := x.cps.toList
theorem okS_repr {x : Str} (h : okS x = true) : cl (reprText x) = 39 :: (cl x ++ [39]) := by
  have hq : reprQuote x = 39 := by
    unfold reprQuote
    have : x.cps.contains 39 = false := by
      cases hc : x.cps.contains 39 with
      | false => rfl
      | true =>
        have hm : (39 : Nat) ∈ x.cps.toList := by simpa using hc
        have := okc_lt (List.all_eq_true.mp h 39 hm)
        omega
    rw [this]
    rfl
  have go : ∀ (l : List Nat) (acc : Array Nat), (∀ c ∈ l, okc c = true) → (l.foldl (fun out c => out ++ (Builtin.Str.reprChar 39 c).toArray) acc).toList = acc.toList ++ l := by
    intro l
    induction l with
    | nil => intro acc _; simp
    | cons c r ih =>
      intro acc hl
      rw [List.foldl_cons, ih _ fun d hd => hl d (List.mem_cons_of_mem _ hd), okc_repr (hl c List.mem_cons_self)]
      simp
  show (Array.push (x.cps.foldl (fun out c => out ++ (Builtin.Str.reprChar (reprQuote x) c).toArray) #[reprQuote x]) (reprQuote x)).toList = _
  rw [hq, Array.toList_push, ← Array.foldl_toList, go _ _ fun c hc => List.all_eq_true.mp h c hc]
  rfl
/-- joined by ", ", closed by e -/
def jn : List (List Nat) → List Nat → List Nat
  | [], e => e
  | [x], e => x ++ e
  | x :: y :: r, e => x ++ 44 :: 32 :: jn (y :: r) e
theorem jn_join : ∀ (ts : List Str) (e : List Nat), cl (Str.join ", " ts) ++ e = jn (ts.map cl) e
  | [], e => rfl
  | [x], e => rfl
  | x :: y :: r, e => by
    have ih := jn_join (y :: r) e
    show ((x.cps ++ (Str.ofString ", ").cps) ++ (Str.join ", " (y :: r)).cps).toList ++ e = x.cps.toList ++ 44 :: 32 :: jn ((y :: r).map cl) e
    rw [← ih]
    have : (Str.ofString ", ").cps.toList = [44, 32] := by decide +kernel
    simp [this]
abbrev sh (d : Dt) : List Nat := cl d.shown
theorem shownAll_map : ∀ ds : List Dt, PyData.shownAll ds = ds.map PyData.shown
  | [] => rfl
  | d :: r => by
    show d.shown :: PyData.shownAll r = _
    rw [shownAll_map r]
    rfl
theorem sh_tuple (ds : List Dt) : sh (.tuple ds) = 40 :: jn (ds.map sh) (if ds.length == 1 then [44, 41] else [41]) := by
  show (((Str.ofString "(").cps ++ (Str.join ", " (PyData.shownAll ds)).cps) ++ (Str.ofString (if (PyData.shownAll ds).length == 1 then ",)" else ")")).cps).toList = _
  rw [shownAll_map, List.length_map]
  have e1 : (Str.ofString "(").cps.toList = [40] := by decide +kernel
  have e2 : (Str.ofString (if ds.length == 1 then ",)" else ")")).cps.toList = if ds.length == 1 then [44, 41] else [41] := by
    cases ds.length == 1 <;> decide +kernel
  rw [Array.toList_append, Array.toList_append, e1, e2, List.append_assoc]
  have := jn_join (ds.map PyData.shown) (if ds.length == 1 then [44, 41] else [41])
  rw [List.map_map] at this
  show 40 :: (cl _ ++ _) = _
  rw [this]
  rfl
theorem text_from : ∀ (ts : List Str) (k : Nat) (acc : Str) (e : List Nat), 0 < k → ts ≠ [] → cl (textFrom k acc ts) ++ e = cl acc ++ 44 :: 32 :: jn (ts.map cl) e
  | [], _, _, _, _, h => absurd rfl h
  | [t], k, acc, e, hk, _ => by
    show ((acc.cps ++ (Str.ofString (if k > 0 then ", " else "")).cps) ++ t.cps).toList ++ e = _
    rw [if_pos hk]
    have : (Str.ofString ", ").cps.toList = [44, 32] := by decide +kernel
    simp [this, jn]
  | t :: u :: r, k, acc, e, hk, _ => by
    have ih := text_from (u :: r) (k + 1) (acc ++ (if k > 0 then ", " else "" : String) ++ t) e (by omega) (by simp)
    show cl (textFrom (k + 1) (acc ++ (if k > 0 then ", " else "" : String) ++ t) (u :: r)) ++ e = _
    rw [ih, if_pos hk]
    have : (Str.ofString ", ").cps.toList = [44, 32] := by decide +kernel
    show ((acc.cps ++ (Str.ofString ", ").cps) ++ t.cps).toList ++ 44 :: 32 :: jn ((u :: r).map cl) e = cl acc ++ 44 :: 32 :: (cl t ++ 44 :: 32 :: jn ((u :: r).map cl) e)
    simp [this]
theorem sh_list (ds : List Dt) : sh (.list ds) = 91 :: jn (ds.map sh) [93] := by
  show ((textFrom 0 "[" (PyData.shownAll ds)).cps ++ (Str.ofString "]").cps).toList = _
  rw [shownAll_map]
  have e1 : (Str.ofString "[").cps.toList = [91] := by decide +kernel
  have e2 : (Str.ofString "]").cps.toList = [93] := by decide +kernel
  have e0 : (Str.ofString "").cps.toList = [] := by decide +kernel
  rw [Array.toList_append, e2]
  cases ds with
  | nil =>
    show cl (Str.ofString "[") ++ [93] = _
    rw [show cl (Str.ofString "[") = _ from e1]
    rfl
  | cons d r =>
    show cl (textFrom 1 ("[" ++ (if 0 > 0 then ", " else "" : String) ++ d.shown) (r.map PyData.shown)) ++ [93] = _
    have ea : cl ("[" ++ (if 0 > 0 then ", " else "" : String) ++ d.shown) = 91 :: sh d := by
      show (((Str.ofString "[").cps ++ (Str.ofString "").cps) ++ d.shown.cps).toList = _
      rw [Array.toList_append, Array.toList_append, e1, e0]
      rfl
    cases r with
    | nil =>
      show cl ("[" ++ (if 0 > 0 then ", " else "" : String) ++ d.shown) ++ [93] = _
      rw [ea]
      rfl
    | cons d2 r2 =>
      rw [text_from _ 1 _ _ (by decide) (by simp), ea]
      show 91 :: sh d ++ 44 :: 32 :: jn (((d2 :: r2).map PyData.shown).map cl) [93] = _
      rw [List.map_map]
      rfl
theorem sh_true : sh (.bool true) = [84, 114, 117, 101] := by decide +kernel
theorem sh_false : sh (.bool false) = [70, 97, 108, 115, 101] := by decide +kernel
theorem sh_none : sh .none = [78, 111, 110, 101] := by decide +kernel
theorem sh_int (i : Int) : ∃ c r, sh (.int i) = c :: r ∧ (c = 45 ∨ (48 ≤ c ∧ c ≤ 57)) := by
  have hf : ∀ k ∈ sh (.int i), k = 45 ∨ (48 ≤ k ∧ k ≤ 57) := fun k hk => by
    by_cases h : k ≠ 45 ∧ (k < 48 ∨ 57 < k)
    · exact absurd hk (shown_int_free' h i)
    · omega
  cases e : sh (.int i) with
  | nil =>
    exfalso
    have : (Str.ofString (toString i)).cps.toList = [] := e
    rw [Str.ofString_eq_toList] at this
    have h2 : (toString i).toList = [] := by simpa using this
    cases i with
    | ofNat m =>
      have h3 : (Nat.repr m).toList = [] := h2
      rw [Nat.toList_repr] at h3
      exact Nat.toDigits_ne_nil h3
    | negSucc m =>
      have h3 : ("-" ++ Nat.repr (m + 1)).toList = [] := h2
      rw [String.toList_append] at h3
      have : "-".toList = [] := (List.append_eq_nil_iff.mp h3).1
      revert this
      decide
  | cons c r => exact ⟨c, r, rfl, hf c (by rw [e]; exact List.mem_cons_self)⟩

/-- a flat item that a law's own data holds: a plain text, a bool -/
def flE : Dt → Bool
  | .str x => okS x
  | .bool _ => true
  | _ => false
mutual
def plain : Dt → Bool
  | .none => true
  | .bool _ => true
  | .int _ => true
  | .str x => okS x
  | .list xs => plainAll xs
  | .tuple xs => plainAll xs
  | .dict _ => false
def plainAll : List Dt → Bool
  | [] => true
  | x :: xs => plain x && plainAll xs
end
theorem plainAll_mem : ∀ {xs : List Dt}, plainAll xs = true → ∀ x ∈ xs, plain x = true
  | [], _, _, h => by cases h
  | y :: r, h, x, hx => by
    have h' : (plain y && plainAll r) = true := h
    rw [Bool.and_eq_true] at h'
    rcases List.mem_cons.mp hx with rfl | hx
    · exact h'.1
    · exact plainAll_mem h'.2 x hx
theorem cut39 : ∀ {y x r s : List Nat}, 39 ∉ y → 39 ∉ x → y ++ 39 :: r = x ++ 39 :: s → y = x ∧ r = s
  | [], [], _, _, _, _, h => ⟨rfl, by simpa using h⟩
  | [], c :: x, _, _, _, hx, h => by
    have : 39 = c := by simpa using (List.cons.inj h).1
    exact absurd (this ▸ List.mem_cons_self) hx
  | c :: y, [], _, _, hy, _, h => by
    have : c = 39 := by simpa using (List.cons.inj h).1
    exact absurd (this ▸ List.mem_cons_self) hy
  | c :: y, d :: x, _, _, hy, hx, h => by
    obtain ⟨h1, h2⟩ := List.cons.inj h
    obtain ⟨h3, h4⟩ := cut39 (fun z => hy (List.mem_cons_of_mem _ z)) (fun z => hx (List.mem_cons_of_mem _ z)) h2
    exact ⟨by rw [h1, h3], h4⟩
theorem okS_39 {x : Str} (h : okS x = true) : 39 ∉ cl x := fun hm => (okc_lt (List.all_eq_true.mp h 39 hm)).2.2.1 rfl
theorem flat_inj {d e : Dt} {r s : List Nat} (hd : plain d = true) (he : flE e = true) (h : sh d ++ r = sh e ++ s) : d = e ∧ r = s := by
  have first : ∃ c q, sh e = c :: q ∧ (c = 39 ∨ c = 84 ∨ c = 70) := by
    cases e with
    | str x => exact ⟨39, _, okS_repr he, .inl rfl⟩
    | bool b =>
      cases b with
      | true => exact ⟨84, _, sh_true, .inr (.inl rfl)⟩
      | false => exact ⟨70, _, sh_false, .inr (.inr rfl)⟩
    | _ => cases he
  obtain ⟨c, q, ec, hc⟩ := first
  have no : ∀ {c' q'}, sh d = c' :: q' → c' ≠ 39 → c' ≠ 84 → c' ≠ 70 → d = e ∧ r = s := fun e1 a1 a2 a3 => by
    rw [e1, ec] at h
    have := (List.cons.inj h).1
    omega
  cases d with
  | none => exact no sh_none (by decide) (by decide) (by decide)
  | int i =>
    obtain ⟨c', q', e1, h1⟩ := sh_int i
    exact no e1 (by omega) (by omega) (by omega)
  | list ds => exact no (sh_list ds) (by decide) (by decide) (by decide)
  | tuple ds => exact no (sh_tuple ds) (by decide) (by decide) (by decide)
  | dict _ => cases hd
  | str y =>
    cases e with
    | str x =>
      rw [show sh (.str y) = _ from okS_repr hd, show sh (.str x) = _ from okS_repr he] at h
      have h1 : cl y ++ 39 :: r = cl x ++ 39 :: s := by simpa using h
      obtain ⟨h2, h3⟩ := cut39 (okS_39 hd) (okS_39 he) h1
      exact ⟨by rw [Str.ext' (Array.toList_inj.mp h2)], h3⟩
    | bool b =>
      rw [show sh (.str y) = _ from okS_repr hd] at h
      cases b with
      | true => rw [sh_true] at h; simp at h
      | false => rw [sh_false] at h; simp at h
    | _ => cases he
  | bool a =>
    cases e with
    | str x =>
      rw [show sh (.str x) = _ from okS_repr he] at h
      cases a with
      | true => rw [sh_true] at h; simp at h
      | false => rw [sh_false] at h; simp at h
    | bool b =>
      cases a <;> cases b
      · rw [sh_false] at h; exact ⟨rfl, by simpa using h⟩
      · rw [sh_false, sh_true] at h; simp at h
      · rw [sh_false, sh_true] at h; simp at h
      · rw [sh_true] at h; exact ⟨rfl, by simpa using h⟩
    | _ => cases he
def endOk (e : List Nat) : Prop := e = [41] ∨ e = [44, 41]
theorem flE_first {e : Dt} (he : flE e = true) : ∃ c q, sh e = c :: q ∧ (c = 39 ∨ c = 84 ∨ c = 70) := by
  cases e with
  | str x => exact ⟨39, _, okS_repr he, .inl rfl⟩
  | bool b =>
    cases b with
    | true => exact ⟨84, _, sh_true, .inr (.inl rfl)⟩
    | false => exact ⟨70, _, sh_false, .inr (.inr rfl)⟩
  | _ => cases he
theorem jn_inj : ∀ {ds es : List Dt} {e1 e2 : List Nat}, (∀ d ∈ ds, plain d = true) → (∀ e ∈ es, flE e = true) → es ≠ [] → endOk e1 → endOk e2 → jn (ds.map sh) e1 = jn (es.map sh) e2 → ds = es
  | _, [], _, _, _, _, h, _, _, _ => absurd rfl h
  | [], e :: es, e1, e2, _, he, _, h1, h2, h => by
    exfalso
    obtain ⟨c, q, ec, hc⟩ := flE_first (he e List.mem_cons_self)
    have h' : e1 = jn (sh e :: es.map sh) e2 := h
    cases es with
    | nil =>
      have h3 : e1 = sh e ++ e2 := h'
      rw [ec] at h3
      rcases h1 with rfl | rfl <;> simp at h3 <;> omega
    | cons f fs =>
      have h3 : e1 = sh e ++ 44 :: 32 :: jn ((f :: fs).map sh) e2 := h'
      rw [ec] at h3
      rcases h1 with rfl | rfl <;> simp at h3 <;> omega
  | [d], [e], _, _, hd, he, _, _, _, h => by
    have h' : sh d ++ _ = sh e ++ _ := h
    rw [(flat_inj (hd d List.mem_cons_self) (he e List.mem_cons_self) h').1]
  | [d], e :: f :: fs, e1, e2, hd, he, _, h1, _, h => by
    have h' : sh d ++ e1 = sh e ++ 44 :: 32 :: jn ((f :: fs).map sh) e2 := h
    have := (flat_inj (hd d List.mem_cons_self) (he e List.mem_cons_self) h').2
    rcases h1 with rfl | rfl <;> simp at this
  | d :: d' :: r, [e], e1, e2, hd, he, _, _, h2, h => by
    have h' : sh d ++ 44 :: 32 :: jn ((d' :: r).map sh) e1 = sh e ++ e2 := h
    have := (flat_inj (hd d List.mem_cons_self) (he e List.mem_cons_self) h').2
    rcases h2 with rfl | rfl <;> simp at this
  | d :: d' :: r, e :: f :: fs, e1, e2, hd, he, _, h1, h2, h => by
    have h' : sh d ++ 44 :: 32 :: jn ((d' :: r).map sh) e1 = sh e ++ 44 :: 32 :: jn ((f :: fs).map sh) e2 := h
    obtain ⟨h3, h4⟩ := flat_inj (hd d List.mem_cons_self) (he e List.mem_cons_self) h'
    have h5 := jn_inj (fun x hx => hd x (List.mem_cons_of_mem _ hx)) (fun x hx => he x (List.mem_cons_of_mem _ hx)) (by simp) h1 h2 (show jn ((d' :: r).map sh) e1 = jn ((f :: fs).map sh) e2 by simpa using h4)
    rw [h3, h5]
theorem shown_inj {d : Dt} {es : List Dt} (hd : plain d = true) (he : ∀ e ∈ es, flE e = true) (hn : es ≠ []) (h : d.shown = PyData.shown (.tuple es)) : d = .tuple es := by
  have h' : sh d = sh (.tuple es) := by show cl d.shown = _; rw [h]
  have ends : ∀ b : Bool, endOk (if b then [44, 41] else [41]) := fun b => by cases b <;> first | exact .inl rfl | exact .inr rfl
  rw [sh_tuple] at h'
  cases d with
  | none => rw [sh_none] at h'; simp at h'
  | int i =>
    obtain ⟨c', q', e1, h1⟩ := sh_int i
    rw [e1] at h'
    have := (List.cons.inj h').1
    omega
  | list ds => rw [sh_list] at h'; simp at h'
  | dict _ => cases hd
  | str y => rw [show sh (.str y) = _ from okS_repr hd] at h'; simp at h'
  | bool a =>
    cases a with
    | true => rw [sh_true] at h'; simp at h'
    | false => rw [sh_false] at h'; simp at h'
  | tuple ds =>
    rw [sh_tuple] at h'
    rw [jn_inj (plainAll_mem hd) he hn (ends _) (ends _) (List.cons.inj h').2]
end DL

set_option maxHeartbeats 1000000
/-! DL, part l: plain data of bounded size -/
namespace DL
open PySem PySem.Spec PyProof.Rows L2

theorem cut_take {α : Type} {xs : List α} {k : Nat} : cutL xs none (some (k : Int)) = xs.take k := by
  unfold cutL
  rw [HT.sIx_none, HT.sIx_nat, List.drop_zero, Nat.sub_zero]
  by_cases h : k ≤ xs.length
  · rw [Nat.min_eq_left h]
  · rw [Nat.min_eq_right (by omega), List.take_of_length_le (Nat.le_refl _), List.take_of_length_le (by omega)]
theorem cut_drop {α : Type} {xs : List α} {k : Nat} : cutL xs (some (k : Int)) none = xs.drop k := by
  unfold cutL
  rw [HT.sIx_none, HT.sIx_nat]
  by_cases h : k ≤ xs.length
  · rw [Nat.min_eq_left h, List.take_of_length_le (by rw [List.length_drop]; omega)]
  · rw [Nat.min_eq_right (by omega), Nat.sub_self, List.take_zero, List.drop_eq_nil_of_le (by omega)]
theorem cut_mem {α : Type} {xs : List α} {lo hi : Option Int} {x : α} (h : x ∈ cutL xs lo hi) : x ∈ xs := List.mem_of_mem_drop (List.mem_of_mem_take h)
theorem cut_one {α : Type} {xs : List α} {k : Nat} : (cutL xs (some (k : Int)) (some ((k : Int) + 1))).length ≤ 1 := by
  unfold cutL
  rw [show ((k : Int) + 1) = ((k + 1 : Nat) : Int) by omega, HT.sIx_nat, HT.sIx_nat, List.length_take]
  omega
theorem cut_len {α : Type} {xs : List α} {lo hi : Option Int} : (cutL xs lo hi).length ≤ xs.length := by
  unfold cutL
  rw [List.length_take, List.length_drop]
  omega
/-! plain data: ints up to ib, texts up to sb signs, containers up to lb items -/
mutual
def gd (ib sb lb : Nat) : Dt → Bool
  | .none => true
  | .bool _ => true
  | .int i => decide (i.natAbs ≤ ib)
  | .str x => okS x && decide ((cl x).length ≤ sb)
  | .list xs => gdAll ib sb lb xs && decide (xs.length ≤ lb)
  | .tuple xs => gdAll ib sb lb xs && decide (xs.length ≤ lb)
  | .dict _ => false
def gdAll (ib sb lb : Nat) : List Dt → Bool
  | [] => true
  | x :: xs => gd ib sb lb x && gdAll ib sb lb xs
end
section
variable {ib sb lb : Nat}
theorem gdAll_iff : ∀ {xs : List Dt}, gdAll ib sb lb xs = true ↔ ∀ x ∈ xs, gd ib sb lb x = true
  | [] => ⟨fun _ _ h => (List.not_mem_nil h).elim, fun _ => rfl⟩
  | y :: r => by
    have ih := gdAll_iff (xs := r)
    show (gd ib sb lb y && gdAll ib sb lb r) = true ↔ _
    rw [Bool.and_eq_true, ih]
    exact (List.forall_mem_cons (p := fun x => gd ib sb lb x = true)).symm
theorem gd_tup {xs : List Dt} : gd ib sb lb (.tuple xs) = true ↔ (∀ x ∈ xs, gd ib sb lb x = true) ∧ xs.length ≤ lb := by
  show (gdAll ib sb lb xs && decide (xs.length ≤ lb)) = true ↔ _
  rw [Bool.and_eq_true, gdAll_iff, decide_eq_true_eq]
theorem gd_lst {xs : List Dt} : gd ib sb lb (.list xs) = true ↔ (∀ x ∈ xs, gd ib sb lb x = true) ∧ xs.length ≤ lb := gd_tup (xs := xs)
theorem gd_str {x : Str} : gd ib sb lb (.str x) = true ↔ okS x = true ∧ (cl x).length ≤ sb := by
  show (okS x && decide ((cl x).length ≤ sb)) = true ↔ _
  rw [Bool.and_eq_true, decide_eq_true_eq]
theorem gd_int {i : Int} : gd ib sb lb (.int i) = true ↔ i.natAbs ≤ ib := decide_eq_true_iff
mutual
theorem gd_mono {ib' sb' lb' : Nat} (h1 : ib ≤ ib') (h2 : sb ≤ sb') (h3 : lb ≤ lb') : ∀ {d : Dt}, gd ib sb lb d = true → gd ib' sb' lb' d = true
  | .none, _ => rfl
  | .bool _, _ => rfl
  | .int i, h => gd_int.mpr (Nat.le_trans (gd_int.mp h) h1)
  | .str x, h => gd_str.mpr ⟨(gd_str.mp h).1, Nat.le_trans (gd_str.mp h).2 h2⟩
  | .list xs, h => by
    have h' : (gdAll ib sb lb xs && decide (xs.length ≤ lb)) = true := h
    rw [Bool.and_eq_true, decide_eq_true_eq] at h'
    show (gdAll ib' sb' lb' xs && decide (xs.length ≤ lb')) = true
    rw [Bool.and_eq_true, decide_eq_true_eq]
    exact ⟨gdAll_mono h1 h2 h3 h'.1, Nat.le_trans h'.2 h3⟩
  | .tuple xs, h => by
    have h' : (gdAll ib sb lb xs && decide (xs.length ≤ lb)) = true := h
    rw [Bool.and_eq_true, decide_eq_true_eq] at h'
    show (gdAll ib' sb' lb' xs && decide (xs.length ≤ lb')) = true
    rw [Bool.and_eq_true, decide_eq_true_eq]
    exact ⟨gdAll_mono h1 h2 h3 h'.1, Nat.le_trans h'.2 h3⟩
  | .dict _, h => h
theorem gdAll_mono {ib' sb' lb' : Nat} (h1 : ib ≤ ib') (h2 : sb ≤ sb') (h3 : lb ≤ lb') : ∀ {xs : List Dt}, gdAll ib sb lb xs = true → gdAll ib' sb' lb' xs = true
  | [], _ => rfl
  | x :: xs, h => by
    have h' : (gd ib sb lb x && gdAll ib sb lb xs) = true := h
    rw [Bool.and_eq_true] at h'
    show (gd ib' sb' lb' x && gdAll ib' sb' lb' xs) = true
    rw [Bool.and_eq_true]
    exact ⟨gd_mono h1 h2 h3 h'.1, gdAll_mono h1 h2 h3 h'.2⟩
end
mutual
theorem gd_plain : ∀ {d : Dt}, gd ib sb lb d = true → plain d = true
  | .none, _ => rfl
  | .bool _, _ => rfl
  | .int i, h => rfl
  | .str x, h => (gd_str.mp h).1
  | .list xs, h => by
    have h' : (gdAll ib sb lb xs && decide (xs.length ≤ lb)) = true := h
    rw [Bool.and_eq_true] at h'
    exact gdAll_plain h'.1
  | .tuple xs, h => by
    have h' : (gdAll ib sb lb xs && decide (xs.length ≤ lb)) = true := h
    rw [Bool.and_eq_true] at h'
    exact gdAll_plain h'.1
  | .dict _, h => h
theorem gdAll_plain : ∀ {xs : List Dt}, gdAll ib sb lb xs = true → plainAll xs = true
  | [], _ => rfl
  | x :: xs, h => by
    have h' : (gd ib sb lb x && gdAll ib sb lb xs) = true := h
    rw [Bool.and_eq_true] at h'
    show (plain x && plainAll xs) = true
    rw [Bool.and_eq_true]
    exact ⟨gd_plain h'.1, gdAll_plain h'.2⟩
end
theorem okS_strOk {x : Str} (h : okS x = true) : PyData.strOk x = true := by
  unfold PyData.strOk
  rw [← Array.all_toList, List.all_eq_true]
  intro c hc
  have := okc_lt (List.all_eq_true.mp h c hc)
  simp
  omega
mutual
theorem plain_lay : ∀ {d : Dt}, plain d = true → PyData.canLay0 d = true
  | .none, _ => rfl
  | .bool _, _ => rfl
  | .int i, h => rfl
  | .str x, h => okS_strOk h
  | .list xs, h => plainAll_lay h
  | .tuple xs, h => plainAll_lay h
  | .dict _, h => h
theorem plainAll_lay : ∀ {xs : List Dt}, plainAll xs = true → PyData.canLayAll0 xs = true
  | [], _ => rfl
  | x :: xs, h => by
    have h' : (plain x && plainAll xs) = true := h
    rw [Bool.and_eq_true] at h'
    show (PyData.canLay0 x && PyData.canLayAll0 xs) = true
    rw [Bool.and_eq_true]
    exact ⟨plain_lay h'.1, plainAll_lay h'.2⟩
end
mutual
theorem gd_showable (hb : ib < 2 ^ 1920) : ∀ {d : Dt}, gd ib sb lb d = true → PyData.showable d = true
  | .none, _ => rfl
  | .bool _, _ => rfl
  | .int i, h => by
    show decide (i.natAbs.log2 < 1920) = true
    rw [decide_eq_true_eq]
    by_cases h0 : i.natAbs = 0
    · rw [h0]; decide
    · exact (Nat.log2_lt h0).mpr (Nat.lt_of_le_of_lt (gd_int.mp h) hb)
  | .str x, h => rfl
  | .list xs, h => by
    have h' : (gdAll ib sb lb xs && decide (xs.length ≤ lb)) = true := h
    rw [Bool.and_eq_true] at h'
    exact gdAll_showable hb h'.1
  | .tuple xs, h => by
    have h' : (gdAll ib sb lb xs && decide (xs.length ≤ lb)) = true := h
    rw [Bool.and_eq_true] at h'
    exact gdAll_showable hb h'.1
  | .dict _, h => by cases h
theorem gdAll_showable (hb : ib < 2 ^ 1920) : ∀ {xs : List Dt}, gdAll ib sb lb xs = true → PyData.showableAll xs = true
  | [], _ => rfl
  | x :: xs, h => by
    have h' : (gd ib sb lb x && gdAll ib sb lb xs) = true := h
    rw [Bool.and_eq_true] at h'
    show (PyData.showable x && PyData.showableAll xs) = true
    rw [Bool.and_eq_true]
    exact ⟨gd_showable hb h'.1, gdAll_showable hb h'.2⟩
end
/-! depth -/
theorem depthAll_le : ∀ {xs : List Dt} {k : Nat}, PyData.depthAll xs ≤ k ↔ ∀ x ∈ xs, PyData.depth x ≤ k
  | [], k => ⟨fun _ _ h => (List.not_mem_nil h).elim, fun _ => Nat.zero_le _⟩
  | y :: r, k => by
    have ih := depthAll_le (xs := r) (k := k)
    show max (PyData.depth y) (PyData.depthAll r) ≤ k ↔ _
    rw [Nat.max_le, ih]
    exact (List.forall_mem_cons (p := fun x => PyData.depth x ≤ k)).symm
/-- signs of a text that shows such data -/
def shB (w lb : Nat) : Nat → Nat
  | 0 => w
  | k + 1 => lb * (shB w lb k + 2) + 3 + w
theorem jn_len {b : Nat} : ∀ {xs : List (List Nat)} {e : List Nat}, (∀ x ∈ xs, x.length ≤ b) → (jn xs e).length ≤ xs.length * (b + 2) + e.length
  | [], e, _ => by simp [jn]
  | [x], e, h => by
    have := h x List.mem_cons_self
    simp only [jn, List.length_append, List.length_cons, List.length_nil]
    omega
  | x :: y :: r, e, h => by
    have h1 := h x List.mem_cons_self
    have ih := jn_len (xs := y :: r) (e := e) fun z hz => h z (List.mem_cons_of_mem _ hz)
    simp only [jn, List.length_append, List.length_cons] at ih ⊢
    have : (r.length + 1 + 1) * (b + 2) = (r.length + 1) * (b + 2) + (b + 2) := Nat.succ_mul _ _
    omega
theorem gd_len {w : Nat} (h1 : sb + 2 ≤ w) (h2 : 5 ≤ w) (hi : ∀ i : Int, i.natAbs ≤ ib → (sh (.int i)).length ≤ w) : ∀ (k : Nat) (d : Dt), gd ib sb lb d = true → PyData.depth d ≤ k → (sh d).length ≤ shB w lb k := by
  have flat : ∀ (k : Nat) (d : Dt), (sh d).length ≤ w → (sh d).length ≤ shB w lb k := fun k d h => by
    cases k with
    | zero => exact h
    | succ k => exact Nat.le_trans h (Nat.le_add_left _ _)
  intro k
  induction k with
  | zero =>
    intro d h hd
    refine flat 0 d ?_
    cases d with
    | none => rw [sh_none]; exact Nat.le_trans (by decide) h2
    | bool b => cases b <;> first | (rw [sh_true]; exact Nat.le_trans (by decide) h2) | (rw [sh_false]; exact h2)
    | int i => exact hi i (gd_int.mp h)
    | str x =>
      rw [show sh (.str x) = _ from okS_repr (gd_str.mp h).1]
      have := (gd_str.mp h).2
      simp only [List.length_cons, List.length_append, List.length_nil]
      omega
    | list xs => exact absurd hd (Nat.not_succ_le_zero _)
    | tuple xs => exact absurd hd (Nat.not_succ_le_zero _)
    | dict _ => cases h
  | succ k ih =>
    intro d h hd
    have box : ∀ (xs : List Dt) (e : List Nat), e.length ≤ 2 → (∀ x ∈ xs, gd ib sb lb x = true) ∧ xs.length ≤ lb → PyData.depthAll xs + 1 ≤ k + 1 → (jn (xs.map sh) e).length + 1 ≤ shB w lb (k + 1) := fun xs e he hx hk => by
      have := jn_len (b := shB w lb k) (xs := xs.map sh) (e := e) fun y hy => by
        obtain ⟨x, hx2, rfl⟩ := List.mem_map.mp hy
        exact ih x (hx.1 x hx2) (depthAll_le.mp (Nat.le_of_succ_le_succ hk) x hx2)
      rw [List.length_map] at this
      have h3 := Nat.mul_le_mul_right (shB w lb k + 2) hx.2
      show _ ≤ lb * (shB w lb k + 2) + 3 + w
      omega
    cases d with
    | none => refine flat _ _ ?_; rw [sh_none]; exact Nat.le_trans (by decide) h2
    | bool b => refine flat _ _ ?_; cases b <;> first | (rw [sh_true]; exact Nat.le_trans (by decide) h2) | (rw [sh_false]; exact h2)
    | int i => exact flat _ _ (hi i (gd_int.mp h))
    | str x =>
      refine flat _ _ ?_
      rw [show sh (.str x) = _ from okS_repr (gd_str.mp h).1]
      have := (gd_str.mp h).2
      simp only [List.length_cons, List.length_append, List.length_nil]
      omega
    | list xs =>
      rw [sh_list]
      exact box xs _ (by decide) (gd_lst.mp h) hd
    | tuple xs =>
      rw [sh_tuple]
      exact box xs _ (by cases xs.length == 1 <;> decide) (gd_tup.mp h) hd
    | dict _ => cases h
theorem sh_int_len {i : Int} {k : Nat} (h0 : 0 < k) (h : i.natAbs < 10 ^ k) : (sh (.int i)).length ≤ k + 1 := by
  have := int_text_length_le10 h0 h
  show (Str.ofString (toString i)).cps.toList.length ≤ _
  rw [Str.ofString_eq_toList, List.length_map]
  exact (String.length_toList (s := toString i)).symm ▸ this
theorem gd_shaped {d : Dt} {k : Nat} (h : gd ib sb lb d = true) (hd : PyData.depth d ≤ k) (hk : k ≤ 64) : SeqAt.shaped d = true := by
  unfold SeqAt.shaped
  rw [plain_lay (gd_plain h), Bool.true_and]
  exact decide_eq_true (Nat.le_trans hd hk)
end
end DL

set_option maxHeartbeats 1000000
/-! DL, part s: sets whose members are tuples of ints, texts, None and such tuples -/
namespace DLS
open PySem PySem.Spec PyProof.Rows L2

abbrev NK := NestedKey
abbrev kh (w : World) (k : NK) : Int := k.hash w
/-- the object at a is the key k, not too deep -/
def Kis (h : Heap) (k : NK) (a : Addr) : Prop := NestedIs h k (.ref a) ∧ k.depth ≤ 8
theorem Kis.inj {h : Heap} {x y : NK} {a : Addr} (hx : Kis h x a) (hy : Kis h y a) : x = y := NestedIs.inj _ _ _ hx.1 hy.1
theorem Kis.keep {h h' : Heap} {k : NK} {a : Addr} (x : Kis h k a) (hk : ∀ c o, h.get? c = some o → h'.get? c = some o) : Kis h' k a := ⟨NestedIs.at (fun b o _ _ e _ => hk b o e) _ _ x.1, x.2⟩
/-- a set is written, keys stay -/
theorem Kis.but {h h' : Heap} {k : NK} {a b : Addr} {o : Obj} {es : Array (Int × Value)} {ep : Nat} {t : SetTable} (x : Kis h k b) (ho : h.get? a = some o) (hd : o.data = .set es ep t) (hs : Heap.SameBut a h h') : Kis h' k b :=
  ⟨NestedIs.at (fun c ob vs n e1 e2 => (hs.2 c fun z => by
    subst z
    rw [ho] at e1
    cases e1
    rw [hd] at e2
    cases e2).trans e1) _ _ x.1, x.2⟩
section
variable {P : Program} {w : World}
/-- of no class statement, n levels down -/
def NoCls (P : Program) (w : World) (n : Nat) (s : Shared) (v : Value) : Prop := ∀ (A : Around) (E : Value → Shared → Prop) (Q : Bool → Shared → Prop), Q false s → wpAny (model P w) A (ofAClassStatement n v) Q E s
theorem noCls_flat {n : Nat} {s : Shared} {v : Value} (h : ofAClassStatement n v = pure false) : NoCls P w n s v := fun A E Q q => by
  rw [h]
  exact wpAny_pure q
theorem noCls_tup {n : Nat} {s : Shared} {b : Addr} {o : Obj} {vs : Array Value} {m : Nat} (ho : s.heap.get? b = some o) (hc : o.cls = .type "tuple") (hd : o.data = .seq vs m) (hv : ∀ v ∈ vs.toList, NoCls P w n s v) : NoCls P w (n + 1) s (.ref b) := fun A E Q q => by
  have hT : s.TypeIs (.ref b) "tuple" := ⟨o, ho, hc⟩
  unfold ofAClassStatement
  refine wpAny_bind (wpAny_typeOf hT ?_)
  have e : (("tuple" : String) == "tuple") = true := by decide
  dsimp only
  simp only [e, if_true, Bool.not_true, Bool.false_eq_true, if_false]
  show wpAny _ _ (seqItems? (.ref b) >>= _) _ _ s
  refine wpAny_bind (wpAny_seqItems ho hd ?_)
  refine wpAny_bind ?_
  show wpAny _ _ (forIn vs _ _) _ _ s
  rw [← Array.forIn_toList]
  refine wpAny_forIn_list _ (fun rest r s' => r.1 = none ∧ s' = s ∧ ∀ v ∈ rest, NoCls P w n s v) _ ?_ ?_ _ _ ⟨rfl, rfl, hv⟩
  · rintro v rest r s' ⟨hr, rfl, all⟩
    refine wpAny_bind (all v List.mem_cons_self _ _ _ ?_)
    rw [if_neg Bool.false_ne_true]
    exact wpAny_pure ⟨rfl, rfl, fun u hu => all u (List.mem_cons_of_mem _ hu)⟩
  · rintro ⟨r1, r2⟩ s' ⟨hr, rfl, _⟩
    have hr : r1 = none := hr
    subst hr
    exact wpAny_pure q
mutual
theorem noCls_key : ∀ (k : NK) (v : Value) (n : Nat) (s : Shared), NestedIs s.heap k v → k.depth ≤ n → NoCls P w n s v
  | .none, _, n, s, x, _ => by cases x; exact noCls_flat (by cases n <;> rfl)
  | .num i, _, n, s, x, _ => by cases x <;> exact noCls_flat (by cases n <;> rfl)
  | .text y, _, n, s, x, _ => by cases x; exact noCls_flat (by cases n <;> rfl)
  | .tup ks, _, n, s, x, hn => by
    cases x with
    | tup h1 h2 h3 h4 =>
      cases n with
      | zero => exact absurd hn (Nat.not_succ_le_zero _)
      | succ n => exact noCls_tup h1 h2 h3 (noCls_keys ks _ n s h4 (Nat.le_of_succ_le_succ hn))
theorem noCls_keys : ∀ (ks : List NK) (vs : List Value) (n : Nat) (s : Shared), NestedAll s.heap ks vs → NestedKey.depthAll ks ≤ n → ∀ v ∈ vs, NoCls P w n s v
  | [], _, n, s, x, _, v, hv => by cases x; cases hv
  | k :: ks, _, n, s, x, hn, v, hv => by
    cases x with
    | cons x1 x2 =>
      have h1 : max k.depth (NestedKey.depthAll ks) ≤ n := hn
      rcases List.mem_cons.mp hv with e | hv
      · rw [e]
        exact noCls_key k _ n s x1 (by omega)
      · exact noCls_keys ks _ n s x2 (by omega) v hv
end
/-- whether the hash goes by the value: told -/
def HashBy (P : Program) (w : World) (n : Nat) (s : Shared) (v : Value) : Prop := ∀ (A : Around) (E : Value → Shared → Prop) (Q : Bool → Shared → Prop), (∀ b, Q b s) → wpAny (model P w) A (hashByValue n v) Q E s
theorem hashBy_flat {n : Nat} {s : Shared} {v : Value} {b : Bool} (h : hashByValue n v = pure b) : HashBy P w n s v := fun A E Q q => by
  rw [h]
  exact wpAny_pure (q b)
theorem hashBy_tup {n : Nat} {s : Shared} {b : Addr} {o : Obj} {vs : Array Value} {m : Nat} (ho : s.heap.get? b = some o) (hc : o.cls = .type "tuple") (hd : o.data = .seq vs m) (hv : ∀ v ∈ vs.toList, HashBy P w n s v) : HashBy P w (n + 1) s (.ref b) := fun A E Q q => by
  have hT : s.TypeIs (.ref b) "tuple" := ⟨o, ho, hc⟩
  unfold hashByValue
  refine wpAny_bind (wpAny_specialOf hT F.slot_tuple_hash.lookup ?_)
  show wpAny _ _ (seqItems? (.ref b) >>= _) _ _ s
  refine wpAny_bind (wpAny_seqItems ho hd ?_)
  refine wpAny_bind ?_
  show wpAny _ _ (forIn vs _ _) _ _ s
  rw [← Array.forIn_toList]
  refine wpAny_forIn_list _ (fun rest r s' => s' = s ∧ ∀ v ∈ rest, HashBy P w n s v) _ ?_ ?_ _ _ ⟨rfl, hv⟩
  · rintro v rest r s' ⟨rfl, all⟩
    refine wpAny_bind (all v List.mem_cons_self _ _ _ fun b => ?_)
    cases b with
    | true =>
      simp only [Bool.not_true, Bool.false_eq_true, if_false]
      exact wpAny_pure ⟨rfl, fun u hu => all u (List.mem_cons_of_mem _ hu)⟩
    | false =>
      simp only [Bool.not_false, if_true]
      exact wpAny_pure (wpAny_pure (q _))
  · rintro ⟨r1, r2⟩ s' ⟨rfl, _⟩
    cases r1 with
    | none => exact wpAny_pure (q _)
    | some b => exact wpAny_pure (q _)
mutual
theorem hashBy_key : ∀ (k : NK) (v : Value) (n : Nat) (s : Shared), NestedIs s.heap k v → k.depth ≤ n → HashBy P w n s v
  | .none, _, n, s, x, _ => by cases x; exact hashBy_flat (b := true) (by cases n <;> rfl)
  | .num i, _, n, s, x, _ => by cases x <;> exact hashBy_flat (b := true) (by cases n <;> rfl)
  | .text y, _, n, s, x, _ => by cases x; exact hashBy_flat (b := false) (by cases n <;> rfl)
  | .tup ks, _, n, s, x, hn => by
    cases x with
    | tup h1 h2 h3 h4 =>
      cases n with
      | zero => exact absurd hn (Nat.not_succ_le_zero _)
      | succ n => exact hashBy_tup h1 h2 h3 (hashBy_keys ks _ n s h4 (Nat.le_of_succ_le_succ hn))
theorem hashBy_keys : ∀ (ks : List NK) (vs : List Value) (n : Nat) (s : Shared), NestedAll s.heap ks vs → NestedKey.depthAll ks ≤ n → ∀ v ∈ vs, HashBy P w n s v
  | [], _, n, s, x, _, v, hv => by cases x; cases hv
  | k :: ks, _, n, s, x, hn, v, hv => by
    cases x with
    | cons x1 x2 =>
      have h1 : max k.depth (NestedKey.depthAll ks) ≤ n := hn
      rcases List.mem_cons.mp hv with e | hv
      · rw [e]
        exact hashBy_key k _ n s x1 (by omega)
      · exact hashBy_keys ks _ n s x2 (by omega) v hv
end
variable {A : Around} {E : Value → Shared → Prop} {s : Shared}
/-- a search among keys shows nothing -/
theorem unseen {k : NK} {b : Addr} {Q : Bool → Shared → Prop} (hk : Kis s.heap k b) {ys : List Value} (hy : ∀ y ∈ ys, ∃ k' c, y = Value.ref c ∧ Kis s.heap k' c) (q : Q false s) : wpAny (model P w) A (searchCouldBeSeen (.ref b) ys) Q E s := by
  unfold searchCouldBeSeen
  refine wpAny_bind ?_
  refine wpAny_forIn_list _ (fun rest r s' => r.1 = none ∧ s' = s ∧ ∀ y ∈ rest, ∃ k' c, y = Value.ref c ∧ Kis s.heap k' c) _ ?_ ?_ _ _ ⟨rfl, rfl, hy⟩
  · rintro v rest r s' ⟨hr, rfl, all⟩
    obtain ⟨k', c, rfl, hc⟩ := all v List.mem_cons_self
    have more : ∀ y ∈ rest, ∃ k' c, y = Value.ref c ∧ Kis s'.heap k' c := fun u hu => all u (List.mem_cons_of_mem _ hu)
    dsimp only
    by_cases hv : (b == c || (carriedByValue (.ref b) && carriedByValue (.ref c))) = true
    · exact wp_if_pos hv (wpAny_pure ⟨rfl, rfl, more⟩)
    · refine wp_if_neg hv ?_
      refine wpAny_bind (quiet_key k _ 8 s' hk.1 hk.2 _ _ _ ?_)
      rw [if_neg (by decide)]
      refine wpAny_bind (quiet_key k' _ 8 s' hc.1 hc.2 _ _ _ ?_)
      rw [if_neg (by decide)]
      refine wpAny_bind (noCls_key k _ 8 s' hk.1 hk.2 _ _ _ ?_)
      rw [if_neg (by decide)]
      refine wpAny_bind (noCls_key k' _ 8 s' hc.1 hc.2 _ _ _ ?_)
      rw [if_neg (by decide)]
      exact wpAny_pure ⟨rfl, rfl, more⟩
  · rintro ⟨r1, r2⟩ s' ⟨hr, rfl, _⟩
    have hr : r1 = none := hr
    subst hr
    exact wpAny_pure q
theorem eq_keys {x y : NK} {a b : Addr} {Q : Bool → Shared → Prop} (hu : A.units + 8 < cLine) (hx : Kis s.heap x a) (hy : Kis s.heap y b) (q : Q (decide (x = y)) s) : wpAny (model P w) A (eqBool (.ref a) (.ref b)) Q E s :=
  eqAt_key x y A s _ _ hx.1 hy.1 (by have := hx.2; omega) _ _ _ _ (by rw [← NestedKey.decide_eq]; exact q)
end

/-! ### the set -/
def rws (w : World) (L : List (Addr × NK)) : List (Int × Value) := L.map fun p => (kh w p.2, Value.ref p.1)
structure SG (w : World) (h : Heap) (a : Addr) (L : List (Addr × NK)) (es : Array (Int × Value)) (ep : Nat) (t : SetTable) : Prop where
  ob : ∃ o, h.get? a = some o ∧ o.ExactSet ∧ o.data = .set es ep t
  rows : es.toList = rws w L
  tab : TabOk t (L.map fun p => kh w p.2)
  nd : (L.map (·.2)).Nodup
  key : ∀ p ∈ L, Kis h p.2 p.1
  led : w.params.followText "set-order" = true ∨ t.led = true
  room : L.length * 5 < t.mask * 3
  few : L.length < 64
section
variable {P : Program} {w : World} {A : Around} {E : Value → Shared → Prop} {s : Shared} {a : Addr} {L : List (Addr × NK)} {es : Array (Int × Value)} {ep : Nat} {t : SetTable}
theorem rws_len {L : List (Addr × NK)} {es : Array (Int × Value)} (h : es.toList = rws w L) : es.size = L.length := by
  have q := congrArg List.length h
  rw [Array.length_toList] at q
  rw [q]
  exact List.length_map _
theorem fits_of {n : Nat} (hm : n ≤ t.mask) (hs : t.place.size = n) (hd : t.dummies = #[]) : t.fits n = true := by
  unfold SetTable.fits SetTable.fill
  rw [hd, Bool.and_eq_true, beq_iff_eq, decide_eq_true_eq]
  show t.place.size = n ∧ t.place.size + 0 ≤ t.mask
  omega
theorem SG.len (R : SG w s.heap a L es ep t) : es.size = L.length := rws_len R.rows
theorem SG.psz (R : SG w s.heap a L es ep t) : t.place.size = L.length := by rw [R.tab.sz, List.length_map]
theorem SG.fits (R : SG w s.heap a L es ep t) : t.fits es.size = true := fits_of (by rw [R.len]; have := R.room; omega) (by rw [R.psz, R.len]) R.tab.dm
theorem SG.at (R : SG w s.heap a L es ep t) {i : Nat} {p : Addr × NK} (h : L[i]? = some p) : es[i]? = some (kh w p.2, Value.ref p.1) := by
  rw [← Array.getElem?_toList, R.rows]
  unfold rws
  rw [List.getElem?_map, h]
  rfl
theorem gives_way (h : MaskOk t.mask) : ¬ t.gaveWay = true := by
  unfold SetTable.gaveWay
  rw [mask_odd h]
  decide
/-- the c-th probe on the way of the hash h -/
abbrev prb (m : Nat) (h : Int) (c : Nat) : SetTable.Probe := nth m (runAt m (SetTable.bits h % (m + 1)) (SetTable.bits h)) c
theorem prb_dummy (m : Nat) (h : Int) : ∀ c, (prb m h c).dummy = none := by
  have go : ∀ (n : Nat) (p : SetTable.Probe), p.dummy = none → (nth m p n).dummy = none := fun n => by
    induction n with
    | zero => exact fun p h => h
    | succ n ih => exact fun p h => ih _ (by unfold adv; split <;> exact h)
  exact fun c => go c _ rfl
theorem prb_add (m : Nat) (h : Int) (c q : Nat) : nth m (prb m h c) q = prb m h (c + q) := (nth_add m c _ q).symm
/-- behind a candidate -/
theorem search_cand (R : SG w s.heap a L es ep t) {x : Addr} {k : NK} (hx : Kis s.heap k x) (hu : A.units + 8 < cLine) {f i j : Nat} {next : SetTable.Probe} {p : Addr × NK} (hp : L[i]? = some p) (hj : t.place.toList[i]? = some j) {Q : SetFound → Shared → Prop}
    (same : p.2 = k → Q (.there none) s) (on : p.2 ≠ k → wpAny (model P w) A (setSearchFrom a (.ref x) (kh w k) true f (some next)) Q E s) :
    wpAny (model P w) A (searchRest a (.ref x) (kh w k) true f es t j i next) Q E s := by
  obtain ⟨o, ho, hex, hd⟩ := R.ob
  have hsl : t.slot j = .live i := slot_live R.tab.ris hj
  unfold searchRest
  rw [R.at hp]
  dsimp only
  refine wpAny_bind (wpAny_holding (eq_keys hu (R.key p (List.mem_of_getElem? hp)) hx ?_))
  refine wpAny_bind (wpAny_setState_of ho hd R.fits ?_)
  dsimp only
  by_cases e : p.2 = k
  · exact wp_if_pos (by simp [e]) (wpAny_pure (same e))
  · refine wp_if_neg (by simp [e]) ?_
    rw [sameMem]
    dsimp only
    simp only [if_true, hsl, R.at hp]
    refine wpAny_bind (wpAny_isSame_ref_self (wpAny_bind (wpAny_pure ?_)))
    simp only [if_true]
    exact wp_if_neg (by simp [e]) (on e)
/-- the search, from the c-th step of the way on -/
theorem search_on (R : SG w s.heap a L es ep t) {x : Addr} {k : NK} (hx : Kis s.heap k x) (hu : A.units + 8 < cLine) {K : Nat} (hKf : K < 10 * SetTable.turns t.mask) (hK : way t.mask (kh w k) K ∉ t.place.toList)
    (hKb : ∀ c, c < K → way t.mask (kh w k) c ∈ t.place.toList) {Q : SetFound → Shared → Prop} (hin : k ∈ L.map (·.2) → Q (.there none) s) (hout : k ∉ L.map (·.2) → Q (.free (way t.mask (kh w k) K) false) s) :
    ∀ (f c : Nat) (stand : Option SetTable.Probe), stand.getD (t.probeStart (kh w k)) = prb t.mask (kh w k) c → c ≤ K → K - c < f →
      (∀ (i : Nat) p, L[i]? = some p → p.2 = k → ∃ c', c ≤ c' ∧ c' < K ∧ t.place.toList[i]? = some (way t.mask (kh w k) c')) →
      wpAny (model P w) A (setSearchFrom a (.ref x) (kh w k) true f stand) Q E s := by
  intro f
  induction f with
  | zero => exact fun c _ _ _ h => absurd h (Nat.not_lt_zero _)
  | succ f ih =>
    intro c stand hst hc hf left
    obtain ⟨o, ho, hex, hd⟩ := R.ob
    rw [setSearchFrom_succ]
    refine wpAny_bind (wpAny_setState_of ho hd R.fits ?_)
    dsimp only
    refine wp_if_neg (gives_way R.tab.mok) ?_
    have wj : ∀ q, (nth t.mask (prb t.mask (kh w k) c) q).j = way t.mask (kh w k) (c + q) := fun q => congrArg SetTable.Probe.j (prb_add _ _ c q)
    have hh : ∀ (i : Nat) p, L[i]? = some p → (es[i]?.map (·.1)).getD 0 = kh w p.2 := fun i p hp => by
      rw [R.at hp]
      rfl
    have spec := go_spec t R.tab.ris R.tab.dm (fun i => (es[i]?.map (·.1)).getD 0) (kh w k) (10 * SetTable.turns t.mask) (K - c) (prb t.mask (kh w k) c) (prb_dummy _ _ c) (by omega)
      (fun q hq => by rw [wj]; exact hKb (c + q) (by omega)) (by rw [wj, show c + (K - c) = K by omega]; exact hK)
    rcases spec with ⟨q, i, hq, hi, _, hno, hpr⟩ | ⟨hno, hpr⟩
    · have go : t.probe (fun i => (es[i]?.map (·.1)).getD 0) (kh w k) (stand.getD (t.probeStart (kh w k))) = some (.candidate (way t.mask (kh w k) (c + q)) i (prb t.mask (kh w k) (c + (q + 1)))) := by
        rw [hst, ← wj, ← prb_add]
        exact hpr
      rw [go]
      dsimp only
      rw [wj] at hi
      have hil : i < L.length := by
        have h1 := (List.getElem?_eq_some_iff.mp hi).1
        rw [Array.length_toList, R.psz] at h1
        exact h1
      obtain ⟨p, hp⟩ : ∃ p, L[i]? = some p := ⟨_, List.getElem?_eq_getElem hil⟩
      have rest : wpAny (model P w) A (searchRest a (.ref x) (kh w k) true f es t (way t.mask (kh w k) (c + q)) i (prb t.mask (kh w k) (c + (q + 1)))) Q E s := by
        refine search_cand R hx hu hp hi (fun e => hin (List.mem_map.mpr ⟨p, List.mem_of_getElem? hp, e⟩)) fun ne => ?_
        refine ih (c + (q + 1)) _ rfl (by omega) (by omega) fun i0 p0 h0 e0 => ?_
        obtain ⟨c', a1, a2, a3⟩ := left i0 p0 h0 e0
        refine ⟨c', ?_, a2, a3⟩
        rcases Nat.lt_trichotomy c' (c + q) with z | z | z
        · refine absurd ?_ (hno (c' - c) i0 (by omega) (by rw [wj, show c + (c' - c) = c' by omega]; exact a3))
          rw [← e0]
          exact hh i0 p0 h0
        · exfalso
          rw [z] at a3
          have s1 := slot_live R.tab.ris a3
          rw [slot_live R.tab.ris hi] at s1
          injection s1 with s1
          rw [← s1, hp] at h0
          cases h0
          exact ne e0
        · exact z
      by_cases hl : t.led = true
      · exact wp_if_neg (by simp [hl]) rest
      · refine wp_if_pos (by simp [hl]) ?_
        refine wpAny_bind (unseen hx (fun y hy => ?_) (wp_if_neg (by decide) rest))
        obtain ⟨e, he, ee⟩ := List.mem_map.mp hy
        have he1 : e ∈ es ∧ e.1 = kh w k := by simpa using he
        have he2 : e ∈ es.toList := by simpa using he1.1
        rw [R.rows] at he2
        obtain ⟨p2, hp2, e2⟩ := List.mem_map.mp he2
        exact ⟨p2.2, p2.1, by rw [← ee, ← e2], R.key p2 hp2⟩
    · have go : t.probe (fun i => (es[i]?.map (·.1)).getD 0) (kh w k) (stand.getD (t.probeStart (kh w k))) = some (.empty (way t.mask (kh w k) K) none) := by
        have e2 : way t.mask (kh w k) K = (nth t.mask (prb t.mask (kh w k) c) (K - c)).j := by rw [wj, show c + (K - c) = K by omega]
        rw [hst, e2]
        exact hpr
      rw [go]
      dsimp only
      refine wpAny_pure (hout fun hm => ?_)
      obtain ⟨p0, h0, e0⟩ := List.mem_map.mp hm
      obtain ⟨i0, hi0, g0⟩ := List.getElem_of_mem h0
      have h00 : L[i0]? = some p0 := by rw [List.getElem?_eq_getElem hi0, g0]
      obtain ⟨c', a1, a2, a3⟩ := left i0 p0 h00 e0
      refine hno (c' - c) i0 (by omega) (by rw [wj, show c + (c' - c) = c' by omega]; exact a3) ?_
      rw [← e0]
      exact hh i0 p0 h00
/-- the search that adding asks for -/
theorem search_add (R : SG w s.heap a L es ep t) {x : Addr} {k : NK} (hx : Kis s.heap k x) (hu : A.units + 8 < cLine) {Q : SetFound → Shared → Prop} (hin : k ∈ L.map (·.2) → Q (.there none) s)
    (hout : ∀ K, k ∉ L.map (·.2) → way t.mask (kh w k) K ∉ t.place.toList → (∀ c, c < K → way t.mask (kh w k) c ∈ t.place.toList) → Q (.free (way t.mask (kh w k) K) false) s) :
    wpAny (model P w) A (setSearch a (.ref x) (kh w k) true) Q E s := by
  have hroom := R.room
  obtain ⟨K, hKf, hK, hKb⟩ := R.tab.first (by rw [List.length_map]; omega) (kh w k)
  have hbig : K < 100000 := by
    have : 10 * SetTable.turns t.mask ≤ 1420 := by
      unfold SetTable.turns
      rcases R.tab.mok with e | e | e <;> omega
    omega
  unfold setSearch
  refine search_on R hx hu hKf hK hKb hin (fun hn => hout K hn hK hKb) 100000 0 none rfl (Nat.zero_le _) (by omega) fun i p hp e => ?_
  have hi : (L.map fun p => kh w p.2)[i]? = some (kh w k) := by
    rw [List.getElem?_map, hp, ← e]
    rfl
  have hil : i < t.place.toList.length := by
    rw [Array.length_toList, R.psz]
    exact (List.getElem?_eq_some_iff.mp hp).1
  have hj := List.getElem?_eq_getElem hil
  obtain ⟨c, hc, e2⟩ := R.tab.before hK hi hj
  exact ⟨c, Nat.zero_le _, hc, by rw [hj, e2]⟩
/-! laying anew -/
theorem fm_congr {α β : Type} {f g : α → Option β} : ∀ {l : List α}, (∀ x ∈ l, f x = g x) → l.filterMap f = l.filterMap g
  | [], _ => rfl
  | x :: r, h => by
    rw [List.filterMap_cons, List.filterMap_cons, h x List.mem_cons_self, fm_congr fun y hy => h y (List.mem_cons_of_mem _ hy)]
theorem rows_order (L : List (Addr × NK)) (es : Array (Int × Value)) (order : Array Nat) (hr : es.toList = rws w L) (hp : order.toList.Perm (List.range L.length)) :
    ∃ L2 : List (Addr × NK), (order.filterMap (es[·]?)).toList = rws w L2 ∧ L2.Perm L ∧ (L2.map fun p => kh w p.2) = order.toList.map fun i => (es.map (·.1)).getD i 0 := by
  have hsz := rws_len hr
  have hin : ∀ i ∈ order.toList, i < L.length := fun i hi => List.mem_range.mp (hp.mem_iff.mp hi)
  have ent : ∀ i (h : i < L.length), es[i]? = some (kh w (L[i]).2, Value.ref (L[i]).1) := fun i h => by
    rw [← Array.getElem?_toList, hr]
    unfold rws
    rw [List.getElem?_map, List.getElem?_eq_getElem h]
    rfl
  refine ⟨order.toList.filterMap (fun i => L[i]?), ?_, ?_, ?_⟩
  · rw [Array.toList_filterMap]
    unfold rws
    rw [List.map_filterMap]
    refine fm_congr fun i hi => ?_
    rw [ent i (hin i hi), List.getElem?_eq_getElem (hin i hi)]
    rfl
  · have h1 := hp.filterMap (fun i => L[i]?)
    refine h1.trans (List.Perm.of_eq ?_)
    have : ∀ n, n ≤ L.length → (List.range n).filterMap (fun i => L[i]?) = L.take n := fun n => by
      induction n with
      | zero => exact fun _ => rfl
      | succ n ih =>
        intro hn
        rw [List.range_succ, List.filterMap_append, ih (by omega), List.take_succ, List.getElem?_eq_getElem (show n < L.length by omega)]
        rw [List.filterMap_cons_some (List.getElem?_eq_getElem (show n < L.length by omega))]
        rfl
    rw [this L.length (Nat.le_refl _), List.take_length]
  · rw [List.map_filterMap]
    have : ∀ l : List Nat, (∀ i ∈ l, i < L.length) → l.filterMap (fun i => (L[i]?).map fun p => kh w p.2) = l.map fun i => (es.map (·.1)).getD i 0 := fun l => by
      induction l with
      | nil => exact fun _ => rfl
      | cons i l ih =>
        intro hl
        have hi := hl i List.mem_cons_self
        have e5 : (es.map (·.1))[i]? = some (kh w (L[i]).2) := by
          rw [Array.getElem?_map, ent i hi]
          rfl
        rw [List.filterMap_cons_some (by rw [List.getElem?_eq_getElem hi]; rfl), ih fun j hj => hl j (List.mem_cons_of_mem _ hj), List.map_cons]
        simp [Array.getD_eq_getD_getElem?, e5]
    exact this _ hin
theorem relay_ok {o : Obj} (ho : s.heap.get? a = some o) (hex : o.ExactSet) (hd : o.data = .set es ep t) (hrows : es.toList = rws w L) (hsz : t.place.size = es.size) (hdm : t.dummies = #[]) (hfl : es.size ≤ t.mask) (nd : (L.map (·.2)).Nodup)
    (key : ∀ p ∈ L, Kis s.heap p.2 p.1) (ld : w.params.followText "set-order" = true ∨ t.led = true) (few : L.length < 64) {wanted M : Nat} (hw : SetTable.sizeAbove wanted - 1 = M) (hM : MaskOk M) (hw2 : SetTable.sizeAbove wanted ≤ 128)
    (hn : L.length * 5 < M * 3) {Q : Unit → Shared → Prop} (hQ : ∀ h' L' es' ep' t', Heap.SameBut a s.heap h' → SG w h' a L' es' ep' t' → L'.Perm L → Q () { s with heap := h' }) : wpAny (model P w) A (setRelay a wanted) Q E s := by
  have hsl := rws_len hrows
  obtain ⟨t', order, e, hp, T, em, el, _, _⟩ := relaid_ok t (hs := es.map (·.1)) (wanted := wanted) hw hM (by rw [Array.size_map, hsl]; omega)
  rw [Array.size_map, hsl] at hp
  obtain ⟨L2, r1, r2, r3⟩ := rows_order L es order hrows hp
  rw [← r3] at T
  have hs2 : (order.filterMap (es[·]?)).size = es.size := by rw [rws_len r1, r2.length_eq, hsl]
  rw [setRelay_eq]
  refine wpAny_bind (wpAny_setState_of ho hd (fits_of hfl hsz hdm) ?_)
  dsimp only
  refine wp_if_neg (by rw [sizeLine_eq]; omega) ?_
  rw [e]
  dsimp only
  refine wpAny_bind (wp_if_neg (by rw [hs2]; simp) (wpAny_pure ?_))
  dsimp only
  refine wpAny_storeSet_of ho hd ?_ (by rw [hs2, hsl, sizeLine_eq]; omega)
  have sb : Heap.SameBut a s.heap (s.heap.update a (Obj.putSet (order.filterMap (es[·]?)) t')) := Heap.SameBut.update ..
  refine hQ _ L2 _ (ep + 1) t' sb ⟨⟨_, store_at ho hd, ⟨hex.1, hex.2.1, hex.2.2⟩, rfl⟩, r1, T, (r2.map (·.2)).nodup_iff.mpr nd, fun p hm => (key p (r2.mem_iff.mp hm)).but ho hd sb, by rw [el]; exact ld, ?_, by rw [r2.length_eq]; exact few⟩ r2
  rw [r2.length_eq, em]
  exact hn
/-- a member added -/
theorem add_key (R : SG w s.heap a L es ep t) {x : Addr} {k : NK} (hx : Kis s.heap k x) (hu : A.units + 8 < cLine) (hfew : L.length + 1 < 64) {Q : Bool → Shared → Prop}
    (hQ : ∀ b h' L' es' ep' t', Heap.SameBut a s.heap h' → SG w h' a L' es' ep' t' → (k ∈ L.map (·.2) → L' = L) → (k ∉ L.map (·.2) → L'.Perm ((x, k) :: L)) → Q b { s with heap := h' }) :
    wpAny (model P w) A (setAddHashed a (.ref x) (kh w k)) Q E s := by
  obtain ⟨o, ho, hex, hd⟩ := R.ob
  have hsl := R.len
  have hroom := R.room
  unfold setAddHashed
  refine wpAny_holding ?_
  rw [show (100000 : Nat) = 99999 + 1 from rfl, setAddHashedIn_succ]
  refine wpAny_bind (wpAny_setState_of ho hd R.fits ?_)
  dsimp only
  refine wp_if_neg (by simp [byScan, Value.scannable]) ?_
  refine wpAny_bind (search_add R hx hu (fun hm => wpAny_pure (hQ false s.heap L es ep t (Heap.SameBut.refl a s.heap) R (fun _ => rfl) fun z => absurd hm z)) fun K hm hK hb => ?_)
  dsimp only
  refine wpAny_bind (wpAny_setState_of ho hd R.fits ?_)
  dsimp only
  obtain ⟨q1, q2, q3, q4, q5, q6, q7, q8, q9⟩ := R.tab.put hK hb
  generalize hpt : t.put (way t.mask (kh w k) K) = pt at q1 q3 q4 q5 q6 q7 q8 q9 ⊢
  obtain ⟨t1, p⟩ := pt
  dsimp only at q1 q3 q4 q5 q6 q7 q8 q9 ⊢
  subst q1
  have hin : (SetTable.insertAt es (SetTable.below t.place (way t.mask (kh w k) K)) (kh w k, Value.ref x)).toList = rws w (L.take (SetTable.below t.place (way t.mask (kh w k) K)) ++ (x, k) :: L.drop (SetTable.below t.place (way t.mask (kh w k) K))) := by
    rw [SetTable.toList_insertAt, R.rows]
    unfold rws
    rw [List.map_append, List.map_cons, List.map_take, List.map_drop]
  generalize SetTable.below t.place (way t.mask (kh w k) K) = p at q2 q3 hin ⊢
  have pm : (L.take p ++ (x, k) :: L.drop p).Perm ((x, k) :: L) := put_perm L p (x, k)
  have hlen := pm.length_eq
  rw [List.length_cons] at hlen
  have hhs : (L.take p ++ (x, k) :: L.drop p).map (fun p => kh w p.2) = (L.map fun p => kh w p.2).take p ++ kh w k :: (L.map fun p => kh w p.2).drop p := by rw [List.map_append, List.map_cons, List.map_take, List.map_drop]
  rw [← hhs] at q3
  have nd1 : ((L.take p ++ (x, k) :: L.drop p).map (·.2)).Nodup := (pm.map (·.2)).nodup_iff.mpr (by rw [List.map_cons]; exact List.nodup_cons.mpr ⟨hm, R.nd⟩)
  have hes := rws_len hin
  generalize SetTable.insertAt es p (kh w k, Value.ref x) = es1 at hin hes ⊢
  generalize L.take p ++ (x, k) :: L.drop p = L1 at pm hlen q3 nd1 hin hes
  have fin : ∀ b : Bool, wpAny (model P w) A (do
      let t := if b then t1 else { t1 with plain := false }
      storeSet a es1 t
      if !false && t.tooFull then setRelay a (SetTable.grown (es.size + 1))
      return true) Q E s := fun b => by
    have same : ∀ t2 : SetTable, TabOk t2 (L1.map fun p => kh w p.2) → t2.mask = t.mask → t2.led = t.led → t2.fill = L.length + 1 → wpAny (model P w) A (do
        storeSet a es1 t2
        if !false && t2.tooFull then setRelay a (SetTable.grown (es.size + 1))
        return true) Q E s := fun t2 T2 m2 l2 f2 => by
      refine wpAny_bind (wpAny_storeSet_of ho hd ?_ (by rw [hes, hlen, sizeLine_eq]; omega))
      have sb : Heap.SameBut a s.heap (s.heap.update a (Obj.putSet es1 t2)) := Heap.SameBut.update ..
      have ho1 := store_at (es' := es1) (t' := t2) ho hd
      generalize s.heap.update a (Obj.putSet es1 t2) = h1 at sb ho1 ⊢
      have key1 : ∀ p ∈ L1, Kis h1 p.2 p.1 := fun p hp => by
        rcases List.mem_cons.mp (pm.mem_iff.mp hp) with e | hp
        · rw [e]
          exact hx.but ho hd sb
        · exact (R.key p hp).but ho hd sb
      have ld1 : w.params.followText "set-order" = true ∨ t2.led = true := by rw [l2]; exact R.led
      by_cases hf : t2.tooFull = true
      · have hfull : (L.length + 1) * 5 ≥ t2.mask * 3 := by
          have h := hf
          unfold SetTable.tooFull at h
          rw [decide_eq_true_eq, f2] at h
          exact h
        have hsz1 : t2.place.size = es1.size := by rw [T2.sz, List.length_map, hes]
        have two : (t.mask = 7 ∧ L.length = 4) ∨ (t.mask = 31 ∧ L.length = 18) := by
          rcases R.tab.mok with e | e | e
          · left; rw [m2, e] at hfull; rw [e] at hroom; exact ⟨e, by omega⟩
          · right; rw [m2, e] at hfull; rw [e] at hroom; exact ⟨e, by omega⟩
          · exfalso; rw [m2, e] at hfull; omega
        have go : ∀ M, SetTable.sizeAbove (SetTable.grown (L.length + 1)) - 1 = M → MaskOk M → SetTable.sizeAbove (SetTable.grown (L.length + 1)) ≤ 128 → (L.length + 1) * 5 < M * 3 →
            wpAny (model P w) A (setRelay a (SetTable.grown (L.length + 1))) (fun _ s' => wpAny (model P w) A (pure true) Q E s') E { s with heap := h1 } := fun M h1' h2' h3' h4' =>
          relay_ok (s := { s with heap := h1 }) ho1 ⟨hex.1, hex.2.1, hex.2.2⟩ rfl hin hsz1 T2.dm (by rw [hes, hlen, m2]; rcases two with ⟨e, e2⟩ | ⟨e, e2⟩ <;> omega) nd1 key1 ld1 (by rw [hlen]; exact hfew) h1' h2' h3' (by rw [hlen]; exact h4')
            fun h2 L2 es2 ep2 t3 sb2 R2 pm2 => wpAny_pure (hQ true h2 L2 es2 ep2 t3 (sb.trans sb2) R2 (fun z => absurd z hm) fun _ => pm2.trans pm)
        rw [hsl]
        first
          | (refine wpAny_bind (wp_if_pos (by simp [hf]) ?_)
             rcases two with ⟨_, e2⟩ | ⟨_, e2⟩
             · exact go 31 (by rw [e2, size_20]) (.inr (.inl rfl)) (by rw [e2, size_20]; decide) (by omega)
             · exact go 127 (by rw [e2, size_76]) (.inr (.inr rfl)) (by rw [e2, size_76]; decide) (by omega))
          | (refine wp_if_pos (by simp [hf]) (wpAny_bind ?_)
             rcases two with ⟨_, e2⟩ | ⟨_, e2⟩
             · exact go 31 (by rw [e2, size_20]) (.inr (.inl rfl)) (by rw [e2, size_20]; decide) (by omega)
             · exact go 127 (by rw [e2, size_76]) (.inr (.inr rfl)) (by rw [e2, size_76]; decide) (by omega))
      · have end1 : Q true { s with heap := h1 } := by
          refine hQ true h1 L1 es1 (ep + 1) t2 sb ⟨⟨_, ho1, ⟨hex.1, hex.2.1, hex.2.2⟩, rfl⟩, hin, T2, nd1, key1, ld1, ?_, by rw [hlen]; exact hfew⟩ (fun z => absurd z hm) fun _ => pm
          have h := hf
          unfold SetTable.tooFull at h
          rw [decide_eq_true_eq, f2] at h
          rw [hlen]
          omega
        first
          | exact wp_if_neg (by simp [hf]) (wpAny_pure end1)
          | exact wpAny_bind (wp_if_neg (by simp [hf]) (wpAny_pure (wpAny_pure end1)))
    rw [List.length_map] at q9
    cases b with
    | true => exact same t1 q3 q4 q5 q9
    | false => exact same { t1 with plain := false } ⟨q3.ris, q3.dm, q3.sz, q3.mok, q3.bd, q3.reach⟩ q4 q5 q9
  by_cases hpl : t1.plain = true
  · first
      | (refine wpAny_bind (wp_if_pos hpl (hashBy_key k _ 8 s hx.1 hx.2 _ _ _ fun b => ?_))
         exact fin b)
      | (refine wp_if_pos hpl (wpAny_bind (hashBy_key k _ 8 s hx.1 hx.2 _ _ _ fun b => ?_))
         exact fin b)
  · first
      | exact wpAny_bind (wp_if_neg hpl (wpAny_pure (fin true)))
      | exact wp_if_neg hpl (fin true)
/-! set(xs) -/
/-- what the set has of the first i items -/
structure Gt (ks : List (Addr × NK)) (i : Nat) (L : List (Addr × NK)) : Prop where
  sub : ∀ p ∈ L, p ∈ ks.take i
  all : ∀ p ∈ ks.take i, p.2 ∈ L.map (·.2)
  len : L.length ≤ i
theorem Gt.zero (ks : List (Addr × NK)) : Gt ks 0 [] := ⟨fun p h => (List.not_mem_nil h).elim, fun p h => by simp at h, Nat.le_refl _⟩
theorem Gt.next {ks L L' : List (Addr × NK)} {i : Nat} {x : Addr × NK} (g : Gt ks i L) (h : ks[i]? = some x) (c1 : x.2 ∈ L.map (·.2) → L' = L) (c2 : x.2 ∉ L.map (·.2) → L'.Perm (x :: L)) : Gt ks (i + 1) L' := by
  have tn : ks.take (i + 1) = ks.take i ++ [x] := take_next h
  rcases Classical.em (x.2 ∈ L.map (·.2)) with c | c
  · rw [c1 c]
    refine ⟨fun p hp => by rw [tn]; exact List.mem_append_left _ (g.sub p hp), fun p hp => ?_, Nat.le_succ_of_le g.len⟩
    rw [tn] at hp
    rcases List.mem_append.mp hp with z | z
    · exact g.all p z
    · rw [List.mem_singleton.mp z]
      exact c
  · have pm := c2 c
    refine ⟨fun p hp => ?_, fun p hp => ?_, by rw [pm.length_eq]; exact Nat.succ_le_succ g.len⟩
    · rw [tn]
      rcases List.mem_cons.mp (pm.mem_iff.mp hp) with e | z
      · rw [e]
        exact List.mem_append_right _ (List.mem_singleton.mpr rfl)
      · exact List.mem_append_left _ (g.sub p z)
    · rw [tn] at hp
      rw [(pm.map (·.2)).mem_iff, List.map_cons]
      rcases List.mem_append.mp hp with z | z
      · exact List.mem_cons_of_mem _ (g.all p z)
      · rw [List.mem_singleton.mp z]
        exact List.mem_cons_self
theorem SG.keep {h h' : Heap} (R : SG w h a L es ep t) (ha : ∀ o, h.get? a = some o → h'.get? a = some o) (hk : ∀ p ∈ L, Kis h' p.2 p.1) : SG w h' a L es ep t := by
  obtain ⟨o, ho, r⟩ := R.ob
  exact ⟨⟨o, ha o ho, r⟩, R.rows, R.tab, R.nd, hk, R.led, R.room, R.few⟩
abbrev newSet (w : World) : Obj := { cls := .type "set", dict := none, data := .set #[] 0 (.fresh 0 0 (!w.params.followText "set-order")) }
theorem sg_new {h : Heap} (ho : h.get? a = some (newSet w)) : SG w h a [] #[] 0 (.fresh 0 0 (!w.params.followText "set-order")) where
  ob := ⟨_, ho, ⟨rfl, rfl, rfl⟩, rfl⟩
  rows := rfl
  tab := ⟨List.Pairwise.nil, rfl, rfl, .inl rfl, fun x hx => (List.not_mem_nil hx).elim, fun i h j hi => by simp at hi⟩
  nd := List.nodup_nil
  key := fun p hp => (List.not_mem_nil hp).elim
  led := by
    show _ ∨ (!w.params.followText "set-order") = true
    cases w.params.followText "set-order" <;> simp
  room := by show 0 * 5 < 7 * 3; decide
  few := by show 0 < 64; decide
/-- set.update's loop, over anything that walks -/
theorem upd_loop {I : Addr} {fp wr : List Addr} {G : Array GenState → Array GenState → Prop} {n : Nat} {Pv : Nat → Value → Prop} {St : Nat → Shared → Prop} {R : Result → Shared → Prop} (W : WalksS P w A.in1 I fp wr G n Pv St) (S : Addr) (hSf : S ∉ fp)
    (ks : List (Addr × NK)) (hn : n = ks.length) (hfew : ks.length < 64) (hval : ∀ i v, Pv i v → ∃ p, ks[i]? = some p ∧ v = .ref p.1) (h0 : Heap) (hk : ∀ p ∈ ks, Kis h0 p.2 p.1) (hS0 : h0.get? S = none) (hw0 : ∀ b ∈ wr, h0.get? b = none)
    (hu : A.in1.units + 16 < cLine) :
    ∀ (k i : Nat) (s : Shared), n - i = k → i ≤ n → St i s → (∀ b o, h0.get? b = some o → s.heap.get? b = some o) → (∃ L es ep t, SG w s.heap S L es ep t ∧ Gt ks i L) →
      (∀ s' L es ep t, Moved (S :: wr) G s s' → SG w s'.heap S L es ep t → Gt ks n L → (∀ b o, h0.get? b = some o → s'.heap.get? b = some o) → R (.ok (.ret .none)) s') →
      codeAny (model P w) A (.builtin "set.update.loop" ⟨[.ref S, .ref I], []⟩) R s := by
  have hSw : S ∉ wr := fun h => hSf (W.sub _ h)
  have wide : ∀ b ∈ wr, b ∈ S :: wr := fun b hb => List.mem_cons_of_mem _ hb
  have kept : ∀ {s s' : Shared}, Moved wr G s s' → (∀ b o, h0.get? b = some o → s.heap.get? b = some o) → ∀ b o, h0.get? b = some o → s'.heap.get? b = some o := fun hm hkp b o e =>
    hm.heap b o (fun hb => by rw [hw0 b hb] at e; cases e) (hkp b o e)
  intro k
  induction k with
  | zero =>
    intro i s hk' hi hst hkp ⟨L, es, ep, t, hS, g⟩ hR
    obtain rfl : i = n := by omega
    refine codeAny_builtin F.entry_set_update_loop ?_
    rw [Around.under_plainId F.plain_set_update_loop _]
    show wpAny _ A.in1 (pyNext (.ref I) >>= _) _ _ s
    refine wpAny_bind (W.done s _ _ hst fun s' hm => ?_)
    have hkp' := kept hm hkp
    show wpAny _ A.in1 (ret Value.none) _ _ s'
    exact wpAny_pure (hR s' L es ep t (hm.mono wide) (hS.keep (fun o e => hm.heap S o hSw e) fun p hp => (hk p (List.mem_of_mem_take (g.sub p hp))).keep hkp') g hkp')
  | succ k ih =>
    intro i s hk' hi hst hkp ⟨L, es, ep, t, hS, g⟩ hR
    have hlt : i < n := by omega
    refine codeAny_builtin F.entry_set_update_loop ?_
    rw [Around.under_plainId F.plain_set_update_loop _]
    show wpAny _ A.in1 (pyNext (.ref I) >>= _) _ _ s
    refine wpAny_bind (W.item i s _ _ hlt hst fun v s' hP hst' hm => ?_)
    obtain ⟨p, hp, rfl⟩ := hval i v hP
    have hkp' := kept hm hkp
    have hS' : SG w s'.heap S L es ep t := hS.keep (fun o e => hm.heap S o hSw e) fun q hq => (hk q (List.mem_of_mem_take (g.sub q hq))).keep hkp'
    have hx : Kis s'.heap p.2 p.1 := (hk p (List.mem_of_getElem? hp)).keep hkp'
    show wpAny _ A.in1 (holding [Value.ref p.1] (setAdd S (.ref p.1)) >>= _) _ _ s'
    refine wpAny_bind (wpAny_holding ?_)
    unfold setAdd
    refine wpAny_holding ?_
    refine wpAny_bind (pyHash_key p.2 _ _ _ _ hx.1 (by have := hx.2; omega) ?_)
    refine add_key (s := { s' with toks := s'.toks + p.2.draws }) hS' hx (by omega) (by have := g.len; omega) fun b h' L' es' ep' t' hsb hS2 c1 c2 => ?_
    have hkp2 : ∀ b o, h0.get? b = some o → h'.get? b = some o := fun b o e => (hsb.2 b (fun z => by rw [z, hS0] at e; cases e)).trans (hkp' b o e)
    refine wpAny_pure ⟨plainId_quiet F.plain_set_update_loop _, ih (i + 1) _ (by omega) hlt (W.frame _ s' _ _ hst' (Nat.le_add_right _ _) fun b hb o e => ?_) hkp2 ⟨L', es', ep', t', hS2, g.next hp c1 c2⟩ fun s'' L2 es2 ep2 t2 hm'' hS'' g'' hkp'' => ?_⟩
    · rw [hsb.2 b (fun h : b = S => hSf (by rw [← h]; exact hb))]
      exact e
    · refine hR s'' L2 es2 ep2 t2 (Moved.trans W.gtrans ((hm.mono wide).then_heap (Nat.le_add_right _ _) fun b o hb e => ?_) hm'') hS'' g'' hkp''
      rw [hsb.2 b (fun h : b = S => hb (by rw [h]; exact List.mem_cons_self))]
      exact e
set_option maxHeartbeats 4000000 in
/-- set(xs), xs a list of such keys -/
theorem set_of {l : Addr} {items : Array Value} (ks : List (Addr × NK)) {Q : Value → Shared → Prop} (hh : A.handled = none) (hl : s.heap.IsList l items) (hit : items.toList = ks.map fun p => Value.ref p.1) (hk : ∀ p ∈ ks, Kis s.heap p.2 p.1) (hfew : ks.length < 64)
    (hu : A.units + 20 < cLine) (h : ∀ (h' : Heap) (tk : Nat) L es ep t, SG w h' s.heap.objs.size L es ep t → Gt ks ks.length L → (∀ b o, s.heap.get? b = some o → h'.get? b = some o) → Q (.ref s.heap.objs.size) { s with heap := h', toks := tk }) :
    wpAny (model P w) A (call (.type "set") [.ref l]) Q E s := by
  have hisz : items.size = ks.length := by
    have q := congrArg List.length hit
    rw [Array.length_toList, List.length_map] at q
    exact q
  obtain ⟨c, tl, hmro⟩ := F.called_set.mro
  have hmade := F.called_set.made
  have hsub := F.called_set.sub
  refine wpAny_call (codeAny_of_tree ?_)
  show wpAny _ _ (callAny (.type "set") _) _ _ _
  refine wpAny_pure ⟨Code.quiet_builtin _ (by decide +kernel), codeAny_builtin F.entry_type_call ?_⟩
  rw [Around.under_plain (weight_type_call_type "set" [.ref l] []) rfl]
  have h1 := F.called_set.notType
  have h2 := F.called_set.canCreate
  have hct := F.typeCall_set_1 (.ref l)
  repeat (any_goals (first | assumption | wp_step))
  refine codeAny_mono (code_set_led1 (.ref l) (E := E) (Q₁ := fun obj s₁ => obj = .ref s.heap.objs.size ∧ s₁ = { s with heap := s.heap.push (newSet w) }) ⟨rfl, rfl⟩) fun r s₁ hr => ?_
  cases r with
  | error e => exact hr
  | ok fl =>
    cases fl with
    | ret obj =>
      obtain ⟨rfl, rfl⟩ := hr
      have hS : (s.heap.push (newSet w)).get? s.heap.objs.size = some (newSet w) := Heap.get?_push_size _ rfl
      have hT : Shared.TypeIs { s with heap := s.heap.push (newSet w) } (.ref s.heap.objs.size) "set" := ⟨_, hS, rfl⟩
      have hli := F.called_set.init.lookup
      have hbi := F.called_set.init.bind (.ref s.heap.objs.size)
      repeat (any_goals (first | assumption | wp_step))
      refine codeAny_mono (codeAny_call_builtin (R := wants (fun r s₂ => r = .none ∧ ∃ h' tk L es ep t, s₂ = { s with heap := h', toks := tk } ∧ SG w h' s.heap.objs.size L es ep t ∧ Gt ks ks.length L ∧ (∀ b o, s.heap.get? b = some o → h'.get? b = some o)) E)
        F.called_set.init.plain F.entry_set_init (check_set_init_1 hT ?_)) fun r₂ s₂ hr₂ => ?_
      · obtain ⟨⟨ocls, odict, odata, oslots⟩, hol, hcl, nl, hdl⟩ := hl
        simp only at hcl hdl
        subst hcl; subst hdl
        have hol' : (s.heap.push (newSet w)).get? l = some { cls := .type "list", dict := odict, data := .seq items nl, slots := oslots } := Heap.get?_push_of_some _ hol
        have hsls := F.sub_list_set
        have hslf := F.sub_list_frozenset
        have hne : (Value.type "list" == Value.type "dict") = false := by decide
        have hl1 : (s.heap.push (newSet w)).IsList l items := ⟨_, hol', rfl, nl, rfl⟩
        unfold Builtin.«set.__init__» noKeywords Builtin.Frozenset.updateFrom
        generalize hPI : pyIter = PI
        wp_walk
        subst hPI
        refine wpAny_pyIter_list hl1 ?_
        refine wpAny_bind (wpAny_runValue ?_)
        have hlS : l < s.heap.objs.size := Heap.lt_size hol
        have hh3 : A.in1.in1.in1.handled = none := by simp [hh]
        have hz1 : (s.heap.push (newSet w)).objs.size = s.heap.objs.size + 1 := Heap.size_push ..
        have hneI : l ≠ (s.heap.push (newSet w)).objs.size := by rw [hz1]; exact Nat.ne_of_lt (Nat.lt_succ_of_lt hlS)
        have hSf : s.heap.objs.size ∉ [(s.heap.push (newSet w)).objs.size, l] := by
          rw [hz1]
          simp only [List.mem_cons, List.not_mem_nil, or_false, not_or]
          exact ⟨Nat.ne_of_lt (Nat.lt_succ_self _), Nat.ne_of_gt hlS⟩
        have hval : ∀ (i : Nat) (v : Value), items[i]? = some v → ∃ p, ks[i]? = some p ∧ v = .ref p.1 := fun i v hv => by
          have q : items.toList[i]? = some v := by rw [Array.getElem?_toList]; exact hv
          rw [hit, List.getElem?_map] at q
          cases hq : ks[i]? with
          | none => rw [hq] at q; cases q
          | some p =>
            rw [hq] at q
            exact ⟨p, rfl, (Option.some.inj q).symm⟩
        have none_of : ∀ b, s.heap.objs.size ≤ b → s.heap.get? b = none := fun b hb => by
          cases q : s.heap.get? b with
          | none => rfl
          | some o => exact absurd (Nat.lt_of_lt_of_le (Heap.lt_size q) hb) (Nat.lt_irrefl _)
        refine upd_loop ((Walks.list hh3 _ l hneI items).toS) s.heap.objs.size hSf ks hisz hfew hval s.heap hk (none_of _ (Nat.le_refl _)) (fun b hb => none_of b (by rw [List.mem_singleton.mp hb, hz1]; exact Nat.le_succ _)) (by
            first
              | (show A.units + 3 + 16 < cLine; omega)
              | (have : A.in1.in1.in1.in1.units = A.units + 4 := rfl; omega)
              | (simp [Around.in1]; omega)) (items.size - 0) 0 _ (by omega) (Nat.zero_le _)
          ⟨⟨_, Heap.get?_push_size _ rfl, rfl, rfl⟩, (hl1.push _)⟩ (fun b o e => Heap.get?_push_of_some _ (Heap.get?_push_of_some _ e)) ?hS0 ?hR
        case hS0 => exact ⟨[], #[], 0, _, sg_new (Heap.get?_push_of_some _ hS), Gt.zero ks⟩
        case hR =>
          intro s' L es ep t hm hS' g' hkp
          obtain ⟨h', g2, d', tk', os'⟩ := s'
          have eg : g2 = s.gens := hm.gens
          have ed : d' = s.drawn := hm.drawn
          have eo : os' = s.os := hm.os
          subst eg; subst ed; subst eo
          show wpAny _ _ _ _ _ _
          refine wpAny_pure ?_
          show wpAny _ _ (ret Value.none) _ _ _
          rw [hisz] at g'
          exact wpAny_pure ⟨rfl, h', tk', L, es, ep, t, rfl, hS', g', hkp⟩
      · cases r₂ with
        | error e => exact hr₂
        | ok fl₂ =>
          cases fl₂ with
          | ret r =>
            obtain ⟨rfl, h', tk, L, es, ep, t, rfl, hS', g', hk'⟩ := hr₂
            repeat (any_goals (first | assumption | wp_step))
            exact h _ _ _ _ _ _ hS' g' hk'
          | _ => exact hr₂.elim
    | _ => exact hr.elim
end
end DLS

set_option maxHeartbeats 1000000
/-! DL, part t: sorted(set(xs)) of a list of tuple keys -/
namespace DLS
open PySem PySem.Spec PyProof.Rows L2 PySem.W

theorem perm_of_map {α β : Type} (f : α → β) {vs ws : List β} (h : vs.Perm ws) : ∀ L : List α, ws = L.map f → ∃ L1 : List α, L1.Perm L ∧ vs = L1.map f := by
  induction h with
  | nil => exact fun L e => ⟨L, .refl _, e⟩
  | cons x _ ih =>
    intro L e
    cases L with
    | nil => cases e
    | cons y r =>
      obtain ⟨e1, e2⟩ := List.cons.inj e
      obtain ⟨L1, p, q⟩ := ih r e2
      exact ⟨y :: L1, p.cons y, by rw [List.map_cons, ← q, e1]⟩
  | swap x y l =>
    intro L e
    match L, e with
    | a :: b :: r, e =>
      obtain ⟨e1, e2⟩ := List.cons.inj e
      obtain ⟨e3, e4⟩ := List.cons.inj e2
      exact ⟨b :: a :: r, .swap a b r, by rw [List.map_cons, List.map_cons, e1, e3, e4]⟩
  | trans _ _ ih1 ih2 =>
    intro L e
    obtain ⟨L1, p1, q1⟩ := ih2 L e
    obtain ⟨L2, p2, q2⟩ := ih1 L1 q1
    exact ⟨L2, p2.trans p1, q2⟩

/-! the order of data is an order of tokens -/
theorem lt_irrefl' (x : PyData) : dataLt x x = false := lex_irrefl _
theorem lt_trans' {x y z : PyData} (h1 : dataLt x y = true) (h2 : dataLt y z = true) : dataLt x z = true := lex_trans _ _ _ h1 h2
mutual
theorem toks_inj : ∀ (x y : PyData) (l m : List (Int ⊕ List Nat)), alike x y = true → keyToks x ++ l = keyToks y ++ m → x = y ∧ l = m
  | .none, .none, l, m, _, h => ⟨rfl, h⟩
  | .bool a, .bool b, l, m, _, h => by
    obtain ⟨h1, h2⟩ := List.cons.inj (show (Sum.inl (if a = true then 1 else 0) : Int ⊕ List Nat) :: l = Sum.inl (if b = true then 1 else 0) :: m from h)
    cases a <;> cases b <;> simp_all
  | .int a, .int b, l, m, _, h => by
    obtain ⟨h1, h2⟩ := List.cons.inj (show (Sum.inl a : Int ⊕ List Nat) :: l = Sum.inl b :: m from h)
    exact ⟨by rw [Sum.inl.inj h1], h2⟩
  | .str a, .str b, l, m, _, h => by
    obtain ⟨h1, h2⟩ := List.cons.inj (show (Sum.inr a.cps.toList : Int ⊕ List Nat) :: l = Sum.inr b.cps.toList :: m from h)
    exact ⟨by rw [str_of_cps (Sum.inr.inj h1)], h2⟩
  | .list xs, .list ys, l, m, ha, h => by
    obtain ⟨h1, h2⟩ := toksAll_inj xs ys l m ha h
    exact ⟨by rw [h1], h2⟩
  | .tuple xs, .tuple ys, l, m, ha, h => by
    obtain ⟨h1, h2⟩ := toksAll_inj xs ys l m ha h
    exact ⟨by rw [h1], h2⟩
  | .none, .bool _, _, _, h, _ | .none, .int _, _, _, h, _ | .none, .str _, _, _, h, _ | .none, .list _, _, _, h, _ | .none, .tuple _, _, _, h, _ | .none, .dict _, _, _, h, _ => by simp [alike] at h
  | .bool _, .none, _, _, h, _ | .bool _, .int _, _, _, h, _ | .bool _, .str _, _, _, h, _ | .bool _, .list _, _, _, h, _ | .bool _, .tuple _, _, _, h, _ | .bool _, .dict _, _, _, h, _ => by simp [alike] at h
  | .int _, .none, _, _, h, _ | .int _, .bool _, _, _, h, _ | .int _, .str _, _, _, h, _ | .int _, .list _, _, _, h, _ | .int _, .tuple _, _, _, h, _ | .int _, .dict _, _, _, h, _ => by simp [alike] at h
  | .str _, .none, _, _, h, _ | .str _, .bool _, _, _, h, _ | .str _, .int _, _, _, h, _ | .str _, .list _, _, _, h, _ | .str _, .tuple _, _, _, h, _ | .str _, .dict _, _, _, h, _ => by simp [alike] at h
  | .list _, .none, _, _, h, _ | .list _, .bool _, _, _, h, _ | .list _, .int _, _, _, h, _ | .list _, .str _, _, _, h, _ | .list _, .tuple _, _, _, h, _ | .list _, .dict _, _, _, h, _ => by simp [alike] at h
  | .tuple _, .none, _, _, h, _ | .tuple _, .bool _, _, _, h, _ | .tuple _, .int _, _, _, h, _ | .tuple _, .str _, _, _, h, _ | .tuple _, .list _, _, _, h, _ | .tuple _, .dict _, _, _, h, _ => by simp [alike] at h
  | .dict _, _, _, _, h, _ => by simp [alike] at h
theorem toksAll_inj : ∀ (xs ys : List PyData) (l m : List (Int ⊕ List Nat)), alikeAll xs ys = true → keyToksAll xs ++ l = keyToksAll ys ++ m → xs = ys ∧ l = m
  | [], [], l, m, _, h => ⟨rfl, (List.cons.inj h).2⟩
  | [], y :: ys, l, m, _, h => by
    rw [toks_all_cons] at h
    have := (List.cons.inj (show (Sum.inl 0 : Int ⊕ List Nat) :: l = Sum.inl 1 :: ((keyToks y ++ keyToksAll ys) ++ m) from h)).1
    cases Sum.inl.inj this
  | x :: xs, [], l, m, _, h => by
    rw [toks_all_cons] at h
    have := (List.cons.inj (show (Sum.inl 1 : Int ⊕ List Nat) :: ((keyToks x ++ keyToksAll xs) ++ l) = Sum.inl 0 :: m from h)).1
    cases Sum.inl.inj this
  | x :: xs, y :: ys, l, m, ha, h => by
    rw [toks_all_cons, toks_all_cons] at h
    have h1 := (List.cons.inj (show (Sum.inl 1 : Int ⊕ List Nat) :: ((keyToks x ++ keyToksAll xs) ++ l) = Sum.inl 1 :: ((keyToks y ++ keyToksAll ys) ++ m) from h)).2
    rw [List.append_assoc, List.append_assoc] at h1
    have ha' := alike_all_cons ha
    obtain ⟨e1, e2⟩ := toks_inj x y _ _ ha'.1 h1
    obtain ⟨e3, e4⟩ := toksAll_inj xs ys _ _ ha'.2 e2
    exact ⟨by rw [e1, e3], e4⟩
end
theorem lt_total' {x y : PyData} (ha : alike x y = true) (h1 : dataLt x y = false) (h2 : dataLt y x = false) : x = y := by
  have := lex_total _ _ h1 h2
  exact (toks_inj x y [] [] ha (by rw [List.append_nil, List.append_nil]; exact this)).1
theorem lt_asymm' {x y : PyData} (h1 : dataLt x y = true) : dataLt y x = false := by
  cases h : dataLt y x with
  | false => rfl
  | true =>
    have := lt_trans' h1 h
    rw [lt_irrefl'] at this
    cases this

/-! the one strictly rising list of some members -/
def insD (x : PyData) : List PyData → List PyData
  | [] => [x]
  | y :: r => if dataLt x y = true then x :: y :: r else if dataLt y x = true then y :: insD x r else y :: r
def riseD (xs : List PyData) : List PyData := xs.foldr insD []
abbrev Rise (xs : List PyData) : Prop := xs.Pairwise fun x y => dataLt x y = true
theorem insD_mem {x : PyData} : ∀ {l : List PyData}, (∀ y ∈ l, alike x y = true) → ∀ z, z ∈ insD x l ↔ z = x ∨ z ∈ l
  | [], _, z => by simp [insD]
  | y :: r, ha, z => by
    unfold insD
    by_cases h1 : dataLt x y = true
    · rw [if_pos h1]
      simp
    · rw [if_neg h1]
      by_cases h2 : dataLt y x = true
      · rw [if_pos h2, List.mem_cons, insD_mem (fun w hw => ha w (List.mem_cons_of_mem _ hw)), List.mem_cons]
        constructor <;> rintro (h | h | h) <;> simp [h]
      · rw [if_neg h2]
        have e := lt_total' (ha y List.mem_cons_self) (by simpa using h1) (by simpa using h2)
        rw [e]
        simp
theorem insD_rise {x : PyData} : ∀ {l : List PyData}, (∀ y ∈ l, alike x y = true) → Rise l → Rise (insD x l)
  | [], _, _ => List.pairwise_singleton _ _
  | y :: r, ha, h => by
    obtain ⟨h3, h4⟩ := List.pairwise_cons.mp h
    unfold insD
    by_cases h1 : dataLt x y = true
    · rw [if_pos h1]
      refine List.pairwise_cons.mpr ⟨fun z hz => ?_, h⟩
      rcases List.mem_cons.mp hz with rfl | hz
      · exact h1
      · exact lt_trans' h1 (h3 z hz)
    · rw [if_neg h1]
      by_cases h2 : dataLt y x = true
      · rw [if_pos h2]
        refine List.pairwise_cons.mpr ⟨fun z hz => ?_, insD_rise (fun w hw => ha w (List.mem_cons_of_mem _ hw)) h4⟩
        rcases (insD_mem (fun w hw => ha w (List.mem_cons_of_mem _ hw)) z).mp hz with rfl | hz
        · exact h2
        · exact h3 z hz
      · rw [if_neg h2]
        exact h
theorem riseD_ok : ∀ {xs : List PyData}, (∀ x ∈ xs, ∀ y ∈ xs, alike x y = true) → Rise (riseD xs) ∧ ∀ z, z ∈ riseD xs ↔ z ∈ xs
  | [], _ => ⟨List.Pairwise.nil, fun z => Iff.rfl⟩
  | x :: xs, ha => by
    obtain ⟨h1, h2⟩ := riseD_ok (xs := xs) fun a hx b hy => ha a (List.mem_cons_of_mem _ hx) b (List.mem_cons_of_mem _ hy)
    have al : ∀ y ∈ riseD xs, alike x y = true := fun y hy => ha x List.mem_cons_self y (List.mem_cons_of_mem _ ((h2 y).mp hy))
    refine ⟨insD_rise al h1, fun z => ?_⟩
    show z ∈ insD x (riseD xs) ↔ _
    rw [insD_mem al, h2, List.mem_cons]
theorem rise_unique : ∀ {xs ys : List PyData}, Rise xs → Rise ys → (∀ z, z ∈ xs ↔ z ∈ ys) → xs = ys
  | [], [], _, _, _ => rfl
  | [], y :: ys, _, _, h => absurd ((h y).mpr List.mem_cons_self) (List.not_mem_nil)
  | x :: xs, [], _, _, h => absurd ((h x).mp List.mem_cons_self) (List.not_mem_nil)
  | x :: xs, y :: ys, hx, hy, h => by
    obtain ⟨x1, x2⟩ := List.pairwise_cons.mp hx
    obtain ⟨y1, y2⟩ := List.pairwise_cons.mp hy
    have e : x = y := by
      rcases List.mem_cons.mp ((h x).mp List.mem_cons_self) with e | hm
      · exact e
      · rcases List.mem_cons.mp ((h y).mpr List.mem_cons_self) with e | hm2
        · exact e.symm
        · have a1 := y1 x hm
          have a2 := x1 y hm2
          rw [lt_asymm' a1] at a2
          cases a2
    subst e
    have ne : ∀ {l : List PyData} {z : PyData}, (∀ w ∈ l, dataLt x w = true) → z ∈ l → z ≠ x := fun hl hz e => by
      have := hl _ hz
      rw [e, lt_irrefl'] at this
      cases this
    rw [rise_unique x2 y2 fun z => ⟨fun hz => (List.mem_cons.mp ((h z).mp (List.mem_cons_of_mem _ hz))).resolve_left (ne x1 hz), fun hz => (List.mem_cons.mp ((h z).mpr (List.mem_cons_of_mem _ hz))).resolve_left (ne y1 hz)⟩]
/-! sorted(set) -/
mutual
theorem reads_nil {h : Heap} : ∀ (k : NK) (v : Value) (as : List Addr), Reads h v k.data as → as = []
  | .none, _, _, r => by cases r; rfl
  | .num i, _, _, r => by cases r; rfl
  | .text x, _, _, r => by cases r; rfl
  | .tup ks, _, _, r => by
    have r' : Reads h _ (.tuple (NestedKey.datas ks)) _ := r
    cases r' with
    | tuple _ _ _ ra => exact readsAll_nil ks _ _ ra
theorem readsAll_nil {h : Heap} : ∀ (ks : List NK) (vs : List Value) (as : List Addr), ReadsAll h vs (NestedKey.datas ks) as → as = []
  | [], _, _, r => by
    have r' : ReadsAll h _ [] _ := r
    cases r'
    rfl
  | k :: ks, _, _, r => by
    have r' : ReadsAll h _ (k.data :: NestedKey.datas ks) _ := r
    cases r' with
    | cons r1 r2 => rw [reads_nil k _ _ r1, readsAll_nil ks _ _ r2]; rfl
end
section
variable {P : Program} {w : World} {A : Around} {E : Value → Shared → Prop} {s : Shared} {a : Addr} {L : List (Addr × NK)} {es : Array (Int × Value)} {ep : Nat} {t : SetTable}
abbrev dat (p : Addr × NK) : PyData := p.2.data
abbrev rf (p : Addr × NK) : Value := Value.ref p.1
theorem each_refs {R : Value → (Addr × NK) → Prop} : ∀ {L1 : List (Addr × NK)}, (∀ p ∈ L1, R (rf p) p) → EachIs R (L1.map rf) L1
  | [], _ => .nil
  | p :: r, h => .cons (h p List.mem_cons_self) (each_refs fun q hq => h q (List.mem_cons_of_mem _ hq))
theorem refs_each : ∀ {out : List Value} {L1 : List (Addr × NK)}, EachIs (fun v p => v = rf p) out L1 → out = L1.map rf
  | _, _, .nil => rfl
  | _, _, .cons h t => by rw [h, refs_each t]; rfl
theorem sorted_set (R : SG w s.heap a L es ep t) (hh : A.handled = none) (hr : ∀ p ∈ L, ∃ as, Reads s.heap (rf p) (dat p) as) (hal : AllAlike (L.map dat)) (hk : Sortable (L.map dat)) (hu : ∀ p ∈ L, A.units + 10 + (dat p).depth < cLine) {Q : Value → Shared → Prop}
    (hQ : ∀ s' p (c : Nat) (L' : List (Addr × NK)), (∀ b o, s.heap.get? b = some o → s'.heap.get? b = some o) → s'.gens = s.gens → s'.os = s.os → s.heap.objs.size ≤ p → s'.heap.get? p = some (seqObj "list" (L'.map rf).toArray c) → L'.Perm L →
      L'.Pairwise (fun q r => dataLt (dat r) (dat q) = false) → Q (.ref p) s') : wpAny (model P w) A (call (.builtin "sorted") [.ref a]) Q E s := by
  obtain ⟨o, ho, hex, hd⟩ := R.ob
  have hsz := R.len
  have hfew := R.few
  refine Calls.call_function_entry kind_sorted plain_sorted entry_sorted (args_sorted1 _) ?_
  unfold Builtin.«sorted»
  refine wpAny_bind (m := checkCount "sorted" 1 1 _) (wpAny_pure ?_)
  refine wpAny_bind (collect_set (A := A.in1) hh ⟨o, ho, hex.1, hd⟩ R.fits (by unfold scanBound; omega) R.tab.ris R.led fun s1 vs k1 hz g1 o1 pm => ?_)
  have hes : es.toList.map (·.2) = L.map rf := by
    rw [R.rows]
    unfold rws
    rw [List.map_map]
    rfl
  obtain ⟨L1, p1, rfl⟩ := perm_of_map rf pm L hes
  have mem1 : ∀ p ∈ L1, p ∈ L := fun p hp => p1.mem_iff.mp hp
  have hvl : (L1.map rf).length < 64 := by rw [List.length_map, p1.length_eq]; exact hfew
  refine wpAny_bind (wpAny_newList ?_ (by rw [sizeLine_eq]; omega))
  have hoL : (s1.heap.push (seqObj "list" (L1.map rf).toArray 0)).get? s1.heap.objs.size = some (seqObj "list" (L1.map rf).toArray 0) := Heap.get?_push_size _ rfl
  have sub : ∀ d ∈ L1.map dat, d ∈ L.map dat := fun d hd => by
    obtain ⟨p, hp, rfl⟩ := List.mem_map.mp hd
    exact List.mem_map.mpr ⟨p, mem1 p hp, rfl⟩
  have leT : ∀ x y z : Addr × NK, dataLe false dat x y = true → dataLe false dat y z = true → dataLe false dat x z = true := fun x y z h1 h2 => by
    have h1' : (!dataLt (dat y) (dat x)) = true := h1
    have h2' : (!dataLt (dat z) (dat y)) = true := h2
    show (!dataLt (dat z) (dat x)) = true
    cases h3 : dataLt (dat z) (dat x) with
    | false => rfl
    | true =>
      rcases lex_negTrans _ (keyToks (dat y)) _ h3 with h4 | h4
      · have h5 : dataLt (dat z) (dat y) = true := h4
        rw [h5] at h2'
        cases h2'
      · have h5 : dataLt (dat y) (dat x) = true := h4
        rw [h5] at h1'
        cases h1'
  have leTot : ∀ x y : Addr × NK, (dataLe false dat x y || dataLe false dat y x) = true := fun x y => by
    show (!dataLt (dat y) (dat x) || !dataLt (dat x) (dat y)) = true
    cases h3 : dataLt (dat y) (dat x) with
    | false => rfl
    | true => rw [lt_asymm' h3]; rfl
  refine wpAny_bind (wpAny_holding (list_sort_data (s := { s1 with heap := s1.heap.push (seqObj "list" (L1.map rf).toArray 0) }) (R := fun v p => v = rf p) (enc := dat) (bs := L1) hoL (each_refs fun p _ => rfl) (each_refs fun p hp => ?_)
    (fun d hd d' hd' => hal d (sub d hd) d' (sub d' hd')) (hk.imp (fun h d hd => h d (sub d hd)) (fun h d hd => h d (sub d hd))) (by rw [← List.length_map (f := rf), sizeLine_eq]; omega) (fun p hp => ?_) fun out h1 h2 => ?_))
  · obtain ⟨as, r⟩ := hr p (mem1 p hp)
    have e := reads_nil p.2 _ _ r
    subst e
    exact ⟨[], PyProof.Rows.Reads.keeps (fun b u e => Heap.get?_push_of_some _ (k1 b u e)) r, List.not_mem_nil⟩
  · have := hu p (mem1 p hp)
    first
      | (have e1 : A.in1.units = A.units + 1 := rfl; omega)
      | (have e1 : A.in1.units = A.units := rfl; omega)
  · have eo := refs_each h2
    subst eo
    obtain ⟨c, hc⟩ := sortedHeap_at (vs := L1.map rf) (out := ((L1.mergeSort (dataLe false dat)).map rf).toArray) hoL
    refine wpAny_pure ⟨_, rfl, hQ _ s1.heap.objs.size c (L1.mergeSort (dataLe false dat)) (fun b u e => ?_) g1 o1 hz hc ((List.mergeSort_perm _ _).trans p1) ?_⟩
    · have q := k1 b u e
      have hlt := Heap.lt_size q
      show (sortedHeap (s1.heap.push _) s1.heap.objs.size _ _).get? b = some u
      rw [sortedHeap_old (Nat.ne_of_lt hlt) (by rw [size_push']; exact Nat.lt_succ_of_lt hlt)]
      exact Heap.get?_push_of_some _ q
    · refine (List.pairwise_mergeSort leT leTot L1).imp fun {q r} h => ?_
      have h' : (!dataLt (dat r) (dat q)) = true := h
      simpa using h'
end
/-! over the layer -/
mutual
/-- data that may be a set's member (or a part of one) -/
def keyOf : PyData → Option NK
  | .none => some .none
  | .int i => some (.num i)
  | .str x => some (.text x)
  | .tuple xs => (keysOf xs).map .tup
  | .bool _ => none
  | .list _ => none
  | .dict _ => none
def keysOf : List PyData → Option (List NK)
  | [] => some []
  | x :: xs => match keyOf x, keysOf xs with
    | some k, some ks => some (k :: ks)
    | _, _ => none
end
theorem keysOf_cons {x : PyData} {xs : List PyData} {ks : List NK} (h : keysOf (x :: xs) = some ks) : ∃ k r, ks = k :: r ∧ keyOf x = some k ∧ keysOf xs = some r := by
  unfold keysOf at h
  cases h1 : keyOf x with
  | none => rw [h1] at h; cases h
  | some k =>
    cases h2 : keysOf xs with
    | none => rw [h1, h2] at h; cases h
    | some r =>
      rw [h1, h2] at h
      cases h
      exact ⟨k, r, rfl, rfl, rfl⟩
mutual
theorem key_data : ∀ (d : PyData) (k : NK), keyOf d = some k → k.data = d ∧ k.depth = d.depth
  | .none, _, h => by cases h; exact ⟨rfl, rfl⟩
  | .int i, _, h => by cases h; exact ⟨rfl, rfl⟩
  | .str x, _, h => by cases h; exact ⟨rfl, rfl⟩
  | .tuple xs, k, h => by
    obtain ⟨ks, e, rfl⟩ := DL.map_some_eq (show (keysOf xs).map NestedKey.tup = some k from h)
    obtain ⟨e1, e2⟩ := keys_data xs ks e
    exact ⟨by show PyData.tuple (NestedKey.datas ks) = _; rw [e1], by show NestedKey.depthAll ks + 1 = PyData.depthAll xs + 1; rw [e2]⟩
  | .bool _, _, h | .list _, _, h | .dict _, _, h => by cases h
theorem keys_data : ∀ (xs : List PyData) (ks : List NK), keysOf xs = some ks → NestedKey.datas ks = xs ∧ NestedKey.depthAll ks = PyData.depthAll xs
  | [], _, h => by cases h; exact ⟨rfl, rfl⟩
  | x :: xs, _, h => by
    obtain ⟨k, r, rfl, h1, h2⟩ := keysOf_cons h
    obtain ⟨a1, a2⟩ := key_data x k h1
    obtain ⟨b1, b2⟩ := keys_data xs r h2
    exact ⟨by show k.data :: NestedKey.datas r = _; rw [a1, b1], by show max k.depth (NestedKey.depthAll r) = max x.depth (PyData.depthAll xs); rw [a2, b2]⟩
end
mutual
theorem key_is {h : Heap} : ∀ (d : PyData) (k : NK) (v : Value) (as : List Addr), keyOf d = some k → Reads h v d as → NestedIs h k v
  | .none, _, _, _, e, r => by cases e; cases r; exact .none
  | .int i, _, _, _, e, r => by cases e; cases r; exact .int _ _
  | .str x, _, _, _, e, r => by cases e; cases r; exact .text _ _
  | .tuple xs, k, _, _, e, r => by
    obtain ⟨ks, e2, rfl⟩ := DL.map_some_eq (show (keysOf xs).map NestedKey.tup = some k from e)
    cases r with
    | tuple h1 h2 h3 h4 => exact .tup h1 h2 h3 (keys_are xs ks _ _ e2 h4)
  | .bool _, _, _, _, e, _ | .list _, _, _, _, e, _ | .dict _, _, _, _, e, _ => by cases e
theorem keys_are {h : Heap} : ∀ (xs : List PyData) (ks : List NK) (vs : List Value) (as : List Addr), keysOf xs = some ks → ReadsAll h vs xs as → NestedAll h ks vs
  | [], _, _, _, e, r => by cases e; cases r; exact .nil
  | x :: xs, _, _, _, e, r => by
    obtain ⟨k, q, rfl, h1, h2⟩ := keysOf_cons e
    cases r with
    | cons r1 r2 => exact .cons (key_is x k _ _ h1 r1) (keys_are xs q _ _ h2 r2)
end
/-- the set at a, without its members -/
def SG0 (w : World) (h : Heap) (a : Addr) (L : List (Addr × NK)) : Prop := ∃ (es : Array (Int × Value)) (ep : Nat) (t : SetTable), (∃ o, h.get? a = some o ∧ o.ExactSet ∧ o.data = .set es ep t) ∧ es.toList = rws w L ∧ TabOk t (L.map fun p => kh w p.2) ∧ (L.map (·.2)).Nodup ∧
    (w.params.followText "set-order" = true ∨ t.led = true) ∧ L.length * 5 < t.mask * 3 ∧ L.length < 64
def SGO (w : World) (a : Addr) (L : List (Addr × NK)) : HO := .ext fun h => SG0 w h a L
theorem sg0_of {w : World} {h : Heap} {a : Addr} {L : List (Addr × NK)} {es : Array (Int × Value)} {ep : Nat} {t : SetTable} (R : SG w h a L es ep t) : SG0 w h a L := ⟨es, ep, t, R.ob, R.rows, R.tab, R.nd, R.led, R.room, R.few⟩
theorem sg0_full {w : World} {h : Heap} {a : Addr} {L : List (Addr × NK)} (R : SG0 w h a L) (hk : ∀ p ∈ L, Kis h p.2 p.1) : ∃ es ep t, SG w h a L es ep t := by
  obtain ⟨es, ep, t, h1, h2, h3, h4, h5, h6, h7⟩ := R
  exact ⟨es, ep, t, h1, h2, h3, h4, hk, h5, h6, h7⟩
theorem sgo_ok {P : Program} {w : World} {H : Hp} {h : Heap} {a : Addr} {L : List (Addr × NK)} (R : SG0 w h a L) : ObjOk P w H h a (SGO w a L) := by
  have ⟨es, ep, t, ⟨o, ho, r⟩, q⟩ := R
  refine ⟨R, ⟨o, ho⟩, fun h1 h2 p k => ?_⟩
  obtain ⟨es', ep', t', ⟨o', ho', r'⟩, q'⟩ := (show SG0 w h1 a L from p)
  exact ⟨es', ep', t', ⟨o', k o' ho', r'⟩, q'⟩
abbrev vrf (p : Addr × NK) : V := V.ref p.1
theorem vals_refs : ∀ {ks : List (Addr × NK)} {us : List Value}, Vals (ks.map vrf) us → us = ks.map rf
  | [], _, .nil => rfl
  | p :: ks, _, .cons r t => by
    cases r
    rw [vals_refs t]
    rfl
theorem refs_vals : ∀ (ks : List (Addr × NK)), Vals (ks.map vrf) (ks.map rf)
  | [] => .nil
  | p :: ks => .cons rfl (refs_vals ks)
section
variable {X : Cx}
/-- the pairs are tuples of data that may be members -/
def Mem (K : PySem.W.Frag) (H : Hp) (p : Addr × NK) : Prop := ∃ d, Dp K H (vrf p) d ∧ keyOf d = some p.2 ∧ d.depth ≤ 8
theorem Mem.kis {pins : List (Addr × Obj)} {σ : L2.St} {H : Hp} {s : Shared} (I : Inv X pins σ H s) {p : Addr × NK} (m : Mem X.K H p) : Kis s.heap p.2 p.1 ∧ ∃ as, Reads s.heap (rf p) (dat p) as := by
  obtain ⟨d, hd, hk, hz⟩ := m
  obtain ⟨as, r⟩ := Dp.reads I d _ (rf p) hd rfl
  obtain ⟨e1, e2⟩ := key_data d p.2 hk
  exact ⟨⟨key_is d p.2 _ as hk r, by rw [e2]; exact hz⟩, as, by show Reads s.heap (rf p) p.2.data as; rw [e1]; exact r⟩
/-- set(xs) -/
def rSetG (K : PySem.W.Frag) (w : World) : List V → Hp → VK → Prop := fun xs H Q => ∃ (l : Addr) (ks : List (Addr × NK)), xs = [V.ref l] ∧ SqL K H l (ks.map vrf) ∧ (∀ p ∈ ks, Mem K H p) ∧ ks.length < 64 ∧
  ∀ a L, H a = none → (∀ p ∈ L, p ∈ ks) → (∀ p ∈ ks, p.2 ∈ L.map (·.2)) → (L.map (·.2)).Nodup → Q (.ref a) (upd H a (SGO w a L))
theorem cr_setG (hc : X.calm = true) (hu : X.A.units + 64 < cLine) : CallR X (.type "set") (rSetG X.K X.w) := by
  intro pins s σ H xs us Q I r h
  obtain ⟨l, ks, rfl, hl, hk, hf, q⟩ := h
  rw [Vals.ref1 r]
  obtain ⟨its, rv, pl, hz⟩ := I.list hl
  have hn : H s.heap.objs.size = none := I.hok.fresh (Nat.le_refl _)
  refine set_of (P := X.prog) (w := X.w) ks (I.ok.hd hc) pl.isList (by simpa using vals_refs rv) (fun p hp => ((hk p hp).kis I).1) hf (by omega) fun h' tk L es ep t R g k => ?_
  refine ⟨.ref s.heap.objs.size, upd H s.heap.objs.size (SGO X.w s.heap.objs.size L), I.laid (t' := tk) k (Nat.le_refl _) (sgo_ok (sg0_of R)), rfl, q _ L hn (fun p hp => List.mem_of_mem_take (g.sub p hp)) (fun p hp => g.all p (by rw [List.take_length]; exact hp)) R.nd⟩
/-- sorted(set) -/
def rSortG (K : PySem.W.Frag) (w : World) : List V → Hp → VK → Prop := fun vs H Q => ∃ (a : Addr) (L : List (Addr × NK)), vs = [V.ref a] ∧ H a = some (SGO w a L) ∧ (∀ p ∈ L, Mem K H p) ∧ AllAlike (L.map dat) ∧ Sortable (L.map dat) ∧
  ∀ (L' : List (Addr × NK)) (p : Addr), L'.Perm L → L'.Pairwise (fun q r => dataLt (dat r) (dat q) = false) → H p = none → Q (.ref p) (upd H p (.lst (L'.map vrf)))
theorem cr_sortG (hc : X.calm = true) (hu : X.A.units + 64 < cLine) : CallR X (.builtin "sorted") (rSortG X.K X.w) := by
  intro pins s σ H vs us Q I r h
  obtain ⟨a, L, rfl, ha, hk, hal, hso, q⟩ := h
  have R0 : SG0 X.w s.heap a L := (I.hok a _ ha).1
  obtain ⟨es, ep, t, R⟩ := sg0_full R0 fun p hp => ((hk p hp).kis I).1
  rw [Vals.ref1 r]
  have dep : ∀ p ∈ L, X.A.units + 10 + (dat p).depth < cLine := fun p hp => by
    obtain ⟨d, _, h1, h2⟩ := hk p hp
    have := (key_data d p.2 h1).1
    show X.A.units + 10 + p.2.data.depth < cLine
    rw [this]
    omega
  refine sorted_set R (I.ok.hd hc) (fun p hp => ((hk p hp).kis I).2) hal hso dep fun s' p c L' k g o hp hg pm pw => ?_
  have hlen : (L'.map vrf).length ≤ sizeLine := by rw [List.length_map, pm.length_eq, sizeLine_eq]; have := R.few; omega
  have hn : H p = none := I.hok.fresh hp
  have J : Inv X pins σ (upd H p (.lst (L'.map vrf))) { s with heap := s'.heap, gens := s'.gens, drawn := s'.drawn, toks := s'.toks } :=
    I.call (ch := []) (Un.laid k hp hn) (I.hok.laid k hp ⟨hlen, L'.map rf, c, refs_vals L', hg⟩) (by rw [g]; exact I.bare) (fun _ z => nomatch z)
  have e : s' = { s with heap := s'.heap, gens := s'.gens, drawn := s'.drawn, toks := s'.toks } := by
    cases s'
    cases s
    cases o
    rfl
  rw [e]
  exact ⟨.ref p, _, J, rfl, q L' p pm pw hn⟩
end
end DLS

set_option maxHeartbeats 1000000
/-! DL, part u: sorted(set(e)) of tuples as one operation of data -/
namespace DL
open PySem PySem.Spec PyProof.Rows L2 PySem.W DLS

/-- a set's member: a tuple with an item, of ints, texts, None and such tuples -/
def okKey : Dt → Bool
  | .tuple (x :: r) => (keyOf (.tuple (x :: r))).isSome && decide (PyData.depth (.tuple (x :: r)) ≤ 8)
  | _ => false
def sortSetD : Dt → Option Dt
  | .list xs => if xs.length < 64 ∧ xs.all okKey = true ∧ (xs.all fun a => xs.all fun b => alike a b) = true then some (.list (riseD xs)) else none
  | _ => none
theorem okKey_tup {d : Dt} (h : okKey d = true) : (∃ x r, d = .tuple (x :: r)) ∧ (∃ k, keyOf d = some k) ∧ d.depth ≤ 8 := by
  cases d with
  | tuple xs =>
    cases xs with
    | nil => cases h
    | cons x r =>
      have h' : ((keyOf (.tuple (x :: r))).isSome && decide (PyData.depth (.tuple (x :: r)) ≤ 8)) = true := h
      rw [Bool.and_eq_true, decide_eq_true_eq] at h'
      exact ⟨⟨x, r, rfl⟩, Option.isSome_iff_exists.mp h'.1, h'.2⟩
  | _ => cases h
/-- the items as pairs -/
theorem pairs_of {K : PySem.W.Frag} {F : Hp} : ∀ {vs : List V} {xs : List Dt}, DqAll K F vs xs → xs.all okKey = true → ∃ ks : List (Addr × NK), vs = ks.map vrf ∧ ks.map dat = xs ∧ ∀ p ∈ ks, Dq K F (vrf p) (dat p) ∧ keyOf (dat p) = some p.2 ∧ (dat p).depth ≤ 8
  | _, _, .nil, _ => ⟨[], rfl, rfl, fun _ h => (List.not_mem_nil h).elim⟩
  | _, _, .cons (v := v) (d := d) (ds := xs) h t, e => by
    rw [List.all_cons, Bool.and_eq_true] at e
    obtain ⟨ks, e1, e2, e3⟩ := pairs_of t e.2
    obtain ⟨⟨x, r, rfl⟩, ⟨k, hk⟩, hz⟩ := okKey_tup e.1
    have hd := (key_data _ k hk).1
    cases h with
    | tup g q =>
      rename_i a _
      refine ⟨(a, k) :: ks, by rw [List.map_cons, ← e1], by rw [List.map_cons, e2]; show k.data :: xs = _; rw [hd], fun p hp => ?_⟩
      rcases List.mem_cons.mp hp with rfl | hp
      · show Dq K F (.ref a) k.data ∧ keyOf k.data = some k ∧ k.data.depth ≤ 8
        rw [hd]
        exact ⟨.tup g q, hk, hz⟩
      · exact e3 p hp
section
variable {X : Cx} {c : Cn} {W : WX'} {pos : Pos} {e : Expr} {f : ME}
theorem qe_sset {x y : Str} {p1 p2 ps : Pos} (hK : X.K = c.K) (hc : X.calm = true) (hu : X.A.units + 64 < cLine) (hm : X.mg x = none) (hm2 : X.mg y = none) (he : PE X e (tD c W f)) (hg : Gl X x := by rfl) (hg2 : Gl X y := by rfl)
    (hv : bootBuiltins x = some (.builtin "sorted") := by decide +kernel) (hv2 : bootBuiltins y = some (.type "set") := by decide +kernel) (hn : x ≠ "__name__" := by decide) (hn2 : y ≠ "__name__" := by decide)
    (hdb : (x == ("__debug__" : Str)) = false := by decide) (hdb2 : (y == ("__debug__" : Str)) = false := by decide)
    (hs : starEach [e] X.env = (false, eval e X.env) :: starEach [] X.env := by rfl) (hs2 : starEach [.Call (.Name y p2) [e] [] ps] X.env = (false, eval (.Call (.Name y p2) [e] [] ps) X.env) :: starEach [] X.env := by rfl)
    (hp1 : (backTo pos (starEach [] X.env)).any (·.1) = false := by rfl) (hp2 : (backTo ps (starEach [] X.env)).any (·.1) = false := by rfl) :
    PE X (.Call (.Name x p1) [.Call (.Name y p2) [e] [] ps] [] pos) (tD c W (m1 sortSetD f)) := by
  have h1 := pe_callTy (pos := ps) (p := p2) (cr_setG (X := X) hc hu) hg2 hm2 hv2 (pa_cons he pa_nil hs) hn2 hdb2 hs hp2
  refine pe_imp (pe_callB (p := p1) (cr_sortG (X := X) hc hu) hg hm hv (pa_cons h1 pa_nil hs2) hn hdb hs2 hp1) fun σ H Q ⟨O, ρ, φ, R, h⟩ => ?_
  refine ⟨O, ρ, φ, R, ge_bind h fun d φ1 v H1 _ R1 s1 p1 h1 => ?_⟩
  obtain ⟨z, ez, k⟩ := ge_opt R1 h1
  cases p1 with
  | @lst a vs xs g q =>
    have ez' : (if xs.length < 64 ∧ xs.all okKey = true ∧ (xs.all fun a => xs.all fun b => alike a b) = true then some (PyData.list (riseD xs)) else none) = some z := ez
    by_cases hz : xs.length < 64 ∧ xs.all okKey = true ∧ (xs.all fun a => xs.all fun b => alike a b) = true
    · rw [if_pos hz] at ez'
      cases ez'
      obtain ⟨ks, rfl, e2, e3⟩ := pairs_of q hz.2.1
      have hal : ∀ a ∈ xs, ∀ b ∈ xs, alike a b = true := fun a ha b hb => List.all_eq_true.mp (List.all_eq_true.mp hz.2.2 a ha) b hb
      have inx : ∀ p ∈ ks, dat p ∈ xs := fun p hp => by rw [← e2]; exact List.mem_map.mpr ⟨p, hp, rfl⟩
      refine ⟨a, ks, rfl, SqL.of (fr_in _ _ g), fun p hp => ⟨dat p, by rw [hK]; exact (dq_gro fr_in (e3 p hp).1).dp, (e3 p hp).2⟩, by rw [← List.length_map (f := dat), e2]; exact hz.1, fun b L hb sub all nd => ?_⟩
      have gr : Gro H1 (upd H1 b (SGO X.w b L)) := Gro.upd hb
      have nw1 := R1.nw
      refine ⟨b, L, rfl, upd_same, fun p hp => ⟨dat p, by rw [hK]; exact (dq_gro gr (dq_gro fr_in (e3 p (sub p hp)).1)).dp, (e3 p (sub p hp)).2⟩, fun d hd d' hd' => ?_, .inl fun d hd => ?_, fun L' p pm pw hp => ?_⟩
      · obtain ⟨q1, m1, rfl⟩ := List.mem_map.mp hd
        obtain ⟨q2, m2, rfl⟩ := List.mem_map.mp hd'
        exact hal _ (inx q1 (sub q1 m1)) _ (inx q2 (sub q2 m2))
      · obtain ⟨q1, m1, rfl⟩ := List.mem_map.mp hd
        exact (okKey_tup (List.all_eq_true.mp hz.2.1 _ (inx q1 (sub q1 m1)))).1
      · have subL : ∀ q ∈ L', q ∈ ks := fun q hq => sub q (pm.mem_iff.mp hq)
        have nd' : (L'.map (·.2)).Nodup := (pm.map (·.2)).nodup_iff.mpr nd
        have rise : Rise (L'.map dat) := by
          refine List.pairwise_map.mpr ?_
          have both := List.Pairwise.and pw (List.pairwise_map.mp nd')
          refine both.imp_of_mem fun {q r} hq hr ⟨h5, h6⟩ => ?_
          cases h7 : dataLt (dat q) (dat r) with
          | true => rfl
          | false =>
            exfalso
            have e8 := lt_total' (hal _ (inx q (subL q hq)) _ (inx r (subL r hr))) h7 h5
            have k1 := (e3 q (subL q hq)).2.1
            have k2 := (e3 r (subL r hr)).2.1
            rw [e8, k2] at k1
            exact h6 (Option.some.inj k1).symm
        obtain ⟨r1, r2⟩ := riseD_ok (xs := xs) hal
        have same : L'.map dat = riseD xs := rise_unique rise r1 fun z => by
          rw [r2]
          constructor
          · intro hz1
            obtain ⟨q, hq, rfl⟩ := List.mem_map.mp hz1
            exact inx q (subL q hq)
          · intro hz1
            rw [← e2] at hz1
            obtain ⟨q, hq, rfl⟩ := List.mem_map.mp hz1
            obtain ⟨q2, hq2, e9⟩ := List.mem_map.mp (all q hq)
            exact List.mem_map.mpr ⟨q2, pm.mem_iff.mpr hq2, by show q2.2.data = q.2.data; rw [e9]⟩
        have nw2 : Nw c O (upd H1 b (SGO X.w b L)) := fun p hp => nw1 p (by
          cases h : H1 p with
          | none => rfl
          | some o => rw [gr p o h] at hp; cases hp)
        have da : ∀ l : List (Addr × NK), (∀ q ∈ l, q ∈ ks) → DqAll c.K (Fr c O (upd H1 b (SGO X.w b L))) (l.map vrf) (l.map dat) := fun l => by
          induction l with
          | nil => exact fun _ => .nil
          | cons q r ih => exact fun hl => .cons (dq_gro (fr_gro gr) (e3 q (hl q List.mem_cons_self)).1) (ih fun y hy => hl y (List.mem_cons_of_mem _ hy))
        exact new_lst nw2 (da L' subL) (by rw [same]; exact fun v H' g' p' => k v H' (gr.trans g') p') hp
    · rw [if_neg hz] at ez'
      cases ez'
  | _ => cases ez
end
end DL

set_option maxHeartbeats 1000000
/-! DL, part v: order of data, x in a tuple of data, chains, zip, join, range(a, b), own lists read -/
namespace DL
open PySem PySem.Spec PyProof.Rows L2 PySem.W

/-! ### order -/
/-- comparable data -/
def cmpOk (x y : Dt) : Bool := alike x y && !(match x with | .none => true | _ => false) && decide (x.depth ≤ 64)
def ltX (x y : Dt) : Option Dt := if cmpOk x y = true then some (.bool (dataLt x y)) else none
def gtX (x y : Dt) : Option Dt := if cmpOk x y = true then some (.bool (dataLt y x)) else none
def leX (x y : Dt) : Option Dt := if cmpOk x y = true then some (.bool (!dataLt y x)) else none
def geX (x y : Dt) : Option Dt := if cmpOk x y = true then some (.bool (!dataLt x y)) else none
theorem cmpOk_of {x y : Dt} (h : cmpOk x y = true) : alike x y = true ∧ x ≠ .none ∧ x.depth ≤ 64 := by
  unfold cmpOk at h
  rw [Bool.and_eq_true, Bool.and_eq_true, decide_eq_true_eq] at h
  exact ⟨h.1.1, fun e => by rw [e] at h; exact absurd h.1.2 (by decide), h.2⟩
def rCmpX (K : PySem.W.Frag) (p : Dt → Dt → Bool) : R2 := fun x y H Q => ∃ d e, Dp K H x d ∧ Dp K H y e ∧ cmpOk d e = true ∧ Q (.bl (p d e)) H
section
variable {X : Cx} {c : Cn} {W : WX'} {pos : Pos} {a b e : Expr} {f f1 f2 f3 : ME}
theorem op_ltX (hu : X.A.units + 65 < cLine) : OpR X (compareOp .Lt) (rCmpX X.K fun d e => dataLt d e) := by
  intro pins s σ H x y v u Q I rx ry ⟨d, e, hd, he, ok, q⟩
  obtain ⟨as, r1⟩ := Dp.reads I d x v hd rx
  obtain ⟨bs, r2⟩ := Dp.reads I e y u he ry
  obtain ⟨h1, h2, h3⟩ := cmpOk_of ok
  exact lt_data r1 r2 h1 h2 (by omega) ⟨.bl _, H, I, rfl, q⟩
theorem op_gtX (hu : X.A.units + 65 < cLine) : OpR X (compareOp .Gt) (rCmpX X.K fun d e => dataLt e d) := by
  intro pins s σ H x y v u Q I rx ry ⟨d, e, hd, he, ok, q⟩
  obtain ⟨as, r1⟩ := Dp.reads I d x v hd rx
  obtain ⟨bs, r2⟩ := Dp.reads I e y u he ry
  obtain ⟨h1, h2, h3⟩ := cmpOk_of ok
  exact gt_data r1 r2 h1 h2 (by omega) ⟨.bl _, H, I, rfl, q⟩
theorem op_leX (hu : X.A.units + 65 < cLine) : OpR X (compareOp .LtE) (rCmpX X.K fun d e => !dataLt e d) := by
  intro pins s σ H x y v u Q I rx ry ⟨d, e, hd, he, ok, q⟩
  obtain ⟨as, r1⟩ := Dp.reads I d x v hd rx
  obtain ⟨bs, r2⟩ := Dp.reads I e y u he ry
  obtain ⟨h1, h2, h3⟩ := cmpOk_of ok
  exact le_data r1 r2 h1 h2 (by omega) ⟨.bl _, H, I, rfl, q⟩
theorem op_geX (hu : X.A.units + 65 < cLine) : OpR X (compareOp .GtE) (rCmpX X.K fun d e => !dataLt d e) := by
  intro pins s σ H x y v u Q I rx ry ⟨d, e, hd, he, ok, q⟩
  obtain ⟨as, r1⟩ := Dp.reads I d x v hd rx
  obtain ⟨bs, r2⟩ := Dp.reads I e y u he ry
  obtain ⟨h1, h2, h3⟩ := cmpOk_of ok
  exact ge_data r1 r2 h1 h2 (by omega) ⟨.bl _, H, I, rfl, q⟩
theorem x_cmp {K : PySem.W.Frag} (hK : K = c.K) {p : Dt → Dt → Bool} : OpD c (rCmpX K p) (fun x y => if cmpOk x y = true then some (.bool (p x y)) else none) := fun O H x y d1 d2 z Q _ h1 h2 e k => by
  subst hK
  have e' : (if cmpOk d1 d2 = true then some (PyData.bool (p d1 d2)) else none) = some z := e
  by_cases h : cmpOk d1 d2 = true
  · rw [if_pos h] at e'
    cases e'
    exact ⟨d1, d2, (dq_gro fr_in h1).dp, (dq_gro fr_in h2).dp, h, ans_here k (.bl _)⟩
  · rw [if_neg h] at e'
    cases e'

/-! ### in -/
theorem isInB_tuple (x : Dt) (ys : List Dt) : isInB x (.tuple ys) = if flatD x = true ∧ ys.all flatD = true then some (ys.any fun y => PyData.eqv y x) else none := by cases x <;> rfl
def memX (x y : Dt) : Option Bool :=
  match y with
  | .tuple ys => if (flatD x = true ∧ ys.all flatD = true) ∨ (SeqAt.shaped x = true ∧ SeqAt.shaped (.tuple ys) = true) then some (ys.any fun z => PyData.eqv z x) else none
  | y => isInB x y
def inX (x y : Dt) : Option Dt := (memX x y).map .bool
def ninX (x y : Dt) : Option Dt := (memX x y).map fun b => .bool (!b)
def rInT (K : PySem.W.Frag) (neg : Bool) : R2 := fun x y H Q => ∃ d ds, Dp K H x d ∧ Dp K H y (.tuple ds) ∧ SeqAt.shaped d = true ∧ SeqAt.shaped (.tuple ds) = true ∧ Q (.bl (if neg then !(ds.any fun z => PyData.eqv z d) else ds.any fun z => PyData.eqv z d)) H
theorem op_inT (hu : X.A.units + 65 < cLine) : OpR X (compareOp .In) (rInT X.K false) := by
  intro pins s σ H x y v u Q I rx ry ⟨d, ds, hd, he, sd, se, q⟩
  obtain ⟨as, r1⟩ := Dp.reads I d x v hd rx
  obtain ⟨bs, r2⟩ := Dp.reads I (.tuple ds) y u he ry
  exact SeqAt.in_tuple_reads r2 r1 (SeqAt.canLay_of_shaped se) (SeqAt.canLay_of_shaped sd) (room_in_shaped sd hu) ⟨.bl _, H, I, rfl, q⟩
theorem op_notInT (hu : X.A.units + 65 < cLine) : OpR X (compareOp .NotIn) (rInT X.K true) := by
  intro pins s σ H x y v u Q I rx ry ⟨d, ds, hd, he, sd, se, q⟩
  obtain ⟨as, r1⟩ := Dp.reads I d x v hd rx
  obtain ⟨bs, r2⟩ := Dp.reads I (.tuple ds) y u he ry
  exact SeqAt.notIn_tuple_reads r2 r1 (SeqAt.canLay_of_shaped se) (SeqAt.canLay_of_shaped sd) (room_in_shaped sd hu) ⟨.bl _, H, I, rfl, q⟩
def rInX (K : PySem.W.Frag) : R2 := fun x y H Q => rInDt K x y H Q ∨ rInT K false x y H Q
def rNInX (K : PySem.W.Frag) : R2 := fun x y H Q => rNInDt K x y H Q ∨ rInT K true x y H Q
theorem op_inX (hu : X.A.units + 65 < cLine) : OpR X (compareOp .In) (rInX X.K) := OpR.or (op_inDt hu) (op_inT hu)
theorem op_ninX (hu : X.A.units + 65 < cLine) : OpR X (compareOp .NotIn) (rNInX X.K) := OpR.or (op_ninDt hu) (op_notInT hu)
theorem x_in {K : PySem.W.Frag} (hK : K = c.K) : OpD c (rInX K) inX := fun O H x y d1 d2 z Q n h1 h2 e k => by
  cases d2 with
  | tuple ys =>
    have e' : (if (flatD d1 = true ∧ ys.all flatD = true) ∨ (SeqAt.shaped d1 = true ∧ SeqAt.shaped (.tuple ys) = true) then some (ys.any fun z => PyData.eqv z d1) else none).map PyData.bool = some z := e
    by_cases hf : flatD d1 = true ∧ ys.all flatD = true
    · rw [if_pos (.inl hf)] at e'
      refine .inl (in_d hK O H x y d1 (.tuple ys) z Q n h1 h2 ?_ k)
      show (isInB d1 (.tuple ys)).map PyData.bool = _
      rw [isInB_tuple, if_pos hf]
      exact e'
    · by_cases hs : SeqAt.shaped d1 = true ∧ SeqAt.shaped (.tuple ys) = true
      · rw [if_pos (.inr hs)] at e'
        cases e'
        subst hK
        exact .inr ⟨d1, ys, (dq_gro fr_in h1).dp, (dq_gro fr_in h2).dp, hs.1, hs.2, ans_here k (.bl _)⟩
      · rw [if_neg (by rintro (h | h); exact hf h; exact hs h)] at e'
        cases e'
  | _ => exact .inl (in_d hK O H x y d1 _ z Q n h1 h2 e k)
theorem x_nin {K : PySem.W.Frag} (hK : K = c.K) : OpD c (rNInX K) ninX := fun O H x y d1 d2 z Q n h1 h2 e k => by
  cases d2 with
  | tuple ys =>
    have e' : (if (flatD d1 = true ∧ ys.all flatD = true) ∨ (SeqAt.shaped d1 = true ∧ SeqAt.shaped (.tuple ys) = true) then some (ys.any fun z => PyData.eqv z d1) else none).map (fun b => PyData.bool (!b)) = some z := e
    by_cases hf : flatD d1 = true ∧ ys.all flatD = true
    · rw [if_pos (.inl hf)] at e'
      refine .inl (nin_d hK O H x y d1 (.tuple ys) z Q n h1 h2 ?_ k)
      show (isInB d1 (.tuple ys)).map (fun b => PyData.bool (!b)) = _
      rw [isInB_tuple, if_pos hf]
      exact e'
    · by_cases hs : SeqAt.shaped d1 = true ∧ SeqAt.shaped (.tuple ys) = true
      · rw [if_pos (.inr hs)] at e'
        cases e'
        subst hK
        exact .inr ⟨d1, ys, (dq_gro fr_in h1).dp, (dq_gro fr_in h2).dp, hs.1, hs.2, ans_here k (.bl _)⟩
      · rw [if_neg (by rintro (h | h); exact hf h; exact hs h)] at e'
        cases e'
  | _ => exact .inl (nin_d hK O H x y d1 _ z Q n h1 h2 e k)

/-! ### a < b < c -/
def mChain (g1 g2 : Dt → Dt → Option Dt) (f1 f2 f3 : ME) : ME := fun ρ φ => (f1 ρ φ).bind fun x φ1 => (f2 ρ φ1).bind fun y φ2 => (opt ((g1 x y).bind asBool) φ2).bind fun b φ3 => if b = true then (f3 ρ φ3).bind fun z φ4 => opt (g2 y z) φ4 else .ok (.bool false) φ3
theorem t_chain {r r' : R2} {g1 g2 : Dt → Dt → Option Dt} (h1 : OpD c r g1) (h2 : OpD c r' g2) {σ : L2.St} {H : Hp} {Q : VK} (h : tD c W (mChain g1 g2 f1 f2 f3) σ H Q) : tChain r r' (tD c W f1) (tD c W f2) (tD c W f3) σ H Q := by
  obtain ⟨O, ρ, φ, R, h⟩ := h
  refine ⟨O, ρ, φ, R, ge_bind h fun x φ1 v H1 _ R1 s1 p1 k1 => ?_⟩
  refine ⟨O, ρ, φ1, R1, ge_bind k1 fun y φ2 u H2 _ R2 s2 p2 k2 => ?_⟩
  cases e : (g1 x y).bind asBool with
  | none => rw [e] at k2; exact k2.elim
  | some b =>
    rw [e] at k2
    cases e1 : g1 x y with
    | none => rw [e1] at e; cases e
    | some z =>
      rw [e1] at e
      have ez : asBool z = some b := e
      have hz : z = .bool b := by
        cases z with
        | bool q => cases ez; rfl
        | _ => cases ez
      refine h1 O H2 v u x y z _ R2.nw (dq_gro (s2.fr R.ok) p1) p2 e1 fun v3 H3 g3 p3 => ?_
      subst hz
      cases p3
      refine ⟨b, rfl, ?_⟩
      have k3 : GE c W O σ ρ H3 Q (if b = true then (f3 ρ φ2).bind fun z φ4 => opt (g2 y z) φ4 else .ok (.bool false) φ2) := GE.step (.of g3) k2
      cases b with
      | true =>
        rw [if_pos rfl] at k3 ⊢
        refine ⟨O, ρ, φ2, R2.gro g3, ge_bind k3 fun w φ4 v4 H4 _ R4 s4 p4 k4 => ?_⟩
        obtain ⟨z4, e4, k5⟩ := ge_opt R4 k4
        exact h2 O H4 u v4 y w z4 Q R4.nw (dq_gro (s4.fr R.ok) (dq_gro (fr_gro g3) p2)) p4 e4 k5
      | false =>
        rw [if_neg Bool.false_ne_true] at k3 ⊢
        exact k3 (.bl false) H3 (R2.gro g3) (.refl H3) (.bl false)
theorem qe_chain {op op' : CmpOp} {r r' : R2} {g1 g2 : Dt → Dt → Option Dt} {x : Expr} (ho : OpR X (compareOp op) r) (h1 : OpD c r g1) (ho' : OpR X (compareOp op') r') (h2 : OpD c r' g2) (ha : PE X a (tD c W f1)) (hb : PE X b (tD c W f2)) (hc : PE X x (tD c W f3))
    (hm : lastMarks [op, op'] [b, x] = false := by with_unfolding_all rfl) : PE X (.Compare a [op, op'] [b, x] pos) (tD c W (mChain g1 g2 f1 f2 f3)) :=
  pe_imp (pe_chain ho ho' ha hb hc hm) fun _ _ _ h => t_chain h1 h2 h
theorem qt_chain {op op' : CmpOp} {r r' : R2} {g1 g2 : Dt → Dt → Option Dt} {x : Expr} (ho : OpR X (compareOp op) r) (h1 : OpD c r g1) (ho' : OpR X (compareOp op') r') (h2 : OpD c r' g2) (ha : PE X a (tD c W f1)) (hb : PE X b (tD c W f2)) (hc : PE X x (tD c W f3))
    (hm : lastMarks [op, op'] [b, x] = false := by with_unfolding_all rfl) : PT X (.Compare a [op, op'] [b, x] pos) (tDT c W (mtE (mChain g1 g2 f1 f2 f3) asBool)) :=
  pt_imp (pt_chain ho ho' ha hb hc hm) fun σ H Q ⟨O, ρ, φ, R, h⟩ => by
    refine t_chain (c := c) (W := W) h1 h2 ⟨O, ρ, φ, R, gt_bind (β := Unit) h fun d φ1 v H1 _ R1 s1 p k1 => ?_⟩
    cases p with
    | bl k => exact ⟨k, rfl, k1 H1 R1 (.refl _)⟩
    | _ => exact k1.elim

/-! ### zip(e, e2): two lists, two tuples -/
def zipD (x y : Dt) : Option (List Dt) :=
  match x, y with
  | .list xs, .list ys => some ((xs.zip ys).map fun p => .tuple [p.1, p.2])
  | .tuple xs, .tuple ys => some ((xs.zip ys).map fun p => .tuple [p.1, p.2])
  | _, _ => none
def miZip (f1 f2 : ME) : MI := fun ρ φ => (f1 ρ φ).bind fun x φ1 => (f2 ρ φ1).bind fun y φ2 => opt (zipD x y) φ2
theorem zip_at {xs ys : List Dt} {i : Nat} {x y : Dt} (h1 : xs[i]? = some x) (h2 : ys[i]? = some y) : ((xs.zip ys).map fun p => PyData.tuple [p.1, p.2])[i]? = some (.tuple [x, y]) := by
  rw [List.getElem?_map, (List.getElem?_zip_eq_some (z := (x, y))).mpr ⟨h1, h2⟩]
  rfl
theorem zip_walks {O : Nat → Option Addr} {H : Hp} {J : It} {vs us : List V} {xs ys : List Dt} (p1 : DqAll c.K (Fr c O H) vs xs) (p2 : DqAll c.K (Fr c O H) us ys)
    (go : ∀ H1 i x y, Gro (Fr c O H) H1 → vs[i]? = some x → us[i]? = some y → J.go i H1) (stop : ∀ H1 i, Gro (Fr c O H) H1 → vs.length ≤ i ∨ us.length ≤ i → J.stop i H1)
    (yld : ∀ H1 i v H2, Gro (Fr c O H) H1 → J.yld i H1 v H2 → ∃ T x y, v = .ref T ∧ H1 T = none ∧ H2 = upd H1 T (.tup [x, y]) ∧ vs[i]? = some x ∧ us[i]? = some y) :
    Walks c O H J ((xs.zip ys).map fun p => .tuple [p.1, p.2]) := fun O' H1 i gr nw => by
  have l1 := dqA_len p1
  have l2 := dqA_len p2
  have gr1 : Gro (Fr c O H) H1 := gr.trans fr_in
  have len : ((xs.zip ys).map fun p => PyData.tuple [p.1, p.2]).length = min vs.length us.length := by rw [List.length_map, List.length_zip, l1, l2]
  refine ⟨fun hi => ?_, fun hi => stop H1 i gr1 (by rw [len] at hi; omega)⟩
  rw [len] at hi
  have i1 : i < vs.length := by omega
  have i2 : i < us.length := by omega
  refine ⟨go H1 i _ _ gr1 (List.getElem?_eq_getElem i1) (List.getElem?_eq_getElem i2), fun v H2 hy => ?_⟩
  obtain ⟨T, x, y, rfl, hT, rfl, hx, hy⟩ := yld H1 i v H2 gr1 hy
  obtain ⟨d1, e1, q1⟩ := dqA_getV p1 hx
  obtain ⟨d2, e2, q2⟩ := dqA_getV p2 hy
  have up : Gro H1 (upd H1 T (.tup [x, y])) := Gro.upd hT
  have up' : Gro (Fr c O H) (Fr c O' (upd H1 T (.tup [x, y]))) := gr.trans (fr_gro up)
  exact ⟨up, _, zip_at e1 e2, .tup (.inl (.inl (fr_of upd_same (nw T hT).1 (nw T hT).2))) (.cons (dq_gro up' q1) (.cons (dq_gro up' q2) .nil))⟩
theorem qi_zip {elts : List Expr} {kk : Nat} {tpos p : Pos} (hK : X.K = c.K) (hm : X.mg "zip" = none) (ha : PE X a (tD c W f1)) (hb : PE X b (tD c W f2)) (hg : Gl X "zip" := by rfl)
    (hs1 : starEach [a, b] X.env = (false, eval a X.env) :: starEach [b] X.env := by rfl) (hs2 : starEach [b] X.env = (false, eval b X.env) :: starEach [] X.env := by rfl)
    (hs : starEach [a, b] X.env = (false, eval a X.env) :: starEach [b] X.env := by rfl) (hpl : (backTo pos (starEach [b] X.env)).any (·.1) = false := by rfl) :
    PI X (.Tuple elts kk tpos) (.Call (.Name "zip" p) [a, b] [] pos) (tDI c W (miZip f1 f2)) :=
  pi_imp (RZ.pi_zipA hg hm (pa_cons ha (pa_cons hb pa_nil hs2) hs1) hs hpl) fun σ H Q ⟨O, ρ, φ, R, h⟩ => ⟨O, ρ, φ, R, gie_bind h fun x φ1 v H1 _ R1 s1 p1 h1 =>
    ⟨O, ρ, φ1, R1, gie_bind h1 fun y φ2 u H2 _ R2 s2 p2 h2 => by
      have q1 := dq_gro (s2.fr R.ok) p1
      rw [hK]
      cases q1 with
      | @lst aa vs xs g1 r1 =>
        cases p2 with
        | @lst bb us ys g2 r2 =>
          refine ⟨_, _, vs, us, rfl, .inl ⟨SqL.of (fr_in _ _ g1), SqL.of (fr_in _ _ g2), h2 _ _ R2 (.refl _) (zip_walks r1 r2 (fun H3 i x y g e1 e2 => ⟨vs, us, x, y, SqL.of (g _ _ g1), SqL.of (g _ _ g2), e1, e2⟩)
            (fun H3 i g le => ⟨vs, us, SqL.of (g _ _ g1), SqL.of (g _ _ g2), le⟩) (fun H3 i v H4 g y => ?_))⟩⟩
          obtain ⟨T, x, z, e1, e2, e3, e4, e5⟩ := y
          exact ⟨T, x, z, e1, e2, e3, e4 vs (SqL.of (g _ _ g1)), e5 us (SqL.of (g _ _ g2))⟩
        | _ => exact h2.elim
      | @tup aa vs xs g1 r1 =>
        cases p2 with
        | @tup bb us ys g2 r2 =>
          refine ⟨_, _, vs, us, rfl, .inr ⟨sqT_gro fr_in g1, sqT_gro fr_in g2, h2 _ _ R2 (.refl _) (zip_walks r1 r2 (fun H3 i x y g e1 e2 => ⟨vs, us, x, y, sqT_gro g g1, sqT_gro g g2, e1, e2⟩)
            (fun H3 i g le => ⟨vs, us, sqT_gro g g1, sqT_gro g g2, le⟩) (fun H3 i v H4 g y => ?_))⟩⟩
          obtain ⟨T, x, z, e1, e2, e3, e4, e5⟩ := y
          exact ⟨T, x, z, e1, e2, e3, e4 vs (sqT_gro g g1), e5 us (sqT_gro g g2)⟩
        | _ => exact h2.elim
      | _ => cases p2 <;> exact h2.elim⟩⟩

/-! ### sep.join(e) -/
def strsOf : List Dt → Option (List Str)
  | [] => some []
  | .str x :: r => (strsOf r).map (x :: ·)
  | _ :: _ => none
def joinL1 (y : Str) (zs : List Str) : Option Dt := if (zs.map (·.length)).sum + zs.length * y.length ≤ 16777216 then some (.str (Txt.join y zs)) else none
def joinS (y : Str) : Dt → Option Dt
  | .list ys => (strsOf ys).bind (joinL1 y)
  | .tuple ys => (strsOf ys).bind (joinL1 y)
  | _ => none
theorem strs_dq {K : PySem.W.Frag} {F : Hp} : ∀ {vs : List V} {ds : List Dt} {zs : List Str}, DqAll K F vs ds → strsOf ds = some zs → vs = zs.map V.str
  | _, _, _, .nil, e => by cases e; rfl
  | _, _, _, .cons h t, e => by
    cases h with
    | str x =>
      obtain ⟨q, e1, rfl⟩ := map_some_eq (show (strsOf _).map (x :: ·) = some _ from e)
      rw [strs_dq t e1]
      rfl
    | _ => cases e

/-! ### range(a, b) -/
def miR2 (f1 f2 : ME) : MI := fun ρ φ => (f1 ρ φ).bind fun x φ1 => (f2 ρ φ1).bind fun y φ2 => match x, y with
  | .int i, .int j => if (-4611686018427387904 ≤ i ∧ i < 4611686018427387904) ∧ -4611686018427387904 ≤ j ∧ j < 4611686018427387904 then .ok ((List.range (j - i).toNat).map fun k => .int (i + (k : Nat))) φ2 else .no
  | _, _ => .no
theorem qi_r2 {tg : Expr} {p : Pos} (hm : X.mg "range" = none) (ha : PE X a (tD c W f1)) (hb : PE X b (tD c W f2)) (hg : Gl X "range" := by rfl)
    (hs1 : starEach [a, b] X.env = (false, eval a X.env) :: starEach [b] X.env := by rfl) (hs2 : starEach [b] X.env = (false, eval b X.env) :: starEach [] X.env := by rfl)
    (hs : starEach [a, b] X.env = [(false, eval a X.env), (false, eval b X.env)] := by rfl) : PI X tg (.Call (.Name "range" p) [a, b] [] pos) (tDI c W (miR2 f1 f2)) :=
  pi_imp (pi_range2 hg hm (pa_cons ha (pa_cons hb pa_nil hs2) hs1) hs hs2) fun σ H Q ⟨O, ρ, φ, R, h⟩ => ⟨O, ρ, φ, R, gie_bind h fun x φ1 v H1 _ R1 s1 p1 h1 =>
    ⟨O, ρ, φ1, R1, gie_bind h1 fun y φ2 u H2 _ R2 s2 p2 h2 => by
      cases p1 with
      | int i =>
        cases p2 with
        | int j =>
          by_cases hz : (-4611686018427387904 ≤ i ∧ i < 4611686018427387904) ∧ -4611686018427387904 ≤ j ∧ j < 4611686018427387904
          · have h3 : GI c W O σ ρ H2 Q (if (-4611686018427387904 ≤ i ∧ i < 4611686018427387904) ∧ -4611686018427387904 ≤ j ∧ j < 4611686018427387904 then .ok ((List.range (j - i).toNat).map fun k => .int (i + (k : Nat))) φ2 else .no) := h2
            rw [if_pos hz] at h3
            refine ⟨i, j, rfl, ⟨by omega, by omega, by omega, by omega⟩, h3 _ _ R2 (.refl _) fun O' H3 k gr nw => ⟨fun hk => ?_, fun hk => ?_⟩⟩
            · have lt : k < (j - i).toNat := by simpa using hk
              refine ⟨lt, fun v H4 y => ?_⟩
              obtain ⟨rfl, rfl⟩ := y
              refine ⟨.refl _, .int (i + (k : Nat)), ?_, .int _⟩
              rw [List.getElem?_map, List.getElem?_range lt]
              rfl
            · have : (j - i).toNat ≤ k := by rw [hk]; simp
              exact this
          · have h3 : GI c W O σ ρ H2 Q (if (-4611686018427387904 ≤ i ∧ i < 4611686018427387904) ∧ -4611686018427387904 ≤ j ∧ j < 4611686018427387904 then .ok ((List.range (j - i).toNat).map fun k => .int (i + (k : Nat))) φ2 else .no) := h2
            rw [if_neg hz] at h3
            exact h3.elim
        | _ => exact h2.elim
      | _ => cases p2 <;> exact h2.elim⟩⟩
theorem join_ok {y : Str} {zs : List Str} {w : Dt} (h : joinL1 y zs = some w) : (zs.map (·.length)).sum + zs.length * y.length ≤ 16777216 ∧ w = .str (Txt.join y zs) := by
  unfold joinL1 at h
  by_cases hz : (zs.map (·.length)).sum + zs.length * y.length ≤ 16777216
  · rw [if_pos hz] at h
    exact ⟨hz, (Option.some.inj h).symm⟩
  · rw [if_neg hz] at h
    cases h
theorem qe_join {p1 p2 : Pos} {y : Str} {j : Nat} (hK : X.K = c.K) (hb : PE X b (tD c W f)) (hbase : attributeBase (.Constant (.str y) j p1) "join" X.env (eval (.Constant (.str y) j p1) X.env) = eval (.Constant (.str y) j p1) X.env := by rfl)
    (hfew : ((backTo pos (starEach [b] X.env)).all (fun x => !x.1) && (backToKw pos (keywordEach [] X.env)).all (fun x => x.1.isSome) && decide ([b].length + ([] : List Keyword).length + (if ([] : List Keyword).isEmpty then 0 else 1) < 30)) = true := by rfl)
    (hline : (p2.endLine == pos.line) = true := by rfl) (hs : starEach [b] X.env = (false, eval b X.env) :: starEach [] X.env := by rfl) (hplain : (backTo pos (starEach [] X.env)).any (·.1) = false := by rfl) :
    PE X (.Call (.Attribute (.Constant (.str y) j p1) "join" p2) [b] [] pos) (tD c W (m1 (joinS y) f)) :=
  pe_imp (pe_bm PySem.F.plainAttrs_str PySem.F.slot_str_join PySem.F.type_str_join mt_join pe_str (pa_cons hb pa_nil hs) hbase hfew hline hs hplain) fun σ H Q ⟨O, ρ, φ, R, h⟩ =>
    ⟨rfl, O, ρ, φ, R, ge_bind h fun z φ2 u H2 _ R2 s2 p2 h2 => by
      obtain ⟨w, ew, k⟩ := ge_opt R2 h2
      rw [hK]
      cases p2 with
      | @lst aa vs ys g r =>
        have ew' : (strsOf ys).bind (joinL1 y) = some w := ew
        cases es : strsOf ys with
        | none => rw [es] at ew'; cases ew'
        | some zs =>
          rw [es] at ew'
          rw [strs_dq r es] at g
          obtain ⟨hz, rfl⟩ := join_ok ew'
          exact ⟨y, aa, zs, rfl, rfl, .inl (SqL.of (fr_in _ _ g)), hz, ans_here k (.str _)⟩
      | @tup aa vs ys g r =>
        have ew' : (strsOf ys).bind (joinL1 y) = some w := ew
        cases es : strsOf ys with
        | none => rw [es] at ew'; cases ew'
        | some zs =>
          rw [es] at ew'
          rw [strs_dq r es] at g
          obtain ⟨hz, rfl⟩ := join_ok ew'
          exact ⟨y, aa, zs, rfl, rfl, .inr (sqT_gro fr_in g), hz, ans_here k (.str _)⟩
      | _ => cases ew⟩

/-! ### a list of the frame's own, read -/
/-- the expression sees it as data; what it answers is flat -/
def mThaw (i : Nat) (f : ME) : ME := fun ρ φ => match ρ[i]? with
  | some (.own ds) => (noErr (f (ρ.set i (.dat (.list ds))) φ)).bind fun d φ' => if flatD d = true then .ok d φ' else .no
  | _ => .no
def mtThaw (i : Nat) (t : MT) : MT := fun ρ φ => match ρ[i]? with
  | some (.own ds) => noErr (t (ρ.set i (.dat (.list ds))) φ)
  | _ => .no
/-- the frame with one own list shown -/
theorem Rel.show1 {O : Nat → Option Addr} {H : Hp} {σ : L2.St} {ρ : Rho} {φ : Fd} {ds : List Dt} (R : Rel c O H σ ρ φ) {i : Nat} (er : ρ[i]? = some (.own ds)) : ∃ O', Rel c O' H σ (ρ.set i (.dat (.list ds))) φ ∧ Gro (Fr c O H) (Fr c O' H) := by
  obtain ⟨a, us, e1, e2, e3, p0⟩ := R.slot i _ er
  let O' : Nat → Option Addr := fun k => if k = i then none else O k
  have oi : ∀ k b, O' k = some b → O k = some b ∧ k ≠ i := fun k b z => by
    have z : (if k = i then none else O k) = some b := z
    by_cases hk : k = i
    · rw [if_pos hk] at z
      cases z
    · rw [if_neg hk] at z
      exact ⟨z, hk⟩
  have gro : Gro (Fr c O H) (Fr c O' H) := fun b o h => by
    obtain ⟨h1, h2, h3⟩ := fr_some h
    exact fr_of h1 h2 fun k z => h3 k (oi k b z).1
  have za : ¬ c.Z a := fun z => by
    obtain ⟨o, h⟩ := R.ok.z0 a z
    rw [(R.own i a e1).2] at h
    cases h
  refine ⟨O', ⟨R.ok, fun k s e => ?_, by rw [List.length_set]; exact R.len, fun k l b h1 h2 => R.inj k l b (oi k b h1).1 (oi l b h2).1, ?_, fun k b h => R.own k b (oi k b h).1, R.feed, R.cells, R.entry, R.tabs⟩, gro⟩
  · by_cases hk : i = k
    · subst hk
      have lt : i < ρ.length := (List.getElem?_eq_some_iff.mp er).1
      rw [List.getElem?_set_self lt] at e
      cases e
      refine ⟨.ref a, e2, .lst (fr_of e3 za fun k z => ?_) (dqA_gro gro p0)⟩
      obtain ⟨z1, z2⟩ := oi k a z
      exact z2 (R.inj k i a z1 e1)
    · rw [List.getElem?_set_ne hk] at e
      have h := R.slot k s e
      cases s with
      | un => trivial
      | dat d => obtain ⟨x, q1, q2⟩ := h; exact ⟨x, q1, dq_gro gro q2⟩
      | own ds => obtain ⟨b, vs, q1, q2, q3, q4⟩ := h; exact ⟨b, vs, by show (if k = i then none else O k) = some b; rw [if_neg (Ne.symm hk)]; exact q1, q2, q3, dqA_gro gro q4⟩
      | fd => exact h
      | exc e => obtain ⟨a, C, d, q1, q2, q3⟩ := h; exact ⟨a, C, d, q1, q2, er_gro gro q3⟩
  · obtain ⟨B, hB⟩ := R.fin
    exact ⟨B, fun k hk => by show (if k = i then none else O k) = none; rw [hB k hk]; split <;> rfl⟩
theorem qe_thaw {i : Nat} (he : PE X e (tD c W f)) : PE X e (tD c W (mThaw i f)) :=
  pe_imp he fun σ H Q ⟨O, ρ, φ, R, h⟩ => by
    unfold mThaw at h
    cases er : ρ[i]? with
    | none => rw [er] at h; exact h.elim
    | some s =>
      rw [er] at h
      cases s with
      | own ds =>
        obtain ⟨O', R', gro⟩ := R.show1 er
        have h : GE c W O σ ρ H Q ((noErr (f (ρ.set i (.dat (.list ds))) φ)).bind fun d φ' => if flatD d = true then .ok d φ' else .no) := h
        refine ⟨O', _, φ, R', ?_⟩
        cases r : f (ρ.set i (.dat (.list ds))) φ with
        | ok d φ' =>
          rw [r] at h
          have h : GE c W O σ ρ H Q (if flatD d = true then .ok d φ' else .no) := h
          by_cases hf : flatD d = true
          · rw [if_pos hf] at h
            refine fun v H' R2 st p => h v H' (R.step st R2.feed R2.cells) st ?_
            cases p with
            | non => exact .non
            | bl b => exact .bl b
            | int i => exact .int i
            | str x => exact .str x
            | _ => cases hf
          · rw [if_neg hf] at h
            exact h.elim
        | err er φ' => rw [r] at h; exact h.elim
        | no => rw [r] at h; exact h.elim
      | _ => exact h.elim
theorem qt_thaw {i : Nat} {t : MT} (he : PT X e (tDT c W t)) : PT X e (tDT c W (mtThaw i t)) :=
  pt_imp he fun σ H Q ⟨O, ρ, φ, R, h⟩ => by
    unfold mtThaw at h
    cases er : ρ[i]? with
    | none => rw [er] at h; exact h.elim
    | some s =>
      rw [er] at h
      cases s with
      | own ds =>
        obtain ⟨O', R', gro⟩ := R.show1 er
        have h : GT c W O σ ρ H Q (noErr (t (ρ.set i (.dat (.list ds))) φ)) := h
        refine ⟨O', _, φ, R', ?_⟩
        cases r : t (ρ.set i (.dat (.list ds))) φ with
        | ok d φ' =>
          rw [r] at h
          exact fun H' R2 st => h H' (R.step st R2.feed R2.cells) st
        | err er φ' => rw [r] at h; exact h.elim
        | no => rw [r] at h; exact h.elim
      | _ => exact h.elim
/-- code that is never reached (raise, say) -/
def sNo : MS := fun _ _ => .no
theorem qs_no {st : Stmt} {rest : List Stmt} {g : MS} (h2 : PSs X rest (tS c W g)) (hst : PS X st (fun _ _ _ => False)) : PSs X (st :: rest) (tS c W (sSeq sNo g)) := by
  refine pss_imp (pss_cons hst h2) fun D σ H ⟨O, ρ, φ, R, h⟩ => h.elim
end
end DL

set_option maxHeartbeats 1000000
/-! DL, part w: a feed whose cells come from a comprehension -/
namespace DL
open PySem PySem.Spec PyProof.Rows L2

/-- like Cells, the frame's number of slots known -/
def CellsL (K : PySem.W.Frag) (m : Nat) (tc : TE) : Prop := ∀ (a : Addr) (ns : List Int) (σ : L2.St) (H : Hp) (Q : VK), σ.length = m → σ[0]? = some (some (.ref a)) → SqL K H a (ns.map V.int) → ns.length ≤ 63 →
  (∀ (H' : Hp) (q : Addr) (cells : List Int), Gro H H' → H q = none → H' q = some (.lst (cells.map V.int)) → Q (.ref q) H') → tc σ H Q
theorem wipe1 {σ : L2.St} : L2.wipe σ [1] = σ.set 1 none := rfl
/-- [int(c) for c in script[:n]] -/
theorem cells_comp {K : PySem.W.Frag} {n : Int} : CellsL K 2 (tLc (iList K (tSl (rSlL K) (tVar 0) tNoPart (tPart (tC (.int n))))) (gName 1) tYes (tCB (fun xs H Q => (∃ i, xs = [.int i] ∧ Q (.int i) H) ∨ ∃ k, xs = [.bl k] ∧ Q (.int (if k then 1 else 0)) H) (tCons (tVar 1) tNil)) [1]) := by
  intro a ns σ H Q hm h0 sq le fin
  refine ⟨_, h0, n, rfl, a, _, rfl, sq, fun p hp => ⟨p, rfl, ⟨_, SqL.of upd_same⟩, fun D hD => ?_⟩⟩
  have g1 : Gro H (upd H p (.lst (cutV (ns.map V.int) none (some n)))) := Gro.upd hp
  have hD0 : H D = none := by
    cases e : H D with
    | none => rfl
    | some o => rw [g1 D o e] at hD; cases hD
  generalize hH1 : upd H p (.lst (cutV (ns.map V.int) none (some n))) = H1 at *
  have hp1 : H1 p = some (.lst (cutV (ns.map V.int) none (some n))) := by rw [← hH1]; exact upd_same
  rw [cut_ints] at hp1
  have hcl : (cutL ns none (some n)).length ≤ 63 := Nat.le_trans (by unfold cutL; rw [List.length_take, List.length_drop]; omega) le
  refine lc_list (xs := (cutL ns none (some n)).map V.int) (fun i H' => (∀ b o, H1 b = some o → H' b = some o) ∧ H' D = some (.lst (((cutL ns none (some n)).take i).map V.int))) ⟨fun b o e => by rw [upd_ne (ne_of_none e hD)]; exact e, upd_same⟩
    (fun i H' _ h => SqL.of (h.1 _ _ hp1)) (fun i x H' hx h => ?_) (fun H' h => ?_)
  · obtain ⟨g, hd⟩ := h
    rw [List.getElem?_map] at hx
    obtain ⟨v, ev, rfl⟩ := map_some_eq hx
    have lt : i < (cutL ns none (some n)).length := (List.getElem?_eq_some_iff.mp ev).1
    refine ⟨?_, ?_⟩
    · rw [wipe1, wipe1]
      show ((σ.set 1 none).set 1 (some (V.int v))).set 1 none = σ.set 1 none
      rw [List.set_set, List.set_set]
    · show (fun b H3 => _) true H'
      refine ⟨V.int v, ?_, .inl ⟨v, rfl, ((cutL ns none (some n)).take i).map V.int, hd, by rw [List.length_map, List.length_take, sizeLine_eq]; omega, fun b o e => ?_, ?_⟩⟩
      · show ((L2.wipe σ [1]).set 1 (some (V.int v)))[1]? = _
        rw [wipe1, List.set_set, List.getElem?_set_self (by omega)]
      · have : b ≠ D := ne_of_none e hD
        rw [upd_ne this]
        exact g b o e
      · rw [upd_same, List.take_succ, ev]
        simp
  · obtain ⟨g, hd⟩ := h
    rw [List.length_map, List.take_length] at hd
    exact fin H' D _ (fun b o e => g b o (g1 b o e)) hD0 hd
theorem feed_readL {L : Lw} (nk : L.Nk) {tc : TE} {m : Nat} (hc : CellsL L.K m tc) {vs : List V} {H : Hp} {Q : VK} {E : XK} {N : List Str} (h : spFeed L vs H Q E) (hm : (L2.start N vs).length = m) :
    tDisp [(tC (.str L.k1), tc), (tC (.str L.k2), tC (.int 0)), (tC (.str L.k3), tC (.int 0)), (tC (.str L.k4), tC (.int 0))] (L2.start N vs) H Q := by
  have h1 := feed_read nk (tc := fun σ H Q => σ.length = m → tc σ H Q) (N := N) (fun a ns σ H Q h0 sq le fin hl => hc a ns σ H Q hl h0 sq le fin) h
  exact fun p hp => h1 p hp hm
theorem qs_noS {X : Cx} {c : Cn} {W : WX'} {st : Stmt} : PS X st (tS c W sNo) := ⟨fun _ _ _ _ _ _ ⟨_, _, _, _, h⟩ => h.elim⟩
theorem room64 {k : Nat} {A : Around} (r : Room k A) : A.units + 64 < cLine := by have := r.un; omega
end DL

set_option maxHeartbeats 1000000
/-! DL, part x: further rules for what a mirror may answer; sizes of data -/
namespace DL
open PySem PySem.Spec PyProof.Rows L2 PySem.W
section
variable {ρ : Rho} {P : Dt → Prop} {f f1 f2 f3 : ME} {t u : MT}
theorem we_chain {g1 g2 : Dt → Dt → Option Dt} (h : wE1 f1 ρ fun x => wE1 f2 ρ fun y => ∃ b, (g1 x y).bind asBool = some b ∧ (b = true → wE1 f3 ρ fun w => ∃ r, g2 y w = some r ∧ P r) ∧ (b = false → P (.bool false))) : wE1 (mChain g1 g2 f1 f2 f3) ρ P :=
  can_bind (h.mono fun x k => can_bind (k.mono fun y k => can_bind (can_opt (by
    obtain ⟨b, e, k1, k2⟩ := k
    refine ⟨b, e, ?_⟩
    cases b with
    | true => exact can_bind ((k1 rfl).mono fun w q => can_opt q)
    | false => exact can_ok (k2 rfl)))))
theorem wi_zip {I : List Dt → Prop} (h : wE1 f1 ρ fun x => wE1 f2 ρ fun y => ∃ xs, zipD x y = some xs ∧ I xs) : Can (miZip f1 f2 ρ) I := can_bind (h.mono fun _ k => can_bind (k.mono fun _ q => can_opt q))
theorem wi_r2 {I : List Dt → Prop} (h : wE1 f1 ρ fun x => wE1 f2 ρ fun y => ∃ i j : Int, x = .int i ∧ y = .int j ∧ ((-4611686018427387904 ≤ i ∧ i < 4611686018427387904) ∧ -4611686018427387904 ≤ j ∧ j < 4611686018427387904) ∧ I ((List.range (j - i).toNat).map fun k => .int (i + (k : Nat)))) : Can (miR2 f1 f2 ρ) I :=
  can_bind (h.mono fun _ k => can_bind (k.mono fun _ q => by
    obtain ⟨i, j, rfl, rfl, hz, q⟩ := q
    exact fun φ => ⟨_, φ, if_pos hz, q⟩))
theorem can_noErr {α : Type} {g : Fd → Res α} {P : α → Prop} (h : Can g P) : Can (fun φ => noErr (g φ)) P := fun φ => by
  obtain ⟨a, φ', e, q⟩ := h φ
  exact ⟨a, φ', by show noErr (g φ) = _; rw [e]; rfl, q⟩
theorem we_thaw {i : Nat} {ds : List Dt} (e : ρ[i]? = some (.own ds)) (h : wE1 f (ρ.set i (.dat (.list ds))) fun d => flatD d = true ∧ P d) : wE1 (mThaw i f) ρ P := by
  have : mThaw i f ρ = fun φ => (noErr (f (ρ.set i (.dat (.list ds))) φ)).bind fun d φ' => if flatD d = true then .ok d φ' else .no := funext fun φ => by unfold mThaw; rw [e]
  unfold wE1
  rw [this]
  exact can_bind ((can_noErr h).mono fun d q φ => ⟨d, φ, if_pos q.1, q.2⟩)
theorem wt_thaw {i : Nat} {ds : List Dt} {P : Bool → Prop} (e : ρ[i]? = some (.own ds)) (h : wT1 t (ρ.set i (.dat (.list ds))) P) : wT1 (mtThaw i t) ρ P := by
  have : mtThaw i t ρ = fun φ => noErr (t (ρ.set i (.dat (.list ds))) φ) := funext fun φ => by unfold mtThaw; rw [e]
  unfold wT1
  rw [this]
  exact can_noErr h
/-- a comprehension whose answers are only known to have Q -/
theorem we_lcQ {it : MI} {tg : Tg} {vs : List Nat} {elt : ME} {Q : Dt → Prop} (h : Can (it ρ) fun xs => xs.length ≤ sizeLine ∧ (∀ x ∈ xs, ∃ ρ1, bindT tg x (wipeR ρ vs) = some ρ1 ∧ wT1 t ρ1 (fun b => b = true → wE1 elt ρ1 Q)) ∧ ∀ ys : List Dt, ys.length ≤ xs.length → (∀ y ∈ ys, Q y) → P (.list ys)) :
    wE1 (mLc it tg t elt vs) ρ P := fun φ => by
  obtain ⟨xs, φ', e, hz, hx, hP⟩ := h φ
  have go : ∀ (xs : List Dt) (φ : Fd), (∀ x ∈ xs, ∃ ρ1, bindT tg x (wipeR ρ vs) = some ρ1 ∧ wT1 t ρ1 (fun b => b = true → wE1 elt ρ1 Q)) → ∃ ys φ', lcGo tg t elt (wipeR ρ vs) xs φ = .ok ys φ' ∧ ys.length ≤ xs.length ∧ ∀ y ∈ ys, Q y := by
    intro xs
    induction xs with
    | nil => exact fun φ _ => ⟨[], φ, rfl, Nat.le_refl _, fun _ h => (List.not_mem_nil h).elim⟩
    | cons x xs ih =>
      intro φ hx
      obtain ⟨ρ1, e1, ht⟩ := hx x List.mem_cons_self
      obtain ⟨b, φ1, e2, he⟩ := ht φ
      unfold lcGo
      rw [e1]
      show ∃ ys φ', ((t ρ1 φ).bind _ : Res (List Dt)) = _ ∧ _
      rw [e2]
      cases b with
      | true =>
        obtain ⟨y, φ2, e3, q⟩ := he rfl φ1
        obtain ⟨ys, φ3, e4, hl, hq⟩ := ih φ2 fun y hy => hx y (List.mem_cons_of_mem _ hy)
        refine ⟨y :: ys, φ3, ?_, Nat.succ_le_succ hl, fun z hz => ?_⟩
        · show (((elt ρ1 φ1).bind _ : Res (List Dt))) = _
          rw [e3]
          show (((lcGo _ _ _ _ _ φ2).bind _ : Res (List Dt))) = _
          rw [e4]
          rfl
        · rcases List.mem_cons.mp hz with rfl | hz
          · exact q
          · exact hq z hz
      | false =>
        obtain ⟨ys, φ3, e4, hl, hq⟩ := ih φ1 fun y hy => hx y (List.mem_cons_of_mem _ hy)
        exact ⟨ys, φ3, e4, Nat.le_succ_of_le hl, hq⟩
  obtain ⟨ys, φ2, e2, hl, hq⟩ := go xs φ' hx
  refine ⟨_, φ2, ?_, hP ys hl hq⟩
  unfold mLc
  rw [e]
  show (if xs.length ≤ sizeLine then _ else _) = _
  rw [if_pos hz, e2]
  rfl
/-- like we_lc, over pairs -/
theorem we_lcT {it : MI} {vs : List Nat} {elt : ME} {tg : Tg} {p : Dt → Bool} {q : Dt → Dt} (h : Can (it ρ) fun xs => xs.length ≤ sizeLine ∧ (∀ x ∈ xs, ∃ ρ1, bindT tg x (wipeR ρ vs) = some ρ1 ∧ wT1 t ρ1 (fun b => b = p x) ∧ (p x = true → wE1 elt ρ1 fun y => y = q x)) ∧
    P (.list ((xs.filter p).map q))) : wE1 (mLc it tg t elt vs) ρ P := fun φ => by
  obtain ⟨xs, φ', e, hz, hx, hP⟩ := h φ
  have go : ∀ (xs : List Dt) (φ : Fd), (∀ x ∈ xs, ∃ ρ1, bindT tg x (wipeR ρ vs) = some ρ1 ∧ wT1 t ρ1 (fun b => b = p x) ∧ (p x = true → wE1 elt ρ1 fun y => y = q x)) → ∃ φ', lcGo tg t elt (wipeR ρ vs) xs φ = .ok ((xs.filter p).map q) φ' := by
    intro xs
    induction xs with
    | nil => exact fun φ _ => ⟨φ, rfl⟩
    | cons x xs ih =>
      intro φ hx
      obtain ⟨ρ1, e0, ht, he⟩ := hx x List.mem_cons_self
      obtain ⟨b, φ1, e1, rfl⟩ := ht φ
      unfold lcGo
      rw [e0]
      show ∃ φ', ((t ρ1 φ).bind _ : Res (List Dt)) = _
      rw [e1]
      cases hp : p x with
      | true =>
        obtain ⟨y, φ2, e2, rfl⟩ := he hp φ1
        obtain ⟨φ3, e3⟩ := ih φ2 fun y hy => hx y (List.mem_cons_of_mem _ hy)
        refine ⟨φ3, ?_⟩
        show (((elt ρ1 φ1).bind _ : Res (List Dt))) = _
        rw [e2]
        show (((lcGo _ _ _ _ _ φ2).bind _ : Res (List Dt))) = _
        rw [e3, List.filter_cons, if_pos hp]
        rfl
      | false =>
        obtain ⟨φ3, e3⟩ := ih φ1 fun y hy => hx y (List.mem_cons_of_mem _ hy)
        refine ⟨φ3, ?_⟩
        show lcGo _ _ _ _ _ φ1 = _
        rw [e3, List.filter_cons, if_neg (by rw [hp]; exact Bool.false_ne_true)]
  obtain ⟨φ2, e2⟩ := go xs φ' hx
  refine ⟨_, φ2, ?_, hP⟩
  unfold mLc
  rw [e]
  show (if xs.length ≤ sizeLine then _ else _) = _
  rw [if_pos hz, e2]
  rfl
end
theorem boolsOf_map (p : Dt → Bool) : ∀ ys : List Dt, boolsOf (ys.map fun x => .bool (p x)) = some (ys.map p)
  | [] => rfl
  | y :: r => by
    show (boolsOf (r.map fun x => .bool (p x))).map (p y :: ·) = _
    rw [boolsOf_map p r]
    rfl
theorem allD_map (p : Dt → Bool) (ys : List Dt) : allD [.list (ys.map fun x => .bool (p x))] = some (.bool (ys.all p)) := by
  show (boolsOf (ys.map fun x => .bool (p x))).map (fun bs => PyData.bool (bs.all id)) = _
  rw [boolsOf_map]
  show some (PyData.bool ((ys.map p).all id)) = _
  rw [List.all_map]
  rfl
/-- all([p(x) for x in it]) -/
theorem we_all {ρ : Rho} {P : Dt → Prop} {it : MI} {vs : List Nat} {elt : ME} {tg : Tg} {p : Dt → Bool} (h : Can (it ρ) fun xs => xs.length ≤ sizeLine ∧ (∀ x ∈ xs, ∃ ρ1, bindT tg x (wipeR ρ vs) = some ρ1 ∧ wE1 elt ρ1 fun y => y = .bool (p x)) ∧ P (.bool (xs.all p))) :
    wE1 (mCa allD (maCons (mLc it tg mtYes elt vs) maNil)) ρ P :=
  we_ca (wa_cons (we_lcT (p := fun _ => true) (q := fun x => .bool (p x)) (h.mono fun xs ⟨h1, h2, h3⟩ => ⟨h1, fun x hx => let ⟨ρ1, e, k⟩ := h2 x hx; ⟨ρ1, e, wt_yes rfl, fun _ => k⟩, wa_nil ⟨_, by
    rw [List.filter_eq_self.mpr (fun _ _ => rfl)]
    exact allD_map p xs, h3⟩⟩)))
/-- [x for x in it if not p(x)] == [] and != [] -/
theorem none_left {p : Dt → Bool} {xs : List Dt} (hs : ∀ x ∈ xs, SeqAt.shaped x = true) (hd : SeqAt.shaped (.list (xs.filter fun x => !p x)) = true) : eqD (.list (xs.filter fun x => !p x)) (.list []) = some (.bool (xs.all p)) ∧ neD (.list (xs.filter fun x => !p x)) (.list []) = some (.bool (!xs.all p)) := by
  have key : PyData.eqv (.list (xs.filter fun x => !p x)) (.list []) = xs.all p := by
    cases h : xs.filter (fun x => !p x) with
    | nil =>
      rw [List.filter_eq_nil_iff] at h
      have : xs.all p = true := List.all_eq_true.mpr fun x hx => by simpa using h x hx
      rw [this]
      rfl
    | cons y r =>
      have : ¬ xs.all p = true := fun ha => by
        have hy : y ∈ xs.filter (fun x => !p x) := by rw [h]; exact List.mem_cons_self
        obtain ⟨h1, h2⟩ := List.mem_filter.mp hy
        rw [List.all_eq_true.mp ha y h1] at h2
        cases h2
      rw [show xs.all p = false by simpa using this]
      rfl
  refine ⟨?_, ?_⟩
  · unfold eqD
    rw [if_pos ⟨hd, rfl⟩, key]
  · unfold neD
    rw [if_pos ⟨hd, rfl⟩, key]
end DL

set_option maxHeartbeats 2000000
/-! DL, part ya: enumerate of a list or a tuple -/
namespace DL
open PySem PySem.Spec PyProof.Rows L2 PySem.W

theorem meets_enum1 {v : Value} {o : Obj} {H : Heap → Prop} (B : Begins v o H) :
    Meets (Builtin.«enumerate.__new__» ⟨[.type "enumerate", v], []⟩) (fun _ R s => H s.heap ∧
      R (.ok (.ret (.ref (s.heap.push o).objs.size))) { s with heap := (s.heap.push o).push { cls := .type "enumerate", data := .fields #[.none, .bool false, .ref s.heap.objs.size, rawInt 0, .none, .none] } }) :=
  .of_wp fun prog w A R s h => by
    obtain ⟨hp, g, d, tk, os⟩ := s; obtain ⟨h1, h⟩ := h
    have hsub := sub_enumerate
    have q1 : ∀ {A' : Around} {E : Value → Shared → Prop} {Q : Value → Shared → Prop}, Q (.ref hp.objs.size) ⟨hp.push o, g, d, tk, os⟩ → wpAny (model prog w) A' (pyIter v) Q E ⟨hp, g, d, tk, os⟩ :=
      fun q => B.iter prog w _ _ ⟨hp, g, d, tk, os⟩ _ h1 q
    wp_walk using q1
    refine wpAny_stack_any fun st => wpAny_pure ?_
    split
    · rename_i c _ _ _ _ _
      cases (c == Value.type "enumerate")
      · wp_walk using q1
        exact ⟨_, rfl, h⟩
      · wp_walk using q1
        exact ⟨_, rfl, h⟩
    · wp_walk using q1
      exact ⟨_, rfl, h⟩
theorem enum_begins1 {prog : Program} {w : World} {A : Around} {E : Value → Shared → Prop} {s : Shared} {v : Value} {o : Obj} {H : Heap → Prop} {Q : Value → Shared → Prop} (B : Begins v o H) (h1 : H s.heap)
    (h : ∀ h', IsEnum h' (s.heap.objs.size + 1) s.heap.objs.size 0 .none → h'.get? s.heap.objs.size = some o → h'.objs.size = s.heap.objs.size + 2 →
      (∀ b o, s.heap.get? b = some o → h'.get? b = some o) → Q (.ref (s.heap.objs.size + 1)) { s with heap := h' }) :
    wpAny (model prog w) A (call (.type "enumerate") [v]) Q E s := by
  refine callType_new F.called_enumerate (by decide) (F.typeCall_enumerate_1 _) (F.newCall_enumerate_1 _) (fun obj => F.args_object_init_2 obj _) F.entry_enumerate_new
    (meets_enum1 B) ⟨h1, ?_⟩
  have hz : (s.heap.push o).objs.size = s.heap.objs.size + 1 := Heap.size_push ..
  show _ ∧ _
  rw [hz]
  have he : IsEnum ((s.heap.push o).push { cls := .type "enumerate", data := .fields #[.none, .bool false, .ref s.heap.objs.size, rawInt 0, .none, .none] }) (s.heap.objs.size + 1) s.heap.objs.size 0 .none := by
    have := Heap.get?_push_size (s.heap.push o) (o := { cls := .type "enumerate", data := .fields #[.none, .bool false, .ref s.heap.objs.size, rawInt 0, .none, .none] }) rfl
    rw [hz] at this; exact this
  refine ⟨⟨_, he, rfl⟩, h _ he (Heap.get?_push_of_some _ (Heap.get?_push_size _ B.free)) (by rw [Heap.size_push, hz]) fun b o x => Heap.get?_push_of_some _ (Heap.get?_push_of_some _ x)⟩

/-- the tuple at a, each item in a new pair -/
def IteT (K : PySem.W.Frag) (a : Addr) : It :=
  ⟨fun i H => ∃ (xs : List V) (x : V), SqT K H a xs ∧ xs[i]? = some x, fun i H v H' => ∃ T x, v = .ref T ∧ H T = none ∧ H' = upd H T (.tup [.int (i : Nat), x]) ∧ ∀ xs, SqT K H a xs → xs[i]? = some x, fun i H => ∃ xs : List V, SqT K H a xs ∧ xs.length ≤ i⟩
theorem turn_enumT {P : Program} {w : World} {K : PySem.W.Frag} {elts : List Expr} {kk : Nat} {tpos : Pos} (a e it : Addr) :
    Turn P w K (.Tuple elts kk tpos) (IteT K a) [e, it] e (fun i h => (∃ old, IsEnum h e it ((i : Nat) : Int) old) ∧ h.IsTupleIter it a i ∧ e ≠ it ∧ e ≠ a ∧ it ≠ a) where
  mem := by simp
  obj := fun i h st b hb => by
    obtain ⟨⟨old, he⟩, ⟨o, ho, hc, hd⟩, _⟩ := st
    have e' : b = e ∨ b = it := by simpa using hb
    rcases e' with z | z
    · rw [z]; exact ⟨_, he, fun v q => nomatch q⟩
    · rw [z]; exact ⟨o, ho, fun v q => by rw [hd] at q; cases q⟩
  keep := fun i h h' st k => let ⟨⟨old, he⟩, hi, hne⟩ := st; ⟨⟨old, k e (by simp) _ he⟩, hi.at fun o q => k it (by simp) o q, hne⟩
  item := by
    intro X hP hw hK hc i pins s σ H E I hf st hg
    subst hP hw hK
    obtain ⟨⟨old, he⟩, hit, hne, hea, hia⟩ := st
    obtain ⟨xs, x, hq, hx⟩ := hg
    obtain ⟨its, rv, p, hz⟩ := I.tuple hq
    have p : s.heap.IsTuple a its.toArray := p
    obtain ⟨u, hu, ru⟩ := rv.get hx
    have hel : e < s.heap.objs.size := Heap.lt_size he
    have hil : it < s.heap.objs.size := by obtain ⟨_, q, _⟩ := hit; exact Heap.lt_size q
    have hl : i < its.toArray.size := by
      have := (List.getElem?_eq_some_iff.mp hu).1
      simpa using this
    have D : Draws X.prog X.w X.A.in1 it [it, a] its.toArray.size (fun i v => its.toArray[i]? = some v) (fun i h => h.IsTupleIter it a i ∧ h.IsTuple a its.toArray) := Draws.tuple (show X.A.in1.handled = none from I.ok.hd hc) it a (Ne.symm hia) its.toArray
    refine wpAny_pyNext_enum_itemC D he ⟨hit, p⟩ hl hne (by simp [hne, hea]) fun y h' tk hy ho hst' hT hsz hk => ?_
    have hy' : its.toArray[i]? = some y := hy
    have ey : y = u := by
      have hu' : its.toArray[i]? = some u := by simpa using hu
      rw [hu'] at hy'
      exact (Option.some.inj hy').symm
    subst ey
    obtain ⟨hit', _⟩ := hst'
    refine ⟨_, rfl, wpAny_letOwnedTupleGo_enum (s := { s with heap := h', toks := tk + 1 }) ho fun h'' he' sb => ?_⟩
    have hT2 : h''.get? s.heap.objs.size = some { cls := .type "tuple", data := .seq #[.int i tk, y] } := (sb.2 _ (Nat.ne_of_gt hel)).trans hT
    have new : ObjOk X.prog X.w (upd H s.heap.objs.size (.tup [.int (i : Nat), x])) h'' s.heap.objs.size (.tup [.int (i : Nat), x]) :=
      ⟨by show 2 ≤ sizeLine; decide, [.int i tk, y], .cons ⟨_, rfl⟩ (.cons ru .nil), ⟨_, hT2, rfl, _, rfl⟩⟩
    have I1 : Inv X pins σ (upd H s.heap.objs.size (.tup [.int (i : Nat), x])) { s with heap := h'', toks := tk + 1 } :=
      I.turnedNew (ch := [e, it]) (fun b ob hb q => (sb.2 b (fun z => hb (by simp [z]))).trans (hk b ob (fun z => hb (by simp [z])) (fun z => hb (by simp [z])) q)) hf (Nat.le_refl _) new
    refine ⟨.ref s.heap.objs.size, _, I1, rfl, ⟨_, x, rfl, I.hok.fresh (Nat.le_refl _), rfl, fun ys hy => by rw [I.tuple_inj hy hq]; exact hx⟩, ⟨⟨y, ?_⟩, hit'.at fun o q => (sb.2 it (Ne.symm hne)).trans q, hne, hea, hia⟩, fun b hb => ?_⟩
    · have e1 : ((i + 1 : Nat) : Int) = (i : Int) + 1 := by omega
      rw [e1]; exact he'
    · have hb' : b < s.heap.objs.size := by
        have e' : b = e ∨ b = it := by simpa using hb
        rcases e' with z | z
        · rw [z]; exact hel
        · rw [z]; exact hil
      rw [upd_ne (Nat.ne_of_lt hb')]
      exact (hf b hb).1
  done := by
    intro X hP hw hK hc i pins s σ H E I hf st hg
    subst hP hw hK
    obtain ⟨⟨old, he⟩, hit, hne, hea, hia⟩ := st
    obtain ⟨xs, hq, hx⟩ := hg
    obtain ⟨its, rv, p, hz⟩ := I.tuple hq
    have p : s.heap.IsTuple a its.toArray := p
    obtain ⟨f0, f1, f2, f3, f4, f5⟩ := hf it (by simp)
    have hl := rv.length
    unfold pyNext
    have hT : s.TypeIs (.ref e) "enumerate" := ⟨_, he, rfl⟩
    refine wpAny_bind (wpAny_attempt (wpAny_callSpecial?_slot (name := Str.ofString "__next__") hT PySem.F.slot_enumerate_next
      (wpAny_call_entry PySem.F.slot_enumerate_next hT PySem.F.entry_enumerate_next ?_ (PySem.F.args_enumerate_next_1 _))))
    show wpAny _ _ (field (.ref e) 2 >>= _) _ _ _
    refine wpAny_bind (wpAny_field he rfl (x := .ref it) rfl ?_)
    refine wpAny_bind (wpAny_nextOf_tuple_end (show X.A.in1.handled = none from I.ok.hd hc) hit p (by simp; omega) fun h' x he' hx' => ?_)
    obtain ⟨o, ho, hc⟩ := hx'
    refine wpAny_bind (wpAny_isInstance (T := "StopIteration") (b := true) ⟨o, ho, hc⟩ isSubtype_stop ?_)
    exact wpAny_pure ⟨rfl, I.turned (t' := s.toks) (fun b o hb q => he' b o hb q) f0 f1 f3 f4 f5⟩
  self := fun A i s Q E st h => let ⟨⟨_, he⟩, _⟩ := st; wpAny_pyIter_enum he h
def iEnumA (K : PySem.W.Frag) (ta : TA) : TI := fun σ H R => ta σ H fun vs H1 => ∃ a xs, vs = [.ref a] ∧ ((SqL K H1 a xs ∧ R (Ite K a) H1) ∨ (SqT K H1 a xs ∧ R (IteT K a) H1))
theorem pi_enumA {X : Cx} {e : Expr} {ta : TA} {p pos tpos : Pos} {elts : List Expr} {kk : Nat} (hg : Gl X "enumerate") (hm : X.mg "enumerate" = none) (ha : PA X [e] ta) (hs : starEach [e] X.env = [(false, eval e X.env)] := by rfl) :
    PI X (.Tuple elts kk tpos) (.Call (.Name "enumerate" p) [e] [] pos) (iEnumA X.K ta) := by
  refine ⟨fun pins s σ H R I h => ?_⟩
  refine Call_ (ld_blt I hg hm boot_enumerate (PyProof.Rows.callWith_type1 (thn (ha.run pos pins s σ H _ I h) fun us s1 ⟨vs, H1, I1, r1, q1⟩ => ?_) hs rfl))
  obtain ⟨a, xs, ex, q1⟩ := q1
  subst ex
  cases r1 with
  | cons r rr =>
    cases rr
    cases r
    have fpok : ∀ b ∈ [s1.heap.objs.size + 1, s1.heap.objs.size], s1.heap.objs.size ≤ b := fun b hb => by
      have e' : b = s1.heap.objs.size + 1 ∨ b = s1.heap.objs.size := by simpa using hb
      rcases e' with z | z
      · rw [z]; exact Nat.le_add_right _ _
      · rw [z]; exact Nat.le_refl _
    rcases q1 with ⟨hq, q⟩ | ⟨hq, q⟩
    · obtain ⟨its, rv, p', hz⟩ := I1.list hq
      refine call_enumerate_list p'.isList fun h' he hit hsz hk => wpAny_pyIter_enum he ?_
      have I2 : Inv X pins σ H1 { s1 with heap := h' } := I1.kept (t' := s1.toks) hk
      exact ⟨s1.heap.objs.size + 1, [s1.heap.objs.size + 1, s1.heap.objs.size], _, _, H1, rfl, I2, turn_enum a (s1.heap.objs.size + 1) s1.heap.objs.size, ⟨⟨.none, he⟩, hit, Nat.succ_ne_self _⟩, fun b hb => I1.fpOk (fpok b hb) (I1.hok.fresh (fpok b hb)), q⟩
    · obtain ⟨its, rv, p', hz⟩ := I1.tuple hq
      have p' : s1.heap.IsTuple a its.toArray := p'
      have la : a < s1.heap.objs.size := by obtain ⟨_, q, _⟩ := p'; exact Heap.lt_size q
      refine enum_begins1 (begins_tuple a its.toArray) p' fun h' he hit hsz hk => wpAny_pyIter_enum he ?_
      have I2 : Inv X pins σ H1 { s1 with heap := h' } := I1.kept (t' := s1.toks) hk
      exact ⟨s1.heap.objs.size + 1, [s1.heap.objs.size + 1, s1.heap.objs.size], _, _, H1, rfl, I2, turn_enumT a (s1.heap.objs.size + 1) s1.heap.objs.size, ⟨⟨.none, he⟩, ⟨_, hit, rfl, rfl⟩, Nat.succ_ne_self _, Nat.ne_of_gt (Nat.lt_succ_of_lt la), Nat.ne_of_gt la⟩, fun b hb => I1.fpOk (fpok b hb) (I1.hok.fresh (fpok b hb)), q⟩

/-! ### mirrored -/
section
variable {X : Cx} {c : Cn} {W : WX'} {pos : Pos} {a b e : Expr} {f f1 f2 f3 : ME}
def enumD (xs : List Dt) : List Dt := (List.range xs.length).zipWith (fun i x => PyData.tuple [.int (i : Nat), x]) xs
def miEnum (f : ME) : MI := fun ρ φ => (f ρ φ).bind fun x φ1 => match x with
  | .list xs => .ok (enumD xs) φ1
  | .tuple xs => .ok (enumD xs) φ1
  | _ => .no
theorem enumD_len (xs : List Dt) : (enumD xs).length = xs.length := by unfold enumD; simp
theorem enumD_at {xs : List Dt} {i : Nat} {x : Dt} (h : xs[i]? = some x) : (enumD xs)[i]? = some (.tuple [.int (i : Nat), x]) := by
  have lt : i < xs.length := (List.getElem?_eq_some_iff.mp h).1
  unfold enumD
  rw [List.getElem?_zipWith, List.getElem?_range lt, h]
theorem enum_walks {O : Nat → Option Addr} {H : Hp} {J : It} {vs : List V} {xs : List Dt} (p1 : DqAll c.K (Fr c O H) vs xs)
    (go : ∀ H1 i x, Gro (Fr c O H) H1 → vs[i]? = some x → J.go i H1) (stop : ∀ H1 i, Gro (Fr c O H) H1 → vs.length ≤ i → J.stop i H1)
    (yld : ∀ H1 i v H2, Gro (Fr c O H) H1 → J.yld i H1 v H2 → ∃ T x, v = .ref T ∧ H1 T = none ∧ H2 = upd H1 T (.tup [.int (i : Nat), x]) ∧ vs[i]? = some x) :
    Walks c O H J (enumD xs) := fun O' H1 i gr nw => by
  have l1 := dqA_len p1
  have gr1 : Gro (Fr c O H) H1 := gr.trans fr_in
  refine ⟨fun hi => ?_, fun hi => stop H1 i gr1 (by rw [enumD_len] at hi; omega)⟩
  rw [enumD_len] at hi
  have i1 : i < vs.length := by omega
  refine ⟨go H1 i _ gr1 (List.getElem?_eq_getElem i1), fun v H2 hy => ?_⟩
  obtain ⟨T, x, rfl, hT, rfl, hx⟩ := yld H1 i v H2 gr1 hy
  obtain ⟨d1, e1, q1⟩ := dqA_getV p1 hx
  have up : Gro H1 (upd H1 T (.tup [.int (i : Nat), x])) := Gro.upd hT
  have up' : Gro (Fr c O H) (Fr c O' (upd H1 T (.tup [.int (i : Nat), x]))) := gr.trans (fr_gro up)
  exact ⟨up, _, enumD_at e1, .tup (.inl (.inl (fr_of upd_same (nw T hT).1 (nw T hT).2))) (.cons (.int _) (.cons (dq_gro up' q1) .nil))⟩
theorem qi_enum {elts : List Expr} {kk : Nat} {tpos p : Pos} (hK : X.K = c.K) (hm : X.mg "enumerate" = none) (ha : PE X a (tD c W f1)) (hg : Gl X "enumerate" := by rfl)
    (hs1 : starEach [a] X.env = (false, eval a X.env) :: starEach [] X.env := by rfl) (hs : starEach [a] X.env = [(false, eval a X.env)] := by rfl) :
    PI X (.Tuple elts kk tpos) (.Call (.Name "enumerate" p) [a] [] pos) (tDI c W (miEnum f1)) :=
  pi_imp (pi_enumA hg hm (pa_cons ha pa_nil hs1) hs) fun σ H Q ⟨O, ρ, φ, R, h⟩ => ⟨O, ρ, φ, R, gie_bind h fun x φ1 v H1 _ R1 s1 p1 h1 => by
    rw [hK]
    cases p1 with
    | @lst aa vs xs g1 r1 =>
      refine ⟨_, vs, rfl, .inl ⟨SqL.of (fr_in _ _ g1), h1 _ _ R1 (.refl _) (enum_walks r1 (fun H3 i x g e1 => ⟨vs, x, SqL.of (g _ _ g1), e1⟩) (fun H3 i g le => ⟨vs, SqL.of (g _ _ g1), le⟩) (fun H3 i v H4 g y => ?_))⟩⟩
      obtain ⟨T, x, e1, e2, e3, e4⟩ := y
      exact ⟨T, x, e1, e2, e3, e4 vs (SqL.of (g _ _ g1))⟩
    | @tup aa vs xs g1 r1 =>
      refine ⟨_, vs, rfl, .inr ⟨sqT_gro fr_in g1, h1 _ _ R1 (.refl _) (enum_walks r1 (fun H3 i x g e1 => ⟨vs, x, sqT_gro g g1, e1⟩) (fun H3 i g le => ⟨vs, sqT_gro g g1, le⟩) (fun H3 i v H4 g y => ?_))⟩⟩
      obtain ⟨T, x, e1, e2, e3, e4⟩ := y
      exact ⟨T, x, e1, e2, e3, e4 vs (sqT_gro g g1)⟩
    | _ => exact h1.elim⟩
end
end DL

set_option maxHeartbeats 4000000
/-! DL, part yb: an own exception's __init__(self, x, y): super().__init__(x, y); self.f = x; self.g = y -/
namespace DLX
open PySem PySem.W PySem.Calls PyProof.Rows L2

/-- the form of such an __init__ -/
structure InitForm (st : Stmt) (x0 x1 x2 f1 f2 : Str) : Prop where
  body : ∃ p0 p1 ap q1 q2 cp ep r1 r2 r3 r4 s1 s2 s3 s4, defBody st = [.Expr (.Call (.Attribute (.Call (.Name "super" p0) [] [] p1) "__init__" ap) [.Name x1 q1, .Name x2 q2] [] cp) ep,
    .Assign [.Attribute (.Name x0 r1) f1 r2] (.Name x1 r3) r4, .Assign [.Attribute (.Name x0 s1) f2 s2] (.Name x2 s3) s4] ∧
    (∀ env : Env, ∃ pl : Sem Bool, eval (.Call (.Attribute (.Call (.Name "super" p0) [] [] p1) "__init__" ap) [.Name x1 q1, .Name x2 q2] [] cp) env = (do
      let ov ← attributeBase (.Call (.Name "super" p0) [] [] p1) "__init__" env (eval (.Call (.Name "super" p0) [] [] p1) env)
      standAt ap.atName
      let (f, first) ← holding [ov] (getMethod ov "__init__" pl)
      callWith cp f first (backTo cp (starEach [.Name x1 q1, .Name x2 q2] env)) []))
  args : ∃ a0 a1 a2, (defArgs st).posonlyargs ++ (defArgs st).args = [a0, a1, a2] ∧ a0.arg = x0
  ks : (defScope st).names.lookup ("super" : Str) = some .globalImplicit
  kc : (defScope st).names.lookup ("__class__" : Str) = some .free
  k0 : (defScope st).names.lookup x0 = some .local
  k1 : (defScope st).names.lookup x1 = some .local
  k2 : (defScope st).names.lookup x2 = some .local
  kind : (defScope st).kind = .function
  co : (defScope st).isCoroutine = false
  gen : (defScope st).isGenerator = false
  nocell : ∀ x ∈ (defScope st).names, x.2 ≠ .cell
  d0 : (x0 == ("__debug__" : Str)) = false
  d1 : (x1 == ("__debug__" : Str)) = false
  d2 : (x2 == ("__debug__" : Str)) = false
  e01 : x0 ≠ x1
  e02 : x0 ≠ x2
  e12 : x1 ≠ x2
  ef : f1 ≠ f2
/-- what the written part says of the class at C and its __init__ at fI -/
structure InitC (P : Program) (K : Frag) (st : Stmt) (qual : Str) (C fI : Addr) (f1 f2 : Str) : Prop where
  oex : OexC K C
  init : findIn K (.ref C) "__init__" = some (some (.ref fI))
  tI : typeIn K (.ref fI) = some (.type "function")
  fn : ∃ (oc : Value) (od : Option Addr) (kV doc pm ct : Value) (cda cc : Addr) (an : Option Addr) (osl : Array (Option Value)) (ccl cl : Value) (cdd cld : Option Addr) (vs : Array Value) (ccs csl : Array (Option Value)) (file : Str) (tf : Tok),
    K.lookup fI = some ⟨oc, od, .func (ksFn "__init__" qual (defArgs st) (defBody st) (defScope st) .none kV doc pm an (.ref cda) ct cc), osl⟩ ∧ codeIn K (.ref cda) qual = true ∧
    K.lookup cda = some ⟨ccl, cdd, .fields vs, ccs⟩ ∧ vs[2]? = some (.str file tf) ∧ ((P.main.file : Str) == file) = true ∧ K.lookup cc = some ⟨cl, cld, .cell (some (.ref C)), csl⟩ ∧
    (∀ (s : Shared) (u0 u1 u2 : Value) (x0 x1 x2 : Str), ((defArgs st).posonlyargs ++ (defArgs st).args).map (·.arg) = [x0, x1, x2] → BindsTo s (ksFn "__init__" qual (defArgs st) (defBody st) (defScope st) .none kV doc pm an (.ref cda) ct cc) ⟨[u0, u1, u2], []⟩ [(x0, u0), (x1, u1), (x2, u2)])
  sup : ks_superIn K C C "__init__" = some (some (.builtin "ValueError.__init__"))
  subV : subIn K (.ref C) (.type "ValueError") = some true
  self : mroIn K C (.ref C) = some true
  nsup : nsIn K mainGlobals "super" = some none
  third : nsIn K cStatics "thirdparty.any" = some none
  top : (P.main.scope.names.lookup ("super" : Str)).isSome = false
  n1 : findIn K (.ref C) f1 = some none
  n2 : findIn K (.ref C) f2 = some none

section
variable {P : Program} {w : World} {A : Around} {K : Frag} {st : Stmt} {qual x0 x1 x2 f1 f2 : Str} {C fI a t0 : Addr} {hp : Heap} {g : Array GenState} {d : Drawn} {t : Nat} {os : OsState} {mg mb : Str → Option Value} {u1 u2 : Value} {R : Result → Shared → Prop}
theorem ns_at {h h' : Heap} {L : Addr} {m : Str → Option Value} (n : h.Ns L m) (k : ∀ o, h.get? L = some o → h'.get? L = some o) : h'.Ns L m := by
  obtain ⟨o, es, ep, e, r⟩ := n
  exact ⟨o, es, ep, k o e, r⟩
theorem init2 (F : InitForm st x0 x1 x2 f1 f2) (S : InitC P K st qual C fI f1 f2) (room : A.depth < recursionLimit) (X : K.In hp) (nl : hp.NoLimit) (gl : hp.Ns mainGlobals mg) (mgs : mg "super" = none)
    (bl : hp.Ns builtinsNs mb) (hmb : mb "super" = some (.type "super")) (hx : ((defArgs st).posonlyargs ++ (defArgs st).args).map (·.arg) = [x0, x1, x2]) (ha : hp.get? a = some (HandSPX.excO C t0)) (hKa : K.lookup a = none)
    (hR : ∀ h' tk' t1 dx, (∀ b o, b ≠ a → hp.get? b = some o → h'.get? b = some o) → hp.objs.size ≤ dx → dx ≠ a → h'.get? a = some { cls := .ref C, dict := some dx, data := .fields #[.ref t1, .none, .none, .none, .bool false, .none] } →
      h'.Ns1 dx (fun y => if y = f2 then some u2 else if y = f1 then some u1 else none) → R (.ok (.ret .none)) ⟨h', g, d, tk', os⟩) :
    codeAny (model P w) A (.call (.ref fI) ⟨[.ref a, u1, u2], []⟩) R ⟨hp, g, d, t, os⟩ := by
  obtain ⟨oc, od, kV, doc, pm, ct, cda, cc, an, osl, ccl, cl, cdd, cld, vs, ccs, csl, file, tf, lk, hcd, lcd, hvs, hfile, lcc, hb⟩ := S.fn
  obtain ⟨nm, qn, N, bs, bm, sn, sub, ab, col, dd, k0, k1, k2, k3, k5, hC, hbm⟩ := S.oex.cls
  obtain ⟨p0, p1, ap, q1, q2, cp, ep, r1, r2, r3, r4, s1, s2, s3, s4, eb, hev⟩ := F.body
  obtain ⟨a0, a1, a2, ea, ea0⟩ := F.args
  have hcl : clsIn K C = some { name := nm, bases := bs, mro := .ref C :: bm, ns := N, qualname := qn, hasDict := true, slotNames := sn, subclasses := sub, abstract := ab, collection := col, hasDel := false } := by unfold clsIn; rw [hC] <;> rfl
  refine ks_codeAny_call_defAt (fd := ksFn "__init__" qual (defArgs st) (defBody st) (defScope st) .none kV doc pm an (.ref cda) ct cc) (body := defBody st) room (X _ _ lk) rfl nl (codeRec_of X hcd) rfl (hb _ _ _ _ _ _ _ hx) F.nocell (fun y hy => ?_) (fun h₁ hns hk₁ => ?_) F.co F.gen F.kind
  · simp only [List.mem_cons, List.not_mem_nil, or_false] at hy
    rcases hy with rfl | rfl | rfl
    · exact F.k0
    · exact F.k1
    · exact F.k2
  show _root_.PySem.wpAt (model P w) (A.deeper (ksEnv qual (defScope st) hp.objs.size fI (.ref cda) cc)) (.func (defBody st) (ksEnv qual (defScope st) hp.objs.size fI (.ref cda) cc)) (execs (defBody st) (ksEnv qual (defScope st) hp.objs.size fI (.ref cda) cc)) _ _ _
  have X1 : K.In h₁ := X.keeps hk₁
  have m0 : (([(x0, (.ref a : Value)), (x1, u1), (x2, u2)] : List (Str × Value)).reverse.lookup x0) = some (.ref a) := by
    have h1 : (x0 == x2) = false := by simpa using F.e02
    have h2 : (x0 == x1) = false := by simpa using F.e01
    simp [List.lookup, h1, h2]
  have m1 : (([(x0, (.ref a : Value)), (x1, u1), (x2, u2)] : List (Str × Value)).reverse.lookup x1) = some u1 := by
    have h1 : (x1 == x2) = false := by simpa using F.e12
    simp [List.lookup, h1]
  have m2 : (([(x0, (.ref a : Value)), (x1, u1), (x2, u2)] : List (Str × Value)).reverse.lookup x2) = some u2 := by
    simp [List.lookup]
  generalize ([(x0, (.ref a : Value)), (x1, u1), (x2, u2)] : List (Str × Value)).length = n3
  generalize hm : (fun y => ([(x0, (.ref a : Value)), (x1, u1), (x2, u2)] : List (Str × Value)).reverse.lookup y) = m at hns
  have m0 : m x0 = some (.ref a) := by rw [← hm]; exact m0
  have m1 : m x1 = some u1 := by rw [← hm]; exact m1
  have m2 : m x2 = some u2 := by rw [← hm]; exact m2
  clear hm
  rw [eb]
  have ha1 : h₁.get? a = some (HandSPX.excO C t0) := hk₁ _ _ ha
  obtain ⟨pl, hev⟩ := hev (ksEnv qual (defScope st) hp.objs.size fI (.ref cda) cc)
  refine ks_wpAt_execs_cons (ks_wpAt_Expr_any (ks_wpAt_MethodCall (pl := pl) ?_ hev) (by unfold interactive; simp [F.kind]))
  refine ks_wpAt_super_base (env := ksEnv qual (defScope st) hp.objs.size fI (.ref cda) cc) F.ks F.kc (by decide) rfl (X1 _ _ lk) rfl (ar := a0) (by show ((defArgs st).posonlyargs ++ (defArgs st).args).head? = _; rw [ea]; rfl) rfl (X1 _ _ lcd) rfl hvs hfile S.top ?_
  refine ks_loadName_global F.kind F.ks (loadGlobal_builtin (env := ksEnv qual (defScope st) hp.objs.size fI (.ref cda) cc) (gl.keeps hk₁) mgs (bl.keeps hk₁) hmb ⟨rfl, ?_⟩)
  refine wpAny_loadName_free F.kind F.kc rfl ⟨_, X1 _ _ lcc, rfl⟩ ?_
  rw [ea0]
  refine wpAny_loadName_local F.kind F.k0 hns m0 ?_
  have hD1 : h₁.get? C = some (excClassObj nm qn C N bs bm true sn sub ab col dd k0 k1 k2 k3 k5 "ValueError.__new__") := X1 _ _ hC
  refine ks_wpAny_isType_cls hD1 rfl ⟨rfl, ?_⟩
  have aC : a ≠ C := fun z => by
    rw [z, hD1] at ha1
    cases ha1
  refine ks_wpAny_call_super hD1 rfl ha1 rfl (fun c e => by cases e) (looks_mroIn X1 S.self) (fun h₂ hso k₂ => ?_)
  have X2 : K.In h₂ := X1.keeps k₂
  have I2 : InstAt h₂ a (HandSPX.excO C t0) C none := ⟨k₂ _ _ ha1, rfl, rfl, trivial⟩
  have hI : Looks (model P w) h₂ (isInstance (.ref a) (.type "ValueError")) true := I2.type.andThen (looks_subIn X2 S.subV)
  have hsup := S.sup
  unfold ks_superIn at hsup
  rw [hcl] at hsup
  refine kxs_getMethod kxs_ValueError hso (looks_opaque X2 S.third) (l₀ := .ref C :: bm) ?_ rfl X2 hsup hI aC (by decide) ?_
  · exact fun A Q E s k q => wpAny_bind ((looks_clsIn X2 hcl) A _ E s k (wpAny_pure q))
  have k₃ : ∀ b o, h₂.get? b = some o → (h₂.push (kxs_mw "ValueError.__init__" a)).get? b = some o := fun b o e => Heap.get?_push_of_some _ e
  have hu : (h₂.push (kxs_mw "ValueError.__init__" a)).get? h₂.objs.size = some (kxs_mw "ValueError.__init__" a) := Heap.get?_push_size _ rfl
  generalize h₂.push (kxs_mw "ValueError.__init__" a) = h₃ at k₃ hu ⊢
  have kAll : ∀ b o, h₁.get? b = some o → h₃.get? b = some o := fun b o e => k₃ _ _ (k₂ _ _ e)
  have X3 : K.In h₃ := X1.keeps kAll
  have ns3 : h₃.Ns hp.objs.size m := ns_at hns fun o e => kAll _ _ e
  refine kxs_callWith (i := "ValueError.__init__") (x := a) rfl (evalArgs_plain (spliced_cons ?_))
  refine ESX.ldL (s := ⟨h₃, g, d, t + n3 + 1, os⟩) ns3 m1 (spliced_cons (ESX.ldL ns3 m2 (spliced_nil ⟨hu, ?_⟩) F.kind F.k2 F.d2)) F.kind F.k1 F.d1
  have ha3 : h₃.get? a = some (HandSPX.excO C t0) := kAll _ _ ha1
  have hC3 := X3 _ _ hC
  refine wpAny_call (codeAny_of_tree ?_)
  show wpAny _ (A.deeper _).in1 (callAny (.ref h₂.objs.size) ⟨[u1, u2], []⟩) _ _ _
  simp only [callAny]
  refine wpAny_bind (wpAny_load hu ?_)
  simp only [kxs_mw, show (Value.type "method-wrapper" == Value.type "method" || Value.type "method-wrapper" == Value.type "builtin_function_or_method" || Value.type "method-wrapper" == Value.type "method-wrapper") = true by decide, if_true]
  refine KFB.if_so (by decide) ?_
  refine wpAny_bind (check_bound_init PySem.F.excBase_ValueError.toExcCallFacts hC3 ha3 rfl ?_)
  refine wpAny_bind (wpAny_pure (wpAny_pure ?_))
  refine ⟨plainId_quiet PySem.F.excBase_ValueError.init.plain _, codeAny_builtin PySem.F.excBase_ValueError.initEntry ?_⟩
  refine exc_init_tree (cls := .ref C) (t0 := t0) (dv := none) (c2 := .none) (c3 := .none) (b4 := .bool false) ha3 (show 2 ≤ sizeLine by decide) fun h₄ k₄ ha4 ht4 => ?_
  have ka : ∀ {h' : Heap}, (∀ b o, b ≠ a → h₃.get? b = some o → h'.get? b = some o) → K.In h' := fun k b o e => k b o (fun z => by rw [z, hKa] at e; cases e) (X3 b o e)
  have X4 : K.In h₄ := ka k₄
  have ns4 : h₄.Ns hp.objs.size m := ns_at ns3 fun o e => k₄ _ _ (fun z => by rw [← z] at ha; exact Nat.lt_irrefl _ (Heap.lt_size ha)) e
  refine ks_wpAt_execs_cons (wpAt_of_wpAny (plainObj_wpAny_Assign_Attribute (ESX.ldL ns4 m1 (ESX.ldL ns4 m0 ?_ F.kind F.k0 F.d0) F.kind F.k1 F.d1) ?_))
  case refine_2 => rfl
  refine set_plain X4 (ox := { cls := .ref C, dict := none, data := .fields #[.ref h₃.objs.size, .none, .none, .none, .bool false, .none] }) (od := none) ⟨ha4, rfl, rfl, trivial⟩ S.oex.sa ?_
  refine HandSPX.exc_osa X4 ha4 hcl (show HandSPX.refsVE (.ref C :: bm) = true from hbm) rfl S.n1 fun h₅ tk5 dx k₅ dn dne hx5 hn5 => ?_
  have aL : a ≠ hp.objs.size := Nat.ne_of_lt (Heap.lt_size ha)
  have k45 : ∀ b o, b ≠ a → h₃.get? b = some o → h₅.get? b = some o := fun b o n e => k₅ b o n (k₄ b o n e)
  have X5 : K.In h₅ := ka k45
  have ns5 : h₅.Ns hp.objs.size m := ns_at ns3 fun o e => k45 _ _ (Ne.symm aL) e
  refine ks_wpAt_execs_cons (wpAt_of_wpAny (plainObj_wpAny_Assign_Attribute (ESX.ldL ns5 m2 (ESX.ldL ns5 m0 ?_ F.kind F.k0 F.d0) F.kind F.k2 F.d2) ?_))
  case refine_2 => rfl
  obtain ⟨oD, esD, epD, e1, e2, e3⟩ := id hn5
  refine set_plain X5 (ox := { cls := .ref C, dict := some dx, data := .fields #[.ref h₃.objs.size, .none, .none, .none, .bool false, .none] }) (od := some oD) ⟨hx5, rfl, rfl, e1⟩ S.oex.sa ?_
  have hw : Within (fun y => if y = f1 then some u1 else none) [f1] := fun y hy => by
    by_cases h : y = f1
    · simp [h]
    · exact absurd (if_neg h) hy
  refine OEX.osa_old X5 hx5 hn5 hw (show 1 ≤ 1000 by decide) hcl (show HandSPX.refsVE (.ref C :: bm) = true from hbm) rfl S.n2 fun h₆ tk6 k₆ hn6 => ?_
  refine wpAt_of_wpAny (wpAny_execs_nil ?_)
  refine hR h₆ tk6 h₃.objs.size dx (fun b o n e => ?_) ?_ dne ?_ hn6
  · have e3 := kAll _ _ (hk₁ _ _ e)
    refine k₆ b o (fun z => ?_) (k45 b o n e3)
    rw [z] at e3
    have := Heap.lt_size (k₄ _ _ dne e3)
    exact absurd dn (Nat.not_le_of_lt this)
  · have h1 : hp.objs.size < h₁.objs.size := by
      obtain ⟨o, es, ep, e, _⟩ := hns
      exact Heap.lt_size e
    have h2 : hp.objs.size < h₄.objs.size := by
      obtain ⟨o, es, ep, e, _⟩ := ns4
      exact Heap.lt_size e
    exact Nat.le_of_lt (Nat.lt_of_lt_of_le h2 dn)
  · exact k₆ _ _ (Ne.symm dne) hx5
end
end DLX
namespace DLX
open PySem PySem.W PySem.Calls PyProof.Rows L2
section
variable {X : Cx} {pins : List (Addr × Obj)} {σ : L2.St} {H : Hp} {s : Shared} {a C dx : Addr} {fs : List (Str × V)} {mA : Str → Option Value} {h' : Heap} {hp : Heap} {t1 : Addr}
/-- both objects at once -/
theorem un_exc (hok : HOk X.prog X.w H hp) (e : H a = some (exo a C none)) (k : ∀ b o, b ≠ a → hp.get? b = some o → h'.get? b = some o) (dn : hp.objs.size ≤ dx) (dne : dx ≠ a)
    (hx : h'.get? a = some { cls := .ref C, dict := some dx, data := .fields #[.ref t1, .none, .none, .none, .bool false, .none] }) (hn : h'.Ns1 dx mA) (r : ∀ g, RelO (fs.lookup g) (mA g)) (fl : List Addr) :
    Un fl [] H (upd (upd H dx (exd dx fs)) a (exo a C (some dx))) hp h' ∧ HOk X.prog X.w (upd (upd H dx (exd dx fs)) a (exo a C (some dx))) h' := by
  have hnd : H dx = none := hok.fresh dn
  have nd : ∀ {b : Addr} {o : Obj}, hp.get? b = some o → b ≠ dx := fun {b o} q => Nat.ne_of_lt (Nat.lt_of_lt_of_le (Heap.lt_size q) dn)
  have na : ∀ {b : Addr}, H b = none → b ≠ a := fun {b} n z => by
    rw [z, e] at n
    cases n
  refine ⟨{
    keep := fun b o q n _ _ => k b o (na n) q
    slot := fun b o q n _ _ => ⟨o.slots, k b o (na n) q⟩
    free := fun b o q n _ => by rw [upd_ne (na n), upd_ne (nd q)]; exact n
    there := fun b o q _ => by
      by_cases hb : b = a
      · exact ⟨_, by rw [hb]; exact hx⟩
      · exact ⟨o, k b o hb q⟩
    tups := fun b xs q => by rw [upd_ne (at_ne e q exo_tup), upd_ne (ne_of_none q hnd)]; exact q
    frzs := fun b o v q => by rw [upd_ne (at_ne e q exo_frz), upd_ne (ne_of_none q hnd)]; exact q
    tbls := fun b ps q => ⟨#[], by rw [upd_ne (at_ne e q exo_tbl), upd_ne (ne_of_none q hnd), q]; simp⟩ }, fun b o q => ?_⟩
  by_cases hb : b = a
  · subst hb
    rw [upd_same] at q
    cases q
    exact exo_ok hx
  · rw [upd_ne hb] at q
    by_cases hd : b = dx
    · subst hd
      rw [upd_same] at q
      cases q
      exact exd_ok hn r
    · rw [upd_ne hd] at q
      exact (hok b o q).stay (fun c v hc z => k c v (by
          rcases hc with hc | hc
          · rw [hc]
            exact hb
          · exact at_ne e hc exo_own) z)
        (fun c hc => by rw [upd_ne (at_ne e hc exo_own), upd_ne (ne_of_none hc hnd)]; exact hc) (fun c xs hc => by rw [upd_ne (at_ne e hc exo_tup), upd_ne (ne_of_none hc hnd)]; exact hc)
/-- C(x, y) with such an __init__ -/
def tMk2 (C : Addr) (f1 f2 : Str) (ta : TA) : L2.St → Hp → XK → Prop := fun σ H Q => ta σ H fun vs H1 => ∃ v1 v2, vs = [v1, v2] ∧ ∀ d, H1 d = none → Q (.ref C) (some d) (upd H1 d (.xd [(f2, v2), (f1, v1)]))
theorem pmk_sup {x qual x0 x1 x2 f1 f2 : Str} {st : Stmt} {C fI : Addr} {e : Expr} {es : List Expr} {ta : TA} {p pos : Pos} (F : InitForm st x0 x1 x2 f1 f2) (S : InitC X.prog X.K st qual C fI f1 f2) (hr : Room 2 X.A) (hg : Gl X x) (hm : X.mg x = some (.ref C)) (hsm : X.mg "super" = none)
    (hx : ((defArgs st).posonlyargs ++ (defArgs st).args).map (·.arg) = [x0, x1, x2]) (ha : PA X (e :: es) ta)
    (hdb : (x == ("__debug__" : Str)) = false := by decide) (he : starEach (e :: es) X.env = (false, eval e X.env) :: starEach es X.env := by rfl) (hpl : (backTo pos (starEach es X.env)).any (·.1) = false := by rfl) :
    PMk X (.Call (.Name x p) (e :: es) [] pos) (tMk2 C f1 f2 ta) := by
  intro pins s σ H Q I h
  obtain ⟨nm, q, N, bs, bm, sn, sub, ab, col, dd, k0, k1, k2, k3, k5, hC, hbm⟩ := S.oex.cls
  refine wpAny_Call_Name_kw (ld_glob I hg hm ?_ hdb)
  refine PySem.W.callWith_K (h₀ := X.base) I.ok.mod.kin S.oex.kC (thn (ha.run pos pins s σ H _ I h) fun us s1 ⟨vs, H1, I1, r1, v1, v2, ev, q1⟩ => ⟨I1.kIn, ?_⟩) he hpl
  subst ev
  show wpAny _ _ (call (.ref C) us) _ _ _
  cases r1 with
  | @cons _ u1 _ _ ru1 rr =>
  cases rr with
  | @cons _ u2 _ _ ru2 rr =>
  cases rr
  obtain ⟨hp, g, dr, tk, os⟩ := s1
  have hsz : hp.objs.size ≤ hp.objs.size + 1 := Nat.le_succ _
  have hn : H1 (hp.objs.size + 1) = none := I1.hok.fresh hsz
  have kk : ∀ b o, hp.get? b = some o → ((hp.push (PySem.W.kdv_tup [u1, u2])).push (PySem.HandSPX.excO C hp.objs.size)).get? b = some o := fun b o e => Heap.get?_push_of_some _ (Heap.get?_push_of_some _ e)
  have hget : ((hp.push (PySem.W.kdv_tup [u1, u2])).push (PySem.HandSPX.excO C hp.objs.size)).get? (hp.objs.size + 1) = some (PySem.HandSPX.excO C hp.objs.size) := by heap_get
  have I2 : Inv X pins σ (upd H1 (hp.objs.size + 1) (exo (hp.objs.size + 1) C none)) ⟨(hp.push (PySem.W.kdv_tup [u1, u2])).push (PySem.HandSPX.excO C hp.objs.size), g, dr, tk, os⟩ :=
    I1.laid (t' := tk) (a := hp.objs.size + 1) (o := exo (hp.objs.size + 1) C none) (h' := (hp.push (PySem.W.kdv_tup [u1, u2])).push (PySem.HandSPX.excO C hp.objs.size)) kk hsz (exo_ok hget)
  have hKa : X.K.lookup (hp.objs.size + 1) = none := by
    cases q : X.K.lookup (hp.objs.size + 1) with
    | none => rfl
    | some o => exact absurd (Heap.lt_size (I1.kIn _ _ q)) (by show ¬ (hp.objs.size + 1 < hp.objs.size); omega)
  obtain ⟨mb, hb1, hb2⟩ := I2.mod.blt
  have nlim := I2.nolimit
  have gl : ((hp.push (PySem.W.kdv_tup [u1, u2])).push (PySem.HandSPX.excO C hp.objs.size)).Ns mainGlobals X.mg := I2.mod.glob.keeps I2.bk
  have bl : ((hp.push (PySem.W.kdv_tup [u1, u2])).push (PySem.HandSPX.excO C hp.objs.size)).Ns builtinsNs mb := hb1.keeps I2.bk
  have hmb : mb "super" = some (.type "super") := (hb2 _ (by decide +kernel)).trans (by first | decide +kernel | rfl)
  generalize hpe : (hp.push (PySem.W.kdv_tup [u1, u2])).push (PySem.HandSPX.excO C hp.objs.size) = hp2 at kk hget I2 gl bl nlim
  refine wpAny_call (PySem.HandSPX.call_own PySem.F.excBase_ValueError (fun Y => PySem.HandSPX.refsVE_contains Y bm hbm) (I1.kIn _ _ hC) (PySem.W.looks_findIn I1.kIn S.init) (fun self => PySem.W.bind_fn I1.kIn self S.tI) (show 2 ≤ sizeLine by decide) ?_)
  rw [hpe]
  refine init2 (a := hp.objs.size + 1) F S ?_ I2.kIn nlim gl hsm bl hmb hx hget hKa fun h' tk' t1 dx k dn dne hxx hns => ?_
  · exact ((hr.mono (show 1 ≤ 2 by decide)).make C [u1, u2] []).depth
  · have hd1 : H1 dx = none := I1.hok.fresh (Nat.le_trans (show hp.objs.size ≤ hp2.objs.size by rw [← hpe, Heap.size_push, Heap.size_push]; omega) dn)
    have rr2 : ∀ y, RelO (([(f2, v2), (f1, v1)] : List (Str × V)).lookup y) (if y = f2 then some u2 else if y = f1 then some u1 else none) := relO_put ru2 (relO_put (mA := fun _ => none) ru1 fun _ => True.intro)
    obtain ⟨un, hok2⟩ := un_exc (fs := [(f2, v2), (f1, v1)]) I2.hok upd_same k dn dne hxx hns rr2 (frs X.stack)
    refine ⟨rfl, mk_end (raises_own S.oex.exC S.oex.tyC) I1 hsz kk un hok2 rfl I1.bare upd_same (by rw [upd_ne dne, upd_same]) hd1 ?_⟩
    have q2 := q1 dx hd1
    have eq : upd (del (upd (upd (upd H1 (hp.objs.size + 1) (exo (hp.objs.size + 1) C none)) dx (exd dx [(f2, v2), (f1, v1)])) (hp.objs.size + 1) (exo (hp.objs.size + 1) C (some dx))) (hp.objs.size + 1)) dx (.xd [(f2, v2), (f1, v1)]) = upd H1 dx (.xd [(f2, v2), (f1, v1)]) := by
      funext b
      by_cases hb : b = dx
      · rw [hb, upd_same, upd_same]
      · rw [upd_ne hb, upd_ne hb]
        by_cases hba : b = hp.objs.size + 1
        · rw [hba, del_same, hn]
        · rw [del_ne hba, upd_ne hba, upd_ne hb, upd_ne hba]
    rw [eq]
    exact q2
end
end DLX

set_option maxHeartbeats 2000000
/-! DL, part yc: raise, try .. except -/
namespace DL
open PySem PySem.Spec PyProof.Rows L2

def sRaise (x f1 f2 : Str) (g : MA) : MS := fun ρ φ => aS (g ρ φ) ρ fun ds φ' => match ds with
  | [a, b] => .ok (.ex ⟨x, [(f2, b), (f1, a)]⟩ ρ) φ'
  | _ => .no
def noEx : Res Fl → Res Fl
  | .ok (.ex _ _) _ => .no
  | r => r
/-- try: body, except (a class whose sort is told by p): suite -/
def sTry (body : MS) (p : Str → Bool) (suite : MS) : MS := fun ρ φ => match body ρ φ with
  | .ok (.ex e ρ') φ' => if p e.cls = true then noEx (suite ρ' φ') else .ok (.ex e ρ') φ'
  | r => r
section
variable {X : Cx} {c : Cn} {W : WX'} {pos : Pos} {e : Expr} {es : List Expr} {ga : MA}
theorem qs_raise {x qual x0 x1 x2 f1 f2 : Str} {st : Stmt} {C fI : Addr} {p q : Pos} (hK : X.K = c.K) (hcl : c.L.cls x C) (F : DLX.InitForm st x0 x1 x2 f1 f2) (S : DLX.InitC X.prog X.K st qual C fI f1 f2) (hc : X.calm = true) (tk : Takes X W) (hr : Room 2 X.A) (hm : X.mg x = some (.ref C)) (hsm : X.mg "super" = none)
    (hx : ((defArgs st).posonlyargs ++ (defArgs st).args).map (·.arg) = [x0, x1, x2]) (ha : PA X (e :: es) (tDA c W ga)) (hg : Gl X x := by rfl)
    (hdb : (x == ("__debug__" : Str)) = false := by decide) (he : starEach (e :: es) X.env = (false, eval e X.env) :: starEach es X.env := by rfl) (hpl : (backTo q (starEach es X.env)).any (·.1) = false := by rfl) :
    PS X (.Raise (some (.Call (.Name x p) (e :: es) [] q)) none pos) (tS c W (sRaise x f1 f2 ga)) :=
  ps_imp (ps_raise hc tk (DLX.pmk_sup F S hr hg hm hsm hx ha hdb he hpl)) fun D σ H ⟨O, ρ, φ, R, h⟩ => by
    refine ⟨O, ρ, φ, R, gs_a h fun ds φ1 vs H1 _ R1 s1 p1 h1 => ?_⟩
    split at h1
    · rename_i a b
      cases p1 with
      | cons q1 r1 =>
        cases r1 with
        | cons q2 r2 =>
          cases r2
          rename_i v1 v2
          refine ⟨v1, v2, rfl, fun d hd => ?_⟩
          have g := Gro.upd (o := .xd [(f2, v2), (f1, v1)]) hd
          obtain ⟨n1, n2, n3, n4⟩ := R1.fresh hd
          have gf : Gro (Fr c O H1) (Fr c O (upd H1 d (.xd [(f2, v2), (f1, v1)]))) := fr_gro g
          exact h1 O σ _ d _ (R1.gro g) ((s1.fr R.ok).trans gf) ⟨C, d, _, hcl, rfl, rfl, fr_of upd_same n1 n2 (fun _ z => by cases z), .cons (dq_gro gf q2) (.cons (dq_gro gf q1) .nil)⟩
    · exact h1.elim
theorem gs_noEx {W W' : WX'} {F0 : Hp} {D : Ends} {r : Res Fl} (h : GS c W F0 D (noEx r)) : GS c W' F0 D r := by
  cases r with
  | ok fl φ =>
    cases fl with
    | ex e ρ => exact h.elim
    | _ => exact h
  | err e φ => exact h
  | no => exact h
theorem qs_try {x : Str} {CS : Value} {body suite : List Stmt} {b0 : Stmt} {np pos' : Pos} {mb ms : MS} {p : Str → Bool} (hK : X.K = c.K) (hs : X.stack = X.env :: X.outer) (hf : X.env.frame = some X.env.locals) (hc : Names X x CS) (tk : Takes X W)
    (hx : ∀ nm a, c.L.cls nm a → PySem.W.exmOne X.K (.ref a) CS = some (p nm))
    (hb : ∀ (W : WX) (pn : List (Addr × Obj)) (xe : Value → Shared → Prop), Takes (X.tr pn xe) W → PassesOwn (model X.prog X.w) X.A X.env xe → PSs (X.tr pn xe) body (tS c W mb))
    (hsu : ∀ (a : Addr) (oe : Obj) (pn : List (Addr × Obj)), PSs (X.suite a ((a, oe) :: pn)) (b0 :: suite) (tS c W0 ms)) :
    PS X (.Try body [.ExceptHandler (some (.Name x np)) none (b0 :: suite) pos'] [] [] pos) (tS c W (sTry mb p ms)) :=
  ps_imp (L2.ps_try_only (ts := fun _ _ _ => tS c W0 ms) hs hf hc tk hb fun a oe cls d pn _ _ => hsu a oe pn) fun D σ H ⟨O, ρ, φ, R, h⟩ => by
    refine ⟨O, ρ, φ, R, ?_⟩
    unfold sTry at h
    revert h
    cases mb ρ φ with
    | ok fl φ' =>
      cases fl with
      | ex er ρ' =>
        intro h O' σ' C x' H' R' g q
        obtain ⟨a, d, fs, h1, rfl, rfl, h4, h5⟩ := id q
        refine ⟨p er.cls, hx _ _ h1, fun hp b hb => ?_, fun hp => ?_⟩
        · have h : GS c W (Fr c O H) D (if p er.cls = true then noEx (ms ρ' φ') else .ok (.ex er ρ') φ') := h
          rw [if_pos hp] at h
          refine ⟨O', ρ', φ', R', ?_⟩
          exact gs_noEx (h.gro g)
        · have h : GS c W (Fr c O H) D (if p er.cls = true then noEx (ms ρ' φ') else .ok (.ex er ρ') φ') := h
          rw [if_neg (by rw [hp]; exact Bool.false_ne_true)] at h
          exact h O' σ' _ _ H' R' g q
      | _ => exact fun h => h
    | err er φ' => exact fun h => h
    | no => exact fun h => h
end
end DL

set_option maxHeartbeats 2000000
/-! DL, part yd: a caught exception in hand: isinstance, its fields; xs.count(d); the def that gets it -/
namespace DL
open PySem PySem.Spec PyProof.Rows L2

/-- what the written part says of an exception's class -/
structure ExcK (K : PySem.W.Frag) (C : Addr) : Prop where
  hc : (PySem.W.clsIn K C).isSome = true
  ga : PySem.W.findIn K (.ref C) "__getattribute__" = some (some (.builtin "BaseException.__getattribute__"))
  gt : PySem.W.findIn K (.ref C) "__getattr__" = some none
  hs : PySem.W.subIn K (.ref C) (.type "BaseException") = some true
  hd : PySem.W.hasDictIn K C = true
  cl : PySem.W.findIn K (.ref C) "__class__" = some (some (.builtin "object.__class__"))
  hn : PySem.W.specialIn K (.builtin "object.__class__") "__get__" = some (some (.builtin "getset_descriptor.__get__"))
  ht : PySem.W.takesIn K (.builtin "object.__class__") = some true
  hm : PySem.W.mroIn K C (.type "object") = some true
/-- the exception at a stands pinned -/
structure InHand (X : Cx) (a C dd : Addr) (fs : List (Str × V)) (H : Hp) : Prop where
  ex : ∃ oe vs, (a, oe) ∈ X.pn ∧ Zc (.ref C) (some dd) oe ∧ oe.data = .fields vs
  k : ExcK X.K C
  d : H dd = some (.xd fs)
theorem InHand.inst {X : Cx} {pins : List (Addr × Obj)} {σ : L2.St} {H : Hp} {s : Shared} {a C dd : Addr} {fs : List (Str × V)} (h : InHand X a C dd fs H) (I : Inv X pins σ H s) : ∃ (ox od : Obj) (mA : Str → Option Value), PySem.W.InstAt s.heap a ox C (some od) ∧ (∀ n, PySem.W.lookIn n od = some (mA n)) ∧ ∀ n, RelO (fs.lookup n) (mA n) := by
  obtain ⟨oe, vs, hp, hz, hd⟩ := h.ex
  obtain ⟨ha, _⟩ := I.pin (a, oe) (List.mem_append_left _ hp)
  have hx : ObjOk X.prog X.w H s.heap dd (.xd fs) := I.hok dd _ h.d
  obtain ⟨mA, hns, hr⟩ := hx
  obtain ⟨od, ho, hl⟩ := lookIn_ns hns
  exact ⟨oe, od, mA, ⟨ha, hz.1, by unfold PySem.W.notCls; rw [hd] <;> rfl, by rw [hz.2]; exact ho⟩, hl, hr⟩
/-- isinstance(e, C) and isinstance(e, (C, D)) -/
def rIsX (X : Cx) : List V → Hp → VK → Prop := fun xs H Q => ∃ a C dd fs, InHand X a C dd fs H ∧
  ((∃ v u b, xs = [.ref a, v] ∧ ClsV v u ∧ PySem.W.kitOne X.K (.ref C) u = some b ∧ Q (.bl b) H) ∨
    ∃ tp cs us b, xs = [.ref a, .ref tp] ∧ H tp = some (.tup cs) ∧ Paired ClsV cs us ∧ PySem.W.kitAny X.K (.ref C) us = some b ∧ Q (.bl b) H)
theorem call_isX {X : Cx} : CallR X (.builtin "isinstance") (rIsX X) := by
  intro pins s σ H xs us Q I r ⟨a, C, dd, fs, hh, h⟩
  obtain ⟨ox, od, mA, J, _, _⟩ := hh.inst I
  have Z := PySem.W.kitx_exc (x := a) (ox := ox) (od := some od) hh.k.hc hh.k.ga hh.k.gt hh.k.hs hh.k.cl hh.k.hn hh.k.ht hh.k.hm
  rcases h with ⟨v, u, b, rfl, hv, e, q⟩ | ⟨tp, cs, ws, b, rfl, hT, k, e, q⟩
  · obtain ⟨u1, u2, rfl, r1, r2⟩ := vals2 r
    cases (show u1 = Value.ref a from r1)
    cases hv.eq r2
    exact PySem.W.kia_one Z I.kIn J e (fun z => nomatch z) fun tk => ⟨.bl b, H, I.tok tk, rfl, q⟩
  · obtain ⟨u1, u2, rfl, r1, r2⟩ := vals2 r
    cases (show u1 = Value.ref a from r1)
    cases (show u2 = Value.ref tp from r2)
    obtain ⟨_, its, rv, o, h1, h2, n, h3⟩ := (show ObjOk X.prog X.w H s.heap tp (.tup cs) from I.hok tp _ hT)
    have e3 := ClsV.all k rv
    subst e3
    obtain ⟨oc, od', dt, sl⟩ := o
    simp only at h2 h3
    subst h2 h3
    exact PySem.W.kia_tup Z I.kIn J h1 e (fun z => nomatch z) fun tk => ⟨.bl b, H, I.tok tk, rfl, q⟩
/-- e.f -/
def tFld (X : Cx) (f : Str) (te : TE) : TE := fun σ H Q => te σ H fun x H1 => ∃ a C dd fs v, x = .ref a ∧ InHand X a C dd fs H1 ∧ PySem.W.findIn X.K (.ref C) f = some none ∧ fs.lookup f = some v ∧ Q v H1
theorem pe_fld {X : Cx} {e : Expr} {te : TE} {pos : Pos} {n : Str} (he : PE X e te) (hb : attributeBase e n X.env (eval e X.env) = eval e X.env := by rfl) : PE X (.Attribute e n pos) (tFld X n te) := by
  refine ⟨fun pins s σ H Q I h => ?_⟩
  refine attr_of hb (thn (he.run pins s σ H _ I h) fun u s1 ⟨x, H1, I1, rx, a, C, dd, fs, v, ex, hh, hno, l, q⟩ => ?_)
  subst ex
  cases (show u = Value.ref a from rx)
  obtain ⟨ox, od, mA, J, hl, hr⟩ := hh.inst I1
  obtain ⟨u, hu, ru⟩ := RelO.some_of (v := v) (o := mA n) (by rw [← l]; exact hr n)
  exact HandSPX.exc_get I1.kIn J hh.k.ga hh.k.gt hh.k.hs (PySem.W.findObj_own hh.k.hd hno rfl (by rw [hl, hu])) (handed_of ru) ⟨v, H1, I1.tok _, ru, q⟩
/-- the context knows where the exception of c lies -/
def HotX (X : Cx) (c : Cn) : Prop := ∀ a C d, c.xa = some (a, C, d) → ∃ oe vs, (a, oe) ∈ X.pn ∧ Zc C d oe ∧ oe.data = .fields vs
theorem in_hand {X : Cx} {c : Cn} {O : Nat → Option Addr} {H : Hp} {v : Option (Option V)} {i : Nat} {e : Er} (hK : X.K = c.K) (hot : HotX X c) (hk : ∀ nm a, c.L.cls nm a → ExcK X.K a) (h : SlotOk c O H i v (.exc e)) :
    ∃ a C dd fs, v = some (some (.ref a)) ∧ c.L.cls e.cls C ∧ InHand X a C dd fs H ∧ Flds c.K (Fr c O H) fs e.fields := by
  obtain ⟨a, C, d, h1, h2, C', dd, fs, h3, h4, h5, h6, h7⟩ := h
  subst h4 h5
  exact ⟨a, C', dd, fs, h2, h3, ⟨hot _ _ _ h1, hk _ _ h3, fr_in _ _ h6⟩, h7⟩
theorem flds_look {K : PySem.W.Frag} {F : Hp} {f : Str} {d : Dt} : ∀ {fs : List (Str × V)} {ds : List (Str × Dt)}, Flds K F fs ds → ds.lookup f = some d → ∃ v, fs.lookup f = some v ∧ Dq K F v d
  | _, _, .nil, h => by cases h
  | _, _, .cons (f := g) h t, e => by
    by_cases hg : f = g
    · subst hg
      simp only [List.lookup, beq_self_eq_true] at e ⊢
      cases e
      exact ⟨_, rfl, h⟩
    · have hb : (f == g) = false := by simpa using hg
      simp only [List.lookup, hb] at e ⊢
      exact flds_look t e
section
variable {X : Cx} {c : Cn} {W : WX'} {pos : Pos} {a b e : Expr} {f f1 f2 : ME}
def mIsE (i : Nat) (p : Str → Bool) : ME := fun ρ φ => match ρ[i]? with
  | some (.exc e) => .ok (.bool (p e.cls)) φ
  | _ => .no
def mXf (i : Nat) (f : Str) : ME := fun ρ φ => match ρ[i]? with
  | some (.exc e) => opt (e.fields.lookup f) φ
  | _ => .no
theorem qe_isE {i : Nat} {x y : Str} {v : V} {u : Value} {p p1 p2 : Pos} {q : Str → Bool} (hK : X.K = c.K) (hot : HotX X c) (hk : ∀ nm a, c.L.cls nm a → ExcK X.K a) (hm : X.mg "isinstance" = none) (hy : PE X (.Name y p2) (tC v)) (hv : ClsV v u)
    (hq : ∀ nm a, c.L.cls nm a → PySem.W.kitOne X.K (.ref a) u = some (q nm)) (hN : X.N[i]? = some x := by rfl) (hx : Vis X.env.scope x := by first | exact Or.inl rfl | exact Or.inr (Or.inl rfl) | exact Or.inr (Or.inr rfl))
    (hd : (x == ("__debug__" : Str)) = false := by decide) (hcd : (x == ("__classdict__" : Str)) = false := by decide) (hg : Gl X "isinstance" := by rfl)
    (he : starEach [.Name x p1, .Name y p2] X.env = (false, eval (.Name x p1) X.env) :: starEach [.Name y p2] X.env := by rfl) (hpl : (backTo pos (starEach [.Name y p2] X.env)).any (·.1) = false := by rfl)
    (hs2 : starEach [.Name y p2] X.env = (false, eval (.Name y p2) X.env) :: starEach [] X.env := by rfl) :
    PE X (.Call (.Name "isinstance" p) [.Name x p1, .Name y p2] [] pos) (tD c W (mIsE i q)) :=
  pe_imp (pe_callB call_isX hg hm (by decide +kernel) (pa_cons (pe_var hN hx hd hcd) (pa_cons hy pa_nil hs2) he) (by decide) (by decide) he hpl) fun σ H Q ⟨O, ρ, φ, R, h⟩ => by
    unfold mIsE at h
    split at h
    · rename_i er e0
      obtain ⟨a, C, dd, fs, h1, h2, h3, _⟩ := in_hand hK hot hk (R.slot i _ e0)
      exact ⟨_, h1, a, C, dd, fs, h3, .inl ⟨v, u, q er.cls, rfl, hv, hq _ _ h2, h _ H R (.refl _) (.bl _)⟩⟩
    · exact h.elim
theorem qe_isE2 {i : Nat} {x y y' : Str} {v v' : V} {u u' : Value} {p p1 p2 p3 pt : Pos} {k : Nat} {q : Str → Bool} (hK : X.K = c.K) (hot : HotX X c) (hk : ∀ nm a, c.L.cls nm a → ExcK X.K a) (hm : X.mg "isinstance" = none) (hy : PE X (.Name y p2) (tC v)) (hv : ClsV v u) (hy' : PE X (.Name y' p3) (tC v')) (hv' : ClsV v' u')
    (hq : ∀ nm a, c.L.cls nm a → PySem.W.kitAny X.K (.ref a) [u, u'] = some (q nm)) (hN : X.N[i]? = some x := by rfl) (hx : Vis X.env.scope x := by first | exact Or.inl rfl | exact Or.inr (Or.inl rfl) | exact Or.inr (Or.inr rfl))
    (hd : (x == ("__debug__" : Str)) = false := by decide) (hcd : (x == ("__classdict__" : Str)) = false := by decide) (hg : Gl X "isinstance" := by rfl)
    (he : starEach [.Name x p1, .Tuple [.Name y p2, .Name y' p3] k pt] X.env = (false, eval (.Name x p1) X.env) :: starEach [.Tuple [.Name y p2, .Name y' p3] k pt] X.env := by rfl) (hpl : (backTo pos (starEach [.Tuple [.Name y p2, .Name y' p3] k pt] X.env)).any (·.1) = false := by rfl)
    (hs2 : starEach [.Tuple [.Name y p2, .Name y' p3] k pt] X.env = (false, eval (.Tuple [.Name y p2, .Name y' p3] k pt) X.env) :: starEach [] X.env := by rfl)
    (hs3 : starEach [.Name y p2, .Name y' p3] X.env = (false, eval (.Name y p2) X.env) :: starEach [.Name y' p3] X.env := by rfl) (hs4 : starEach [.Name y' p3] X.env = (false, eval (.Name y' p3) X.env) :: starEach [] X.env := by rfl) :
    PE X (.Call (.Name "isinstance" p) [.Name x p1, .Tuple [.Name y p2, .Name y' p3] k pt] [] pos) (tD c W (mIsE i q)) :=
  pe_imp (pe_callB call_isX hg hm (by decide +kernel) (pa_cons (pe_var hN hx hd hcd) (pa_cons (pe_tup (pa_cons hy (pa_cons hy' pa_nil hs4) hs3)) pa_nil hs2) he) (by decide) (by decide) he hpl) fun σ H Q ⟨O, ρ, φ, R, h⟩ => by
    unfold mIsE at h
    split at h
    · rename_i er e0
      obtain ⟨a, C, dd, fs, h1, h2, h3, _⟩ := in_hand hK hot hk (R.slot i _ e0)
      refine ⟨_, h1, show 2 ≤ sizeLine by decide, fun t ht => ?_⟩
      have g := Gro.upd (o := .tup [v, v']) ht
      exact ⟨a, C, dd, fs, ⟨h3.ex, h3.k, g _ _ h3.d⟩, .inr ⟨t, [v, v'], [u, u'], q er.cls, rfl, upd_same, .cons hv (.cons hv' .nil), hq _ _ h2, h _ _ (R.gro g) (.of g) (.bl _)⟩⟩
    · exact h.elim
theorem qe_xf {i : Nat} {x f : Str} {p1 : Pos} (hK : X.K = c.K) (hot : HotX X c) (hk : ∀ nm a, c.L.cls nm a → ExcK X.K a) (hno : ∀ nm a, c.L.cls nm a → PySem.W.findIn X.K (.ref a) f = some none) (hN : X.N[i]? = some x := by rfl) (hx : Vis X.env.scope x := by first | exact Or.inl rfl | exact Or.inr (Or.inl rfl) | exact Or.inr (Or.inr rfl))
    (hd : (x == ("__debug__" : Str)) = false := by decide) (hcd : (x == ("__classdict__" : Str)) = false := by decide) (hb : attributeBase (.Name x p1) f X.env (eval (.Name x p1) X.env) = eval (.Name x p1) X.env := by rfl) :
    PE X (.Attribute (.Name x p1) f pos) (tD c W (mXf i f)) :=
  pe_imp (pe_fld (pe_var hN hx hd hcd) hb) fun σ H Q ⟨O, ρ, φ, R, h⟩ => by
    unfold mXf at h
    split at h
    · rename_i er e0
      obtain ⟨a, C, dd, fs, h1, h2, h3, h4⟩ := in_hand hK hot hk (R.slot i _ e0)
      cases el : er.fields.lookup f with
      | none => rw [el] at h; exact h.elim
      | some d =>
        rw [el] at h
        obtain ⟨v, e1, e2⟩ := flds_look h4 el
        exact ⟨_, h1, a, C, dd, fs, v, rfl, h3, hno _ _ h2, e1, h v H R (.refl _) e2⟩
    · exact h.elim
/-! xs.count(d) -/
def countD (x d : Dt) : Option Dt := match x with
  | .list xs => if PyData.plainAll xs = true ∧ d.plain = true ∧ d.depth ≤ 64 then some (.int ((xs.countP fun y => PyData.eqv y d : Nat) : Int)) else none
  | _ => none
def rCntD (K : PySem.W.Frag) : V → List V → Hp → VK → Prop := fun x ws H Q => ∃ p v vs xs d, x = .ref p ∧ ws = [v] ∧ SqL K H p vs ∧ DpAll K H vs xs ∧ Dp K H v d ∧ PyData.plainAll xs = true ∧ d.plain = true ∧ d.depth ≤ 64 ∧ Q (.int ((xs.countP fun y => PyData.eqv y d : Nat) : Int)) H
theorem mt_cntD (hu : X.A.units + 66 < cLine) : MtR X "list.count" (rCntD X.K) := by
  intro pins s σ H x ws u us Q I rx rv h
  obtain ⟨p, v, vs, xs, d, rfl, rfl, h0, h1, h2, h3, h4, h5, q⟩ := h
  cases rx
  obtain ⟨w, rfl, rw⟩ := rv.one
  obtain ⟨its, rvs, hl, _⟩ := I.list h0
  obtain ⟨as, ra⟩ := Dp.readsAll I xs vs its h1 rvs
  obtain ⟨bs, rb⟩ := Dp.reads I d v w h2 rw
  exact SeqAt.count_list_data hl.isList (by simpa using ra) rb h3 h4 (by have := Nat.min_le_right (PyData.depthAll xs) d.depth; omega) ⟨.int _, H, I.tok _, ⟨_, rfl⟩, q⟩
def mCount (f1 f2 : ME) : ME := fun ρ φ => (f1 ρ φ).bind fun x φ1 => match x with
  | .list xs => (f2 ρ φ1).bind fun y φ2 => opt (countD (.list xs) y) φ2
  | _ => .no
theorem qe_count {o : Expr} {ap : Pos} (hK : X.K = c.K) (hu : X.A.units + 66 < cLine) (ho : PE X o (tD c W f1)) (hb : PE X b (tD c W f2)) (hbase : attributeBase o "count" X.env (eval o X.env) = eval o X.env := by rfl)
    (hfew : ((backTo pos (starEach [b] X.env)).all (fun x => !x.1) && (backToKw pos (keywordEach [] X.env)).all (fun x => x.1.isSome) && decide ([b].length + ([] : List Keyword).length + (if ([] : List Keyword).isEmpty then 0 else 1) < 30)) = true := by rfl)
    (hline : (ap.endLine == pos.line) = true := by rfl) (hs : starEach [b] X.env = (false, eval b X.env) :: starEach [] X.env := by rfl) (hplain : (backTo pos (starEach [] X.env)).any (·.1) = false := by rfl) :
    PE X (.Call (.Attribute o "count" ap) [b] [] pos) (tD c W (mCount f1 f2)) :=
  pe_imp (pe_bm PySem.F.plainAttrs_list PySem.F.slot_list_count PySem.F.type_list_count (mt_cntD hu) ho (pa_cons hb pa_nil hs) hbase hfew hline hs hplain) fun σ H Q ⟨O, ρ, φ, R, h⟩ =>
    ⟨O, ρ, φ, R, ge_bind h fun x φ1 v H1 _ R1 s1 p1 h1 => by
      cases p1 with
      | @lst a vs xs g r =>
        refine ⟨.inl ⟨rfl, _, SqL.of (fr_in _ _ g)⟩, O, ρ, φ1, R1, ge_bind (show GE c W O σ ρ H1 Q ((f2 ρ φ1).bind fun y φ2 => opt (countD (.list xs) y) φ2) from h1) fun y φ2 u H2 _ R2 s2 p2 h2 => ?_⟩
        have h3 : GE c W O σ ρ H2 Q (opt (if PyData.plainAll xs = true ∧ y.plain = true ∧ y.depth ≤ 64 then some (.int ((xs.countP fun z => PyData.eqv z y : Nat) : Int)) else none) φ2) := h2
        by_cases hz : PyData.plainAll xs = true ∧ y.plain = true ∧ y.depth ≤ 64
        · rw [if_pos hz] at h3
          have gr := s2.fr R1.ok (O := O)
          rw [hK]
          exact ⟨a, u, vs, xs, y, rfl, rfl, SqL.of (fr_in _ _ (gr _ _ g)), (dqA_gro fr_in (dqA_gro gr r)).dp, (dq_gro fr_in p2).dp, hz.1, hz.2.1, hz.2.2, h3 _ H2 R2 (.refl _) (.int _)⟩
        · rw [if_neg hz] at h3
          exact h3.elim
      | _ => exact h1.elim⟩
end
end DL

set_option maxHeartbeats 2000000
/-! DL, part ye: a def that is handed the exception that is handled -/
namespace DL
open PySem PySem.Spec PyProof.Rows L2

/-- its promise: m, of the error -/
structure FnE (P : Program) (w : World) (L : Lw) (mg : Str → Option Value) (base : Heap) (k : Nat) (f : Addr) (fd : FuncData) (x : Str) (m : Er → Fd → Res Dt) : Prop where
  run : ∀ (A : Around) (outer : List Env) (s : Shared) (H : Hp) (args : Args) (a : Addr) (oe : Obj) (vs : Array Value) (C : Value) (d : Option Addr) (Q : VK) (c : Cn) (φ : Fd) (e : Er),
    A.guards = some [] → L2H.RoomH k A → oe.data = .fields vs → Zc C d oe → L2H.PinOk outer H s (a, oe) → Env0 P w L.K mg base A outer s H → BindsTo s fd args [(x, .ref a)] →
    c.L = L → c.Ok → c.H0 = Hn H → LamX.Tabs c.L.T H → H c.fa = some (.dK (fkv c φ)) → H c.ca = some (.lst (φ.cells.map V.int)) → c.xa = some (a, C, d) → c.er e C d (Fr c nO H) → GF c H Q (fun _ _ _ => False) (m e φ) →
    codeAny (model P w) A (.call (.ref f) args) (CR (L2.CX P w) outer P w H s Q (fun _ _ _ => False)) s
def mFnE (N : Nat) (body : MS) (e : Er) (φ : Fd) : Res Dt := match body (.exc e :: List.replicate (N - 1) .un) φ with
  | .ok (.rt d) φ' => .ok d φ'
  | .ok (.nx _) φ' => .ok .none φ'
  | _ => .no
theorem start_relE {c : Cn} {H : Hp} {φ : Fd} {N : List Str} {a : Addr} {C : Value} {d : Option Addr} {e : Er} (ok : c.Ok) (h0 : c.H0 = Hn H) (tb : LamX.Tabs c.L.T H) (hf : H c.fa = some (.dK (fkv c φ))) (hc : H c.ca = some (.lst (φ.cells.map V.int)))
    (hx : c.xa = some (a, C, d)) (he : c.er e C d (Fr c nO H)) (hN : 1 ≤ N.length) : Rel c nO H (L2.start N [.ref a]) (.exc e :: List.replicate (N.length - 1) .un) φ := by
  refine ⟨ok, fun i s e' => ?_, ?_, fun _ _ _ h => (nomatch h), ⟨0, fun _ _ => rfl⟩, fun _ _ h => (nomatch h), hf, hc, fun b o h _ => h0 ▸ h, tb⟩
  · cases i with
    | zero =>
      cases e'
      exact ⟨a, C, d, hx, rfl, he⟩
    | succ i =>
      have e2 : (List.replicate (N.length - 1) Sl.un)[i]? = some s := e'
      rw [List.getElem?_replicate] at e2
      split at e2
      · cases e2
        trivial
      · cases e2
  · unfold L2.start
    simp only [List.length_append, List.length_map, List.length_replicate, List.length_cons, List.length_nil]
    omega
/-- the context of its body -/
abbrev eX (P : Program) (w : World) (L : Lw) (mg : Str → Option Value) (base : Heap) (N : List Str) (qual : Str) (st : Stmt) (f0 : Addr) (cdv : Value) (A : Around) (outer : List Env) (s : Shared) (H : Hp) (p : Addr × Obj) : Cx :=
  L2H.cxH (L2.CX P w) P w L.K mg base N qual (defScope st) f0 cdv A outer s H (fun _ _ _ => False) p
theorem def_okE {P : Program} {w : World} {L : Lw} {mg : Str → Option Value} {base : Heap} {k : Nat} {f0 : Addr} {x qual : Str} {st : Stmt} {fd : FuncData} {N : List Str} {px : Str} {body : MS}
    (F : Fun L.K x qual st f0 fd) (S : FnScope N [px] (defScope st)) (hN : 1 ≤ N.length)
    (walk : ∀ (c : Cn), c.L = L → ∀ (cdv : Value) (A : Around) (outer : List Env) (s : Shared) (H : Hp) (p : Addr × Obj), HotX (eX P w L mg base N qual st f0 cdv A outer s H p) c → (eX P w L mg base N qual st f0 cdv A outer s H p).A.guards = some [] →
      L2H.RoomH k (eX P w L mg base N qual st f0 cdv A outer s H p).A → PSs (eX P w L mg base N qual st f0 cdv A outer s H p) (defBody st) (tS c W0 body)) :
    FnE P w L mg base (k + 1) f0 fd px (mFnE N.length body) := by
  obtain ⟨oc, od, kV, doc, pm, an, cdv, ct, osl, rfl, lk, hcd⟩ := F.ex
  refine ⟨fun A outer s H args a oe vs C d Q c φ e gd room hv hz hpin e0 bnd hL ok h0 tb hf hc hx he G => ?_⟩
  have kin : L.K.In s.heap := e0.mod.kin.keeps (fun b o e => (e0.bs b o e).1)
  have nl : s.heap.NoLimit := e0.mod.nolimit.keeps (fun b o e => (e0.bs b o e).1)
  have kinds : ∀ y ∈ [px].zip [Value.ref a], (defScope st).names.lookup y.1 = some .local ∨
      ((defScope st).names.lookup y.1 = some .cell ∧ ((cellsFrom (s.heap.objs.size + 1) (defScope st).names []).lookup y.1).isSome = true) := by
    rintro ⟨n, v⟩ hy
    rcases S.par n (List.of_mem_zip hy).1 with q | q
    · exact Or.inl q
    · exact Or.inr ⟨q, PySem.W.cellsFrom_some _ _ _ (Or.inl q)⟩
  refine codeAny_call_function room.depth (kin _ _ lk) rfl S.co S.gen rfl (PySem.W.codeRec_of kin hcd) (bnd _ _ _ _ ?_)
  refine wpAny_newFunctionEnv_cells S.kind kinds fun env he' s1 into => ?_
  subst he'
  refine ⟨nl.keeps into.toInCall.keep, codeAny_func ?_⟩
  have hot : HotX (eX P w L mg base N qual st f0 cdv A outer s H (a, oe)) c := fun a' C' d' h => by
    rw [hx] at h
    cases h
    exact ⟨oe, vs, List.mem_cons_self, hz, hv⟩
  have W1 := walk c hL cdv A outer s H (a, oe) hot gd (room.deeper _)
  have I : Inv (eX P w L mg base N qual st f0 cdv A outer s H (a, oe)) [] (L2.start N [.ref a]) H s1 :=
    L2H.inv_startH S hpin e0 rfl (Paired.cons rfl .nil) into
  have R := start_relE (N := N) ok h0 tb hf hc hx he hN
  have ent : ∀ {O' : Nat → Option Addr} {σ' : L2.St} {ρ' : Rho} {φ' : Fd} {H' : Hp}, Rel c O' H' σ' ρ' φ' → Step c H H' := fun R => ⟨fun b o h n => R.entry b o (h0.symm ▸ h) n, fun _ => R.tabs⟩
  have fr : ∀ {O' : Nat → Option Addr} {H' : Hp}, Gro (Fr c O' H') (Fr c nO H') := fun b o h => let ⟨h1, h2, _⟩ := fr_some h; fr_of h1 h2 fun _ z => nomatch z
  have go : tS c W0 body { nx := fun _ H' => Q .non H', rt := Q } (L2.start N [.ref a]) H := by
    refine ⟨nO, _, φ, R, ?_⟩
    unfold mFnE at G
    revert G
    cases body (.exc e :: List.replicate (N.length - 1) .un) φ with
    | ok fl φ' =>
      cases fl with
      | rt d => exact fun G O' σ' ρ' v H' R q => G v H' (ent R) R.feed R.cells (dq_gro fr q)
      | nx ρ' => exact fun G O' σ' H' R _ => G _ H' (ent R) R.feed R.cells .non
      | ex e ρ' => exact fun G => G.elim
      | bk ρ' => exact fun G => G.elim
      | ct ρ' => exact fun G => G.elim
    | err e φ' => exact fun G => G.elim
    | no => exact fun G => G.elim
  refine wpAny_mono (W1.run [] s1 (L2.start N [.ref a]) H _ I go) (fun fl s' last => ?_) fun _ _ h => h
  match fl, last with
  | .ret u, ⟨v, σ', H', J, rv, q⟩ => exact ⟨v, H', J.os, J.bare, J.base, J.hok, rv, q⟩
  | .next, ⟨σ', H', J, q⟩ => exact ⟨V.non, H', J.os, J.bare, J.base, J.hok, rfl, q⟩
  | .brk, ⟨_, _, _, q⟩ => exact q.elim
  | .cont, ⟨_, _, _, q⟩ => exact q.elim
end DL

set_option maxHeartbeats 2000000
/-! DL, part yf: a lambda handed to a def that hears it: try: return (word, ask()) except X as e: return judge(e) -/
namespace DL
open PySem PySem.Spec PyProof.Rows L2 LamX

section
variable {X : Cx}
theorem no_way {P : Program} {w : World} {outer : List Env} {H : Hp} {s s' : Shared} {e : Value} (h : L2.CX P w outer H s (fun _ _ _ => False) e s') : False := by
  obtain ⟨_, _, _, _, _, _, _, _, _, _, _, _, z⟩ := h
  exact z
/-- judge(e), e the exception at a -/
def tJudge (L : Lw) (a : Addr) (C : Value) (d : Option Addr) (m : Er → Fd → Res Dt) (te : TE) : TE := fun σ H Q => te σ H fun v H1 => v = .ref a ∧ ∃ (c : Cn) (φ : Fd) (er : Er), c.L = L ∧ c.Ok ∧ c.H0 = Hn H1 ∧ LamX.Tabs c.L.T H1 ∧
  H1 c.fa = some (.dK (fkv c φ)) ∧ H1 c.ca = some (.lst (φ.cells.map V.int)) ∧ c.xa = some (a, C, d) ∧ c.er er C d (Fr c nO H1) ∧ GF c H1 Q (fun _ _ _ => False) (m er φ)
theorem pe_judge {L : Lw} {k : Nat} {f : Addr} {fd : FuncData} {px x : Str} {m : Er → Fd → Res Dt} {a : Addr} {oe : Obj} {vs : Array Value} {C : Value} {d : Option Addr} {e : Expr} {te : TE} {p pos : Pos} (F : FnE X.prog X.w L X.mg X.base k f fd px m) (hK : X.K = L.K) (gd : X.A.guards = some []) (hr : L2H.RoomH k X.A)
    (hp : (a, oe) ∈ X.pn) (hz : Zc C d oe) (hv : oe.data = .fields vs) (hm : X.mg x = some (.ref f)) (hk : PySem.W.keepIn X.K (.ref f) = true) (hb : Binds X.K fd [px] []) (he : PE X e te) (hg : Gl X x) (hdb : (x == ("__debug__" : Str)) = false)
    (hs : starEach [e] X.env = (false, eval e X.env) :: starEach [] X.env := by rfl) (hpl : (backTo pos (starEach [] X.env)).any (·.1) = false := by rfl) :
    PE X (.Call (.Name x p) [e] [] pos) (tJudge L a C d m te) := by
  refine ⟨fun pins s σ H Q I h => wpAny_Call_Name_kw (ld_glob I hg hm ?_ hdb)⟩
  refine PySem.W.callWith_K (h₀ := X.base) I.ok.mod.kin hk (thn ((pa_cons he pa_nil hs).run pos pins s σ H (fun ws H1 => match ws with
    | [v] => v = .ref a ∧ ∃ (c : Cn) (φ : Fd) (er : Er), c.L = L ∧ c.Ok ∧ c.H0 = Hn H1 ∧ LamX.Tabs c.L.T H1 ∧ H1 c.fa = some (.dK (fkv c φ)) ∧ H1 c.ca = some (.lst (φ.cells.map V.int)) ∧ c.xa = some (a, C, d) ∧ c.er er C d (Fr c nO H1) ∧ GF c H1 Q (fun _ _ _ => False) (m er φ)
    | _ => False) I h) fun us s1 ⟨ws, H1, I1, r, q⟩ => ⟨I1.kIn, ?_⟩) hs hpl
  cases r with
  | nil => exact q.elim
  | cons r1 rr =>
  cases rr with
  | cons _ _ => exact q.elim
  | nil =>
    obtain ⟨rfl, c, φ, er, hL, ok, h0, tb, hf, hc, hx, hE, G⟩ := q
    cases r1
    have P1 := I1.pin (a, oe) (List.mem_append_left _ hp)
    have hpin : L2H.PinOk X.stack H1 s1 (a, oe) := ⟨P1.1, P1.2.1, fun hm => (List.mem_cons.mp (I1.stkSub a hm)).elim P1.2.2.1 P1.2.2.2.1, P1.2.2.2.2⟩
    have b := hb s1 [.ref a] I1.kIn rfl
    refine wpAny_call (codeAny_mono (F.run X.A X.stack s1 H1 ⟨[.ref a], []⟩ a oe vs C d Q c φ er gd hr hv hz hpin (hK ▸ I1.env0) b hL ok h0 tb hf hc hx hE G) fun r s' hq => ?_)
    cases r with
    | error e => exact (no_way hq).elim
    | ok fl =>
      cases fl with
      | ret u => exact I1.after hq
      | next => exact False.elim hq
      | brk => exact False.elim hq
      | cont => exact False.elim hq
/-- what the judge is to be asked for, behind an exception of the class C -/
def Judged (L : Lw) (m : Er → Fd → Res Dt) (a : Addr) (C : Value) (d : Option Addr) (H : Hp) (Q : VK) : Prop := ∃ (c : Cn) (φ : Fd) (er : Er), c.L = L ∧ c.Ok ∧ c.H0 = Hn H ∧ LamX.Tabs c.L.T H ∧
  H c.fa = some (.dK (fkv c φ)) ∧ H c.ca = some (.lst (φ.cells.map V.int)) ∧ c.xa = some (a, C, d) ∧ c.er er C d (Fr c nO H) ∧ GF c H Q (fun _ _ _ => False) (m er φ)
/-- what hearing makes of the lambda's reading -/
def THear (L : Lw) (CS : Addr) (m : Er → Fd → Res Dt) (word : Str) : (XK → Hp → VK → Prop) → Hp → VK → Prop := fun tl H Q =>
  tl (fun cls d H' => PySem.W.exmOne L.K cls (.ref CS) = some true ∧ ∀ a, H' a = none → Judged L m a cls d H' Q) H (fun v H' => 2 ≤ sizeLine ∧ ∀ T, H' T = none → Q (.ref T) (upd H' T (.tup [.str word, v])))
theorem heard_gives {L : Lw} {Ng : List Str} {x a en er pe q word : Str} {sg : Scope} {g CS fJ : Addr} {cdg : Value} {k j kt : Nat} {fdJ : FuncData} {px : Str} {m : Er → Fd → Res Dt} {p0 p1 p2 p3 p4 p5 p6 p7 p8 p9 p10 pt : Pos} (gd : X.A.guards = some []) (hr : Room (k + 1) X.A) (hK : X.K = L.K)
    (hNd : Ng.Nodup) (hN1 : Ng[1]? = some en) (hln : sg.names.lookup en = some .local) (hgp : sg.names.lookup pe = some .globalImplicit) (hmp : X.mg pe = some (.ref CS)) (hdp : (pe == ("__debug__" : Str)) = false)
    (F : FnE X.prog X.w L X.mg X.base k fJ fdJ px m) (hmJ : X.mg er = some (.ref fJ)) (hkJ : PySem.W.keepIn X.K (.ref fJ) = true) (hbJ : Binds X.K fdJ [px] []) (hgJ : sg.names.lookup er = some .globalImplicit) (hdJ : (er == ("__debug__" : Str)) = false)
    (hde : (en == ("__debug__" : Str)) = false) (hce : (en == ("__classdict__" : Str)) = false) (h0 : ∀ f : Addr, (L2.start Ng [V.ref f])[0]? = some (some (V.ref f))) :
    GivesTo X Ng x sg g cdg [.Try [.Return (some (.Tuple [.Constant (.str word) j p0, .Call (.Name a p1) [] [] p2] kt pt)) p3] [.ExceptHandler (some (.Name pe p4)) (some en) [.Return (some (.Call (.Name er p5) [.Name en p6] [] p7)) p8] p9] [] [] p10] a q (THear L CS m word) := by
  intro f c' s H Q tl act hc h
  have hgl : Gl (cxOf C8.CX0 X.prog X.w X.K X.mg X.base Ng x sg g cdg X.A X.stack s H C8.E0).nox pe := hgp
  have hgj : ∀ (a0 : Addr) (pn : List (Addr × Obj)), Gl ((cxOf C8.CX0 X.prog X.w X.K X.mg X.base Ng x sg g cdg X.A X.stack s H C8.E0).nox.suite a0 pn) er := fun _ _ => hgJ
  have lenN : 1 < Ng.length := (List.getElem?_eq_some_iff.mp hN1).1
  refine ⟨_, pss_one (ps_try_as (X := (cxOf C8.CX0 X.prog X.w X.K X.mg X.base Ng x sg g cdg X.A X.stack s H C8.E0).nox) (c := .ref CS) (i := 1) (n := en)
      (tb := fun W D σ H => ∃ Ech : XK, (∀ cls d σ' H', Ech cls d H' → W cls d σ' H') ∧ σ[0]? = some (some (.ref f)) ∧ H c' = some (CodeO c' q) ∧ tl Ech H (fun v H' => 2 ≤ sizeLine ∧ ∀ T, H' T = none → D.rt (.ref T) (upd H' T (.tup [.str word, v]))))
      (ts := fun a0 cls d D σ H => (1 < σ.length → σ[1]? = some (some (.ref a0))) ∧ Judged L m a0 cls d H D.rt)
      rfl rfl hNd hN1 hln ⟨hgl, hdp, .inl hmp⟩ takes0 (fun W pn xe tk _ => ?_) (fun a0 oe cls d pn hz hf => ?_)), ?_⟩
  · refine ⟨fun pins s' σ H' D I h' => ?_⟩
    obtain ⟨Ech, hW, h1, h2, h3⟩ := h'
    have hp := act W pn xe Ech p1 p2 tk hW
    have hq := pss_one (ps_ret (pos := p3) (pe_tup (x1 := kt) (pos := pt) (pa_cons (e := .Constant (.str word) j p0) pe_str (pa_cons hp pa_nil))))
    exact hq.run pins s' σ H' D I ⟨h1, h2, h3⟩
  · obtain ⟨vs, hv⟩ := hf
    refine ⟨fun pins s' σ H' D I h' => ?_⟩
    obtain ⟨h1, h2⟩ := h'
    have hl : 1 < σ.length := by rw [I.len]; exact lenN
    have hj := pe_judge (X := (cxOf C8.CX0 X.prog X.w X.K X.mg X.base Ng x sg g cdg X.A X.stack s H C8.E0).nox.suite a0 ((a0, oe) :: pn)) (L := L) (a := a0) (oe := oe) (C := cls) (d := d) (p := p5) (pos := p7) F hK gd ⟨(hr.deeper (envOfC x sg s.heap.objs.size g cdg)).dp, (hr.deeper (envOfC x sg s.heap.objs.size g cdg)).un⟩ List.mem_cons_self hz hv hmJ hkJ hbJ (pe_var (i := 1) (pos := p6) hN1 (.inl hln) hde hce) (hgj _ _) hdJ
    exact (pss_one (ps_ret (pos := p8) hj)).run pins s' σ H' D I ⟨_, h1 hl, rfl, h2⟩
  · refine ⟨fun cls d H' => PySem.W.exmOne L.K cls (.ref CS) = some true ∧ ∀ a, H' a = none → Judged L m a cls d H' Q, fun cls d σ' H' ⟨e1, e2⟩ => ⟨true, hK ▸ e1, fun _ a ha => ⟨fun hl => ?_, e2 a ha⟩, fun hb => nomatch hb⟩, h0 f, hc, h⟩
    exact List.getElem?_set_self (by simpa using hl)
end
end DL

set_option maxHeartbeats 2000000
/-! DL, part yg: the lambda, called where no repr is under way; the whole as one expression of data -/
namespace DL
open PySem PySem.Spec PyProof.Rows L2 LamX

section
variable {X : Cx} {pins : List (Addr × Obj)} {σ : L2.St} {H : Hp} {s : Shared}
/-- a() in the def that got the lambda -/
theorem act_G {Ng : List Str} {qg : Str} {sg : Scope} {g f c' : Addr} {cdg pm ctv : Value} {params : Arguments} {body : Expr} {scope : Scope} {k : Nat} {a : Str} {pn : List (Addr × Obj)} {xe : Value → Shared → Prop} {W : L2.WX} {E : XK} {tb : TE} {p1 p2 : Pos} {Q0 : VK}
    (I : Inv X pins σ H s) (Lm : LamS X.env.scope scope) (gd : X.A.guards = some []) (at0 : s.heap.get? f = some (PySem.W.kla_obj "<lambda>" (X.env.qual ++ "<lambda>") params body scope (cloFrom X.env.cells scope.names []) pm c' ctv)) (new0 : H f = none) (off0 : f ∉ frs X.stack)
    (bind : bindArgs (PySem.W.kla_fn "<lambda>" (X.env.qual ++ "<lambda>") params body scope (cloFrom X.env.cells scope.names []) pm (.ref c') ctv) ⟨[], []⟩ = pure [])
    (tk : Takes ((cxOf C8.CX0 X.prog X.w X.K X.mg X.base Ng qg sg g cdg X.A X.stack s H C8.E0).tr pn xe) W) (sub : ∀ cls d σ' H', E cls d H' → W cls d σ' H') (room : Room (k + 1) (X.A.deeper (envOfC qg sg s.heap.objs.size g cdg)))
    (read : ∀ (A : Around) (outer : List Env) (s : Shared) (H : Hp), A.guards = some [] → Room k (A.deeper (lamEnv X scope s.heap.objs.size f c')) → PE (lamCx X A outer s H E scope f c') body tb)
    (hN : Ng[0]? = some a) (hv : Vis sg a) (hd : (a == ("__debug__" : Str)) = false := by decide) (hcd : (a == ("__classdict__" : Str)) = false := by decide) :
    PE ((cxOf C8.CX0 X.prog X.w X.K X.mg X.base Ng qg sg g cdg X.A X.stack s H C8.E0).tr pn xe) (.Call (.Name a p1) [] [] p2)
      (fun σZ HZ Q => σZ[0]? = some (some (.ref f)) ∧ HZ c' = some (CodeO c' (X.env.qual ++ "<lambda>")) ∧ tb σ HZ Q) := by
  refine ⟨fun pz z σz Hz Q J ⟨j1, j2, j3⟩ => ?_⟩
  refine wpAny_Call_Name_kw (thn ((pe_var (pos := p1) (i := 0) hN hv hd hcd).run pz z σz Hz (fun v H1 => v = .ref f ∧ H1 = Hz) J ⟨.ref f, j1, rfl, rfl⟩) fun u z1 ⟨v, H1, J1, rv, e1, e2⟩ => ?_)
  subst e1 e2
  cases (show u = Value.ref f from rv)
  have grow : Un (frs X.stack) [] H H1 s.heap z1.heap := J1.base
  have lam1 := grow.keep f _ at0 new0 off0 (by simp)
  obtain ⟨⟨oc, ws, t, q1, q2, q3⟩, _⟩ := J1.hok c' _ j2
  refine PySem.W.callWith_F0 ⟨_, _, _, _, lam1⟩ ?_
  have ran : codeAny (model X.prog X.w) (X.A.deeper (envOfC qg sg s.heap.objs.size g cdg)) (.call (.ref f) ⟨[], []⟩) (CR (L2.CX X.prog X.w) (envOfC qg sg s.heap.objs.size g cdg :: X.stack) X.prog X.w H1 z1 Q E) z1 := by
    refine PySem.W.kla_callFunE room.depth lam1 rfl Lm.co Lm.gen rfl ⟨c', oc, ws, t, rfl, q1, q2, q3⟩ ?_
    rw [bind]
    refine wpAny_pure (wpAny_newFunctionEnv (fun y hy => (Lm.own y hy).2) (fun y hy => by cases hy) (fun h1 ns1 but => ⟨J1.nolimit.fresh _ but, PySem.W.kla_codeExpr ?_⟩) Lm.kind)
    have up : ∀ b o, z1.heap.get? b = some o → h1.get? b = some o := fun b o e => but.extBut b o (Nat.ne_of_lt (Heap.lt_size e)) (Heap.get?_push_of_some _ e)
    have J2 := lam_start2 (A := X.A.deeper (envOfC qg sg s.heap.objs.size g cdg)) (outer := envOfC qg sg s.heap.objs.size g cdg :: X.stack) (E := E) (f := f) (c' := c') (tk := z1.toks + ([] : List (Str × Value)).length) I Lm J1.env0 room.hd grow ns1 up
    refine wpAny_mono ((read (X.A.deeper (envOfC qg sg s.heap.objs.size g cdg)) _ z1 H1 gd (room.deeper _)).run [] _ σ H1 Q J2 j3) (fun v s' h => ?_) fun _ _ h => h
    obtain ⟨w', H', J', r', q'⟩ := h
    exact ⟨w', H', J'.os, J'.bare, J'.base, J'.hok, r', q'⟩
  have out : Passes (L2.CX X.prog X.w) ((cxOf C8.CX0 X.prog X.w X.K X.mg X.base Ng qg sg g cdg X.A X.stack s H C8.E0).tr pn xe) E := passes_call tk sub
  refine wpAny_call (codeAny_mono ran fun r s' h => ?_)
  match r, h with
  | .error e, h => exact out pz σz H1 z1 e s' J1 h
  | .ok (.ret u), h => exact J1.after h
  | .ok .next, h => exact h
  | .ok .brk, h => exact h
  | .ok .cont, h => exact h
/-- x(lambda: body) -/
theorem lam_G {T : List (Addr × Str)} {TT : (XK → Hp → VK → Prop) → Hp → VK → Prop} {x a : Str} {g c P : Addr} {k : Nat} {st : Stmt} {cdv : Value} {fd : FuncData} {Ng : List Str} {params : Arguments} {body : Expr} {scope : Scope} {t : XK → TE} {p lpos pos : Pos}
    (gd : X.A.guards = some []) (hg : Gl X x) (hm : X.mg x = some (.ref g)) (hk : PySem.W.keepIn X.K (.ref g) = true)
    (lk : ∃ (oc : Value) (od : Option Addr) (kV doc pm : Value) (an : Option Addr) (ct : Value) (osl : Array (Option Value)), fd = PySem.W.fnOf x x (defArgs st) (defBody st) (defScope st) .none kV doc pm an cdv ct ∧ X.K.lookup g = some ⟨oc, od, .func fd, osl⟩ ∧ PySem.W.codeIn X.K cdv x = true)
    (hb : L2.Binds X.K fd [a] []) (Sg : FnScope Ng [a] (defScope st)) (hNg : Ng[0]? = some a) (hva : Vis (defScope st) a) (hG : GivesTo X Ng x (defScope st) g cdv (defBody st) a (X.env.qual ++ "<lambda>") TT)
    (TB : TabB X.base X.mg c P) (hcode : X.env.code = .ref c) (hmT : (P, X.env.qual ++ "<lambda>") ∈ T) (hu : ∀ p ∈ T, p.1 = P → p.2 = X.env.qual ++ "<lambda>") (hr : Room (k + 2) X.A) (Lm : LamS X.env.scope scope) (hdef : defaultsOf params X.env = ([], []))
    (hbind : ∀ (q : Str) (cl : List (Str × Addr)) (pm cv ctv : Value), bindArgs (PySem.W.kla_fn "<lambda>" q params body scope cl pm cv ctv) ⟨[], []⟩ = pure [])
    (read : ∀ (A : Around) (outer : List Env) (s : Shared) (H : Hp) (E : XK) (f c' : Addr), A.guards = some [] → Room k (A.deeper (lamEnv X scope s.heap.objs.size f c')) → PE (lamCx X A outer s H E scope f c') body (t E))
    (hdb : (x == ("__debug__" : Str)) = false := by decide) (hd : (a == ("__debug__" : Str)) = false := by decide) (hcd : (a == ("__classdict__" : Str)) = false := by decide) :
    PE X (.Call (.Name x p) [.Lambda params body scope lpos] [] pos) (tLam T TT t) := by
  refine ⟨fun pins s σ H Q I ⟨tabs, want⟩ => wpAny_Call_Name_kw (ld_glob I hg hm ?_ hdb)⟩
  obtain ⟨oc, od, kV, doc, pm, an, ct, osl, rfl, lk, hcg⟩ := lk
  refine PySem.W.callWith_K (h₀ := X.base) I.ok.mod.kin hk ?_ (by rfl) (by rfl)
  show wpAny _ _ (spliced ((false, eval (.Lambda params body scope lpos) X.env) :: backTo pos (starEach [] X.env))) _ _ s
  refine Calls.spliced_cons (lam_make2 I TB hcode hmT hu tabs hdef (Lm.has I.ok) fun f c' pm' ctv H1 s1 I1 ext tabs1 at1 new1 off1 code1 => Calls.spliced_nil ⟨I1.kIn, ?_⟩)
  have ran : codeAny (model X.prog X.w) X.A (.call (.ref g) ⟨[.ref f], []⟩) (CR C8.CX0 X.stack X.prog X.w H1 s1 Q C8.E0) s1 :=
    run_ofS (N := Ng) (ps := [a]) (us := [.ref f]) (vs := [.ref f]) lk hcg Sg hr I1.env0 (hb s1 [.ref f] I1.kIn rfl) (.cons rfl .nil) rfl fun room => by
      obtain ⟨t', w1, w2⟩ := hG f c' s1 H1 Q (fun E H' Q' => t E σ H' Q') (fun W pn xe E p1 p2 tk sub => act_G (Q0 := Q) I1 Lm gd at1 new1 off1 (hbind _ _ _ _ _) tk sub room (fun A outer s H ga room2 => read A outer s H E f c' ga room2) hNg hva hd hcd) code1 (want H1 ext tabs1)
      exact ⟨t', w1.nox, w2⟩
  refine wpAny_call (codeAny_mono ran fun r s2 h => ?_)
  match r, h with
  | .error e, h => exact (show False from h).elim
  | .ok (.ret u), h => exact I1.after h
  | .ok .next, h => exact h
  | .ok .brk, h => exact h
  | .ok .cont, h => exact h
end
end DL

set_option maxHeartbeats 2000000
/-! DL, part yh: hear(lambda: e) as an expression of data -/
namespace DL
open PySem PySem.Spec PyProof.Rows L2 LamX

def mHeard (m : Er → Fd → Res Dt) (word : Str) (mb : ME) : ME := fun ρ φ => match mb ρ φ with
  | .ok d φ' => .ok (.tuple [.str word, d]) φ'
  | .err e φ' => noErr (m e φ')
  | .no => .no
theorem step_lam {c : Cn} {H H1 : Hp} (ext : ExtN H H1) (tb : Tabs c.L.T H1) : Step c H H1 :=
  ⟨fun b o h _ => let ⟨h1, h2⟩ := hn_some h; hn_of (ext b o h1 h2) h2, fun _ => tb⟩
theorem Rel.lam {c : Cn} {O : Nat → Option Addr} {H H1 : Hp} {σ : L2.St} {ρ : Rho} {φ : Fd} (R : Rel c O H σ ρ φ) (ext : ExtN H H1) (tb : Tabs c.L.T H1) : Rel c O H1 σ ρ φ :=
  R.step (step_lam ext tb) (ext _ _ R.feed nt_dK) (ext _ _ R.cells nt_lst)
/-- the facts of the def that hears and of the one that judges -/
structure Hears (K : PySem.W.Frag) (mg : Str → Option Value) (L : Lw) (st : Stmt) (x a en er pe word : Str) (g fJ CS : Addr) (cdv : Value) (fd fdJ : FuncData) (px : Str) : Prop where
  gm : mg x = some (.ref g)
  gk : PySem.W.keepIn K (.ref g) = true
  gl : ∃ (oc : Value) (od : Option Addr) (kV doc pm : Value) (an : Option Addr) (ct : Value) (osl : Array (Option Value)), fd = PySem.W.fnOf x x (defArgs st) (defBody st) (defScope st) .none kV doc pm an cdv ct ∧ K.lookup g = some ⟨oc, od, .func fd, osl⟩ ∧ PySem.W.codeIn K cdv x = true
  gb : L2.Binds K fd [a] []
  sc : FnScope [a, en] [a] (defScope st)
  va : Vis (defScope st) a
  body : ∃ p0 p1 p2 p3 p4 p5 p6 p7 p8 p9 p10 pt j kt, defBody st = [.Try [.Return (some (.Tuple [.Constant (.str word) j p0, .Call (.Name a p1) [] [] p2] kt pt)) p3] [.ExceptHandler (some (.Name pe p4)) (some en) [.Return (some (.Call (.Name er p5) [.Name en p6] [] p7)) p8] p9] [] [] p10]
  ln : (defScope st).names.lookup en = some .local
  lp : (defScope st).names.lookup pe = some .globalImplicit
  lr : (defScope st).names.lookup er = some .globalImplicit
  pm : mg pe = some (.ref CS)
  jm : mg er = some (.ref fJ)
  jk : PySem.W.keepIn K (.ref fJ) = true
  jb : L2.Binds K fdJ [px] []
  ex : ∀ nm C, L.cls nm C → PySem.W.exmOne K (.ref C) (.ref CS) = some true
section
variable {X : Cx} {c : Cn} {W : WX'}
theorem qe_heard {st : Stmt} {x a en er pe word : Str} {g fJ CS cc P : Addr} {cdv : Value} {fd fdJ : FuncData} {px : Str} {m : Er → Fd → Res Dt} {k : Nat} {params : Arguments} {body : Expr} {scope : Scope} {p lpos pos : Pos} {mb : ME}
    (hK : X.K = c.K) (F : Hears X.K X.mg c.L st x a en er pe word g fJ CS cdv fd fdJ px) (J : FnE X.prog X.w c.L X.mg X.base k fJ fdJ px m) (gd : X.A.guards = some []) (hr : Room (k + 2) X.A) (TB : TabB X.base X.mg cc P) (hcode : X.env.code = .ref cc)
    (hmT : (P, X.env.qual ++ "<lambda>") ∈ c.L.T) (hu : ∀ p ∈ c.L.T, p.1 = P → p.2 = X.env.qual ++ "<lambda>") (Lm : LamS X.env.scope scope)
    (read : ∀ (A : Around) (outer : List Env) (s : Shared) (H : Hp) (E : XK) (f c' : Addr), A.guards = some [] → Room k (A.deeper (lamEnv X scope s.heap.objs.size f c')) → PE (lamCx X A outer s H E scope f c') body (tD c (wE E) mb)) (hg : Gl X x := by rfl)
    (hdef : defaultsOf params X.env = ([], []) := by rfl) (hbind : ∀ (q : Str) (cl : List (Str × Addr)) (pm cv ctv : Value), bindArgs (PySem.W.kla_fn "<lambda>" q params body scope cl pm cv ctv) ⟨[], []⟩ = pure [] := by intros; rfl)
    (hdx : (x == ("__debug__" : Str)) = false := by decide) (hda : (a == ("__debug__" : Str)) = false := by decide) (hca : (a == ("__classdict__" : Str)) = false := by decide) (hde : (en == ("__debug__" : Str)) = false := by decide) (hce : (en == ("__classdict__" : Str)) = false := by decide)
    (hdp : (pe == ("__debug__" : Str)) = false := by decide) (hdj : (er == ("__debug__" : Str)) = false := by decide) :
    PE X (.Call (.Name x p) [.Lambda params body scope lpos] [] pos) (tD c W (mHeard m word mb)) := by
  obtain ⟨p0, p1, p2, p3, p4, p5, p6, p7, p8, p9, p10, pt, j, kt, eb⟩ := F.body
  have G := heard_gives (X := X) (L := c.L) (Ng := [a, en]) (x := x) (a := a) (q := X.env.qual ++ "<lambda>") (word := word) (sg := defScope st) (g := g) (cdg := cdv) (j := j) (kt := kt) (p0 := p0) (p1 := p1) (p2 := p2) (p3 := p3) (p4 := p4) (p5 := p5) (p6 := p6) (p7 := p7) (p8 := p8) (p9 := p9) (p10 := p10) (pt := pt)
    gd (hr.mono (Nat.le_succ _)) hK F.sc.nd rfl F.ln F.lp F.pm hdp J F.jm F.jk F.jb F.lr hdj hde hce (fun _ => rfl)
  rw [← eb] at G
  refine pe_imp (lam_G (T := c.L.T) (TT := THear c.L CS m word) (t := fun E => tD c (wE E) mb) (Ng := [a, en]) gd hg F.gm F.gk F.gl F.gb F.sc rfl F.va G TB hcode hmT hu hr Lm hdef hbind read hdx hda hca) fun σ H Q ⟨O, ρ, φ, R, h⟩ => ⟨R.tabs, fun H1 ext tb => ⟨O, ρ, φ, R.lam ext tb, ?_⟩⟩
  have sl : Step c H H1 := step_lam ext tb
  unfold mHeard at h
  revert h
  cases mb ρ φ with
  | ok d φ' =>
    intro h v H' R' st' dq
    refine ⟨by decide, fun T hT => ?_⟩
    have gr := Gro.upd (o := .tup [.str word, v]) hT
    obtain ⟨n1, n2, _, _⟩ := R'.fresh hT
    exact h (.ref T) _ (R'.gro gr) ((sl.trans st').trans (.of gr)) (.tup (.inl (.inl (fr_of upd_same n1 n2))) (.cons (.str _) (.cons (dq_gro (fr_gro gr) dq) .nil)))
  | err e φ' =>
    intro h C d H' R' st' hE
    obtain ⟨a0, d0, fs, e1, e2, e3⟩ := id hE
    have hx := F.ex _ _ e1
    rw [hK] at hx
    subst e2
    refine ⟨hx, fun b hb => ⟨{ c.inner O H' with xa := some (b, .ref a0, d) }, φ', e, rfl, ⟨(inner_ok R').zf, (inner_ok R').z0, (inner_ok R').cne, (inner_ok R').zc, (inner_ok R').c0⟩, rfl, R'.tabs, R'.feed, R'.cells, rfl, ?_, ?_⟩⟩
    · have q : c.er e (.ref a0) d (Fr (c.inner O H') nO H') := by rw [inner_fr]; exact hE
      exact q
    · have h : GE c W O σ ρ H Q (noErr (m e φ')) := h
      revert h
      cases m e φ' with
      | ok y φ2 =>
        intro h v H2 s2 hf hc dq
        have dq : Dq c.K (Fr (c.inner O H') nO H2) v y := dq
        rw [inner_fr] at dq
        exact h v H2 (R'.step s2 hf hc) ((sl.trans st').trans s2) dq
      | err e φ2 => exact fun h => h.elim
      | no => exact fun h => h.elim
  | no => exact fun h => h
end
end DL

set_option maxHeartbeats 2000000
/-! DL, part yi: a def that makes lambdas (its code object is told), the row's end with tables of code objects -/
namespace DL
open PySem PySem.Spec PyProof.Rows L2 LamX

/-- a def whose code object is told -/
structure FunC (K : PySem.W.Frag) (x qual : Str) (st : Stmt) (f : Addr) (fd : FuncData) (cc : Addr) : Prop where
  ex : ∃ (oc : Value) (od : Option Addr) (kV doc pm : Value) (an : Option Addr) (ct : Value) (osl : Array (Option Value)), fd = PySem.W.fnOf x qual (defArgs st) (defBody st) (defScope st) .none kV doc pm an (.ref cc) ct ∧ K.lookup f = some ⟨oc, od, .func fd, osl⟩ ∧ PySem.W.codeIn K (.ref cc) qual = true
  kp : PySem.W.keepIn K (.ref f) = true
theorem FunC.fun {K : PySem.W.Frag} {x qual : Str} {st : Stmt} {f : Addr} {fd : FuncData} {cc : Addr} (F : FunC K x qual st f fd cc) : Fun K x qual st f fd := by
  obtain ⟨oc, od, kV, doc, pm, an, ct, osl, e, l, c⟩ := F.ex
  exact ⟨⟨oc, od, kV, doc, pm, an, .ref cc, ct, osl, e, l, c⟩, F.kp⟩
section
variable {P : Program} {w : World} {L : Lw} {mg : Str → Option Value} {base : Heap}
theorem fng_ofC {CX : CXT} {K : PySem.W.Frag} {k : Nat} {f cc : Addr} {x qual : Str} {st : Stmt} {fd : FuncData} {N ps : List Str} {sp : Sp}
    (F : FunC K x qual st f fd cc) (S : FnScope N ps (defScope st)) (len : ∀ vs H Q E, sp vs H Q E → vs.length = ps.length)
    (hbody : ∀ (A : Around) (outer : List Env) (s : Shared) (H : Hp) (vs : List V) (Q : VK) (E : XK),
      (A.deeper (envOfC qual (defScope st) s.heap.objs.size f (.ref cc))).guards = some [] →
      Room k (A.deeper (envOfC qual (defScope st) s.heap.objs.size f (.ref cc))) → sp vs H Q E →
      ∃ t, PSs (cxOf CX P w K mg base N qual (defScope st) f (.ref cc) A outer s H E) (defBody st) t ∧ t { nx := fun _ H' => Q .non H', rt := Q } (start N vs) H) :
    FnG P w K mg base CX (k + 1) f fd ps sp := by
  obtain ⟨oc, od, kV, doc, pm, an, ct, osl, rfl, lk, hcd⟩ := F.ex
  refine ⟨len, fun A outer s H args us vs Q E gd room e0 bnd rel want => ?_⟩
  exact run_ofS lk hcd S room e0 bnd rel (len _ _ _ _ want) fun room' => hbody A outer s H vs Q E gd room' want
theorem def_okC {k : Nat} {f0 cc : Addr} {x qual : Str} {st : Stmt} {fd : FuncData} {N ps : List Str} {body : MS}
    (F : FunC L.K x qual st f0 fd cc) (S : FnScope N ps (defScope st)) (hb : ps.length ≤ N.length)
    (walk : ∀ (c : Cn), c.L = L → ∀ (A : Around) (outer : List Env) (s : Shared) (H : Hp) (E : XK), (dX P w L mg base N qual st f0 (.ref cc) A outer s H E).A.guards = some [] →
      Room k (dX P w L mg base N qual st f0 (.ref cc) A outer s H E).A → PSs (dX P w L mg base N qual st f0 (.ref cc) A outer s H E) (defBody st) (tS c (wE E) body)) :
    FnG P w L.K mg base (L2.CX P w) (k + 1) f0 fd ps (spD L ps.length (mFn N.length body)) := by
  refine fng_ofC F S spD_len fun A outer s H vs Q E gd room want => ?_
  obtain ⟨c, φ, as, hL, ok, h0, tb, hf, hc, hl, p, G⟩ := want
  refine ⟨_, walk c hL A outer s H E gd room, nO, _, φ, start_rel ok h0 tb hf hc p (by rw [hl]; exact hb), ?_⟩
  have ent : ∀ {O' : Nat → Option Addr} {σ' : L2.St} {ρ' : Rho} {φ' : Fd} {H' : Hp}, Rel c O' H' σ' ρ' φ' → Step c H H' := fun R => ⟨fun b o h n => R.entry b o (h0.symm ▸ h) n, fun _ => R.tabs⟩
  have fr : ∀ {O' : Nat → Option Addr} {H' : Hp}, Gro (Fr c O' H') (Fr c nO H') := fun b o h => let ⟨h1, h2, _⟩ := fr_some h; fr_of h1 h2 fun _ z => nomatch z
  unfold mFn at G
  revert G
  cases body (as ++ List.replicate (N.length - as.length) .un) φ with
  | ok fl φ' =>
    cases fl with
    | rt d => exact fun G O' σ' ρ' v H' R q => G v H' (ent R) R.feed R.cells (dq_gro fr q)
    | nx ρ' => exact fun G O' σ' H' R _ => G _ H' (ent R) R.feed R.cells .non
    | ex e ρ' => exact fun G O' σ' C x H' R _ q => G C x H' (ent R) R.feed R.cells (er_gro fr q)
    | bk ρ' => exact fun G => G.elim
    | ct ρ' => exact fun G => G.elim
  | err e φ' => exact fun G => G.elim
  | no => exact fun G => G.elim
end
/-- the end of a row whose law makes lambdas: cs, the code objects and their tables -/
theorem lawT {P : Program} {w : World} {K : PySem.W.Frag} {mg mb : Str → Option Value} {CX : CXT} {k : Nat} {fa a : Addr} {cs : List (Addr × Addr)} {fd : FuncData} {x : Str} {sp : Sp} {sh : Shared} {vs : List Value} {ns : List Int}
    (kx : K.In sh.heap) (gl : sh.heap.Ns mainGlobals mg) (bl : sh.heap.Ns builtinsNs mb) (bb : ∀ x : Str, x ≠ "__name__" → mb x = bootBuiltins x) (nl : sh.heap.NoLimit) (ge : sh.gens = #[])
    (hT : ∀ p ∈ cs, sh.heap.get? p.2 = some { cls := .none, data := .fields #[] }) (nT : ∀ p ∈ cs, K.lookup p.2 = none) (hC : ∀ p ∈ cs, PySem.W.CodeHd sh.heap p.1 p.2)
    (hbm : ∃ (bm : Addr) (ob : Obj), mg "__builtins__" = some (.ref bm) ∧ bm ≠ builtinsNs ∧ sh.heap.get? bm = some ob ∧ ob.cls = .type "module" ∧ ob.dict = some builtinsNs ∧ ob.data = .plain)
    (at0 : sh.heap.get? a = some { cls := .type "list", data := .seq vs.toArray }) (ia : IntsAre vs ns) (sz : ns.length ≤ sizeLine) (room : Room k callerA)
    (F : ∀ base : Heap, K.In base → base.Ns mainGlobals mg → (∀ p ∈ cs, TabB base mg p.1 p.2) → FnG P w K mg base CX k fa fd [x] sp) (bind : ∀ (s : Shared) (u : Value), BindsTo s fd ⟨[u], []⟩ [(x, u)])
    (want : ∀ H : Hp, (∀ p ∈ cs, H p.2 = some (.tbl #[])) → SqL K H a (ns.map V.int) → sp [.ref a] H (fun v _ => v = .bl true) fun _ _ _ => False)
    (noerr : ∀ H e s', CX [] H sh (fun _ _ _ => False) e s' → False) :
    codeAny (model P w) callerA (.call (.ref fa) ⟨[.ref a], []⟩) (fun r s' => r = .ok (.ret (.bool true)) ∧ OldK sh.heap s'.heap ∧ s'.os = sh.os ∧ AllBare s'.gens) sh := by
  have rel := vals_ints ia
  have lenV := ia.length
  let ts := cs.map (·.2)
  have tsAt : ∀ b, b ∈ ts → sh.heap.get? b = some { cls := .none, data := .fields #[] } := fun b hb => by
    obtain ⟨p, hp, rfl⟩ := List.mem_map.mp hb
    exact hT p hp
  have inTs : ∀ p ∈ cs, p.2 ∈ ts := fun p hp => List.mem_map.mpr ⟨p, hp, rfl⟩
  have aTs : a ∉ ts := fun z => by
    have q := tsAt a z
    rw [at0] at q
    cases q
  -- H tracks the tables and, it may be, the script
  have main : ∀ H : Hp, (∀ b, b ∈ ts → H b = some (.tbl #[])) → (∀ b, b ∉ ts → H b = none ∨ ∃ o xs, b = a ∧ H b = some (.frz o (.lst xs))) → SqL K H a (ns.map V.int) → HOk P w H sh.heap → (H a ≠ none → K.lookup a = none) →
      codeAny (model P w) callerA (.call (.ref fa) ⟨[.ref a], []⟩) (fun r s' => r = .ok (.ret (.bool true)) ∧ OldK sh.heap s'.heap ∧ s'.os = sh.os ∧ AllBare s'.gens) sh := by
    intro H onT offT sq hok notK
    have free : ∀ {b : Addr} {o : Obj}, sh.heap.get? b = some o → (∀ vs n, o.data ≠ .seq vs n) → o.data ≠ .fields #[] → H b = none := by
      intro b o e n1 n2
      by_cases hb : b ∈ ts
      · rw [tsAt b hb] at e
        cases e
        exact absurd rfl n2
      · rcases offT b hb with q | ⟨_, _, rfl, _⟩
        · exact q
        · rw [at0] at e
          cases e
          exact absurd rfl (n1 _ _)
    have names : ∀ {b : Addr} {m : Str → Option Value}, sh.heap.Ns b m → (hidT sh.heap H).Ns b m := fun ⟨o, es, ep, e, d, r⟩ => ⟨o, es, ep, hidT_get e (free e (fun _ _ z => by rw [d] at z; cases z) fun z => by rw [d] at z; cases z), d, r⟩
    have kin : K.In (hidT sh.heap H) := fun b o e => hidT_get (kx b o e) (by
      by_cases hb : b ∈ ts
      · obtain ⟨p, hp, rfl⟩ := List.mem_map.mp hb
        rw [nT p hp] at e
        cases e
      · rcases offT b hb with q | ⟨_, _, rfl, q⟩
        · exact q
        · rw [notK (by rw [q]; simp)] at e
          cases e)
    have md : L2.Mod K mg (hidT sh.heap H) := ⟨kin, names gl, ⟨mb, names bl, bb⟩, by obtain ⟨mc, h1, h2⟩ := nl; exact ⟨mc, names h1, h2⟩⟩
    have tab : ∀ p ∈ cs, TabB (hidT sh.heap H) mg p.1 p.2 := fun p hp => by
      have tp := hT p hp
      refine ⟨?_, ?_, fun z => ?_⟩
      · obtain ⟨o, us, file, tf, flags, tg, inF, text, tt, e1, r1, r2, r3, r⟩ := hC p hp
        exact ⟨o, us, file, tf, flags, tg, inF, text, tt, hidT_get e1 (free e1 (fun _ _ z => by rw [r2] at z; cases z) fun z => by rw [r2] at z; cases z; simp at r3), r1, r2, r3, r⟩
      · obtain ⟨bm, ob, b1, b2, b3, b4, b5, b6⟩ := hbm
        have n1 : bm ≠ mainGlobals := fun q => by
          obtain ⟨o, es, ep, e, hd, _⟩ := gl
          rw [q, e] at b3
          cases b3
          rw [hd] at b6
          cases b6
        have n2 : bm ≠ p.2 := fun q => by
          rw [q, tp] at b3
          cases b3
          cases b6
        exact ⟨bm, ob, b1, b2, n1, n2, hidT_get b3 (free b3 (fun _ _ z => by rw [b6] at z; cases z) fun z => by rw [b6] at z; cases z), b4, b5, b6⟩
      · obtain ⟨o, es, ep, e, hd, _⟩ := gl
        rw [z, tp] at e
        cases e
        cases hd
    have e0 : Env0 P w K mg (hidT sh.heap H) callerA [] sh H :=
      ⟨rfl, md, fun b o e => of_hidT e, Nat.le_of_eq (hidT_size _ _), trivial, fun b hb => absurd (show b ∈ ([] : List Addr) from hb) (by simp), hok, .of_eq ge⟩
    have run := (F _ kin (names gl) tab).run callerA [] sh H ⟨[.ref a], []⟩ [.ref a] [.ref a] _ _ rfl room e0 (bind sh (.ref a)) (.cons rfl .nil) (want H (fun p hp => onT _ (inTs p hp)) sq)
    refine codeAny_mono run fun r s' h => ?_
    match r, h with
    | .error e, h => exact (noerr H e s' h).elim
    | .ok .next, h => exact False.elim h
    | .ok .brk, h => exact False.elim h
    | .ok .cont, h => exact False.elim h
    | .ok (.ret u), ⟨v, H', os, bare, un, hok', rv, tv⟩ =>
      obtain rfl : v = .bl true := tv
      obtain rfl : u = Value.bool true := rv
      have kept : ∀ b o, b ∉ ts → sh.heap.get? b = some o → s'.heap.get? b = some o := fun b o nb e => by
        rcases offT b nb with q | ⟨ob, xs, rfl, q⟩
        · exact un.keep b o e q (fun z => absurd (show b ∈ ([] : List Addr) from z) (by simp)) (by simp)
        · obtain ⟨e1, _⟩ := hok b _ q
          obtain ⟨e2, _⟩ := hok' b _ (un.frzs b ob _ q)
          rw [e] at e1
          cases e1
          exact e2
      have more : ∀ p ∈ cs, ∃ xs : Array Value, s'.heap.get? p.2 = some { cls := .none, data := .fields xs } := fun p hp => by
        obtain ⟨xs, z⟩ := un.tbls p.2 #[] (onT _ (inTs p hp))
        exact ⟨_, hok' p.2 _ z⟩
      refine ⟨rfl, ⟨fun b o e => ?_, fun b o e => ?_⟩, os, bare⟩
      · by_cases hb : b ∈ ts
        · obtain ⟨p, hp, rfl⟩ := List.mem_map.mp hb
          obtain ⟨xs, hm⟩ := more p hp
          rw [hT p hp] at e
          cases e
          exact .inr (.inl ⟨((hC p hp).tab (hT p hp)).isCodeTable, rfl, #[], xs, rfl, by rw [Array.empty_append]; exact hm⟩)
        · exact .inl (kept b o hb e)
      · by_cases hb : b ∈ ts
        · obtain ⟨p, hp, rfl⟩ := List.mem_map.mp hb
          obtain ⟨xs, hm⟩ := more p hp
          exact ⟨_, hm⟩
        · exact ⟨o, kept b o hb e⟩
  have ifT : ∀ (o : Option HO) b, b ∈ ts → (if b ∈ ts then some (HO.tbl #[]) else o) = some (.tbl #[]) := fun o b h => if_pos h
  have ifN : ∀ (o : Option HO) b, b ∉ ts → (if b ∈ ts then some (HO.tbl #[]) else o) = o := fun o b h => if_neg h
  cases hk : K.lookup a with
  | some o =>
    have e := kx a o hk
    rw [at0] at e
    cases e
    refine main (fun b => if b ∈ ts then some (.tbl #[]) else none) (ifT none) (fun b hb => .inl (ifN none b hb)) (.inr ⟨_, vs.toArray, _, hk, rfl, rfl, rfl, by rw [List.size_toArray, lenV]; exact sz, by simpa using rel⟩) (fun b u z => ?_) fun z => absurd (ifN none a aTs) z
    by_cases hb : b ∈ ts
    · have z' := (ifT none b hb).symm.trans z
      cases z'
      exact tsAt b hb
    · have z' := (ifN none b hb).symm.trans z
      cases z'
  | none =>
    let ob : Obj := { cls := .type "list", data := .seq vs.toArray }
    let oa : Addr → Option HO := fun b => if b = a then some (.frz ob (.lst (ns.map V.int))) else none
    have yes : oa a = some (.frz ob (.lst (ns.map V.int))) := if_pos rfl
    refine main (fun b => if b ∈ ts then some (.tbl #[]) else oa b) (fun b => ifT (oa b) b) (fun b hb => ?_) (.inl (.inr ⟨ob, (ifN (oa a) a aTs).trans yes⟩)) (fun b u z => ?_) fun _ => hk
    · by_cases h : b = a
      · subst h
        exact .inr ⟨_, _, rfl, (ifN (oa b) b hb).trans yes⟩
      · exact .inl ((ifN (oa b) b hb).trans (if_neg h))
    · by_cases hb : b ∈ ts
      · have z' := (ifT (oa b) b hb).symm.trans z
        cases z'
        exact tsAt b hb
      · have z1 : oa b = some u := (ifN (oa b) b hb).symm.trans z
        by_cases h : b = a
        · subst h
          rw [yes] at z1
          cases z1
          exact ⟨at0, by rw [List.length_map]; exact sz, vs, _, rel, at0⟩
        · have z2 := (if_neg h).symm.trans z1
          cases z2
theorem walkT {l : PySem.W.OpenLaw} {n k : Nat} {q : Program} {loose : List Str} {XP : (Str → Option Value) → Heap → Prop} {YP : World → Heap → Prop} {d : DefRec} {K : Params → PySem.W.Frag} {CX : World → CXT} {sp : World → Sp} {x : Str} {cs : List (Addr × Addr)}
    (hn : l.most = some n) (hn2 : n ≤ sizeLine) (hdf : d.params.defaults = []) (room : Room k callerA) (hY : ∀ (w : World) (h : Heap), YP w h → (K w.params).In h) (hT : ∀ (w : World) (h : Heap), YP w h → ∀ p ∈ cs, h.get? p.2 = some { cls := .none, data := .fields #[] })
    (nT : ∀ (w : World), ∀ p ∈ cs, (K w.params).lookup p.2 = none) (hC : ∀ (w : World), ∀ p ∈ cs, PySem.W.codeHdIn (K w.params) p.1 p.2 = true)
    (F : ∀ (w : World) (mg : Str → Option Value) (fa : Addr) (h : Heap), (K w.params).In h → h.Ns mainGlobals mg → mg d.name = some (.ref fa) → ∃ fd : FuncData, (∀ (s : Shared) (u : Value), BindsTo s fd ⟨[u], []⟩ [(x, u)]) ∧
      ∀ base : Heap, (K w.params).In base → base.Ns mainGlobals mg → (∀ p ∈ cs, TabB base mg p.1 p.2) → FnG l.prog w (K w.params) mg base (CX w) k fa fd [x] (sp w))
    (want : ∀ (w : World) (H : Hp) (a : Addr) (ns : List Int), ns.length ≤ n → (∀ p ∈ cs, H p.2 = some (.tbl #[])) → SqL (K w.params) H a (ns.map V.int) → sp w [.ref a] H (fun v _ => v = .bl true) fun _ _ _ => False)
    (noerr : ∀ (w : World) (H : Hp) (s : Shared) (e : Value) (s' : Shared), CX w [] H s (fun _ _ _ => False) e s' → False) :
    PySem.W.WalkO q loose XP YP l.row.toRowW d [] (fun f vs => PySem.call f vs) := by
  refine Att.attach_call hn hdf fun w s₀ s₁ mg mb fa o pm cd doc a vs ns G Y ho hd hcd hmg hobj hints hlen hg => ?_
  obtain ⟨fd, hb, hF⟩ := F w mg fa _ (hY w _ Y) G.T.g hmg
  exact lawT (cs := cs) (hY w _ Y) G.T.g G.T.b G.T.builtins G.T.nolimit hg (hT w _ Y) (nT w) (fun p hp => PySem.W.codeHd_of_K (hY w _ Y) (hC w p hp)) G.T.bmain hobj hints (Nat.le_trans hlen hn2) room hF hb (fun H only sq => want w H a ns hlen only sq) fun H e s' => noerr w H s₁ e s'
end DL

set_option maxHeartbeats 1000000
/-! DL, part yj: set(xs) of a tuple of keys; is None; the law's own def where it makes lambdas -/
namespace DLS
open PySem PySem.Spec PyProof.Rows L2 PySem.W
section
variable {P : Program} {w : World} {A : Around} {E : Value → Shared → Prop} {s : Shared}
set_option maxHeartbeats 4000000 in
/-- set(xs), xs a tuple of such keys -/
theorem set_ofT {l : Addr} {items : Array Value} (ks : List (Addr × NK)) {Q : Value → Shared → Prop} (hh : A.handled = none) (hl : s.heap.IsTuple l items) (hit : items.toList = ks.map fun p => Value.ref p.1) (hk : ∀ p ∈ ks, Kis s.heap p.2 p.1) (hfew : ks.length < 64)
    (hu : A.units + 20 < cLine) (h : ∀ (h' : Heap) (tk : Nat) L es ep t, SG w h' s.heap.objs.size L es ep t → Gt ks ks.length L → (∀ b o, s.heap.get? b = some o → h'.get? b = some o) → Q (.ref s.heap.objs.size) { s with heap := h', toks := tk }) :
    wpAny (model P w) A (call (.type "set") [.ref l]) Q E s := by
  have hisz : items.size = ks.length := by
    have q := congrArg List.length hit
    rw [Array.length_toList, List.length_map] at q
    exact q
  obtain ⟨c, tl, hmro⟩ := F.called_set.mro
  have hmade := F.called_set.made
  have hsub := F.called_set.sub
  refine wpAny_call (codeAny_of_tree ?_)
  show wpAny _ _ (callAny (.type "set") _) _ _ _
  refine wpAny_pure ⟨Code.quiet_builtin _ (by decide +kernel), codeAny_builtin F.entry_type_call ?_⟩
  rw [Around.under_plain (weight_type_call_type "set" [.ref l] []) rfl]
  have h1 := F.called_set.notType
  have h2 := F.called_set.canCreate
  have hct := F.typeCall_set_1 (.ref l)
  repeat (any_goals (first | assumption | wp_step))
  refine codeAny_mono (code_set_led1 (.ref l) (E := E) (Q₁ := fun obj s₁ => obj = .ref s.heap.objs.size ∧ s₁ = { s with heap := s.heap.push (newSet w) }) ⟨rfl, rfl⟩) fun r s₁ hr => ?_
  cases r with
  | error e => exact hr
  | ok fl =>
    cases fl with
    | ret obj =>
      obtain ⟨rfl, rfl⟩ := hr
      have hS : (s.heap.push (newSet w)).get? s.heap.objs.size = some (newSet w) := Heap.get?_push_size _ rfl
      have hT : Shared.TypeIs { s with heap := s.heap.push (newSet w) } (.ref s.heap.objs.size) "set" := ⟨_, hS, rfl⟩
      have hli := F.called_set.init.lookup
      have hbi := F.called_set.init.bind (.ref s.heap.objs.size)
      repeat (any_goals (first | assumption | wp_step))
      refine codeAny_mono (codeAny_call_builtin (R := wants (fun r s₂ => r = .none ∧ ∃ h' tk L es ep t, s₂ = { s with heap := h', toks := tk } ∧ SG w h' s.heap.objs.size L es ep t ∧ Gt ks ks.length L ∧ (∀ b o, s.heap.get? b = some o → h'.get? b = some o)) E)
        F.called_set.init.plain F.entry_set_init (check_set_init_1 hT ?_)) fun r₂ s₂ hr₂ => ?_
      · obtain ⟨⟨ocls, odict, odata, oslots⟩, hol, hcl, nl, hdl⟩ := hl
        simp only at hcl hdl
        subst hcl; subst hdl
        have hol' : (s.heap.push (newSet w)).get? l = some { cls := .type "tuple", dict := odict, data := .seq items nl, slots := oslots } := Heap.get?_push_of_some _ hol
        have hsls := F.sub_tuple_set
        have hslf := F.sub_tuple_frozenset
        have hne : (Value.type "tuple" == Value.type "dict") = false := by decide
        have hl1 : (s.heap.push (newSet w)).IsTuple l items := ⟨_, hol', rfl, nl, rfl⟩
        unfold Builtin.«set.__init__» noKeywords Builtin.Frozenset.updateFrom
        generalize hPI : pyIter = PI
        wp_walk
        subst hPI
        refine wpAny_pyIter_tuple hl1 ?_
        refine wpAny_bind (wpAny_runValue ?_)
        have hlS : l < s.heap.objs.size := Heap.lt_size hol
        have hh3 : A.in1.in1.in1.handled = none := by simp [hh]
        have hz1 : (s.heap.push (newSet w)).objs.size = s.heap.objs.size + 1 := Heap.size_push ..
        have hneI : l ≠ (s.heap.push (newSet w)).objs.size := by rw [hz1]; exact Nat.ne_of_lt (Nat.lt_succ_of_lt hlS)
        have hSf : s.heap.objs.size ∉ [(s.heap.push (newSet w)).objs.size, l] := by
          rw [hz1]
          simp only [List.mem_cons, List.not_mem_nil, or_false, not_or]
          exact ⟨Nat.ne_of_lt (Nat.lt_succ_self _), Nat.ne_of_gt hlS⟩
        have hval : ∀ (i : Nat) (v : Value), items[i]? = some v → ∃ p, ks[i]? = some p ∧ v = .ref p.1 := fun i v hv => by
          have q : items.toList[i]? = some v := by rw [Array.getElem?_toList]; exact hv
          rw [hit, List.getElem?_map] at q
          cases hq : ks[i]? with
          | none => rw [hq] at q; cases q
          | some p =>
            rw [hq] at q
            exact ⟨p, rfl, (Option.some.inj q).symm⟩
        have none_of : ∀ b, s.heap.objs.size ≤ b → s.heap.get? b = none := fun b hb => by
          cases q : s.heap.get? b with
          | none => rfl
          | some o => exact absurd (Nat.lt_of_lt_of_le (Heap.lt_size q) hb) (Nat.lt_irrefl _)
        refine upd_loop ((Walks.tuple hh3 _ l hneI items).toS) s.heap.objs.size hSf ks hisz hfew hval s.heap hk (none_of _ (Nat.le_refl _)) (fun b hb => none_of b (by rw [List.mem_singleton.mp hb, hz1]; exact Nat.le_succ _)) (by
            first
              | (show A.units + 3 + 16 < cLine; omega)
              | (have : A.in1.in1.in1.in1.units = A.units + 4 := rfl; omega)
              | (simp [Around.in1]; omega)) (items.size - 0) 0 _ (by omega) (Nat.zero_le _)
          ⟨⟨_, Heap.get?_push_size _ rfl, rfl, rfl⟩, (hl1.push _)⟩ (fun b o e => Heap.get?_push_of_some _ (Heap.get?_push_of_some _ e)) ?hS0 ?hR
        case hS0 => exact ⟨[], #[], 0, _, sg_new (Heap.get?_push_of_some _ hS), Gt.zero ks⟩
        case hR =>
          intro s' L es ep t hm hS' g' hkp
          obtain ⟨h', g2, d', tk', os'⟩ := s'
          have eg : g2 = s.gens := hm.gens
          have ed : d' = s.drawn := hm.drawn
          have eo : os' = s.os := hm.os
          subst eg; subst ed; subst eo
          show wpAny _ _ _ _ _ _
          refine wpAny_pure ?_
          show wpAny _ _ (ret Value.none) _ _ _
          rw [hisz] at g'
          exact wpAny_pure ⟨rfl, h', tk', L, es, ep, t, rfl, hS', g', hkp⟩
      · cases r₂ with
        | error e => exact hr₂
        | ok fl₂ =>
          cases fl₂ with
          | ret r =>
            obtain ⟨rfl, h', tk, L, es, ep, t, rfl, hS', g', hk'⟩ := hr₂
            repeat (any_goals (first | assumption | wp_step))
            exact h _ _ _ _ _ _ hS' g' hk'
          | _ => exact hr₂.elim
    | _ => exact hr.elim
variable {X : Cx}
def rSetGT (K : PySem.W.Frag) (w : World) : List V → Hp → VK → Prop := fun xs H Q => ∃ (l : Addr) (ks : List (Addr × NK)), xs = [V.ref l] ∧ SqT K H l (ks.map vrf) ∧ (∀ p ∈ ks, Mem K H p) ∧ ks.length < 64 ∧
  ∀ a L, H a = none → (∀ p ∈ L, p ∈ ks) → (∀ p ∈ ks, p.2 ∈ L.map (·.2)) → (L.map (·.2)).Nodup → Q (.ref a) (upd H a (SGO w a L))
theorem cr_setGT (hc : X.calm = true) (hu : X.A.units + 64 < cLine) : CallR X (.type "set") (rSetGT X.K X.w) := by
  intro pins s σ H xs us Q I r h
  obtain ⟨l, ks, rfl, hl, hk, hf, q⟩ := h
  rw [Vals.ref1 r]
  obtain ⟨its, rv, pl, hz⟩ := I.tuple hl
  have hn : H s.heap.objs.size = none := I.hok.fresh (Nat.le_refl _)
  refine set_ofT (P := X.prog) (w := X.w) ks (I.ok.hd hc) (show s.heap.IsTuple l its.toArray from pl) (by simpa using vals_refs rv) (fun p hp => ((hk p hp).kis I).1) hf (by omega) fun h' tk L es ep t R g k => ?_
  refine ⟨.ref s.heap.objs.size, upd H s.heap.objs.size (SGO X.w s.heap.objs.size L), I.laid (t' := tk) k (Nat.le_refl _) (sgo_ok (sg0_of R)), rfl, q _ L hn (fun p hp => List.mem_of_mem_take (g.sub p hp)) (fun p hp => g.all p (by rw [List.take_length]; exact hp)) R.nd⟩
end
end DLS
namespace DL
open PySem PySem.Spec PyProof.Rows L2 PySem.W DLS
def sortSetT : Dt → Option Dt
  | .tuple xs => if xs.length < 64 ∧ xs.all okKey = true ∧ (xs.all fun a => xs.all fun b => alike a b) = true then some (.list (riseD xs)) else none
  | _ => none
section
variable {X : Cx} {c : Cn} {W : WX'} {pos : Pos} {e : Expr} {f : ME}
theorem qe_ssetT {x y : Str} {p1 p2 ps : Pos} (hK : X.K = c.K) (hc : X.calm = true) (hu : X.A.units + 64 < cLine) (hm : X.mg x = none) (hm2 : X.mg y = none) (he : PE X e (tD c W f)) (hg : Gl X x := by rfl) (hg2 : Gl X y := by rfl)
    (hv : bootBuiltins x = some (.builtin "sorted") := by decide +kernel) (hv2 : bootBuiltins y = some (.type "set") := by decide +kernel) (hn : x ≠ "__name__" := by decide) (hn2 : y ≠ "__name__" := by decide)
    (hdb : (x == ("__debug__" : Str)) = false := by decide) (hdb2 : (y == ("__debug__" : Str)) = false := by decide)
    (hs : starEach [e] X.env = (false, eval e X.env) :: starEach [] X.env := by rfl) (hs2 : starEach [.Call (.Name y p2) [e] [] ps] X.env = (false, eval (.Call (.Name y p2) [e] [] ps) X.env) :: starEach [] X.env := by rfl)
    (hp1 : (backTo pos (starEach [] X.env)).any (·.1) = false := by rfl) (hp2 : (backTo ps (starEach [] X.env)).any (·.1) = false := by rfl) :
    PE X (.Call (.Name x p1) [.Call (.Name y p2) [e] [] ps] [] pos) (tD c W (m1 sortSetT f)) := by
  have h1 := pe_callTy (pos := ps) (p := p2) (cr_setGT (X := X) hc hu) hg2 hm2 hv2 (pa_cons he pa_nil hs) hn2 hdb2 hs hp2
  refine pe_imp (pe_callB (p := p1) (cr_sortG (X := X) hc hu) hg hm hv (pa_cons h1 pa_nil hs2) hn hdb hs2 hp1) fun σ H Q ⟨O, ρ, φ, R, h⟩ => ?_
  refine ⟨O, ρ, φ, R, ge_bind h fun d φ1 v H1 _ R1 s1 p1 h1 => ?_⟩
  obtain ⟨z, ez, k⟩ := ge_opt R1 h1
  cases p1 with
  | @tup a vs xs g q =>
    have ez' : (if xs.length < 64 ∧ xs.all okKey = true ∧ (xs.all fun a => xs.all fun b => alike a b) = true then some (PyData.list (riseD xs)) else none) = some z := ez
    by_cases hz : xs.length < 64 ∧ xs.all okKey = true ∧ (xs.all fun a => xs.all fun b => alike a b) = true
    · rw [if_pos hz] at ez'
      cases ez'
      obtain ⟨ks, rfl, e2, e3⟩ := pairs_of q hz.2.1
      have hal : ∀ a ∈ xs, ∀ b ∈ xs, alike a b = true := fun a ha b hb => List.all_eq_true.mp (List.all_eq_true.mp hz.2.2 a ha) b hb
      have inx : ∀ p ∈ ks, dat p ∈ xs := fun p hp => by rw [← e2]; exact List.mem_map.mpr ⟨p, hp, rfl⟩
      refine ⟨a, ks, rfl, hK ▸ sqT_gro fr_in g, fun p hp => ⟨dat p, by rw [hK]; exact (dq_gro fr_in (e3 p hp).1).dp, (e3 p hp).2⟩, by rw [← List.length_map (f := dat), e2]; exact hz.1, fun b L hb sub all nd => ?_⟩
      have gr : Gro H1 (upd H1 b (SGO X.w b L)) := Gro.upd hb
      have nw1 := R1.nw
      refine ⟨b, L, rfl, upd_same, fun p hp => ⟨dat p, by rw [hK]; exact (dq_gro gr (dq_gro fr_in (e3 p (sub p hp)).1)).dp, (e3 p (sub p hp)).2⟩, fun d hd d' hd' => ?_, .inl fun d hd => ?_, fun L' p pm pw hp => ?_⟩
      · obtain ⟨q1, m1, rfl⟩ := List.mem_map.mp hd
        obtain ⟨q2, m2, rfl⟩ := List.mem_map.mp hd'
        exact hal _ (inx q1 (sub q1 m1)) _ (inx q2 (sub q2 m2))
      · obtain ⟨q1, m1, rfl⟩ := List.mem_map.mp hd
        exact (okKey_tup (List.all_eq_true.mp hz.2.1 _ (inx q1 (sub q1 m1)))).1
      · have subL : ∀ q ∈ L', q ∈ ks := fun q hq => sub q (pm.mem_iff.mp hq)
        have nd' : (L'.map (·.2)).Nodup := (pm.map (·.2)).nodup_iff.mpr nd
        have rise : Rise (L'.map dat) := by
          refine List.pairwise_map.mpr ?_
          have both := List.Pairwise.and pw (List.pairwise_map.mp nd')
          refine both.imp_of_mem fun {q r} hq hr ⟨h5, h6⟩ => ?_
          cases h7 : dataLt (dat q) (dat r) with
          | true => rfl
          | false =>
            exfalso
            have e8 := lt_total' (hal _ (inx q (subL q hq)) _ (inx r (subL r hr))) h7 h5
            have k1 := (e3 q (subL q hq)).2.1
            have k2 := (e3 r (subL r hr)).2.1
            rw [e8, k2] at k1
            exact h6 (Option.some.inj k1).symm
        obtain ⟨r1, r2⟩ := riseD_ok (xs := xs) hal
        have same : L'.map dat = riseD xs := rise_unique rise r1 fun z => by
          rw [r2]
          constructor
          · intro hz1
            obtain ⟨q, hq, rfl⟩ := List.mem_map.mp hz1
            exact inx q (subL q hq)
          · intro hz1
            rw [← e2] at hz1
            obtain ⟨q, hq, rfl⟩ := List.mem_map.mp hz1
            obtain ⟨q2, hq2, e9⟩ := List.mem_map.mp (all q hq)
            exact List.mem_map.mpr ⟨q2, pm.mem_iff.mpr hq2, by show q2.2.data = q.2.data; rw [e9]⟩
        have nw2 : Nw c O (upd H1 b (SGO X.w b L)) := fun p hp => nw1 p (by
          cases h : H1 p with
          | none => rfl
          | some o => rw [gr p o h] at hp; cases hp)
        have da : ∀ l : List (Addr × NK), (∀ q ∈ l, q ∈ ks) → DqAll c.K (Fr c O (upd H1 b (SGO X.w b L))) (l.map vrf) (l.map dat) := fun l => by
          induction l with
          | nil => exact fun _ => .nil
          | cons q r ih => exact fun hl => .cons (dq_gro (fr_gro gr) (e3 q (hl q List.mem_cons_self)).1) (ih fun y hy => hl y (List.mem_cons_of_mem _ hy))
        exact new_lst nw2 (da L' subL) (by rw [same]; exact fun v H' g' p' => k v H' (gr.trans g') p') hp
    · rw [if_neg hz] at ez'
      cases ez'
  | _ => cases ez
end
/-! x is None, x is not None -/
def isN (x y : Dt) : Option Dt := match y with
  | .none => some (.bool (match x with | .none => true | _ => false))
  | _ => none
def notN (x y : Dt) : Option Dt := match y with
  | .none => some (.bool (match x with | .none => false | _ => true))
  | _ => none
theorem isn_d {c : Cn} : OpD c (fun x y H Q => y = .non ∧ Q (.bl (decide (x = .non))) H) isN := fun O H x y d1 d2 z Q _ h1 h2 e k => by
  cases h2 with
  | non =>
    cases h1 <;> (cases e; exact ⟨rfl, ans_here k (.bl _)⟩)
  | _ => cases e
theorem notn_d {c : Cn} : OpD c (fun x y H Q => y = .non ∧ Q (.bl (!decide (x = .non))) H) notN := fun O H x y d1 d2 z Q _ h1 h2 e k => by
  cases h2 with
  | non =>
    cases h1 <;> (cases e; exact ⟨rfl, ans_here k (.bl _)⟩)
  | _ => cases e
/-! the law's own def, its code object told -/
section
variable {P : Program} {w : World} {L : Lw} {mg : Str → Option Value} {base : Heap} {k : Nat} {f0 cc : Addr} {x qual : Str} {st : Stmt} {fd : FuncData} {N : List Str} {px : Str} {s1 : Stmt} {rest : List Stmt} {body : MS} {i : Nat}
theorem law_AC (F : FunC L.K x qual st f0 fd cc) (S : FnScope N [px] (defScope st)) (hN : 1 ≤ N.length) (eb : defBody st = s1 :: rest)
    (first : ∀ (A : Around) (outer : List Env) (s : Shared) (H : Hp) (E : XK), (dX P w L mg base N qual st f0 (.ref cc) A outer s H E).A.guards = some [] →
      Room k (dX P w L mg base N qual st f0 (.ref cc) A outer s H E).A → PS (dX P w L mg base N qual st f0 (.ref cc) A outer s H E) s1 (tAsg (tFeed L (wE E)) (gName i)))
    (walk : ∀ (c : Cn), c.L = L → ∀ (A : Around) (outer : List Env) (s : Shared) (H : Hp) (E : XK), (dX P w L mg base N qual st f0 (.ref cc) A outer s H E).A.guards = some [] →
      Room k (dX P w L mg base N qual st f0 (.ref cc) A outer s H E).A → PSs (dX P w L mg base N qual st f0 (.ref cc) A outer s H E) rest (tS c (wE E) body))
    (math : ∀ cells : List Int, ∃ φ', body ((List.replicate N.length .un).set i .fd) (fd0 cells) = .ok (.rt (.bool true)) φ') :
    FnG P w L.K mg base (L2.CX P w) (k + 1) f0 fd [px] (spLaw L) := by
  refine fng_ofC F S (fun vs H Q E h => by obtain ⟨a, ns, rfl, _⟩ := h; rfl) fun A outer s H vs Q E gd room want => ?_
  obtain ⟨a, ns, rfl, sq, le, tb, fin⟩ := want
  refine ⟨_, eb ▸ pss_cons (first A outer s H E gd room) (pss_ex fun c hc => walk c hc A outer s H E gd room), _, rfl, a, ns, rfl, sq, le, fun H' p q cells gr ne hp hq => ?_⟩
  have R := (rel0 (L := L) (start_len (a := a) hN) ne hp hq (tb.ext gr)).setFd i
  refine ⟨cn0 L p q H', rfl, nO, _, _, R, ?_⟩
  obtain ⟨φ', e⟩ := math cells
  rw [e]
  intro O' σ' ρ' v H2 R2 d
  cases d
  exact fin _
end
end DL

set_option maxHeartbeats 1000000
/-! DL, part yk: facts of classes, gathered -/
namespace DL
open PySem PySem.Spec PyProof.Rows L2 LamX PySem.W

def clsBody : Stmt → List Stmt
  | .ClassDef _ _ _ body _ _ _ _ _ _ _ => body
  | _ => []
/-- the __init__ of a class: its first statement -/
def initS (s : Stmt) : Stmt := (clsBody s).getD 0 s
theorem kit_own {K : Frag} {t : Value} {C : Addr} {b : Bool} (h1 : hasDictIn K C = true) (h2 : typeIn K (.ref C) = some (.type "type")) (h3 : subIn K (.ref C) (.ref C) = some true) (h4 : subIn K t (.ref C) = some b) : kitOne K t (.ref C) = some b := by
  obtain ⟨cd, hc, _⟩ := any_some h1
  have e2 : ((clsIn K C).isSome && typeIn K (.ref C) == some (.type "type")) = true := by rw [hc, h2]; rfl
  unfold kitOne
  by_cases h : (t == .ref C) = true
  · rw [if_pos h]
    have : t = .ref C := by simpa using h
    rw [this, h3] at h4
    exact h4
  · rw [if_neg h]
    show (if ((clsIn K C).isSome && typeIn K (.ref C) == some (.type "type")) = true then subIn K t (.ref C) else none) = some b
    rw [if_pos e2]
    exact h4
theorem kit_blt {K : Frag} {a : Addr} {T : String} {b : Bool} (h1 : kitMeta T = true) (h4 : subIn K (.ref a) (.type T) = some b) : kitOne K (.ref a) (.type T) = some b := by
  unfold kitOne
  rw [if_neg (by simp)]
  show (if kitMeta T = true then subIn K (.ref a) (.type T) else none) = some b
  rw [if_pos h1]
  exact h4
theorem kit_two {K : Frag} {t c d : Value} {b1 b2 : Bool} (h1 : kitOne K t c = some b1) (h2 : kitOne K t d = some b2) : kitAny K t [c, d] = some (b1 || b2) := by
  unfold kitAny
  rw [h1]
  cases b1 with
  | true => rfl
  | false =>
    show kitAny K t [d] = some (false || b2)
    unfold kitAny
    rw [h2]
    cases b2 <;> rfl
theorem exck_mk {K : Frag} {C : Addr} (h1 : hasDictIn K C = true) (h2 : findIn K (.ref C) "__getattribute__" = some (some (.builtin "BaseException.__getattribute__"))) (h3 : findIn K (.ref C) "__getattr__" = some none) (h4 : subIn K (.ref C) (.type "BaseException") = some true)
    (h5 : findIn K (.ref C) "__class__" = some (some (.builtin "object.__class__"))) (h6 : specialIn K (.builtin "object.__class__") "__get__" = some (some (.builtin "getset_descriptor.__get__"))) (h7 : takesIn K (.builtin "object.__class__") = some true) (h8 : mroIn K C (.type "object") = some true) : ExcK K C :=
  ⟨by obtain ⟨cd, hc, _⟩ := any_some h1; rw [hc]; rfl, h2, h3, h4, h1, h5, h6, h7, h8⟩
theorem _root_.L2H.RoomH.units {k : Nat} {A : Around} (r : L2H.RoomH k A) : A.units + 64 < cLine := by have := r.un; omega
theorem room65H {k : Nat} {A : Around} (r : L2H.RoomH k A) : A.units + 65 < cLine := by have := r.un; omega
theorem FnE.mono {P : Program} {w : World} {L : Lw} {mg : Str → Option Value} {base : Heap} {j k : Nat} {f : Addr} {fd : FuncData} {x : Str} {m : Er → Fd → Res Dt} (F : FnE P w L mg base j f fd x m) (h : j ≤ k) : FnE P w L mg base k f fd x m :=
  ⟨fun A outer s H args a oe vs C d Q c φ e gd room => F.run A outer s H args a oe vs C d Q c φ e gd (room.mono h)⟩
theorem initC_mk {P : Program} {K : Frag} {st : Stmt} {qual : Str} {C fI : Addr} {f1 f2 : Str} {nm q : Str} {N : Addr} {bs bm : List Value} {sn : List Str} {sub : List Value} {ab : Bool} {col : Option Bool} {dd : Option Addr} {k0 k1 k2 k3 k5 : Option Value}
    {oc : Value} {od : Option Addr} {kV doc pm ct : Value} {cda cc : Addr} {an : Option Addr} {osl : Array (Option Value)} {ccl cl : Value} {cdd cld : Option Addr} {vs : Array Value} {ccs csl : Array (Option Value)} {file : Str} {tf : Tok}
    (h1 : K.lookup C = some (excClassObj nm q C N bs bm true sn sub ab col dd k0 k1 k2 k3 k5 "ValueError.__new__")) (h2 : HandSPX.refsVE bm = true) (h3 : findIn K (.ref C) "__setattr__" = some (some (.builtin "object.__setattr__"))) (h4 : subIn K (.ref C) (.type "BaseException") = some true)
    (h5 : typeIn K (.ref C) = some (.type "type")) (h6 : keepIn K (.ref C) = true) (h7 : findIn K (.ref C) "__init__" = some (some (.ref fI))) (h8 : typeIn K (.ref fI) = some (.type "function"))
    (h9 : K.lookup fI = some ⟨oc, od, .func (ksFn "__init__" qual (defArgs st) (defBody st) (defScope st) .none kV doc pm an (.ref cda) ct cc), osl⟩) (h10 : codeIn K (.ref cda) qual = true)
    (h11 : K.lookup cda = some ⟨ccl, cdd, .fields vs, ccs⟩) (h12 : vs[2]? = some (.str file tf)) (h13 : ((P.main.file : Str) == file) = true) (h14 : K.lookup cc = some ⟨cl, cld, .cell (some (.ref C)), csl⟩)
    (h15 : ∀ (s : Shared) (u0 u1 u2 : Value) (x0 x1 x2 : Str), ((defArgs st).posonlyargs ++ (defArgs st).args).map (·.arg) = [x0, x1, x2] → BindsTo s (ksFn "__init__" qual (defArgs st) (defBody st) (defScope st) .none kV doc pm an (.ref cda) ct cc) ⟨[u0, u1, u2], []⟩ [(x0, u0), (x1, u1), (x2, u2)])
    (h16 : ks_superIn K C C "__init__" = some (some (.builtin "ValueError.__init__"))) (h17 : subIn K (.ref C) (.type "ValueError") = some true) (h18 : mroIn K C (.ref C) = some true) (h19 : nsIn K mainGlobals "super" = some none) (h20 : nsIn K cStatics "thirdparty.any" = some none)
    (h21 : (P.main.scope.names.lookup ("super" : Str)).isSome = false) (h22 : findIn K (.ref C) f1 = some none) (h23 : findIn K (.ref C) f2 = some none) : DLX.InitC P K st qual C fI f1 f2 where
  oex := ⟨⟨nm, q, N, bs, bm, sn, sub, ab, col, dd, k0, k1, k2, k3, k5, h1, h2⟩, h3, h4, h5, h6⟩
  init := h7
  tI := h8
  fn := ⟨oc, od, kV, doc, pm, ct, cda, cc, an, osl, ccl, cl, cdd, cld, vs, ccs, csl, file, tf, h9, h10, h11, h12, h13, h14, h15⟩
  sup := h16
  subV := h17
  self := h18
  nsup := h19
  third := h20
  top := h21
  n1 := h22
  n2 := h23
end DL
namespace DL
open PySem PySem.Spec PyProof.Rows L2 LamX
theorem tu_of {T : List (Addr × Str)} (nd : (T.map (·.1)).Nodup) {a : Addr} {q : Str} (h : (a, q) ∈ T) : ∀ p ∈ T, p.1 = a → p.2 = q := by
  induction T with
  | nil => cases h
  | cons t r ih =>
    intro p hp e
    rw [List.map_cons, List.nodup_cons] at nd
    rcases List.mem_cons.mp h with rfl | h1
    · rcases List.mem_cons.mp hp with rfl | h2
      · rfl
      · exact absurd (List.mem_map.mpr ⟨p, h2, e⟩) nd.1
    · rcases List.mem_cons.mp hp with rfl | h2
      · exact absurd (List.mem_map.mpr ⟨_, h1, e.symm⟩) nd.1
      · exact ih nd.2 h1 p h2 e
theorem tabs_of {T : List (Addr × Str)} {cs : List (Addr × Addr)} {H : Hp} (e : T.map (·.1) = cs.map (·.2)) (h : ∀ p ∈ cs, H p.2 = some (.tbl #[])) : Tabs T H := fun p hp => by
  have : p.1 ∈ cs.map (·.2) := by rw [← e]; exact List.mem_map.mpr ⟨p, hp, rfl⟩
  obtain ⟨q, hq, eq⟩ := List.mem_map.mp this
  exact .nil (by rw [← eq]; exact h q hq)
end DL

set_option maxHeartbeats 1000000
/-! DL, part z: what a mirror may answer when it may end by an error; loops with a counter and exits -/
namespace DL
open PySem PySem.Spec PyProof.Rows L2 PySem.W
/-- answers with P, or ends by an error with E -/
def CanX {α : Type} (f : Fd → Res α) (P : α → Prop) (E : Er → Prop) : Prop := ∀ φ, (∃ a φ', f φ = .ok a φ' ∧ P a) ∨ ∃ e φ', f φ = .err e φ' ∧ E e
theorem CanX.mono {α : Type} {f : Fd → Res α} {P Q : α → Prop} {E F : Er → Prop} (h : CanX f P E) (k : ∀ a, P a → Q a) (k2 : ∀ e, E e → F e) : CanX f Q F := fun φ => match h φ with
  | .inl ⟨a, φ', e, p⟩ => .inl ⟨a, φ', e, k a p⟩
  | .inr ⟨a, φ', e, p⟩ => .inr ⟨a, φ', e, k2 a p⟩
theorem Can.x {α : Type} {f : Fd → Res α} {P : α → Prop} {E : Er → Prop} (h : Can f P) : CanX f P E := fun φ => .inl (h φ)
theorem canx_bind {α β : Type} {f : Fd → Res α} {g : α → Fd → Res β} {Q : β → Prop} {E : Er → Prop} (h : Can f fun a => CanX (g a) Q E) : CanX (fun φ => (f φ).bind g) Q E := fun φ => by
  obtain ⟨a, φ', e, k⟩ := h φ
  rcases k φ' with ⟨b, φ2, e2, q⟩ | ⟨b, φ2, e2, q⟩
  · exact .inl ⟨b, φ2, by show (f φ).bind g = _; rw [e]; exact e2, q⟩
  · exact .inr ⟨b, φ2, by show (f φ).bind g = _; rw [e]; exact e2, q⟩
section
variable {ρ : Rho} {P : Dt → Prop} {E : Er → Prop} {f f1 f2 : ME} {t u : MT} {gg : MG} {g : MA} {m : MF} {D : Fl → Prop} {s r : MS}
theorem wx_call (h : wG1 gg ρ fun as => CanX (m as) P E) : CanX (mCall m gg ρ) P E := canx_bind h
/-- a def's answer, or its error -/
theorem canx_fn {N : Nat} {body : MS} {as : List Sl} (h : wS1 body (as ++ List.replicate (N - as.length) .un) fun fl => match fl with
    | .rt d => P d
    | .nx _ => P .none
    | .ex e _ => E e
    | _ => False) : CanX (mFn N body as) P E := fun φ => by
  obtain ⟨a, φ', e, k⟩ := h φ
  unfold mFn
  rw [e]
  cases a with
  | rt d => exact .inl ⟨d, φ', rfl, k⟩
  | nx _ => exact .inl ⟨.none, φ', rfl, k⟩
  | ex er _ => exact .inr ⟨er, φ', rfl, k⟩
  | _ => exact k.elim
theorem ws_exprX (h : CanX (f ρ) (fun _ => D (.nx ρ)) fun e => D (.ex e ρ)) : wS1 (sExpr f) ρ D := fun φ => by
  rcases h φ with ⟨a, φ', e, k⟩ | ⟨a, φ', e, k⟩
  · exact ⟨_, φ', by unfold sExpr; rw [e]; rfl, k⟩
  · exact ⟨_, φ', by unfold sExpr; rw [e]; rfl, k⟩
theorem ws_setX {j : Nat} (h : CanX (f ρ) (fun d => D (.nx (ρ.set j (.dat d)))) fun e => D (.ex e ρ)) : wS1 (sSet j f) ρ D := fun φ => by
  rcases h φ with ⟨a, φ', e, k⟩ | ⟨a, φ', e, k⟩
  · exact ⟨_, φ', by unfold sSet; rw [e]; rfl, k⟩
  · exact ⟨_, φ', by unfold sSet; rw [e]; rfl, k⟩
theorem ws_retX (h : CanX (f ρ) (fun d => D (.rt d)) fun e => D (.ex e ρ)) : wS1 (sRet f) ρ D := fun φ => by
  rcases h φ with ⟨a, φ', e, k⟩ | ⟨a, φ', e, k⟩
  · exact ⟨_, φ', by unfold sRet; rw [e]; rfl, k⟩
  · exact ⟨_, φ', by unfold sRet; rw [e]; rfl, k⟩
theorem ws_raise {x f1 f2 : Str} (h : wA1 g ρ fun ds => ∃ a b, ds = [a, b] ∧ D (.ex ⟨x, [(f2, b), (f1, a)]⟩ ρ)) : wS1 (sRaise x f1 f2 g) ρ D := fun φ => by
  obtain ⟨_, φ', e, a, b, rfl, k⟩ := h φ
  exact ⟨_, φ', by unfold sRaise; rw [e]; rfl, k⟩
theorem ws_try {p : Str → Bool} (h : wS1 s ρ fun fl => match fl with
    | .ex e ρ' => p e.cls = true ∧ wS1 r ρ' fun fl => match fl with
      | .ex _ _ => False
      | x => D x
    | x => D x) : wS1 (sTry s p r) ρ D := fun φ => by
  obtain ⟨a, φ', e, k⟩ := h φ
  cases a with
  | ex er ρ' =>
    obtain ⟨hp, k⟩ := k
    obtain ⟨b, φ2, e2, q⟩ := k φ'
    refine ⟨b, φ2, ?_, ?_⟩
    · unfold sTry
      rw [e]
      show (if p er.cls = true then noEx (r ρ' φ') else _) = _
      rw [if_pos hp, e2]
      cases b with
      | ex _ _ => exact q.elim
      | _ => rfl
    · cases b with
      | ex _ _ => exact q.elim
      | _ => exact q
  | _ => exact ⟨_, φ', by unfold sTry; rw [e], k⟩
end
section
variable {ρ : Rho} {P : Dt → Prop} {E : Er → Prop} {f f1 f2 : ME} {D : Fl → Prop} {s r : MS}
theorem we_heard {m : Er → Fd → Res Dt} {word : Str} (h : CanX (f ρ) (fun d => P (.tuple [.str word, d])) fun e => Can (m e) P) : wE1 (mHeard m word f) ρ P := fun φ => by
  rcases h φ with ⟨a, φ', e, k⟩ | ⟨a, φ', e, k⟩
  · exact ⟨_, φ', by unfold mHeard; rw [e], k⟩
  · obtain ⟨b, φ2, e2, q⟩ := k φ'
    exact ⟨b, φ2, by unfold mHeard; rw [e]; show noErr (m a φ') = _; rw [e2]; rfl, q⟩
theorem can_fnE {N : Nat} {body : MS} {e : Er} (h : wS1 body (.exc e :: List.replicate (N - 1) .un) fun fl => match fl with
    | .rt d => P d
    | .nx _ => P .none
    | _ => False) : Can (mFnE N body e) P := fun φ => by
  obtain ⟨a, φ', e2, k⟩ := h φ
  unfold mFnE
  rw [e2]
  cases a with
  | rt d => exact ⟨d, φ', rfl, k⟩
  | nx _ => exact ⟨.none, φ', rfl, k⟩
  | _ => exact k.elim
theorem we_isE {i : Nat} {e : Er} {p : Str → Bool} (h : ρ[i]? = some (.exc e)) (k : P (.bool (p e.cls))) : wE1 (mIsE i p) ρ P := fun φ => ⟨_, φ, by unfold mIsE; rw [h], k⟩
theorem we_xf {i : Nat} {e : Er} {fl : Str} {d : Dt} (h : ρ[i]? = some (.exc e)) (hf : e.fields.lookup fl = some d) (k : P d) : wE1 (mXf i fl) ρ P := fun φ => ⟨d, φ, by unfold mXf; rw [h]; show opt (e.fields.lookup fl) φ = _; rw [hf]; rfl, k⟩
theorem we_count (h : wE1 f1 ρ fun x => ∃ xs, x = .list xs ∧ wE1 f2 ρ fun y => ∃ z, countD (.list xs) y = some z ∧ P z) : wE1 (mCount f1 f2) ρ P :=
  can_bind (h.mono fun _ k => by
    obtain ⟨xs, rfl, k⟩ := k
    exact can_bind (k.mono fun _ q => can_opt q))
theorem wi_enum {I : List Dt → Prop} (h : wE1 f ρ fun x => ∃ xs, (x = .tuple xs ∨ x = .list xs) ∧ I (enumD xs)) : Can (miEnum f ρ) I :=
  can_bind (h.mono fun _ k => by
    obtain ⟨xs, rfl | rfl, k⟩ := k
    · exact can_ok k
    · exact can_ok k)
theorem enum_item {xs : List Dt} {i : Nat} {x : Dt} (h : (enumD xs)[i]? = some x) : ∃ y, xs[i]? = some y ∧ x = .tuple [.int (i : Nat), y] := by
  have lt : i < xs.length := by
    have := (List.getElem?_eq_some_iff.mp h).1
    rwa [enumD_len] at this
  have e := enumD_at (xs := xs) (List.getElem?_eq_getElem lt)
  rw [h] at e
  exact ⟨_, List.getElem?_eq_getElem lt, Option.some.inj e⟩
theorem range_item {n i : Nat} {x : Dt} (h : ((List.range n).map fun i => PyData.int (i : Nat))[i]? = some x) : i < n ∧ x = .int (i : Nat) := by
  rw [List.getElem?_map] at h
  have lt : i < n := by
    by_cases lt : i < n
    · exact lt
    · rw [List.getElem?_eq_none (by rw [List.length_range]; omega)] at h
      cases h
  rw [List.getElem?_range lt] at h
  exact ⟨lt, (Option.some.inj h).symm⟩
/-- a walk with a counter; the body may leave the def -/
theorem forGo_ix' {tg : Tg} {J : Nat → Rho → Prop} {n : Nat} : ∀ {xs : List Dt} {k : Nat} (_ : k + xs.length = n) (hb : ∀ i x, xs[i]? = some x → ∀ ρ, J (k + i) ρ → ∃ ρ1, bindT tg x ρ = some ρ1 ∧ wS1 s ρ1 fun fl => match fl with
    | .nx ρ' => J (k + i + 1) ρ'
    | .ct ρ' => J (k + i + 1) ρ'
    | .bk _ => False
    | x => D x) {ρ : Rho} (h : J k ρ) (q : ∀ ρ', J n ρ' → D (.nx ρ')), Can (forGo tg s xs ρ) D
  | [], k, hk, hb, ρ, h, q => can_ok (q ρ (by rw [← hk]; exact h))
  | x :: xs, k, hk, hb, ρ, h, q => fun φ => by
    rw [List.length_cons] at hk
    obtain ⟨ρ1, e1, w⟩ := hb 0 x rfl ρ h
    obtain ⟨a, φ', e, r⟩ := w φ
    have nxt : ∀ ρ', J (k + 1) ρ' → ∃ b φ2, forGo tg s xs ρ' φ' = .ok b φ2 ∧ D b := fun ρ' r =>
      forGo_ix' (k := k + 1) (xs := xs) (by omega) (fun i y hy ρ hJ => by
        have z := hb (i + 1) y hy ρ (by rw [show k + (i + 1) = k + 1 + i by omega]; exact hJ)
        rw [show k + (i + 1) = k + 1 + i by omega] at z
        exact z) r q φ'
    cases a with
    | nx ρ' =>
      obtain ⟨b, φ2, e2, d⟩ := nxt ρ' r
      exact ⟨b, φ2, by unfold forGo; rw [e1]; simp only [e]; exact e2, d⟩
    | ct ρ' =>
      obtain ⟨b, φ2, e2, d⟩ := nxt ρ' r
      exact ⟨b, φ2, by unfold forGo; rw [e1]; simp only [e]; exact e2, d⟩
    | bk _ => exact r.elim
    | rt d => exact ⟨.rt d, φ', by unfold forGo; rw [e1]; simp only [e], r⟩
    | ex er ρ' => exact ⟨.ex er ρ', φ', by unfold forGo; rw [e1]; simp only [e], r⟩
theorem forGo_ix {tg : Tg} {J : Nat → Rho → Prop} {xs : List Dt} (h : J 0 ρ) (hb : ∀ i x, xs[i]? = some x → ∀ ρ, J i ρ → ∃ ρ1, bindT tg x ρ = some ρ1 ∧ wS1 s ρ1 fun fl => match fl with
    | .nx ρ' => J (i + 1) ρ'
    | .ct ρ' => J (i + 1) ρ'
    | .bk _ => False
    | x => D x) (q : ∀ ρ', J xs.length ρ' → D (.nx ρ')) : Can (forGo tg s xs ρ) D :=
  forGo_ix' (k := 0) (n := xs.length) (by omega) (fun i x hx ρ hJ => by
    rw [Nat.zero_add] at hJ
    rw [Nat.zero_add]
    exact hb i x hx ρ hJ) h q
end
/-! the first of some numbers that has an answer -/
section
variable {β : Type} {f : Nat → Option β}
def firstF (f : Nat → Option β) (n : Nat) : Option β := (List.range n).findSome? f
theorem firstF_some {n i : Nat} {b : β} (lt : i < n) (h : ∀ j < i, f j = none) (e : f i = some b) : firstF f n = some b := by
  unfold firstF
  have : List.range n = List.range i ++ (i :: (List.range' (i + 1) (n - i - 1))) := by
    rw [List.range_eq_range', List.range_eq_range', show n = i + (1 + (n - i - 1)) by omega, ← List.range'_append]
    congr 1
    rw [Nat.zero_add, Nat.one_mul, Nat.add_comm 1, List.range'_succ, show i + (n - i - 1 + 1) - i - 1 = n - i - 1 by omega]
  rw [this, List.findSome?_append, List.findSome?_eq_none_iff.mpr (fun j hj => h j (List.mem_range.mp hj))]
  show ((match f i with | some b => some b | none => _) : Option β) = _
  rw [e]
theorem firstF_none {n : Nat} (h : ∀ j < n, f j = none) : firstF f n = none := List.findSome?_eq_none_iff.mpr fun j hj => h j (List.mem_range.mp hj)
theorem before_succ {i : Nat} (h : ∀ j < i, f j = none) (e : f i = none) : ∀ j < i + 1, f j = none := fun j hj => by
  rcases Nat.lt_succ_iff_lt_or_eq.mp hj with h1 | rfl
  · exact h j h1
  · exact e
theorem before_zero : ∀ j < 0, f j = none := fun j hj => absurd hj (Nat.not_lt_zero j)
end
end DL

set_option maxHeartbeats 2000000
/-! DL, part za: str(text or int), f-strings, xs.extend(ys) of an own list, sorted(set(ints)) -/
namespace DLS
open PySem PySem.Spec PyProof.Rows L2
section
variable {P : Program} {w : World} {A : Around} {E : Value → Shared → Prop} {s : Shared}
theorem set_ints {l : Addr} {items : Array Value} (ns : List Int) {Q : Value → Shared → Prop} (hh : A.handled = none) (hl : s.heap.IsList l items) (hit : IntsAre items.toList ns) (hfew : ns.length < 64)
    (h : ∀ (h' : Heap) (tk c : Nat), SetR w h' s.heap.objs.size (fun j => decide (j ∈ ns)) c → c ≤ ns.length → (∀ b o, s.heap.get? b = some o → h'.get? b = some o) → Q (.ref s.heap.objs.size) { s with heap := h', toks := tk }) :
    wpAny (model P w) A (call (.type "set") [.ref l]) Q E s := by
  have hb : ns.length + 1 < scanBound := Nat.lt_of_lt_of_le (Nat.succ_lt_succ hfew) (by decide)
  have hisz : items.size = ns.length := by
    rw [← Array.length_toList]
    exact IntsAre.length hit
  obtain ⟨c, tl, hmro⟩ := F.called_set.mro
  have hmade := F.called_set.made
  have hsub := F.called_set.sub
  refine wpAny_call (codeAny_of_tree ?_)
  show wpAny _ _ (callAny (.type "set") _) _ _ _
  refine wpAny_pure ⟨Code.quiet_builtin _ (by decide +kernel), codeAny_builtin F.entry_type_call ?_⟩
  rw [Around.under_plain (weight_type_call_type "set" [.ref l] []) rfl]
  have h1 := F.called_set.notType
  have h2 := F.called_set.canCreate
  have hct := F.typeCall_set_1 (.ref l)
  repeat (any_goals (first | assumption | wp_step))
  refine codeAny_mono (code_set_led1 (.ref l) (E := E) (Q₁ := fun obj s₁ => obj = .ref s.heap.objs.size ∧ s₁ = { s with heap := s.heap.push (newSet w) }) ⟨rfl, rfl⟩) fun r s₁ hr => ?_
  cases r with
  | error e => exact hr
  | ok fl =>
    cases fl with
    | ret obj =>
      obtain ⟨rfl, rfl⟩ := hr
      have hS : (s.heap.push (newSet w)).get? s.heap.objs.size = some (newSet w) := Heap.get?_push_size _ rfl
      have hT : Shared.TypeIs { s with heap := s.heap.push (newSet w) } (.ref s.heap.objs.size) "set" := ⟨_, hS, rfl⟩
      have hli := F.called_set.init.lookup
      have hbi := F.called_set.init.bind (.ref s.heap.objs.size)
      repeat (any_goals (first | assumption | wp_step))
      refine codeAny_mono (codeAny_call_builtin (R := wants (fun r s₂ => r = .none ∧ ∃ h' tk c, s₂ = { s with heap := h', toks := tk } ∧ SetR w h' s.heap.objs.size (fun j => decide (j ∈ ns)) c ∧ c ≤ ns.length ∧ (∀ b o, s.heap.get? b = some o → h'.get? b = some o)) E)
        F.called_set.init.plain F.entry_set_init (check_set_init_1 hT ?_)) fun r₂ s₂ hr₂ => ?_
      · obtain ⟨⟨ocls, odict, odata, oslots⟩, hol, hcl, nl, hdl⟩ := hl
        simp only at hcl hdl
        subst hcl; subst hdl
        have hol' : (s.heap.push (newSet w)).get? l = some { cls := .type "list", dict := odict, data := .seq items nl, slots := oslots } := Heap.get?_push_of_some _ hol
        have hsls := F.sub_list_set
        have hslf := F.sub_list_frozenset
        have hne : (Value.type "list" == Value.type "dict") = false := by decide
        have hl1 : (s.heap.push (newSet w)).IsList l items := ⟨_, hol', rfl, nl, rfl⟩
        unfold Builtin.«set.__init__» noKeywords Builtin.Frozenset.updateFrom
        generalize hPI : pyIter = PI
        wp_walk
        subst hPI
        refine wpAny_pyIter_list hl1 ?_
        refine wpAny_bind (wpAny_runValue ?_)
        have hlS : l < s.heap.objs.size := Heap.lt_size hol
        have hh3 : A.in1.in1.in1.handled = none := by simp [hh]
        have hz1 : (s.heap.push (newSet w)).objs.size = s.heap.objs.size + 1 := Heap.size_push ..
        have hneI : l ≠ (s.heap.push (newSet w)).objs.size := by rw [hz1]; exact Nat.ne_of_lt (Nat.lt_succ_of_lt hlS)
        have hSf : s.heap.objs.size ∉ [(s.heap.push (newSet w)).objs.size, l] := by
          rw [hz1]
          simp only [List.mem_cons, List.not_mem_nil, or_false, not_or]
          exact ⟨Nat.ne_of_lt (Nat.lt_succ_self _), Nat.ne_of_gt hlS⟩
        have hval : ∀ (i : Nat) (v : Value), items[i]? = some v → ∃ k t, ns[i]? = some k ∧ v = .int k t := fun i v hv => by
          have hi : i < ns.length := hisz ▸ (Array.getElem?_eq_some_iff.mp hv).1
          obtain ⟨t, q⟩ := PyProof.Rows.IntsAre.int_at hit i v (by rw [Array.getElem?_toList]; exact hv)
          have q2 : ns.getD i 0 = ns[i] := by rw [List.getD_eq_getElem?_getD, List.getElem?_eq_getElem hi]; rfl
          exact ⟨ns[i], t, List.getElem?_eq_getElem hi, by rw [q]; exact congrArg (fun z => Value.int z t) q2⟩
        refine set_update_ints ((Walks.list hh3 _ l hneI items).toS) s.heap.objs.size hSf ns hisz hb hval (items.size - 0) 0 _ (by omega) (Nat.zero_le _)
          ⟨⟨_, Heap.get?_push_size _ rfl, rfl, rfl⟩, (hl1.push _)⟩ ?hS0 ?hR
        case hS0 => exact ⟨0, Nat.le_refl 0, setR_new_at (Heap.get?_push_of_some _ hS)⟩
        case hR =>
          intro s' c' hm hc' hS'
          obtain ⟨h', g2, d', tk', os'⟩ := s'
          have eg : g2 = s.gens := hm.gens
          have ed : d' = s.drawn := hm.drawn
          have eo : os' = s.os := hm.os
          subst eg; subst ed; subst eo
          show wpAny _ _ _ _ _ _
          refine wpAny_pure ?_
          show wpAny _ _ (ret Value.none) _ _ _
          rw [hisz] at hc'
          refine wpAny_pure ⟨rfl, h', tk', c', rfl, hS', hc', fun b o e => ?_⟩
          have lt : b < s.heap.objs.size := Heap.lt_size e
          refine hm.heap b o (fun q => ?_) (Heap.get?_push_of_some _ (Heap.get?_push_of_some _ e))
          simp only [List.mem_cons, List.not_mem_nil, or_false] at q
          rw [hz1] at q
          rcases q with q | q
          · exact absurd q (Nat.ne_of_lt lt)
          · exact absurd q (Nat.ne_of_lt (Nat.lt_succ_of_lt lt))
      · cases r₂ with
        | error e => exact hr₂
        | ok fl₂ =>
          cases fl₂ with
          | ret r =>
            obtain ⟨rfl, h', tk, c, rfl, hS', hc', hk'⟩ := hr₂
            repeat (any_goals (first | assumption | wp_step))
            exact h _ _ _ hS' hc' hk'
          | _ => exact hr₂.elim
    | _ => exact hr.elim
end
end DLS
namespace DL
open PySem PySem.Spec PyProof.Rows L2 PySem.W DLS
section
variable {X : Cx} {c : Cn} {W : WX'} {pos : Pos} {e : Expr} {es : List Expr} {f : ME} {fs : List ME}
/-! set(ints) -/
def rSetI (K : PySem.W.Frag) (w : World) : List V → Hp → VK → Prop := fun xs H Q => ∃ (l : Addr) (ns : List Int), xs = [V.ref l] ∧ SqL K H l (ns.map V.int) ∧ ns.length < 64 ∧ ∀ a n, H a = none → n ≤ ns.length → Q (.ref a) (upd H a (SetO w a (fun j => decide (j ∈ ns)) n))
theorem cr_setI (hc : X.calm = true) : CallR X (.type "set") (rSetI X.K X.w) := by
  intro pins s σ H xs us Q I r h
  obtain ⟨l, ns, rfl, hl, hf, q⟩ := h
  rw [Vals.ref1 r]
  obtain ⟨its, rv, pl, hz⟩ := I.list hl
  have hn : H s.heap.objs.size = none := I.hok.fresh (Nat.le_refl _)
  refine set_ints (P := X.prog) (w := X.w) ns (I.ok.hd hc) pl.isList (by simpa using ints_of_vals rv) hf fun h' tk n R hn' k => ?_
  exact ⟨.ref s.heap.objs.size, upd H s.heap.objs.size (SetO X.w s.heap.objs.size (fun j => decide (j ∈ ns)) n), I.laid (t' := tk) k (Nat.le_refl _) (setO_new R), rfl, q _ n hn hn'⟩
def isIntD : Dt → Bool
  | .int _ => true
  | _ => false
def sortSetI : Dt → Option Dt
  | .list xs => if xs.length < 64 ∧ xs.all isIntD = true then some (.list (riseD xs)) else none
  | _ => none
theorem ints_dq {K : PySem.W.Frag} {F : Hp} : ∀ {vs : List V} {xs : List Dt}, DqAll K F vs xs → xs.all isIntD = true → ∃ ns : List Int, vs = ns.map V.int ∧ xs = ns.map PyData.int
  | _, _, .nil, _ => ⟨[], rfl, rfl⟩
  | _, _, .cons (d := d) h t, e => by
    rw [List.all_cons, Bool.and_eq_true] at e
    obtain ⟨ns, rfl, rfl⟩ := ints_dq t e.2
    cases h with
    | int i => exact ⟨i :: ns, rfl, rfl⟩
    | _ => cases e.1
theorem qe_ssetI {x y : Str} {p1 p2 ps : Pos} (hK : X.K = c.K) (hc : X.calm = true) (hm : X.mg x = none) (hm2 : X.mg y = none) (he : PE X e (tD c W f)) (hg : Gl X x := by rfl) (hg2 : Gl X y := by rfl)
    (hv : bootBuiltins x = some (.builtin "sorted") := by decide +kernel) (hv2 : bootBuiltins y = some (.type "set") := by decide +kernel) (hn : x ≠ "__name__" := by decide) (hn2 : y ≠ "__name__" := by decide)
    (hdb : (x == ("__debug__" : Str)) = false := by decide) (hdb2 : (y == ("__debug__" : Str)) = false := by decide)
    (hs : starEach [e] X.env = (false, eval e X.env) :: starEach [] X.env := by rfl) (hs2 : starEach [.Call (.Name y p2) [e] [] ps] X.env = (false, eval (.Call (.Name y p2) [e] [] ps) X.env) :: starEach [] X.env := by rfl)
    (hp1 : (backTo pos (starEach [] X.env)).any (·.1) = false := by rfl) (hp2 : (backTo ps (starEach [] X.env)).any (·.1) = false := by rfl) :
    PE X (.Call (.Name x p1) [.Call (.Name y p2) [e] [] ps] [] pos) (tD c W (m1 sortSetI f)) := by
  have h1 := pe_callTy (pos := ps) (p := p2) (cr_setI (X := X) hc) hg2 hm2 hv2 (pa_cons he pa_nil hs) hn2 hdb2 hs hp2
  refine pe_imp (pe_callB (p := p1) (cr_sortedSet (X := X) hc) hg hm hv (pa_cons h1 pa_nil hs2) hn hdb hs2 hp1) fun σ H Q ⟨O, ρ, φ, R, h⟩ => ?_
  refine ⟨O, ρ, φ, R, ge_bind h fun d φ1 v H1 _ R1 s1 p1 h1 => ?_⟩
  obtain ⟨z, ez, k⟩ := ge_opt R1 h1
  cases p1 with
  | @lst a vs xs g q =>
    have ez' : (if xs.length < 64 ∧ xs.all isIntD = true then some (PyData.list (riseD xs)) else none) = some z := ez
    by_cases hz : xs.length < 64 ∧ xs.all isIntD = true
    · rw [if_pos hz] at ez'
      cases ez'
      obtain ⟨ns, rfl, rfl⟩ := ints_dq q hz.2
      rw [List.length_map] at hz
      refine ⟨a, ns, rfl, SqL.of (fr_in _ _ g), hz.1, fun b n hb hn => ?_⟩
      have gr : Gro H1 (upd H1 b (SetO X.w b (fun j => decide (j ∈ ns)) n)) := Gro.upd hb
      refine ⟨b, _, n, rfl, upd_same, Nat.lt_of_le_of_lt hn hz.1, fun ms p pw hm hl hp => ?_⟩
      have al : ∀ x ∈ ns.map PyData.int, ∀ y ∈ ns.map PyData.int, alike x y = true := fun x hx y hy => by
        obtain ⟨i, _, rfl⟩ := List.mem_map.mp hx
        obtain ⟨j, _, rfl⟩ := List.mem_map.mp hy
        rfl
      obtain ⟨r1, r2⟩ := riseD_ok (xs := ns.map PyData.int) al
      have same : ms.map PyData.int = riseD (ns.map PyData.int) := rise_unique (List.pairwise_map.mpr (pw.imp fun {i j} h => (dataLt_int i j).trans (decide_eq_true h))) r1 fun z => by
        rw [r2]
        constructor
        · intro hz1
          obtain ⟨i, hi, rfl⟩ := List.mem_map.mp hz1
          exact List.mem_map.mpr ⟨i, of_decide_eq_true ((hm i).mp hi), rfl⟩
        · intro hz1
          obtain ⟨i, hi, rfl⟩ := List.mem_map.mp hz1
          exact List.mem_map.mpr ⟨i, (hm i).mpr (decide_eq_true hi), rfl⟩
      have nw1 := R1.nw
      have nw2 : Nw c O (upd H1 b (SetO X.w b (fun j => decide (j ∈ ns)) n)) := fun p hp => nw1 p (by
        cases h : H1 p with
        | none => rfl
        | some o => rw [gr p o h] at hp; cases hp)
      have da : ∀ (F : Hp) (l : List Int), DqAll c.K F (l.map V.int) (l.map PyData.int) := fun F l => by
        induction l with
        | nil => exact .nil
        | cons i r ih => exact .cons (.int i) ih
      exact new_lst nw2 (da _ ms) (by rw [same]; exact fun v H' g' p' => k v H' (gr.trans g') p') hp
    · rw [if_neg hz] at ez'
      cases ez'
  | _ => cases ez
/-! str(x) -/
def strX : List Dt → Option Dt
  | [.int i] => if i.natAbs.log2 < 1920 then some (.str (toString i)) else none
  | [.str x] => some (.str x)
  | [.tuple xs] => if PyData.showable (.tuple xs) = true ∧ SeqAt.shaped (.tuple xs) = true ∧ (PyData.shown (.tuple xs)).length ≤ sizeLine then some (.str (PyData.shown (.tuple xs))) else none
  | _ => none
def rStrT (K : PySem.W.Frag) : List V → Hp → VK → Prop := fun xs H Q => ∃ a d, xs = [V.ref a] ∧ Dp K H (.ref a) d ∧ d.showable = true ∧ SeqAt.shaped d = true ∧ d.shown.length ≤ sizeLine ∧ Q (.str d.shown) H
theorem call_strT (gd : X.A.guards = some []) (hu : X.A.units + 68 < cLine) : CallR X (.type "str") (rStrT X.K) := by
  intro pins s σ H xs us Q I r h
  obtain ⟨a, d, rfl, hd, hs, sh, hz, q⟩ := h
  obtain ⟨u, rfl, r0⟩ := vals1 r
  cases r0
  obtain ⟨as, rd⟩ := Dp.reads I d (.ref a) (.ref a) hd rfl
  have h2 : (d.canLay0 && decide (d.depth ≤ 64)) = true := sh
  rw [Bool.and_eq_true] at h2
  have hd2 : d.depth ≤ 64 := of_decide_eq_true h2.2
  have hnd : d.hasDict = false := PyData.hasDict_of_canLay d h2.1
  refine str_of_reads rd hs (fun q => by rw [hnd] at q; cases q) gd (by omega) (fun b o q => q) (fun h' v tk hk => ?_) hz
  exact ⟨.str d.shown, H, I.kept (t' := tk) hk, ⟨_, rfl⟩, q⟩
def rStrX (K : PySem.W.Frag) : List V → Hp → VK → Prop := fun xs H Q => ((fun xs H Q => ∃ i, xs = [V.int i] ∧ i.natAbs.log2 < 1920 ∧ Q (.str (toString i)) H) xs H Q ∨ (fun xs H Q => ∃ a, xs = [V.str a] ∧ Q (.str a) H) xs H Q) ∨ rStrT K xs H Q
theorem call_strX (gd : X.A.guards = some []) (hu : X.A.units + 68 < cLine) : CallR X (.type "str") (rStrX X.K) := CallR.or (CallR.or call_str_int SkE.call_str_str) (call_strT gd hu)
theorem strX_d {K : PySem.W.Frag} (hK : K = c.K) : CaD c (rStrX K) strX := fun O H xs ds z Q _ p e k => by
  subst hK
  cases p with
  | nil => cases e
  | cons h t =>
    cases t with
    | cons _ _ => cases h <;> cases e
    | nil =>
      cases h with
      | int i =>
        have e' : (if i.natAbs.log2 < 1920 then some (PyData.str (toString i)) else none) = some z := e
        by_cases hz : i.natAbs.log2 < 1920
        · rw [if_pos hz] at e'
          cases e'
          exact .inl (.inl ⟨i, rfl, hz, ans_here k (.str _)⟩)
        · rw [if_neg hz] at e'
          cases e'
      | str x =>
        cases e
        exact .inl (.inr ⟨x, rfl, ans_here k (.str _)⟩)
      | @tup a vs xs g q =>
        have e' : (if PyData.showable (.tuple xs) = true ∧ SeqAt.shaped (.tuple xs) = true ∧ (PyData.shown (.tuple xs)).length ≤ sizeLine then some (PyData.str (PyData.shown (.tuple xs))) else none) = some z := e
        by_cases hz : PyData.showable (.tuple xs) = true ∧ SeqAt.shaped (.tuple xs) = true ∧ (PyData.shown (.tuple xs)).length ≤ sizeLine
        · rw [if_pos hz] at e'
          cases e'
          exact .inr ⟨a, .tuple xs, rfl, (dq_gro fr_in (.tup g q)).dp, hz.1, hz.2.1, hz.2.2, ans_here k (.str _)⟩
        · rw [if_neg hz] at e'
          cases e'
      | _ => cases e
/-! f-strings -/
def fmtD : Dt → Option Dt
  | .int i => if i.natAbs.log2 < 1920 then some (.str (toString i)) else none
  | .str x => if x.length ≤ sizeLine then some (.str x) else none
  | _ => none
theorem qe_fmt (he : PE X e (tD c W f)) : PE X (.FormattedValue e (-1) none pos) (tD c W (m1 fmtD f)) :=
  pe_imp (pe_fmt he) fun σ H Q ⟨O, ρ, φ, R, h⟩ => ⟨O, ρ, φ, R, ge_bind h fun d φ1 v H1 _ R1 s1 p1 h1 => by
    obtain ⟨z, ez, k⟩ := ge_opt R1 h1
    cases p1 with
    | int i =>
      have e' : (if i.natAbs.log2 < 1920 then some (PyData.str (toString i)) else none) = some z := ez
      by_cases hz : i.natAbs.log2 < 1920
      · rw [if_pos hz] at e'
        cases e'
        exact .inr ⟨i, rfl, hz, ans_here k (.str _)⟩
      · rw [if_neg hz] at e'
        cases e'
    | str x =>
      have e' : (if x.length ≤ sizeLine then some (PyData.str x) else none) = some z := ez
      by_cases hz : x.length ≤ sizeLine
      · rw [if_pos hz] at e'
        cases e'
        exact .inl ⟨x, rfl, hz, ans_here k (.str _)⟩
      · rw [if_neg hz] at e'
        cases e'
    | _ => cases ez⟩
def mJ : List ME → Str → ME
  | [], acc => fun _ φ => .ok (.str acc) φ
  | f :: fs, acc => fun ρ φ => (f ρ φ).bind fun d φ' => match d with
    | .str y => if (acc ++ y).length ≤ sizeLine then mJ fs (acc ++ y) ρ φ' else .no
    | _ => .no
theorem qj_nil : PJ X [] (([] : List ME).map (tD c W)) := .nil
theorem qj_cons (h : PE X e (tD c W f)) (r : PJ X es (fs.map (tD c W))) : PJ X (e :: es) ((f :: fs).map (tD c W)) := .cons h r
theorem tjs_of {O : Nat → Option Addr} {σ : L2.St} {ρ : Rho} {Q : VK} : ∀ {fs : List ME} {acc : Str} {φ : Fd} {H : Hp}, Rel c O H σ ρ φ → GE c W O σ ρ H Q (mJ fs acc ρ φ) → tJs (fs.map (tD c W)) acc σ H fun out H1 => Q (.str out) H1
  | [], acc, φ, H, R, h => ans_here (ge_ok R h) (.str acc)
  | f :: fs, acc, φ, H, R, h => ⟨O, ρ, φ, R, ge_bind h fun d φ1 v H1 _ R1 s1 p1 h1 => by
      cases p1 with
      | str y =>
        by_cases hz : (acc ++ y).length ≤ sizeLine
        · have h2 : GE c W O σ ρ H1 Q (if (acc ++ y).length ≤ sizeLine then mJ fs (acc ++ y) ρ φ1 else .no) := h1
          rw [if_pos hz] at h2
          exact ⟨y, rfl, hz, tjs_of R1 h2⟩
        · have h2 : GE c W O σ ρ H1 Q (if (acc ++ y).length ≤ sizeLine then mJ fs (acc ++ y) ρ φ1 else .no) := h1
          rw [if_neg hz] at h2
          exact h2.elim
      | _ => exact h1.elim⟩
theorem qe_joined {v1 v2 : Expr} {rest : List Expr} (h : PJ X (v1 :: v2 :: rest) (fs.map (tD c W))) : PE X (.JoinedStr (v1 :: v2 :: rest) pos) (tD c W (mJ fs Str.empty)) :=
  pe_imp (pe_joined h) fun σ H Q ⟨O, ρ, φ, R, h⟩ => tjs_of R h
theorem qe_joined1 (h : PE X e (tD c W f)) : PE X (.JoinedStr [e] pos) (tD c W f) := pe_joined1 h
/-! own.extend(list) -/
def sExt (j : Nat) (f : ME) : MS := fun ρ φ => match ρ[j]? with
  | some (.own ds) => eS (f ρ φ) ρ fun d φ' => match d with
    | .list xs => if ds.length + xs.length ≤ sizeLine then .ok (.nx (ρ.set j (.own (ds ++ xs)))) φ' else .no
    | _ => .no
  | _ => .no
theorem qs_ext {j : Nat} {x : Str} {np ap cpos : Pos} (hK : X.K = c.K) (he : PE X e (tD c W f)) (hN : X.N[j]? = some x := by rfl) (hv : Vis X.env.scope x := by first | exact Or.inl rfl | exact Or.inr (Or.inl rfl) | exact Or.inr (Or.inr rfl))
    (hd : (x == ("__debug__" : Str)) = false := by decide) (hcd : (x == ("__classdict__" : Str)) = false := by decide)
    (hbase : attributeBase (.Name x np) "extend" X.env (eval (.Name x np) X.env) = eval (.Name x np) X.env := by rfl)
    (hfew : ((backTo cpos (starEach [e] X.env)).all (fun x => !x.1) && (backToKw cpos (keywordEach [] X.env)).all (fun x => x.1.isSome)
      && decide (([e] : List Expr).length + ([] : List Keyword).length + (if ([] : List Keyword).isEmpty then 0 else 1) < 30)) = true := by rfl)
    (hline : (ap.endLine == cpos.line) = true := by rfl) (hst : starEach [e] X.env = (false, eval e X.env) :: starEach [] X.env := by rfl) (hplain : (backTo cpos (starEach [] X.env)).any (·.1) = false := by rfl)
    (hs : swapsWith (.Call (.Attribute (.Name x np) "extend" ap) [e] [] cpos) none pos.line X.env = pure false := by rfl) :
    PS X (.Expr (.Call (.Attribute (.Name x np) "extend" ap) [e] [] cpos) pos) (tS c W (sExt j f)) :=
  ps_imp (ps_expr (pe_bm PySem.F.plainAttrs_list PySem.F.slot_list_extend PySem.F.type_list_extend mt_extend (pe_var hN hv hd hcd) (pa_cons he pa_nil hst) hbase hfew hline hst hplain) hs) fun D σ H ⟨O, ρ, φ, R, h⟩ => by
    unfold sExt at h
    split at h
    · rename_i ds er
      obtain ⟨a, us, e1, e2, e3, p0⟩ := R.slot j _ er
      refine ⟨_, e2, .inl ⟨rfl, _, SqL.of e3⟩, ⟨O, ρ, φ, R, gs_e h fun d φ1 v H1 _ R1 s1 p1 h1 => ?_⟩⟩
      cases p1 with
      | @lst b vs xs g q =>
        by_cases z : ds.length + xs.length ≤ sizeLine
        · have h2 : GS c W (Fr c O H) D (if ds.length + xs.length ≤ sizeLine then .ok (.nx (ρ.set j (.own (ds ++ xs)))) φ1 else .no) := h1
          rw [if_pos z] at h2
          have an : a ≠ c.fa := fun q => R.ownfa j (by rw [← q]; exact e1)
          have e4 : H1 a = some (.lst us) := s1.at e3 an
          refine ⟨a, b, us, vs, rfl, rfl, e4, fr_in _ _ g, by rw [dqA_len p0, dqA_len q]; exact z, ?_⟩
          have R2 := R1.updOwn (vs := us ++ vs) (ds := ds ++ xs) e1 e2 e4 (dqA_app (dqA_gro (s1.fr R.ok) p0) q)
          refine h2 O σ _ R2 ?_
          rw [fr_upd e1]
          exact s1.fr R.ok
        · have h2 : GS c W (Fr c O H) D (if ds.length + xs.length ≤ sizeLine then .ok (.nx (ρ.set j (.own (ds ++ xs)))) φ1 else .no) := h1
          rw [if_neg z] at h2
          exact h2.elim
      | _ => exact h1.elim
    · exact h.elim
/-! what they may answer -/
variable {ρ : Rho} {Pd : Dt → Prop} {D : Fl → Prop}
theorem we_jnil {acc : Str} (h : Pd (.str acc)) : wE1 (mJ [] acc) ρ Pd := can_ok h
theorem we_jcons {acc : Str} (h : wE1 f ρ fun d => ∃ y, d = .str y ∧ (acc ++ y).length ≤ sizeLine ∧ wE1 (mJ fs (acc ++ y)) ρ Pd) : wE1 (mJ (f :: fs) acc) ρ Pd :=
  can_bind (h.mono fun d k => by
    obtain ⟨y, rfl, hz, k⟩ := k
    have q : (fun φ' => if (acc ++ y).length ≤ sizeLine then mJ fs (acc ++ y) ρ φ' else Res.no) = mJ fs (acc ++ y) ρ := funext fun _ => if_pos hz
    show Can (fun φ' => if (acc ++ y).length ≤ sizeLine then mJ fs (acc ++ y) ρ φ' else Res.no) Pd
    rw [q]
    exact k)
theorem ws_ext {j : Nat} {ds : List Dt} (e0 : ρ[j]? = some (.own ds)) (h : wE1 f ρ fun d => ∃ xs, d = .list xs ∧ ds.length + xs.length ≤ sizeLine ∧ D (.nx (ρ.set j (.own (ds ++ xs))))) : wS1 (sExt j f) ρ D := fun φ => by
  obtain ⟨_, φ', e, xs, rfl, z, k⟩ := h φ
  refine ⟨_, φ', ?_, k⟩
  unfold sExt
  rw [e0]
  show eS (f ρ φ) ρ _ = _
  rw [e]
  exact if_pos z
end
end DL

set_option maxHeartbeats 2000000
/-! DL, part zb: x = x + e of an own list -/
namespace DL
open PySem PySem.Spec PyProof.Rows L2 PySem.W DLS
section
variable {X : Cx} {c : Cn} {W : WX'} {pos : Pos} {e : Expr} {f : ME}
def sOwnAdd (j : Nat) (f : ME) : MS := fun ρ φ => match ρ[j]? with
  | some (.own ds) => eS (f ρ φ) ρ fun d φ' => match d with
    | .list xs => if ds.length + xs.length ≤ sizeLine then .ok (.nx (ρ.set j (.own (ds ++ xs)))) φ' else .no
    | _ => .no
  | _ => .no
theorem qs_ownAdd {j : Nat} {x : Str} {p1 p2 p3 : Pos} (hK : X.K = c.K) (he : PE X e (tD c W f)) (nd : X.N.Nodup) (hN : X.N[j]? = some x := by rfl) (hx : Loc X.env.scope x := by first | exact Or.inl rfl | exact Or.inr rfl) (hv : Vis X.env.scope x := by first | exact Or.inl rfl | exact Or.inr (Or.inl rfl) | exact Or.inr (Or.inr rfl))
    (hd : (x == ("__debug__" : Str)) = false := by decide) (hcd : (x == ("__classdict__" : Str)) = false := by decide)
    (hs : swapsWith (.BinOp (.Name x p2) .Add e p3) (some (.Name x p1)) pos.line X.env = pure false := by rfl) (hf : X.fn x = true ∨ X.env.scope.names.lookup x = some .local := by first | exact .inl rfl | exact .inr rfl | assumption) :
    PS X (.Assign [.Name x p1] (.BinOp (.Name x p2) .Add e p3) pos) (tS c W (sOwnAdd j f)) :=
  ps_imp (ps_set nd hN hx (pe_op op_addD (pe_var hN hv hd hcd) he) hs hf) fun D σ H ⟨O, ρ, φ, R, h⟩ => by
    unfold sOwnAdd at h
    split at h
    · rename_i ds er
      obtain ⟨a, us, e1, e2, e3, p0⟩ := R.slot j _ er
      refine ⟨_, e2, ⟨O, ρ, φ, R, gs_e h fun d φ1 v H1 _ R1 s1 p1 h1 => ?_⟩⟩
      cases p1 with
      | @lst b vs xs g q =>
        by_cases z : ds.length + xs.length ≤ sizeLine
        · have h2 : GS c W (Fr c O H) D (if ds.length + xs.length ≤ sizeLine then .ok (.nx (ρ.set j (.own (ds ++ xs)))) φ1 else .no) := h1
          rw [if_pos z] at h2
          have an : a ≠ c.fa := fun q => R.ownfa j (by rw [← q]; exact e1)
          have e4 : H1 a = some (.lst us) := s1.at e3 an
          have pa : DqAll c.K (Fr c O H1) (us ++ vs) (ds ++ xs) := dqA_app (dqA_gro (s1.fr R.ok) p0) q
          refine .inr ⟨a, b, us, vs, rfl, rfl, e4, fr_in _ _ g, by rw [dqA_len p0, dqA_len q]; exact z, fun p hp => ?_⟩
          obtain ⟨O', R2, gr⟩ := R1.setOwn (j := j) hp pa
          exact h2 O' _ _ R2 ((s1.fr R.ok).trans gr)
        · have h2 : GS c W (Fr c O H) D (if ds.length + xs.length ≤ sizeLine then .ok (.nx (ρ.set j (.own (ds ++ xs)))) φ1 else .no) := h1
          rw [if_neg z] at h2
          exact h2.elim
      | _ => exact h1.elim
    · exact h.elim
variable {ρ : Rho} {D : Fl → Prop}
theorem ws_ownAdd {j : Nat} {ds : List Dt} (e0 : ρ[j]? = some (.own ds)) (h : wE1 f ρ fun d => ∃ xs, d = .list xs ∧ ds.length + xs.length ≤ sizeLine ∧ D (.nx (ρ.set j (.own (ds ++ xs))))) : wS1 (sOwnAdd j f) ρ D := fun φ => by
  obtain ⟨_, φ', e, xs, rfl, z, k⟩ := h φ
  refine ⟨_, φ', ?_, k⟩
  unfold sOwnAdd
  rw [e0]
  show eS (f ρ φ) ρ _ = _
  rw [e]
  exact if_pos z
end
theorem room68 {k : Nat} {A : Around} (r : Room k A) : A.units + 68 < cLine := by have := r.un; omega
end DL

set_option maxHeartbeats 1000000
/-! DL, part zc: further rules for what a mirror may answer -/
namespace DL
open PySem PySem.Spec PyProof.Rows L2
theorem wi_r1' {ρ : Rho} {g : MA} {I : List Dt → Prop} (h : wA1 g ρ fun xs => ∃ n : Nat, xs = [.int n] ∧ n < 4611686018427387904 ∧ I ((List.range n).map fun i => .int (i : Nat))) : Can (miR1 g ρ) I := can_bind (h.mono fun xs k => by
  obtain ⟨n, rfl, hn, q⟩ := k
  intro φ
  exact ⟨_, φ, if_pos ⟨by omega, by omega⟩, by rw [Int.toNat_natCast]; exact q⟩)
end DL
namespace DL
open PySem PySem.Spec PyProof.Rows L2
theorem forGo_invN {tg : Tg} {s : MS} {D : Fl → Prop} {J : Nat → Rho → Prop} {n : Nat} : ∀ {xs : List Dt} {k : Nat} (_ : k + xs.length = n) (hb : ∀ k < n, ∀ x, ∀ ρ, J k ρ → ∃ ρ1, bindT tg x ρ = some ρ1 ∧ wS1 s ρ1 fun fl => match fl with
    | .nx ρ' => J (k + 1) ρ'
    | .ct ρ' => J (k + 1) ρ'
    | _ => False) {ρ : Rho} (h : J k ρ) (q : ∀ ρ', J n ρ' → D (.nx ρ')), Can (forGo tg s xs ρ) D
  | [], k, hk, hb, ρ, h, q => can_ok (q ρ (by rw [← hk]; exact h))
  | x :: xs, k, hk, hb, ρ, h, q => fun φ => by
    rw [List.length_cons] at hk
    obtain ⟨ρ1, e1, w⟩ := hb k (by omega) x ρ h
    obtain ⟨a, φ', e, r⟩ := w φ
    cases a with
    | nx ρ' =>
      obtain ⟨b, φ2, e2, d⟩ := forGo_invN (k := k + 1) (xs := xs) (by omega) hb r q φ'
      exact ⟨b, φ2, by unfold forGo; rw [e1]; simp only [e]; exact e2, d⟩
    | ct ρ' =>
      obtain ⟨b, φ2, e2, d⟩ := forGo_invN (k := k + 1) (xs := xs) (by omega) hb r q φ'
      exact ⟨b, φ2, by unfold forGo; rw [e1]; simp only [e]; exact e2, d⟩
    | _ => exact r.elim
end DL
namespace DL
open PySem PySem.Spec PyProof.Rows L2
/-- [f(x) for x in it] -/
theorem we_map {ρ : Rho} {P : Dt → Prop} {it : MI} {vs : List Nat} {elt : ME} {j : Nat} {q : Dt → Dt} (h : Can (it ρ) fun xs => xs.length ≤ sizeLine ∧ (∀ x ∈ xs, wE1 elt ((wipeR ρ vs).set j (.dat x)) fun y => y = q x) ∧ P (.list (xs.map q))) : wE1 (mLc it (.nm j) mtYes elt vs) ρ P :=
  we_lc (p := fun _ => true) (q := q) (h.mono fun xs ⟨h1, h2, h3⟩ => ⟨h1, fun x hx => ⟨wt_yes rfl, fun _ => h2 x hx⟩, by rw [List.filter_eq_self.mpr (fun _ _ => rfl)]; exact h3⟩)
theorem or_some {α : Type} {a b : Option α} {x : α} (h : a = some x) : a.or b = some x := by rw [h]; rfl
theorem or_none {α : Type} {a b : Option α} (h : a = none) : a.or b = b := by rw [h]; rfl
end DL
namespace DL
open PySem PySem.Spec PyProof.Rows L2
mutual
/-- the very same data -/
def eqP : Dt → Dt → Bool
  | .none, .none => true
  | .bool a, .bool b => a == b
  | .int a, .int b => decide (a = b)
  | .str a, .str b => decide (a = b)
  | .list xs, .list ys => eqPs xs ys
  | .tuple xs, .tuple ys => eqPs xs ys
  | _, _ => false
def eqPs : List Dt → List Dt → Bool
  | [], [] => true
  | x :: xs, y :: ys => eqP x y && eqPs xs ys
  | _, _ => false
end
mutual
theorem eqP_eq : ∀ (x y : Dt), eqP x y = true → x = y
  | .none, y, h => by cases y <;> first | rfl | cases h
  | .bool a, y, h => by
    cases y with
    | bool b => exact congrArg _ (by simpa [eqP] using h)
    | _ => cases h
  | .int a, y, h => by
    cases y with
    | int b => exact congrArg _ (of_decide_eq_true h)
    | _ => cases h
  | .str a, y, h => by
    cases y with
    | str b => exact congrArg _ (of_decide_eq_true h)
    | _ => cases h
  | .list xs, y, h => by
    cases y with
    | list ys => exact congrArg _ (eqPs_eq xs ys h)
    | _ => cases h
  | .tuple xs, y, h => by
    cases y with
    | tuple ys => exact congrArg _ (eqPs_eq xs ys h)
    | _ => cases h
  | .dict _, y, h => by cases y <;> cases h
theorem eqPs_eq : ∀ (xs ys : List Dt), eqPs xs ys = true → xs = ys
  | [], ys, h => by cases ys with
    | nil => rfl
    | cons _ _ => cases h
  | x :: xs, ys, h => by
    cases ys with
    | nil => cases h
    | cons y ys =>
      have h' : (eqP x y && eqPs xs ys) = true := h
      rw [Bool.and_eq_true] at h'
      rw [eqP_eq x y h'.1, eqPs_eq xs ys h'.2]
end
theorem firstF_mem {β : Type} {f : Nat → Option β} {n : Nat} {b : β} (h : firstF f n = some b) : ∃ i < n, f i = some b := by
  obtain ⟨i, hi, e⟩ := List.exists_of_findSome?_eq_some h
  exact ⟨i, List.mem_range.mp hi, e⟩
end DL
namespace DL
open PySem PySem.Spec PyProof.Rows L2
/-- xs[:p] + (y,) + xs[p + 1:] -/
theorem we_splice {ρ : Rho} {P : Dt → Prop} {i j : Nat} {xs : List Dt} {p : Nat} {f : ME} (hi : ρ[i]? = some (.dat (.tuple xs))) (hj : ρ[j]? = some (.dat (.int (p : Nat)))) (lt : p < xs.length) (hl : xs.length ≤ 1000)
    (hf : wE1 f ρ fun y => P (.tuple (xs.take p ++ [y] ++ xs.drop (p + 1)))) : wE1 (m2 addD (m2 addD (mSl (mVar i) moNone (moSome (mVar j))) (mTup (maCons f maNil))) (mSl (mVar i) (moSome (m2 addD (mVar j) (mC (.int 1)))) moNone)) ρ P := by
  have e1 : (PyData.int ((p : Int) + 1)) = .int ((p + 1 : Nat) : Int) := by rw [Int.natCast_add]; rfl
  refine we_2 (we_2 (we_sl (we_var hi (wo_none (wo_some (we_var hj ⟨_, rfl, _, rfl, we_tup (wa_cons (hf.mono fun y hy => wa_nil ⟨Nat.le_of_ble_eq_true rfl, ?_⟩))⟩))))))
  rw [cut_take]
  refine ⟨_, if_pos ?_, we_sl (we_var hi (wo_some (we_2 (we_var hj (we_c ⟨_, rfl, _, e1, wo_none ⟨_, rfl, ?_⟩⟩)))))⟩
  · rw [List.length_take, List.length_singleton]
    unfold sizeLine
    omega
  · rw [cut_drop]
    refine ⟨_, if_pos ?_, hy⟩
    rw [List.length_append, List.length_take, List.length_drop, List.length_singleton]
    unfold sizeLine
    omega
theorem splice_all {P : Dt → Prop} {xs : List Dt} {p : Nat} {y : Dt} (h : ∀ x ∈ xs, P x) (hy : P y) : ∀ x ∈ xs.take p ++ [y] ++ xs.drop (p + 1), P x := fun x hx => by
  rcases List.mem_append.mp hx with h1 | h1
  · rcases List.mem_append.mp h1 with h2 | h2
    · exact h x (List.mem_of_mem_take h2)
    · rw [List.mem_singleton.mp h2]
      exact hy
  · exact h x (List.mem_of_mem_drop h1)
theorem splice_len {xs : List Dt} {p : Nat} {y : Dt} (lt : p < xs.length) : (xs.take p ++ [y] ++ xs.drop (p + 1)).length = xs.length := by
  rw [List.length_append, List.length_append, List.length_take, List.length_drop, List.length_singleton]
  omega
end DL
namespace DL
open PySem PySem.Spec PyProof.Rows L2 DLS
theorem we_lcE {ρ : Rho} {P : Dt → Prop} {it : MI} {tg : Tg} {vs : List Nat} {elt : ME} {Q : Dt → Prop} (h : Can (it ρ) fun xs => xs.length ≤ sizeLine ∧ (∀ x ∈ xs, ∃ ρ1, bindT tg x (wipeR ρ vs) = some ρ1 ∧ wE1 elt ρ1 Q) ∧ ∀ ys : List Dt, ys.length = xs.length → (∀ y ∈ ys, Q y) → P (.list ys)) :
    wE1 (mLc it tg mtYes elt vs) ρ P := fun φ => by
  obtain ⟨xs, φ', e, hz, hx, hP⟩ := h φ
  have go : ∀ (xs : List Dt) (φ : Fd), (∀ x ∈ xs, ∃ ρ1, bindT tg x (wipeR ρ vs) = some ρ1 ∧ wE1 elt ρ1 Q) → ∃ ys φ', lcGo tg mtYes elt (wipeR ρ vs) xs φ = .ok ys φ' ∧ ys.length = xs.length ∧ ∀ y ∈ ys, Q y := by
    intro xs
    induction xs with
    | nil => exact fun φ _ => ⟨[], φ, rfl, rfl, fun _ h => (List.not_mem_nil h).elim⟩
    | cons x xs ih =>
      intro φ hx
      obtain ⟨ρ1, e1, he⟩ := hx x List.mem_cons_self
      unfold lcGo
      rw [e1]
      obtain ⟨y, φ2, e3, q⟩ := he φ
      obtain ⟨ys, φ3, e4, hl, hq⟩ := ih φ2 fun y hy => hx y (List.mem_cons_of_mem _ hy)
      refine ⟨y :: ys, φ3, ?_, congrArg (· + 1) hl, fun z hz => ?_⟩
      · show (((elt ρ1 φ).bind _ : Res (List Dt))) = _
        rw [e3]
        show (((lcGo _ _ _ _ _ φ2).bind _ : Res (List Dt))) = _
        rw [e4]
        rfl
      · rcases List.mem_cons.mp hz with rfl | hz
        · exact q
        · exact hq z hz
  obtain ⟨ys, φ2, e2, hl, hq⟩ := go xs φ' hx
  refine ⟨_, φ2, ?_, hP ys hl hq⟩
  unfold mLc
  rw [e]
  show (if xs.length ≤ sizeLine then _ else _) = _
  rw [if_pos hz, e2]
  rfl
theorem insD_len {x : PyData} : ∀ {l : List PyData}, (insD x l).length ≤ l.length + 1
  | [] => Nat.le_refl _
  | y :: r => by
    unfold insD
    have := insD_len (x := x) (l := r)
    split
    · exact Nat.le_refl _
    · split <;> simp only [List.length_cons] <;> omega
theorem riseD_len : ∀ {xs : List PyData}, (riseD xs).length ≤ xs.length
  | [] => Nat.le_refl _
  | x :: xs => by
    have := riseD_len (xs := xs)
    show (insD x (riseD xs)).length ≤ xs.length + 1
    exact Nat.le_trans insD_len (Nat.succ_le_succ this)
/-- two lists, item by item -/
inductive All2 (Q : Dt → Dt → Prop) : List Dt → List Dt → Prop
  | nil : All2 Q [] []
  | cons {x y : Dt} {xs ys : List Dt} (h : Q x y) (t : All2 Q xs ys) : All2 Q (x :: xs) (y :: ys)
theorem All2.len {Q : Dt → Dt → Prop} : ∀ {xs ys : List Dt}, All2 Q xs ys → ys.length = xs.length
  | _, _, .nil => rfl
  | _, _, .cons _ t => congrArg (· + 1) t.len
theorem All2.mem {Q : Dt → Dt → Prop} : ∀ {xs ys : List Dt}, All2 Q xs ys → ∀ y ∈ ys, ∃ x ∈ xs, Q x y
  | _, _, .nil, _, h => (List.not_mem_nil h).elim
  | _, _, .cons h t, z, hz => by
    rcases List.mem_cons.mp hz with rfl | h1
    · exact ⟨_, List.mem_cons_self, h⟩
    · obtain ⟨x, hx, q⟩ := t.mem z h1
      exact ⟨x, List.mem_cons_of_mem _ hx, q⟩
theorem All2.map_eq {Q : Dt → Dt → Prop} {f : Dt → Dt} (hf : ∀ x y, Q x y → f y = x) : ∀ {xs ys : List Dt}, All2 Q xs ys → ys.map f = xs
  | _, _, .nil => rfl
  | _, _, .cons h t => by rw [List.map_cons, hf _ _ h, t.map_eq hf]
/-- a comprehension whose answers belong to the items -/
theorem we_lcF {ρ : Rho} {P : Dt → Prop} {it : MI} {tg : Tg} {vs : List Nat} {elt : ME} {Q : Dt → Dt → Prop} (h : Can (it ρ) fun xs => xs.length ≤ sizeLine ∧ (∀ x ∈ xs, ∃ ρ1, bindT tg x (wipeR ρ vs) = some ρ1 ∧ wE1 elt ρ1 (Q x)) ∧ ∀ ys : List Dt, All2 Q xs ys → P (.list ys)) :
    wE1 (mLc it tg mtYes elt vs) ρ P := fun φ => by
  obtain ⟨xs, φ', e, hz, hx, hP⟩ := h φ
  have go : ∀ (xs : List Dt) (φ : Fd), (∀ x ∈ xs, ∃ ρ1, bindT tg x (wipeR ρ vs) = some ρ1 ∧ wE1 elt ρ1 (Q x)) → ∃ ys φ', lcGo tg mtYes elt (wipeR ρ vs) xs φ = .ok ys φ' ∧ All2 Q xs ys := by
    intro xs
    induction xs with
    | nil => exact fun φ _ => ⟨[], φ, rfl, .nil⟩
    | cons x xs ih =>
      intro φ hx
      obtain ⟨ρ1, e1, he⟩ := hx x List.mem_cons_self
      unfold lcGo
      rw [e1]
      obtain ⟨y, φ2, e3, q⟩ := he φ
      obtain ⟨ys, φ3, e4, hl⟩ := ih φ2 fun y hy => hx y (List.mem_cons_of_mem _ hy)
      refine ⟨y :: ys, φ3, ?_, .cons q hl⟩
      show (((elt ρ1 φ).bind _ : Res (List Dt))) = _
      rw [e3]
      show (((lcGo _ _ _ _ _ φ2).bind _ : Res (List Dt))) = _
      rw [e4]
      rfl
  obtain ⟨ys, φ2, e2, hl⟩ := go xs φ' hx
  refine ⟨_, φ2, ?_, hP ys hl⟩
  unfold mLc
  rw [e]
  show (if xs.length ≤ sizeLine then _ else _) = _
  rw [if_pos hz, e2]
  rfl
/-- [x for x in it if t], where some are sure to be kept -/
theorem we_lcSub {ρ : Rho} {P : Dt → Prop} {it : MI} {vs : List Nat} {elt : ME} {t : MT} {j : Nat} {must : Dt → Prop} (h : Can (it ρ) fun xs => xs.length ≤ sizeLine ∧ (∀ x ∈ xs, wT1 t ((wipeR ρ vs).set j (.dat x)) (fun b => (must x → b = true) ∧ wE1 elt ((wipeR ρ vs).set j (.dat x)) fun y => y = x)) ∧
    ∀ ys : List Dt, ys.Sublist xs → (∀ x ∈ xs, must x → x ∈ ys) → P (.list ys)) : wE1 (mLc it (.nm j) t elt vs) ρ P := fun φ => by
  obtain ⟨xs, φ', e, hz, hx, hP⟩ := h φ
  have go : ∀ (xs : List Dt) (φ : Fd), (∀ x ∈ xs, wT1 t ((wipeR ρ vs).set j (.dat x)) (fun b => (must x → b = true) ∧ wE1 elt ((wipeR ρ vs).set j (.dat x)) fun y => y = x)) → ∃ ys φ', lcGo (.nm j) t elt (wipeR ρ vs) xs φ = .ok ys φ' ∧ ys.Sublist xs ∧ ∀ x ∈ xs, must x → x ∈ ys := by
    intro xs
    induction xs with
    | nil => exact fun φ _ => ⟨[], φ, rfl, .slnil, fun _ h => (List.not_mem_nil h).elim⟩
    | cons x xs ih =>
      intro φ hx
      obtain ⟨b, φ1, e2, hm, he⟩ := hx x List.mem_cons_self φ
      unfold lcGo
      show ∃ ys φ', ((t ((wipeR ρ vs).set j (.dat x)) φ).bind _ : Res (List Dt)) = _ ∧ _
      rw [e2]
      cases b with
      | true =>
        obtain ⟨y, φ2, e3, rfl⟩ := he φ1
        obtain ⟨ys, φ3, e4, hl, hq⟩ := ih φ2 fun y hy => hx y (List.mem_cons_of_mem _ hy)
        refine ⟨y :: ys, φ3, ?_, hl.cons_cons y, fun z hz hmz => ?_⟩
        · show (((elt _ φ1).bind _ : Res (List Dt))) = _
          rw [e3]
          show (((lcGo _ _ _ _ _ φ2).bind _ : Res (List Dt))) = _
          rw [e4]
          rfl
        · rcases List.mem_cons.mp hz with rfl | h1
          · exact List.mem_cons_self
          · exact List.mem_cons_of_mem _ (hq z h1 hmz)
      | false =>
        obtain ⟨ys, φ3, e4, hl, hq⟩ := ih φ1 fun y hy => hx y (List.mem_cons_of_mem _ hy)
        refine ⟨ys, φ3, e4, hl.cons x, fun z hz hmz => ?_⟩
        rcases List.mem_cons.mp hz with rfl | h1
        · exact absurd (hm hmz) (by decide)
        · exact hq z h1 hmz
  obtain ⟨ys, φ2, e2, hl, hq⟩ := go xs φ' hx
  refine ⟨_, φ2, ?_, hP ys hl hq⟩
  unfold mLc
  rw [e]
  show (if xs.length ≤ sizeLine then _ else _) = _
  rw [if_pos hz, e2]
  rfl
end DL

set_option maxHeartbeats 2000000
/-! DL, part zd: text * int, list * int, tuple * int -/
namespace DL
open PySem PySem.Spec PyProof.Rows L2 PySem.W DLS
section
variable {X : Cx} {c : Cn} {W : WX'} {pos : Pos} {e : Expr} {f : ME}
theorem mulOk_small {x : Str} {n : Int} (h0 : 0 ≤ n) (h1 : n ≤ 1000) (hx : x.length ≤ 1000) : MulOk x n := by
  refine ⟨?_, fun h2 h3 => ?_, fun h2 h3 => ?_⟩
  · rw [decide_eq_false (by omega), decide_eq_false (by omega)]
    rfl
  · have : (x.length : Int) * n ≤ 2 ^ 63 - 1 := by
      have := Int.mul_le_mul (show (x.length : Int) ≤ 1000 by omega) h1 h0 (by decide : (0 : Int) ≤ 1000)
      omega
    have := Int.le_ediv_of_mul_le (by omega : 0 < n) this
    omega
  · have : x.length * n.toNat ≤ 1000 * 1000 := Nat.mul_le_mul hx (by omega)
    unfold Builtin.Str.tooLong
    exact decide_eq_false (by unfold sizeLine; omega)
def rMulS : R2 := fun x y H Q => ∃ a n, x = .str a ∧ y = .int n ∧ 0 ≤ n ∧ n ≤ 1000 ∧ a.length ≤ 1000 ∧ Q (.str (Txt.mul a n)) H
theorem op_mulS : OpR X (binaryOp .Mult) rMulS := by
  intro pins s σ H x y v u Q I rx ry ⟨a, n, ex, ey, h0, h1, hz, q⟩
  subst ex ey
  obtain ⟨t, rfl⟩ := rx
  obtain ⟨t', rfl⟩ := ry
  exact SB.mul (mulOk_small h0 h1 hz) fun t2 k => ⟨.str _, H, I.tok _, ⟨_, rfl⟩, q⟩
def rMulX (K : PySem.W.Frag) : R2 := fun x y H Q => ((rI CMul (fun i j => V.int (i * j)) x y H Q ∨ rMulS x y H Q) ∨ rRep x y H Q) ∨ rRepT K x y H Q
theorem op_mulX' : OpR X (binaryOp .Mult) (rMulX X.K) := opr_or (opr_or (opr_or op_mul op_mulS) op_rep) op_repT
def mulX : Dt → Dt → Option Dt
  | .int i, .int j => if (-(2 ^ 64) < i ∧ i < 2 ^ 64) ∨ (-(2 ^ 64) < j ∧ j < 2 ^ 64) then some (.int (i * j)) else none
  | .str a, .int n => if 0 ≤ n ∧ n ≤ 1000 ∧ a.length ≤ 1000 then some (.str (Txt.mul a n)) else none
  | .list xs, .int n => if 0 ≤ n ∧ n ≤ 1000 ∧ xs.length ≤ 1000 then some (.list (List.replicate n.toNat xs).flatten) else none
  | .tuple xs, .int n => if 2 ≤ n ∧ n ≤ 1000 ∧ xs.length ≤ 1000 ∧ xs ≠ [] then some (.tuple (List.replicate n.toNat xs).flatten) else none
  | _, _ => none
theorem dqA_rep {K : PySem.W.Frag} {H : Hp} {vs : List V} {ds : List Dt} (p : DqAll K H vs ds) : ∀ n : Nat, DqAll K H (List.replicate n vs).flatten (List.replicate n ds).flatten
  | 0 => .nil
  | n + 1 => by
    rw [List.replicate_succ, List.replicate_succ, List.flatten_cons, List.flatten_cons]
    exact dqA_app p (dqA_rep p n)
theorem mulX_d {K : PySem.W.Frag} (hK : K = c.K) : OpD c (rMulX K) mulX := fun O H x y d1 d2 z Q n h1 h2 e k => by
  subst hK
  cases h1 with
  | int i =>
    cases h2 <;> first | cases e | skip
    rename_i j
    have e' : (if (-(2 ^ 64) < i ∧ i < 2 ^ 64) ∨ (-(2 ^ 64) < j ∧ j < 2 ^ 64) then some (PyData.int (i * j)) else none) = some z := e
    by_cases hc : (-(2 ^ 64) < i ∧ i < 2 ^ 64) ∨ (-(2 ^ 64) < j ∧ j < 2 ^ 64)
    · rw [if_pos hc] at e'
      cases e'
      exact .inl (.inl (.inl ⟨_, _, rfl, rfl, hc, ans_here k (.int _)⟩))
    · rw [if_neg hc] at e'
      cases e'
  | str a =>
    cases h2 <;> first | cases e | skip
    rename_i j
    have e' : (if 0 ≤ j ∧ j ≤ 1000 ∧ a.length ≤ 1000 then some (PyData.str (Txt.mul a j)) else none) = some z := e
    by_cases hc : 0 ≤ j ∧ j ≤ 1000 ∧ a.length ≤ 1000
    · rw [if_pos hc] at e'
      cases e'
      exact .inl (.inl (.inr ⟨_, _, rfl, rfl, hc.1, hc.2.1, hc.2.2, ans_here k (.str _)⟩))
    · rw [if_neg hc] at e'
      cases e'
  | @lst a vs ds g p =>
    cases h2 <;> first | cases e | skip
    rename_i j
    have e' : (if 0 ≤ j ∧ j ≤ 1000 ∧ ds.length ≤ 1000 then some (PyData.list (List.replicate j.toNat ds).flatten) else none) = some z := e
    by_cases hc : 0 ≤ j ∧ j ≤ 1000 ∧ ds.length ≤ 1000
    · rw [if_pos hc] at e'
      cases e'
      refine .inl (.inr ⟨a, j, vs, rfl, rfl, fr_in _ _ g, by omega, by omega, ?_, fun p' hp => new_lst n (dqA_rep p j.toNat) k hp⟩)
      rw [dqA_len p]
      have : ds.length * j.toNat ≤ 1000 * 1000 := Nat.mul_le_mul hc.2.2 (by omega)
      unfold sizeLine
      omega
    · rw [if_neg hc] at e'
      cases e'
  | @tup a vs ds g p =>
    cases h2 <;> first | cases e | skip
    rename_i j
    have e' : (if 2 ≤ j ∧ j ≤ 1000 ∧ ds.length ≤ 1000 ∧ ds ≠ [] then some (PyData.tuple (List.replicate j.toNat ds).flatten) else none) = some z := e
    by_cases hc : 2 ≤ j ∧ j ≤ 1000 ∧ ds.length ≤ 1000 ∧ ds ≠ []
    · rw [if_pos hc] at e'
      cases e'
      have hl := dqA_len p
      refine .inr ⟨a, j, vs, rfl, rfl, sqT_gro fr_in g, fun h => ?_, hc.1, hc.2.1, by rw [hl]; exact hc.2.2.1, fun p' hp => new_tup n (dqA_rep p j.toNat) k hp⟩
      rw [h] at hl
      exact hc.2.2.2 (List.eq_nil_of_length_eq_zero hl.symm)
    · rw [if_neg hc] at e'
      cases e'
  | _ => cases h2 <;> cases e
end
end DL

set_option maxHeartbeats 4000000
namespace K09
open PySem PySem.Spec PyProof.Rows L2 DL
def topS (i : Nat) : Stmt := PySem.Challenge.pw_keptends_k09_texts_written.main.body.getD i (.Pass ⟨0, 0, 0, 0⟩)
abbrev s_is_integer : Stmt := topS 9
abbrev s_is_number : Stmt := topS 10
abbrev s_is_among : Stmt := topS 11
abbrev s_is_name : Stmt := topS 12
abbrev s_is_twofold : Stmt := topS 13
abbrev s_is_rising : Stmt := topS 14
abbrev s_is_targets : Stmt := topS 15
abbrev s_is_pair : Stmt := topS 16
abbrev s_is_begin : Stmt := topS 17
abbrev s_is_birth : Stmt := topS 18
abbrev s_is_asides : Stmt := topS 19
abbrev s_is_instruction : Stmt := topS 20
abbrev s_is_role : Stmt := topS 21
abbrev s_want : Stmt := topS 34
abbrev s_words_of : Stmt := topS 36
abbrev s_is_written : Stmt := topS 37
abbrev s_instruction_text : Stmt := topS 38
abbrev s_program_text : Stmt := topS 39
abbrev s__law_draw : Stmt := topS 42
abbrev s__law_pick : Stmt := topS 43
abbrev s__law_name : Stmt := topS 44
abbrev s__law_fresh : Stmt := topS 45
abbrev s__law_names : Stmt := topS 46
abbrev s__law_set : Stmt := topS 47
abbrev s__law_instruction : Stmt := topS 48
abbrev s__law_asides : Stmt := topS 49
abbrev s__law_role : Stmt := topS 50
abbrev s__law_begin : Stmt := topS 51
abbrev s__law_program : Stmt := topS 52
abbrev s__law_no : Stmt := topS 53
abbrev s__law_same : Stmt := topS 54
abbrev s__law_error : Stmt := topS 55
abbrev s__law_heard : Stmt := topS 56
abbrev s__law_odd_instruction : Stmt := topS 57
abbrev s__law_odd_asides : Stmt := topS 58
abbrev s__law_odd_begin : Stmt := topS 59
abbrev s__law_line : Stmt := topS 60
abbrev s__law_text : Stmt := topS 61
abbrev s__law_great : Stmt := topS 62
abbrev s__law_any_set : Stmt := topS 63
abbrev s__law_any_instruction : Stmt := topS 64
abbrev s__law_any_program : Stmt := topS 65
abbrev s__law_instruction_right : Stmt := topS 66
abbrev s__law_program_right : Stmt := topS 67
abbrev s__law_refused_right : Stmt := topS 68
abbrev s__law_feed : Stmt := topS 41
abbrev s_law : Stmt := topS 69
def d_ENDS : Dt := (.tuple [(.str "r"), (.str "w")])
def d_HOLDS : Dt := (.tuple [(.str "none"), (.str "open"), (.str "marked")])
def d_BIRTHS : Dt := (.tuple [(.str "copy"), (.str "start")])
def d_SHUTS : Dt := (.tuple [(.str "mark"), (.str "close")])
def d_GOINGS : Dt := (.tuple [(.str "read"), (.str "write"), (.str "wait")])
def d_WORDS : Dt := (.tuple [(.str "go"), (.str "copy"), (.str "start"), (.str "mark"), (.str "close"), (.str "read"), (.str "write"), (.str "wait"), (.str "stay"), (.str "end")])
def d_LETTERS : Dt := (.str "abcdefghijklmnopqrstuvwxyz")
def d_MOST_LETTERS : Dt := (.int 8)
structure Txt (K : PySem.W.Frag) (mg : Str → Option Value) where
  a_is_integer : Addr
  d_is_integer : FuncData
  f_is_integer : Fun K "is_integer" "is_integer" s_is_integer a_is_integer d_is_integer
  g_is_integer : mg "is_integer" = some (.ref a_is_integer)
  b_is_integer : L2.Binds K d_is_integer ["thing"] []
  a_is_number : Addr
  d_is_number : FuncData
  f_is_number : Fun K "is_number" "is_number" s_is_number a_is_number d_is_number
  g_is_number : mg "is_number" = some (.ref a_is_number)
  b_is_number : L2.Binds K d_is_number ["thing"] []
  a_is_among : Addr
  d_is_among : FuncData
  f_is_among : Fun K "is_among" "is_among" s_is_among a_is_among d_is_among
  g_is_among : mg "is_among" = some (.ref a_is_among)
  b_is_among : L2.Binds K d_is_among ["thing", "some"] []
  a_is_name : Addr
  d_is_name : FuncData
  f_is_name : Fun K "is_name" "is_name" s_is_name a_is_name d_is_name
  g_is_name : mg "is_name" = some (.ref a_is_name)
  b_is_name : L2.Binds K d_is_name ["thing"] []
  a_is_twofold : Addr
  d_is_twofold : FuncData
  f_is_twofold : Fun K "is_twofold" "is_twofold" s_is_twofold a_is_twofold d_is_twofold
  g_is_twofold : mg "is_twofold" = some (.ref a_is_twofold)
  b_is_twofold : L2.Binds K d_is_twofold ["thing"] []
  a_is_rising : Addr
  d_is_rising : FuncData
  f_is_rising : Fun K "is_rising" "is_rising" s_is_rising a_is_rising d_is_rising
  g_is_rising : mg "is_rising" = some (.ref a_is_rising)
  b_is_rising : L2.Binds K d_is_rising ["things"] []
  a_is_targets : Addr
  d_is_targets : FuncData
  f_is_targets : Fun K "is_targets" "is_targets" s_is_targets a_is_targets d_is_targets
  g_is_targets : mg "is_targets" = some (.ref a_is_targets)
  b_is_targets : L2.Binds K d_is_targets ["thing"] []
  a_is_pair : Addr
  d_is_pair : FuncData
  f_is_pair : Fun K "is_pair" "is_pair" s_is_pair a_is_pair d_is_pair
  g_is_pair : mg "is_pair" = some (.ref a_is_pair)
  b_is_pair : L2.Binds K d_is_pair ["thing"] []
  a_is_begin : Addr
  d_is_begin : FuncData
  f_is_begin : Fun K "is_begin" "is_begin" s_is_begin a_is_begin d_is_begin
  g_is_begin : mg "is_begin" = some (.ref a_is_begin)
  b_is_begin : L2.Binds K d_is_begin ["thing"] []
  a_is_birth : Addr
  d_is_birth : FuncData
  f_is_birth : Fun K "is_birth" "is_birth" s_is_birth a_is_birth d_is_birth
  g_is_birth : mg "is_birth" = some (.ref a_is_birth)
  b_is_birth : L2.Binds K d_is_birth ["thing"] []
  a_is_asides : Addr
  d_is_asides : FuncData
  f_is_asides : Fun K "is_asides" "is_asides" s_is_asides a_is_asides d_is_asides
  g_is_asides : mg "is_asides" = some (.ref a_is_asides)
  b_is_asides : L2.Binds K d_is_asides ["thing"] []
  a_is_instruction : Addr
  d_is_instruction : FuncData
  f_is_instruction : Fun K "is_instruction" "is_instruction" s_is_instruction a_is_instruction d_is_instruction
  g_is_instruction : mg "is_instruction" = some (.ref a_is_instruction)
  b_is_instruction : L2.Binds K d_is_instruction ["thing"] []
  a_is_role : Addr
  d_is_role : FuncData
  f_is_role : Fun K "is_role" "is_role" s_is_role a_is_role d_is_role
  g_is_role : mg "is_role" = some (.ref a_is_role)
  b_is_role : L2.Binds K d_is_role ["thing"] []
  a_want : Addr
  d_want : FuncData
  f_want : Fun K "want" "want" s_want a_want d_want
  g_want : mg "want" = some (.ref a_want)
  b_want : L2.Binds K d_want ["is_right", "word"] []
  a_words_of : Addr
  d_words_of : FuncData
  f_words_of : Fun K "words_of" "words_of" s_words_of a_words_of d_words_of
  g_words_of : mg "words_of" = some (.ref a_words_of)
  b_words_of : L2.Binds K d_words_of ["instruction"] []
  a_is_written : Addr
  d_is_written : FuncData
  f_is_written : Fun K "is_written" "is_written" s_is_written a_is_written d_is_written
  g_is_written : mg "is_written" = some (.ref a_is_written)
  b_is_written : L2.Binds K d_is_written ["thing"] []
  a_instruction_text : Addr
  d_instruction_text : FuncData
  f_instruction_text : Fun K "instruction_text" "instruction_text" s_instruction_text a_instruction_text d_instruction_text
  g_instruction_text : mg "instruction_text" = some (.ref a_instruction_text)
  b_instruction_text : L2.Binds K d_instruction_text ["instruction"] []
  kb_instruction_text : KB0 K d_instruction_text ["instruction"]
  a_program_text : Addr
  d_program_text : FuncData
  f_program_text : Fun K "program_text" "program_text" s_program_text a_program_text d_program_text
  g_program_text : mg "program_text" = some (.ref a_program_text)
  b_program_text : L2.Binds K d_program_text ["program"] []
  kb_program_text : KB0 K d_program_text ["program"]
  a__law_draw : Addr
  d__law_draw : FuncData
  f__law_draw : Fun K "_law_draw" "_law_draw" s__law_draw a__law_draw d__law_draw
  g__law_draw : mg "_law_draw" = some (.ref a__law_draw)
  b__law_draw : L2.Binds K d__law_draw ["_law_feed_here", "_law_many"] []
  a__law_pick : Addr
  d__law_pick : FuncData
  f__law_pick : Fun K "_law_pick" "_law_pick" s__law_pick a__law_pick d__law_pick
  g__law_pick : mg "_law_pick" = some (.ref a__law_pick)
  b__law_pick : L2.Binds K d__law_pick ["_law_feed_here", "_law_some"] []
  a__law_name : Addr
  d__law_name : FuncData
  f__law_name : Fun K "_law_name" "_law_name" s__law_name a__law_name d__law_name
  g__law_name : mg "_law_name" = some (.ref a__law_name)
  b__law_name : L2.Binds K d__law_name ["_law_feed_here"] []
  a__law_fresh : Addr
  d__law_fresh : FuncData
  f__law_fresh : Fun K "_law_fresh" "_law_fresh" s__law_fresh a__law_fresh d__law_fresh
  g__law_fresh : mg "_law_fresh" = some (.ref a__law_fresh)
  b__law_fresh : L2.Binds K d__law_fresh ["_law_names_here"] []
  a__law_names : Addr
  d__law_names : FuncData
  f__law_names : Fun K "_law_names" "_law_names" s__law_names a__law_names d__law_names
  g__law_names : mg "_law_names" = some (.ref a__law_names)
  b__law_names : L2.Binds K d__law_names ["_law_feed_here", "_law_many"] []
  a__law_set : Addr
  d__law_set : FuncData
  f__law_set : Fun K "_law_set" "_law_set" s__law_set a__law_set d__law_set
  g__law_set : mg "_law_set" = some (.ref a__law_set)
  b__law_set : L2.Binds K d__law_set ["_law_feed_here", "_law_many"] []
  a__law_instruction : Addr
  d__law_instruction : FuncData
  f__law_instruction : Fun K "_law_instruction" "_law_instruction" s__law_instruction a__law_instruction d__law_instruction
  g__law_instruction : mg "_law_instruction" = some (.ref a__law_instruction)
  b__law_instruction : L2.Binds K d__law_instruction ["_law_feed_here", "_law_many", "_law_names_here"] []
  a__law_asides : Addr
  d__law_asides : FuncData
  f__law_asides : Fun K "_law_asides" "_law_asides" s__law_asides a__law_asides d__law_asides
  g__law_asides : mg "_law_asides" = some (.ref a__law_asides)
  b__law_asides : L2.Binds K d__law_asides ["_law_feed_here", "_law_names_here"] []
  a__law_role : Addr
  d__law_role : FuncData
  f__law_role : Fun K "_law_role" "_law_role" s__law_role a__law_role d__law_role
  g__law_role : mg "_law_role" = some (.ref a__law_role)
  b__law_role : L2.Binds K d__law_role ["_law_feed_here", "_law_title", "_law_names_here"] []
  a__law_begin : Addr
  d__law_begin : FuncData
  f__law_begin : Fun K "_law_begin" "_law_begin" s__law_begin a__law_begin d__law_begin
  g__law_begin : mg "_law_begin" = some (.ref a__law_begin)
  b__law_begin : L2.Binds K d__law_begin ["_law_feed_here"] []
  a__law_program : Addr
  d__law_program : FuncData
  f__law_program : Fun K "_law_program" "_law_program" s__law_program a__law_program d__law_program
  g__law_program : mg "_law_program" = some (.ref a__law_program)
  b__law_program : L2.Binds K d__law_program ["_law_feed_here", "_law_most"] []
  a__law_no : Addr
  d__law_no : FuncData
  f__law_no : Fun K "_law_no" "_law_no" s__law_no a__law_no d__law_no
  g__law_no : mg "_law_no" = some (.ref a__law_no)
  b__law_no : L2.Binds K d__law_no ["_law_verb"] []
  a__law_same : Addr
  d__law_same : FuncData
  f__law_same : Fun K "_law_same" "_law_same" s__law_same a__law_same d__law_same
  g__law_same : mg "_law_same" = some (.ref a__law_same)
  b__law_same : L2.Binds K d__law_same ["_law_told", "_law_due"] []
  a__law_error : Addr
  d__law_error : FuncData
  f__law_error : Fun K "_law_error" "_law_error" s__law_error a__law_error d__law_error
  g__law_error : mg "_law_error" = some (.ref a__law_error)
  b__law_error : L2.Binds K d__law_error ["_law_e"] []
  a__law_heard : Addr
  d__law_heard : FuncData
  f__law_heard : Fun K "_law_heard" "_law_heard" s__law_heard a__law_heard d__law_heard
  g__law_heard : mg "_law_heard" = some (.ref a__law_heard)
  b__law_heard : L2.Binds K d__law_heard ["_law_ask"] []
  a__law_odd_instruction : Addr
  d__law_odd_instruction : FuncData
  f__law_odd_instruction : Fun K "_law_odd_instruction" "_law_odd_instruction" s__law_odd_instruction a__law_odd_instruction d__law_odd_instruction
  g__law_odd_instruction : mg "_law_odd_instruction" = some (.ref a__law_odd_instruction)
  b__law_odd_instruction : L2.Binds K d__law_odd_instruction ["_law_feed_here", "_law_title"] []
  a__law_odd_asides : Addr
  d__law_odd_asides : FuncData
  f__law_odd_asides : Fun K "_law_odd_asides" "_law_odd_asides" s__law_odd_asides a__law_odd_asides d__law_odd_asides
  g__law_odd_asides : mg "_law_odd_asides" = some (.ref a__law_odd_asides)
  b__law_odd_asides : L2.Binds K d__law_odd_asides ["_law_feed_here", "_law_title"] []
  a__law_odd_begin : Addr
  d__law_odd_begin : FuncData
  f__law_odd_begin : Fun K "_law_odd_begin" "_law_odd_begin" s__law_odd_begin a__law_odd_begin d__law_odd_begin
  g__law_odd_begin : mg "_law_odd_begin" = some (.ref a__law_odd_begin)
  b__law_odd_begin : L2.Binds K d__law_odd_begin ["_law_feed_here"] []
  a__law_line : Addr
  d__law_line : FuncData
  f__law_line : Fun K "_law_line" "_law_line" s__law_line a__law_line d__law_line
  g__law_line : mg "_law_line" = some (.ref a__law_line)
  b__law_line : L2.Binds K d__law_line ["_law_deed"] []
  a__law_text : Addr
  d__law_text : FuncData
  f__law_text : Fun K "_law_text" "_law_text" s__law_text a__law_text d__law_text
  g__law_text : mg "_law_text" = some (.ref a__law_text)
  b__law_text : L2.Binds K d__law_text ["_law_plan"] []
  a__law_great : Addr
  d__law_great : FuncData
  f__law_great : Fun K "_law_great" "_law_great" s__law_great a__law_great d__law_great
  g__law_great : mg "_law_great" = some (.ref a__law_great)
  b__law_great : L2.Binds K d__law_great ["_law_feed_here"] []
  a__law_any_set : Addr
  d__law_any_set : FuncData
  f__law_any_set : Fun K "_law_any_set" "_law_any_set" s__law_any_set a__law_any_set d__law_any_set
  g__law_any_set : mg "_law_any_set" = some (.ref a__law_any_set)
  b__law_any_set : L2.Binds K d__law_any_set ["_law_feed_here"] []
  a__law_any_instruction : Addr
  d__law_any_instruction : FuncData
  f__law_any_instruction : Fun K "_law_any_instruction" "_law_any_instruction" s__law_any_instruction a__law_any_instruction d__law_any_instruction
  g__law_any_instruction : mg "_law_any_instruction" = some (.ref a__law_any_instruction)
  b__law_any_instruction : L2.Binds K d__law_any_instruction ["_law_feed_here"] []
  a__law_any_program : Addr
  d__law_any_program : FuncData
  f__law_any_program : Fun K "_law_any_program" "_law_any_program" s__law_any_program a__law_any_program d__law_any_program
  g__law_any_program : mg "_law_any_program" = some (.ref a__law_any_program)
  b__law_any_program : L2.Binds K d__law_any_program ["_law_feed_here"] []
  a__law_instruction_right : Addr
  d__law_instruction_right : FuncData
  f__law_instruction_right : Fun K "_law_instruction_right" "_law_instruction_right" s__law_instruction_right a__law_instruction_right d__law_instruction_right
  g__law_instruction_right : mg "_law_instruction_right" = some (.ref a__law_instruction_right)
  b__law_instruction_right : L2.Binds K d__law_instruction_right ["_law_one"] []
  a__law_program_right : Addr
  d__law_program_right : FuncData
  f__law_program_right : Fun K "_law_program_right" "_law_program_right" s__law_program_right a__law_program_right d__law_program_right
  g__law_program_right : mg "_law_program_right" = some (.ref a__law_program_right)
  b__law_program_right : L2.Binds K d__law_program_right ["_law_plan"] []
  a__law_refused_right : Addr
  d__law_refused_right : FuncData
  f__law_refused_right : Fun K "_law_refused_right" "_law_refused_right" s__law_refused_right a__law_refused_right d__law_refused_right
  g__law_refused_right : mg "_law_refused_right" = some (.ref a__law_refused_right)
  b__law_refused_right : L2.Binds K d__law_refused_right ["_law_feed_here", "_law_plan"] []
  a__law_feed : Addr
  d__law_feed : FuncData
  f__law_feed : Fun K "_law_feed" "_law_feed" s__law_feed a__law_feed d__law_feed
  g__law_feed : mg "_law_feed" = some (.ref a__law_feed)
  b__law_feed : L2.Binds K d__law_feed ["_law_script"] []
  n_ValueError : mg "ValueError" = none
  n_all : mg "all" = none
  n_bool : mg "bool" = none
  n_int : mg "int" = none
  n_isinstance : mg "isinstance" = none
  n_len : mg "len" = none
  n_list : mg "list" = none
  n_range : mg "range" = none
  n_repr : mg "repr" = none
  n_set : mg "set" = none
  n_sorted : mg "sorted" = none
  n_str : mg "str" = none
  n_tuple : mg "tuple" = none
  n_zip : mg "zip" = none
  c_ENDS : GC K mg "ENDS" d_ENDS
  c_HOLDS : GC K mg "HOLDS" d_HOLDS
  c_BIRTHS : GC K mg "BIRTHS" d_BIRTHS
  c_SHUTS : GC K mg "SHUTS" d_SHUTS
  c_GOINGS : GC K mg "GOINGS" d_GOINGS
  c_WORDS : GC K mg "WORDS" d_WORDS
  c_LETTERS : GC K mg "LETTERS" d_LETTERS
  c_MOST_LETTERS : GC K mg "MOST_LETTERS" d_MOST_LETTERS
theorem if_NotUsable : DLX.InitForm (initS (topS 29)) "self" "word" "at" "word" "at" := ⟨⟨_, _, _, _, _, _, _, _, _, _, _, _, _, _, _, rfl, fun _ => ⟨_, rfl⟩⟩, ⟨_, _, _, rfl, rfl⟩, rfl, rfl, rfl, rfl, rfl, rfl, rfl, rfl, by decide, by decide, by decide, by decide, by decide, by decide, by decide, by decide⟩
def p_HouseError : Str → Bool := fun nm => false
def p_InvalidPaper : Str → Bool := fun nm => false
def p_InvalidRow : Str → Bool := fun nm => false
def p_InvalidStep : Str → Bool := fun nm => false
def p_InvalidText : Str → Bool := fun nm => false
def p_NotUsable : Str → Bool := fun nm => decide (nm = "NotUsable")
def p_PaperError : Str → Bool := fun nm => false
def p_ProgramError : Str → Bool := fun nm => decide (nm = "NotUsable")
def p_TextError : Str → Bool := fun nm => false
def p_ValueError : Str → Bool := fun nm => decide (nm = "NotUsable")
def p_InvalidStep_InvalidRow : Str → Bool := fun nm => p_InvalidStep nm || p_InvalidRow nm
structure Exs (P : Program) (L : Lw) (mg : Str → Option Value) (T : Txt L.K mg) where
  C_HouseError : Addr
  m_HouseError : mg "HouseError" = some (.ref C_HouseError)
  C_InvalidPaper : Addr
  m_InvalidPaper : mg "InvalidPaper" = some (.ref C_InvalidPaper)
  C_InvalidRow : Addr
  m_InvalidRow : mg "InvalidRow" = some (.ref C_InvalidRow)
  C_InvalidStep : Addr
  m_InvalidStep : mg "InvalidStep" = some (.ref C_InvalidStep)
  C_InvalidText : Addr
  m_InvalidText : mg "InvalidText" = some (.ref C_InvalidText)
  C_NotUsable : Addr
  m_NotUsable : mg "NotUsable" = some (.ref C_NotUsable)
  C_PaperError : Addr
  m_PaperError : mg "PaperError" = some (.ref C_PaperError)
  C_PipeError : Addr
  m_PipeError : mg "PipeError" = some (.ref C_PipeError)
  C_ProgramError : Addr
  m_ProgramError : mg "ProgramError" = some (.ref C_ProgramError)
  C_TextError : Addr
  m_TextError : mg "TextError" = some (.ref C_TextError)
  I_NotUsable : Addr
  i_NotUsable : DLX.InitC P L.K (initS (topS 29)) "NotUsable.__init__" C_NotUsable I_NotUsable "word" "at"
  c_NotUsable : L.cls "NotUsable" C_NotUsable
  nsup : mg "super" = none
  exk : ∀ nm a, L.cls nm a → ExcK L.K a
  is_HouseError : ∀ nm a, L.cls nm a → PySem.W.kitOne L.K (.ref a) (.ref C_HouseError) = some (p_HouseError nm)
  is_InvalidPaper : ∀ nm a, L.cls nm a → PySem.W.kitOne L.K (.ref a) (.ref C_InvalidPaper) = some (p_InvalidPaper nm)
  is_InvalidRow : ∀ nm a, L.cls nm a → PySem.W.kitOne L.K (.ref a) (.ref C_InvalidRow) = some (p_InvalidRow nm)
  is_InvalidStep : ∀ nm a, L.cls nm a → PySem.W.kitOne L.K (.ref a) (.ref C_InvalidStep) = some (p_InvalidStep nm)
  is_InvalidText : ∀ nm a, L.cls nm a → PySem.W.kitOne L.K (.ref a) (.ref C_InvalidText) = some (p_InvalidText nm)
  is_NotUsable : ∀ nm a, L.cls nm a → PySem.W.kitOne L.K (.ref a) (.ref C_NotUsable) = some (p_NotUsable nm)
  is_PaperError : ∀ nm a, L.cls nm a → PySem.W.kitOne L.K (.ref a) (.ref C_PaperError) = some (p_PaperError nm)
  is_ProgramError : ∀ nm a, L.cls nm a → PySem.W.kitOne L.K (.ref a) (.ref C_ProgramError) = some (p_ProgramError nm)
  is_TextError : ∀ nm a, L.cls nm a → PySem.W.kitOne L.K (.ref a) (.ref C_TextError) = some (p_TextError nm)
  is_ValueError : ∀ nm a, L.cls nm a → PySem.W.kitOne L.K (.ref a) (.type "ValueError") = some (p_ValueError nm)
  is_InvalidStep_InvalidRow : ∀ nm a, L.cls nm a → PySem.W.kitAny L.K (.ref a) [.ref C_InvalidStep, .ref C_InvalidRow] = some (p_InvalidStep_InvalidRow nm)
  fl_at : ∀ nm a, L.cls nm a → PySem.W.findIn L.K (.ref a) "at" = some none
  fl_field : ∀ nm a, L.cls nm a → PySem.W.findIn L.K (.ref a) "field" = some none
  fl_line : ∀ nm a, L.cls nm a → PySem.W.findIn L.K (.ref a) "line" = some none
  fl_word : ∀ nm a, L.cls nm a → PySem.W.findIn L.K (.ref a) "word" = some none
  hcd : Value
  hears : Hears L.K mg L s__law_heard "_law_heard" "_law_ask" "_law_e" "_law_error" "PipeError" "told" T.a__law_heard T.a__law_error C_PipeError hcd T.d__law_heard T.d__law_error "_law_e"
  cc__law_refused_right : Addr
  pp__law_refused_right : Addr
  fc__law_refused_right : FunC L.K "_law_refused_right" "_law_refused_right" s__law_refused_right T.a__law_refused_right T.d__law_refused_right cc__law_refused_right
  tm__law_refused_right : (pp__law_refused_right, ("_law_refused_right" : Str) ++ ".<locals>." ++ "<lambda>") ∈ L.T
  tu__law_refused_right : ∀ p ∈ L.T, p.1 = pp__law_refused_right → p.2 = ("_law_refused_right" : Str) ++ ".<locals>." ++ "<lambda>"
structure Tbs {P : Program} {L : Lw} {mg : Str → Option Value} {T : Txt L.K mg} (EX : Exs P L mg T) (base : Heap) : Prop where
  tb__law_refused_right : LamX.TabB base mg EX.cc__law_refused_right EX.pp__law_refused_right
structure Keys (L : Lw) : Prop where
  c : L.key .c = "cells"
  l : L.key .l = "left"
  n : L.key .n = "drawn"
  s : L.key .s = "next"
section
variable {P : Program} {w : World} {L : Lw} {mg : Str → Option Value} {base : Heap}
/-! ### is_integer -/
theorem sc_is_integer : FnScope ["thing"] ["thing"] (defScope s_is_integer) := ⟨rfl, rfl, rfl, by decide +kernel, rfl, by decide +kernel, by decide +kernel⟩
def b_is_integer : MS := (sRet (mAnd (mIsi "int" (mVar 0)) (mNot (mIsi "bool" (mVar 0)))))
def m_is_integer : MF := mFn 1 b_is_integer
theorem ok_is_integer (T : Txt L.K mg) : FnG P w L.K mg base (L2.CX P w) 1 T.a_is_integer T.d_is_integer ["thing"] (spD L 1 m_is_integer) := by
  refine def_ok (k := 0) T.f_is_integer sc_is_integer (by decide) fun c hL cdv A outer s H E gd hr => ?_
  have nd := sc_is_integer.nd
  subst hL
  exact (qs_one (qs_ret (qe_and rfl (qe_isi isi_int T.n_isinstance T.n_int rfl (qe_var (i := 0))) (qe_one (qe_not rfl (qe_isi isi_bool T.n_isinstance T.n_bool rfl (qe_var (i := 0))))))))
/-! ### is_number -/
theorem sc_is_number : FnScope ["thing"] ["thing"] (defScope s_is_number) := ⟨rfl, rfl, rfl, by decide +kernel, rfl, by decide +kernel, by decide +kernel⟩
def b_is_number : MS := (sRet (mAnd (mCall m_is_integer (mgD (mVar 0) mgNil)) (m2 geX (mVar 0) (mC (.int 0)))))
def m_is_number : MF := mFn 1 b_is_number
theorem ok_is_number (T : Txt L.K mg) : FnG P w L.K mg base (L2.CX P w) 2 T.a_is_number T.d_is_number ["thing"] (spD L 1 m_is_number) := by
  refine def_ok (k := 1) T.f_is_number sc_is_number (by decide) fun c hL cdv A outer s H E gd hr => ?_
  have nd := sc_is_number.nd
  subst hL
  exact (qs_one (qs_ret (qe_and rfl (qe_call rfl (FnG.mono (ok_is_integer T) (by omega)) gd hr T.g_is_integer T.f_is_integer.kp T.b_is_integer (takes_of rfl rfl rfl rfl) (qg_d (qe_var (i := 0)) qg_nil) (glen_d glen_nil)) (qe_one (qe_cmp (op_geX (room65 hr)) (x_cmp rfl) (qe_var (i := 0)) qe_int)))))
/-! ### is_among -/
theorem sc_is_among : FnScope ["thing", "some"] ["thing", "some"] (defScope s_is_among) := ⟨rfl, rfl, rfl, by decide +kernel, rfl, by decide +kernel, by decide +kernel⟩
def b_is_among : MS := (sRet (mAnd (mIsi "str" (mVar 0)) (m2 inX (mVar 0) (mVar 1))))
def m_is_among : MF := mFn 2 b_is_among
theorem ok_is_among (T : Txt L.K mg) : FnG P w L.K mg base (L2.CX P w) 1 T.a_is_among T.d_is_among ["thing", "some"] (spD L 2 m_is_among) := by
  refine def_ok (k := 0) T.f_is_among sc_is_among (by decide) fun c hL cdv A outer s H E gd hr => ?_
  have nd := sc_is_among.nd
  subst hL
  exact (qs_one (qs_ret (qe_and rfl (qe_isi isi_str T.n_isinstance T.n_str rfl (qe_var (i := 0))) (qe_one (qe_cmp (op_inX (room65 hr)) (x_in rfl) (qe_var (i := 0)) (qe_var (i := 1)))))))
/-! ### is_name -/
theorem sc_is_name : FnScope ["thing", "sign"] ["thing"] (defScope s_is_name) := ⟨rfl, rfl, rfl, by decide +kernel, rfl, by decide +kernel, by decide +kernel⟩
def b_is_name : MS := (sRet (mAnd (mIsi "str" (mVar 0)) (mAnd (mChain leX leX (mC (.int 1)) (mCa lenD (maCons (mVar 0) maNil)) (mC d_MOST_LETTERS)) (mCa allD (maCons (mLc (miV (mVar 0)) (.nm 1) mtYes (m2 inX (mVar 1) (mC d_LETTERS)) [1]) maNil)))))
def m_is_name : MF := mFn 2 b_is_name
theorem ok_is_name (T : Txt L.K mg) : FnG P w L.K mg base (L2.CX P w) 1 T.a_is_name T.d_is_name ["thing"] (spD L 1 m_is_name) := by
  refine def_ok (k := 0) T.f_is_name sc_is_name (by decide) fun c hL cdv A outer s H E gd hr => ?_
  have nd := sc_is_name.nd
  subst hL
  exact (qs_one (qs_ret (qe_and rfl (qe_isi isi_str T.n_isinstance T.n_str rfl (qe_var (i := 0))) (qe_and rfl (qe_chain (op_leX (room65 hr)) (x_cmp rfl) (op_leX (room65 hr)) (x_cmp rfl) qe_int (qe_callB call_lenDt (len_d rfl) T.n_len (qa_cons (qe_var (i := 0)) qa_nil)) (qe_gc T.c_MOST_LETTERS)) (qe_one (qe_callB (cr_all rfl) (all_d rfl) T.n_all (qa_cons (qe_lc (own := [("sign", 1)]) (t := (.nm 1)) rfl rfl nd (qi_v rfl (qe_var (i := 0))) (blkOk_by (N := ["thing", "sign"]) (sc := defScope s_is_name) (own := [("sign", 1)]) (by decide +kernel)) (by decide) (fun _ _ _ _ _ => (pg_name (i := 1) nd rfl (by first | exact Or.inl rfl | exact Or.inr rfl))) (fun _ _ _ _ _ => qts_nil) (fun _ _ _ _ _ => (qe_cmp (op_inX (room65 hr)) (x_in rfl) (qe_var (i := 1)) (qe_gc T.c_LETTERS)))) qa_nil)))))))
/-! ### is_twofold -/
theorem sc_is_twofold : FnScope ["thing"] ["thing"] (defScope s_is_twofold) := ⟨rfl, rfl, rfl, by decide +kernel, rfl, by decide +kernel, by decide +kernel⟩
def b_is_twofold : MS := (sRet (mAnd (mIsi "tuple" (mVar 0)) (m2 eqD (mCa lenD (maCons (mVar 0) maNil)) (mC (.int 2)))))
def m_is_twofold : MF := mFn 1 b_is_twofold
theorem ok_is_twofold (T : Txt L.K mg) : FnG P w L.K mg base (L2.CX P w) 1 T.a_is_twofold T.d_is_twofold ["thing"] (spD L 1 m_is_twofold) := by
  refine def_ok (k := 0) T.f_is_twofold sc_is_twofold (by decide) fun c hL cdv A outer s H E gd hr => ?_
  have nd := sc_is_twofold.nd
  subst hL
  exact (qs_one (qs_ret (qe_and rfl (qe_isi isi_tuple T.n_isinstance T.n_tuple rfl (qe_var (i := 0))) (qe_one (qe_cmp (op_eqD hr.units) (eq_d rfl) (qe_callB call_lenDt (len_d rfl) T.n_len (qa_cons (qe_var (i := 0)) qa_nil)) qe_int)))))
/-! ### is_rising -/
theorem sc_is_rising : FnScope ["things", "one", "other"] ["things"] (defScope s_is_rising) := ⟨rfl, rfl, rfl, by decide +kernel, rfl, by decide +kernel, by decide +kernel⟩
def b_is_rising : MS := (sRet (mCa allD (maCons (mLc (miZip (mVar 0) (mSl (mVar 0) (moSome (mC (.int 1))) moNone)) (.tp [1, 2]) mtYes (m2 ltX (mVar 1) (mVar 2)) [1, 2]) maNil)))
def m_is_rising : MF := mFn 3 b_is_rising
theorem ok_is_rising (T : Txt L.K mg) : FnG P w L.K mg base (L2.CX P w) 1 T.a_is_rising T.d_is_rising ["things"] (spD L 1 m_is_rising) := by
  refine def_ok (k := 0) T.f_is_rising sc_is_rising (by decide) fun c hL cdv A outer s H E gd hr => ?_
  have nd := sc_is_rising.nd
  subst hL
  exact (qs_one (qs_ret (qe_callB (cr_all rfl) (all_d rfl) T.n_all (qa_cons (qe_lc (own := [("one", 1), ("other", 2)]) (t := (.tp [1, 2])) rfl rfl nd (qi_zip rfl T.n_zip (qe_var (i := 0)) (qe_sl rfl (qe_var (i := 0)) (qo_some qe_int) qo_none)) (blkOk_by (N := ["things", "one", "other"]) (sc := defScope s_is_rising) (own := [("one", 1), ("other", 2)]) (by decide +kernel)) (by decide) (fun _ _ _ _ _ => (pg_tup rfl (pgs_cons (pg_name (i := 1) nd rfl (by first | exact Or.inl rfl | exact Or.inr rfl)) (pgs_cons (pg_name (i := 2) nd rfl (by first | exact Or.inl rfl | exact Or.inr rfl)) pgs_nil)))) (fun _ _ _ _ _ => qts_nil) (fun _ _ _ _ _ => (qe_cmp (op_ltX (room65 hr)) (x_cmp rfl) (qe_var (i := 1)) (qe_var (i := 2))))) qa_nil))))
/-! ### is_targets -/
theorem sc_is_targets : FnScope ["thing", "one"] ["thing"] (defScope s_is_targets) := ⟨rfl, rfl, rfl, by decide +kernel, rfl, by decide +kernel, by decide +kernel⟩
def b_is_targets : MS := (sSeq (sIf (mtOr (mtNot (mtE (mIsi "tuple" (mVar 0)) truth)) (mtE (m2 eqD (mCa lenD (maCons (mVar 0) maNil)) (mC (.int 0))) asBool))
  (sRet (mC (.bool false)))
  sNx)
  (sRet (mAnd (mCa allD (maCons (mLc (miV (mVar 0)) (.nm 1) mtYes (mCall m_is_number (mgD (mVar 1) mgNil)) [1]) maNil)) (mCall m_is_rising (mgD (mVar 0) mgNil)))))
def m_is_targets : MF := mFn 2 b_is_targets
theorem ok_is_targets (T : Txt L.K mg) : FnG P w L.K mg base (L2.CX P w) 3 T.a_is_targets T.d_is_targets ["thing"] (spD L 1 m_is_targets) := by
  refine def_ok (k := 2) T.f_is_targets sc_is_targets (by decide) fun c hL cdv A outer s H E gd hr => ?_
  have nd := sc_is_targets.nd
  subst hL
  exact (qs_cons (qs_if (PW.pt (qw_or (qt_not (qt_val rfl (qe_isi isi_tuple T.n_isinstance T.n_tuple rfl (qe_var (i := 0))))) (qw_or1 (qt_cmp (op_eqD hr.units) (eq_d rfl) (qe_callB call_lenDt (len_d rfl) T.n_len (qa_cons (qe_var (i := 0)) qa_nil)) qe_int))))
  (qs_one (qs_ret qe_bl))
  qs_nil)
  (qs_one (qs_ret (qe_and rfl (qe_callB (cr_all rfl) (all_d rfl) T.n_all (qa_cons (qe_lc (own := [("one", 1)]) (t := (.nm 1)) rfl rfl nd (qi_v rfl (qe_var (i := 0))) (blkOk_by (N := ["thing", "one"]) (sc := defScope s_is_targets) (own := [("one", 1)]) (by decide +kernel)) (by decide) (fun _ _ _ _ _ => (pg_name (i := 1) nd rfl (by first | exact Or.inl rfl | exact Or.inr rfl))) (fun _ _ _ _ _ => qts_nil) (fun _ _ _ _ _ => (qe_call rfl (FnG.mono (ok_is_number T) (by omega)) gd hr T.g_is_number T.f_is_number.kp T.b_is_number LamX.takes0 (qg_d (qe_var (i := 1)) qg_nil) (glen_d glen_nil)))) qa_nil)) (qe_one (qe_call rfl (FnG.mono (ok_is_rising T) (by omega)) gd hr T.g_is_rising T.f_is_rising.kp T.b_is_rising (takes_of rfl rfl rfl rfl) (qg_d (qe_var (i := 0)) qg_nil) (glen_d glen_nil)))))))
/-! ### is_pair -/
theorem sc_is_pair : FnScope ["thing", "one"] ["thing"] (defScope s_is_pair) := ⟨rfl, rfl, rfl, by decide +kernel, rfl, by decide +kernel, by decide +kernel⟩
def b_is_pair : MS := (sRet (mAnd (mCall m_is_twofold (mgD (mVar 0) mgNil)) (mCa allD (maCons (mLc (miV (mVar 0)) (.nm 1) mtYes (mCall m_is_among (mgD (mVar 1) (mgD (mC d_HOLDS) mgNil))) [1]) maNil))))
def m_is_pair : MF := mFn 2 b_is_pair
theorem ok_is_pair (T : Txt L.K mg) : FnG P w L.K mg base (L2.CX P w) 2 T.a_is_pair T.d_is_pair ["thing"] (spD L 1 m_is_pair) := by
  refine def_ok (k := 1) T.f_is_pair sc_is_pair (by decide) fun c hL cdv A outer s H E gd hr => ?_
  have nd := sc_is_pair.nd
  subst hL
  exact (qs_one (qs_ret (qe_and rfl (qe_call rfl (FnG.mono (ok_is_twofold T) (by omega)) gd hr T.g_is_twofold T.f_is_twofold.kp T.b_is_twofold (takes_of rfl rfl rfl rfl) (qg_d (qe_var (i := 0)) qg_nil) (glen_d glen_nil)) (qe_one (qe_callB (cr_all rfl) (all_d rfl) T.n_all (qa_cons (qe_lc (own := [("one", 1)]) (t := (.nm 1)) rfl rfl nd (qi_v rfl (qe_var (i := 0))) (blkOk_by (N := ["thing", "one"]) (sc := defScope s_is_pair) (own := [("one", 1)]) (by decide +kernel)) (by decide) (fun _ _ _ _ _ => (pg_name (i := 1) nd rfl (by first | exact Or.inl rfl | exact Or.inr rfl))) (fun _ _ _ _ _ => qts_nil) (fun _ _ _ _ _ => (qe_call rfl (FnG.mono (ok_is_among T) (by omega)) gd hr T.g_is_among T.f_is_among.kp T.b_is_among LamX.takes0 (qg_d (qe_var (i := 1)) (qg_d (qe_gc T.c_HOLDS) qg_nil)) (glen_d (glen_d glen_nil))))) qa_nil))))))
/-! ### is_begin -/
theorem sc_is_begin : FnScope ["thing"] ["thing"] (defScope s_is_begin) := ⟨rfl, rfl, rfl, by decide +kernel, rfl, by decide +kernel, by decide +kernel⟩
def b_is_begin : MS := (sRet (mAnd (mCall m_is_pair (mgD (mVar 0) mgNil)) (m2 ninX (mC (.str "none")) (mVar 0))))
def m_is_begin : MF := mFn 1 b_is_begin
theorem ok_is_begin (T : Txt L.K mg) : FnG P w L.K mg base (L2.CX P w) 3 T.a_is_begin T.d_is_begin ["thing"] (spD L 1 m_is_begin) := by
  refine def_ok (k := 2) T.f_is_begin sc_is_begin (by decide) fun c hL cdv A outer s H E gd hr => ?_
  have nd := sc_is_begin.nd
  subst hL
  exact (qs_one (qs_ret (qe_and rfl (qe_call rfl (FnG.mono (ok_is_pair T) (by omega)) gd hr T.g_is_pair T.f_is_pair.kp T.b_is_pair (takes_of rfl rfl rfl rfl) (qg_d (qe_var (i := 0)) qg_nil) (glen_d glen_nil)) (qe_one (qe_cmp (op_ninX (room65 hr)) (x_nin rfl) qe_str (qe_var (i := 0)))))))
/-! ### is_birth -/
theorem sc_is_birth : FnScope ["thing"] ["thing"] (defScope s_is_birth) := ⟨rfl, rfl, rfl, by decide +kernel, rfl, by decide +kernel, by decide +kernel⟩
def b_is_birth : MS := (sRet (mAnd (mCall m_is_twofold (mgD (mVar 0) mgNil)) (mAnd (mCall m_is_among (mgD (m2 ixD (mVar 0) (mC (.int 0))) (mgD (mC d_BIRTHS) mgNil))) (mCall m_is_name (mgD (m2 ixD (mVar 0) (mC (.int 1))) mgNil)))))
def m_is_birth : MF := mFn 1 b_is_birth
theorem ok_is_birth (T : Txt L.K mg) : FnG P w L.K mg base (L2.CX P w) 2 T.a_is_birth T.d_is_birth ["thing"] (spD L 1 m_is_birth) := by
  refine def_ok (k := 1) T.f_is_birth sc_is_birth (by decide) fun c hL cdv A outer s H E gd hr => ?_
  have nd := sc_is_birth.nd
  subst hL
  exact (qs_one (qs_ret (qe_and rfl (qe_call rfl (FnG.mono (ok_is_twofold T) (by omega)) gd hr T.g_is_twofold T.f_is_twofold.kp T.b_is_twofold (takes_of rfl rfl rfl rfl) (qg_d (qe_var (i := 0)) qg_nil) (glen_d glen_nil)) (qe_and rfl (qe_call rfl (FnG.mono (ok_is_among T) (by omega)) gd hr T.g_is_among T.f_is_among.kp T.b_is_among (takes_of rfl rfl rfl rfl) (qg_d (qe_ix ix_seq (ix_d rfl) (qe_var (i := 0)) qe_int) (qg_d (qe_gc T.c_BIRTHS) qg_nil)) (glen_d (glen_d glen_nil))) (qe_one (qe_call rfl (FnG.mono (ok_is_name T) (by omega)) gd hr T.g_is_name T.f_is_name.kp T.b_is_name (takes_of rfl rfl rfl rfl) (qg_d (qe_ix ix_seq (ix_d rfl) (qe_var (i := 0)) qe_int) qg_nil) (glen_d glen_nil)))))))
/-! ### is_asides -/
theorem sc_is_asides : FnScope ["thing", "one"] ["thing"] (defScope s_is_asides) := ⟨rfl, rfl, rfl, by decide +kernel, rfl, by decide +kernel, by decide +kernel⟩
def b_is_asides : MS := (sRet (mAnd (mIsi "tuple" (mVar 0)) (mAnd (mCa allD (maCons (mLc (miV (mVar 0)) (.nm 1) mtYes (mCall m_is_birth (mgD (mVar 1) mgNil)) [1]) maNil)) (mCall m_is_rising (mgD (mVar 0) mgNil)))))
def m_is_asides : MF := mFn 2 b_is_asides
theorem ok_is_asides (T : Txt L.K mg) : FnG P w L.K mg base (L2.CX P w) 3 T.a_is_asides T.d_is_asides ["thing"] (spD L 1 m_is_asides) := by
  refine def_ok (k := 2) T.f_is_asides sc_is_asides (by decide) fun c hL cdv A outer s H E gd hr => ?_
  have nd := sc_is_asides.nd
  subst hL
  exact (qs_one (qs_ret (qe_and rfl (qe_isi isi_tuple T.n_isinstance T.n_tuple rfl (qe_var (i := 0))) (qe_and rfl (qe_callB (cr_all rfl) (all_d rfl) T.n_all (qa_cons (qe_lc (own := [("one", 1)]) (t := (.nm 1)) rfl rfl nd (qi_v rfl (qe_var (i := 0))) (blkOk_by (N := ["thing", "one"]) (sc := defScope s_is_asides) (own := [("one", 1)]) (by decide +kernel)) (by decide) (fun _ _ _ _ _ => (pg_name (i := 1) nd rfl (by first | exact Or.inl rfl | exact Or.inr rfl))) (fun _ _ _ _ _ => qts_nil) (fun _ _ _ _ _ => (qe_call rfl (FnG.mono (ok_is_birth T) (by omega)) gd hr T.g_is_birth T.f_is_birth.kp T.b_is_birth LamX.takes0 (qg_d (qe_var (i := 1)) qg_nil) (glen_d glen_nil)))) qa_nil)) (qe_one (qe_call rfl (FnG.mono (ok_is_rising T) (by omega)) gd hr T.g_is_rising T.f_is_rising.kp T.b_is_rising (takes_of rfl rfl rfl rfl) (qg_d (qe_var (i := 0)) qg_nil) (glen_d glen_nil)))))))
/-! ### is_instruction -/
theorem sc_is_instruction : FnScope ["thing", "word"] ["thing"] (defScope s_is_instruction) := ⟨rfl, rfl, rfl, by decide +kernel, rfl, by decide +kernel, by decide +kernel⟩
def b_is_instruction : MS := (sSeq (sIf (mtOr (mtNot (mtE (mIsi "tuple" (mVar 0)) truth)) (mtOr (mtE (m2 eqD (mCa lenD (maCons (mVar 0) maNil)) (mC (.int 0))) asBool) (mtNot (mtE (mCall m_is_among (mgD (m2 ixD (mVar 0) (mC (.int 0))) (mgD (mC d_WORDS) mgNil))) truth))))
  (sRet (mC (.bool false)))
  sNx)
  (sSeq (sSet 1 (m2 ixD (mVar 0) (mC (.int 0))))
  (sSeq (sIf (mtE (m2 eqD (mVar 1) (mC (.str "go"))) asBool)
  (sRet (mAnd (m2 eqD (mCa lenD (maCons (mVar 0) maNil)) (mC (.int 2))) (mCall m_is_targets (mgD (m2 ixD (mVar 0) (mC (.int 1))) mgNil))))
  sNx)
  (sSeq (sIf (mtE (m2 inX (mVar 1) (mC d_BIRTHS)) asBool)
  (sRet (mAnd (m2 eqD (mCa lenD (maCons (mVar 0) maNil)) (mC (.int 3))) (mAnd (mCall m_is_name (mgD (m2 ixD (mVar 0) (mC (.int 1))) mgNil)) (mCall m_is_number (mgD (m2 ixD (mVar 0) (mC (.int 2))) mgNil)))))
  sNx)
  (sSeq (sIf (mtE (m2 inX (mVar 1) (mC d_SHUTS)) asBool)
  (sRet (mAnd (m2 eqD (mCa lenD (maCons (mVar 0) maNil)) (mC (.int 3))) (mAnd (mCall m_is_among (mgD (m2 ixD (mVar 0) (mC (.int 1))) (mgD (mC d_ENDS) mgNil))) (mCall m_is_number (mgD (m2 ixD (mVar 0) (mC (.int 2))) mgNil)))))
  sNx)
  (sSeq (sIf (mtE (m2 inX (mVar 1) (mC d_GOINGS)) asBool)
  (sRet (mAnd (m2 eqD (mCa lenD (maCons (mVar 0) maNil)) (mC (.int 2))) (mCall m_is_number (mgD (m2 ixD (mVar 0) (mC (.int 1))) mgNil))))
  sNx)
  (sRet (m2 eqD (mCa lenD (maCons (mVar 0) maNil)) (mC (.int 1))))))))))
def m_is_instruction : MF := mFn 2 b_is_instruction
theorem ok_is_instruction (T : Txt L.K mg) : FnG P w L.K mg base (L2.CX P w) 4 T.a_is_instruction T.d_is_instruction ["thing"] (spD L 1 m_is_instruction) := by
  refine def_ok (k := 3) T.f_is_instruction sc_is_instruction (by decide) fun c hL cdv A outer s H E gd hr => ?_
  have nd := sc_is_instruction.nd
  subst hL
  exact (qs_cons (qs_if (PW.pt (qw_or (qt_not (qt_val rfl (qe_isi isi_tuple T.n_isinstance T.n_tuple rfl (qe_var (i := 0))))) (qw_or (qt_cmp (op_eqD hr.units) (eq_d rfl) (qe_callB call_lenDt (len_d rfl) T.n_len (qa_cons (qe_var (i := 0)) qa_nil)) qe_int) (qw_or1 (qt_not (qt_val rfl (qe_call rfl (FnG.mono (ok_is_among T) (by omega)) gd hr T.g_is_among T.f_is_among.kp T.b_is_among (takes_of rfl rfl rfl rfl) (qg_d (qe_ix ix_seq (ix_d rfl) (qe_var (i := 0)) qe_int) (qg_d (qe_gc T.c_WORDS) qg_nil)) (glen_d (glen_d glen_nil)))))))))
  (qs_one (qs_ret qe_bl))
  qs_nil)
  (qs_cons (qs_set (j := 1) (qe_ix ix_seq (ix_d rfl) (qe_var (i := 0)) qe_int) nd)
  (qs_cons (qs_if (qt_cmp (op_eqD hr.units) (eq_d rfl) (qe_var (i := 1)) qe_str)
  (qs_one (qs_ret (qe_and rfl (qe_cmp (op_eqD hr.units) (eq_d rfl) (qe_callB call_lenDt (len_d rfl) T.n_len (qa_cons (qe_var (i := 0)) qa_nil)) qe_int) (qe_one (qe_call rfl (FnG.mono (ok_is_targets T) (by omega)) gd hr T.g_is_targets T.f_is_targets.kp T.b_is_targets (takes_of rfl rfl rfl rfl) (qg_d (qe_ix ix_seq (ix_d rfl) (qe_var (i := 0)) qe_int) qg_nil) (glen_d glen_nil))))))
  qs_nil)
  (qs_cons (qs_if (qt_cmp (op_inX (room65 hr)) (x_in rfl) (qe_var (i := 1)) (qe_gc T.c_BIRTHS))
  (qs_one (qs_ret (qe_and rfl (qe_cmp (op_eqD hr.units) (eq_d rfl) (qe_callB call_lenDt (len_d rfl) T.n_len (qa_cons (qe_var (i := 0)) qa_nil)) qe_int) (qe_and rfl (qe_call rfl (FnG.mono (ok_is_name T) (by omega)) gd hr T.g_is_name T.f_is_name.kp T.b_is_name (takes_of rfl rfl rfl rfl) (qg_d (qe_ix ix_seq (ix_d rfl) (qe_var (i := 0)) qe_int) qg_nil) (glen_d glen_nil)) (qe_one (qe_call rfl (FnG.mono (ok_is_number T) (by omega)) gd hr T.g_is_number T.f_is_number.kp T.b_is_number (takes_of rfl rfl rfl rfl) (qg_d (qe_ix ix_seq (ix_d rfl) (qe_var (i := 0)) qe_int) qg_nil) (glen_d glen_nil)))))))
  qs_nil)
  (qs_cons (qs_if (qt_cmp (op_inX (room65 hr)) (x_in rfl) (qe_var (i := 1)) (qe_gc T.c_SHUTS))
  (qs_one (qs_ret (qe_and rfl (qe_cmp (op_eqD hr.units) (eq_d rfl) (qe_callB call_lenDt (len_d rfl) T.n_len (qa_cons (qe_var (i := 0)) qa_nil)) qe_int) (qe_and rfl (qe_call rfl (FnG.mono (ok_is_among T) (by omega)) gd hr T.g_is_among T.f_is_among.kp T.b_is_among (takes_of rfl rfl rfl rfl) (qg_d (qe_ix ix_seq (ix_d rfl) (qe_var (i := 0)) qe_int) (qg_d (qe_gc T.c_ENDS) qg_nil)) (glen_d (glen_d glen_nil))) (qe_one (qe_call rfl (FnG.mono (ok_is_number T) (by omega)) gd hr T.g_is_number T.f_is_number.kp T.b_is_number (takes_of rfl rfl rfl rfl) (qg_d (qe_ix ix_seq (ix_d rfl) (qe_var (i := 0)) qe_int) qg_nil) (glen_d glen_nil)))))))
  qs_nil)
  (qs_cons (qs_if (qt_cmp (op_inX (room65 hr)) (x_in rfl) (qe_var (i := 1)) (qe_gc T.c_GOINGS))
  (qs_one (qs_ret (qe_and rfl (qe_cmp (op_eqD hr.units) (eq_d rfl) (qe_callB call_lenDt (len_d rfl) T.n_len (qa_cons (qe_var (i := 0)) qa_nil)) qe_int) (qe_one (qe_call rfl (FnG.mono (ok_is_number T) (by omega)) gd hr T.g_is_number T.f_is_number.kp T.b_is_number (takes_of rfl rfl rfl rfl) (qg_d (qe_ix ix_seq (ix_d rfl) (qe_var (i := 0)) qe_int) qg_nil) (glen_d glen_nil))))))
  qs_nil)
  (qs_one (qs_ret (qe_cmp (op_eqD hr.units) (eq_d rfl) (qe_callB call_lenDt (len_d rfl) T.n_len (qa_cons (qe_var (i := 0)) qa_nil)) qe_int)))))))))
/-! ### is_role -/
theorem sc_is_role : FnScope ["thing", "name", "places", "asides", "one"] ["thing"] (defScope s_is_role) := ⟨rfl, rfl, rfl, by decide +kernel, rfl, by decide +kernel, by decide +kernel⟩
def b_is_role : MS := (sSeq (sIf (mtOr (mtNot (mtE (mIsi "tuple" (mVar 0)) truth)) (mtOr (mtE (m2 neD (mCa lenD (maCons (mVar 0) maNil)) (mC (.int 3))) asBool) (mtNot (mtE (mCall m_is_name (mgD (m2 ixD (mVar 0) (mC (.int 0))) mgNil)) truth))))
  (sRet (mC (.bool false)))
  sNx)
  (sSeq (sUnp (.tp [1, 2, 3]) (mVar 0))
  (sSeq (sIf (mtOr (mtNot (mtE (mIsi "tuple" (mVar 2)) truth)) (mtE (m2 eqD (mCa lenD (maCons (mVar 2) maNil)) (mC (.int 0))) asBool))
  (sRet (mC (.bool false)))
  sNx)
  (sRet (mAnd (mCa allD (maCons (mLc (miV (mVar 2)) (.nm 4) mtYes (mCall m_is_instruction (mgD (mVar 4) mgNil)) [4]) maNil)) (mCall m_is_asides (mgD (mVar 3) mgNil)))))))
def m_is_role : MF := mFn 5 b_is_role
theorem ok_is_role (T : Txt L.K mg) : FnG P w L.K mg base (L2.CX P w) 5 T.a_is_role T.d_is_role ["thing"] (spD L 1 m_is_role) := by
  refine def_ok (k := 4) T.f_is_role sc_is_role (by decide) fun c hL cdv A outer s H E gd hr => ?_
  have nd := sc_is_role.nd
  subst hL
  exact (qs_cons (qs_if (PW.pt (qw_or (qt_not (qt_val rfl (qe_isi isi_tuple T.n_isinstance T.n_tuple rfl (qe_var (i := 0))))) (qw_or (qt_cmp (op_neD hr.units) (ne_d rfl) (qe_callB call_lenDt (len_d rfl) T.n_len (qa_cons (qe_var (i := 0)) qa_nil)) qe_int) (qw_or1 (qt_not (qt_val rfl (qe_call rfl (FnG.mono (ok_is_name T) (by omega)) gd hr T.g_is_name T.f_is_name.kp T.b_is_name (takes_of rfl rfl rfl rfl) (qg_d (qe_ix ix_seq (ix_d rfl) (qe_var (i := 0)) qe_int) qg_nil) (glen_d glen_nil))))))))
  (qs_one (qs_ret qe_bl))
  qs_nil)
  (qs_cons (qs_unp (t := (.tp [1, 2, 3])) rfl (qe_var (i := 0)) (pg_tup rfl (pgs_cons (pg_name (i := 1) nd rfl (by first | exact Or.inl rfl | exact Or.inr rfl)) (pgs_cons (pg_name (i := 2) nd rfl (by first | exact Or.inl rfl | exact Or.inr rfl)) (pgs_cons (pg_name (i := 3) nd rfl (by first | exact Or.inl rfl | exact Or.inr rfl)) pgs_nil)))))
  (qs_cons (qs_if (PW.pt (qw_or (qt_not (qt_val rfl (qe_isi isi_tuple T.n_isinstance T.n_tuple rfl (qe_var (i := 2))))) (qw_or1 (qt_cmp (op_eqD hr.units) (eq_d rfl) (qe_callB call_lenDt (len_d rfl) T.n_len (qa_cons (qe_var (i := 2)) qa_nil)) qe_int))))
  (qs_one (qs_ret qe_bl))
  qs_nil)
  (qs_one (qs_ret (qe_and rfl (qe_callB (cr_all rfl) (all_d rfl) T.n_all (qa_cons (qe_lc (own := [("one", 4)]) (t := (.nm 4)) rfl rfl nd (qi_v rfl (qe_var (i := 2))) (blkOk_by (N := ["thing", "name", "places", "asides", "one"]) (sc := defScope s_is_role) (own := [("one", 4)]) (by decide +kernel)) (by decide) (fun _ _ _ _ _ => (pg_name (i := 4) nd rfl (by first | exact Or.inl rfl | exact Or.inr rfl))) (fun _ _ _ _ _ => qts_nil) (fun _ _ _ _ _ => (qe_call rfl (FnG.mono (ok_is_instruction T) (by omega)) gd hr T.g_is_instruction T.f_is_instruction.kp T.b_is_instruction LamX.takes0 (qg_d (qe_var (i := 4)) qg_nil) (glen_d glen_nil)))) qa_nil)) (qe_one (qe_call rfl (FnG.mono (ok_is_asides T) (by omega)) gd hr T.g_is_asides T.f_is_asides.kp T.b_is_asides (takes_of rfl rfl rfl rfl) (qg_d (qe_var (i := 3)) qg_nil) (glen_d glen_nil)))))))))
/-! ### want -/
theorem sc_want : FnScope ["is_right", "word"] ["is_right", "word"] (defScope s_want) := ⟨rfl, rfl, rfl, by decide +kernel, rfl, by decide +kernel, by decide +kernel⟩
def b_want : MS := (sIf (mtNot (mtE (mVar 0) truth))
  (sRaise "NotUsable" "word" "at" (maCons (mVar 1) (maCons (m1 negD (mC (.int 1))) maNil)))
  sNx)
def m_want : MF := mFn 2 b_want
theorem ok_want (T : Txt L.K mg) (EX : Exs P L mg T) : FnG P w L.K mg base (L2.CX P w) 3 T.a_want T.d_want ["is_right", "word"] (spD L 2 m_want) := by
  refine def_ok (k := 2) T.f_want sc_want (by decide) fun c hL cdv A outer s H E gd hr => ?_
  have nd := sc_want.nd
  subst hL
  exact (qs_one (qs_if (qt_not (qt_val rfl (qe_var (i := 0))))
  (qs_one (qs_raise rfl EX.c_NotUsable if_NotUsable EX.i_NotUsable rfl (takes_of rfl rfl rfl rfl) (hr.mono (by omega)) EX.m_NotUsable EX.nsup rfl (qa_cons (qe_var (i := 1)) (qa_cons (qe_neg qe_int) qa_nil))))
  qs_nil))
/-! ### words_of -/
theorem sc_words_of : FnScope ["instruction", "part", "target"] ["instruction"] (defScope s_words_of) := ⟨rfl, rfl, rfl, by decide +kernel, rfl, by decide +kernel, by decide +kernel⟩
def b_words_of : MS := (sSeq (sIf (mtE (m2 eqD (m2 ixD (mVar 0) (mC (.int 0))) (mC (.str "go"))) asBool)
  (sRet (mLst (maCons (mC (.str "go")) (maCons (m1 (joinS ",") (mLc (miV (m2 ixD (mVar 0) (mC (.int 1)))) (.nm 2) mtYes (mCa strX (maCons (mVar 2) maNil)) [2])) maNil))))
  sNx)
  (sRet (mLc (miV (mVar 0)) (.nm 1) mtYes (mCa strX (maCons (mVar 1) maNil)) [1])))
def m_words_of : MF := mFn 3 b_words_of
theorem ok_words_of (T : Txt L.K mg) : FnG P w L.K mg base (L2.CX P w) 1 T.a_words_of T.d_words_of ["instruction"] (spD L 1 m_words_of) := by
  refine def_ok (k := 0) T.f_words_of sc_words_of (by decide) fun c hL cdv A outer s H E gd hr => ?_
  have nd := sc_words_of.nd
  subst hL
  exact (qs_cons (qs_if (qt_cmp (op_eqD hr.units) (eq_d rfl) (qe_ix ix_seq (ix_d rfl) (qe_var (i := 0)) qe_int) qe_str)
  (qs_one (qs_ret (qe_lst (qa_cons qe_str (qa_cons (qe_join rfl (qe_lc (own := [("target", 2)]) (t := (.nm 2)) rfl rfl nd (qi_v rfl (qe_ix ix_seq (ix_d rfl) (qe_var (i := 0)) qe_int)) (blkOk_by (N := ["instruction", "part", "target"]) (sc := defScope s_words_of) (own := [("target", 2)]) (by decide +kernel)) (by decide) (fun _ _ _ _ _ => (pg_name (i := 2) nd rfl (by first | exact Or.inl rfl | exact Or.inr rfl))) (fun _ _ _ _ _ => qts_nil) (fun _ _ _ _ _ => (qe_callTy (call_strX gd (room68 hr)) (strX_d rfl) T.n_str (qa_cons (qe_var (i := 2)) qa_nil))))) qa_nil)))))
  qs_nil)
  (qs_one (qs_ret (qe_lc (own := [("part", 1)]) (t := (.nm 1)) rfl rfl nd (qi_v rfl (qe_var (i := 0))) (blkOk_by (N := ["instruction", "part", "target"]) (sc := defScope s_words_of) (own := [("part", 1)]) (by decide +kernel)) (by decide) (fun _ _ _ _ _ => (pg_name (i := 1) nd rfl (by first | exact Or.inl rfl | exact Or.inr rfl))) (fun _ _ _ _ _ => qts_nil) (fun _ _ _ _ _ => (qe_callTy (call_strX gd (room68 hr)) (strX_d rfl) T.n_str (qa_cons (qe_var (i := 1)) qa_nil)))))))
/-! ### is_written -/
theorem sc_is_written : FnScope ["thing", "role"] ["thing"] (defScope s_is_written) := ⟨rfl, rfl, rfl, by decide +kernel, rfl, by decide +kernel, by decide +kernel⟩
def b_is_written : MS := (sSeq (sIf (mtOr (mtNot (mtE (mCall m_is_twofold (mgD (mVar 0) mgNil)) truth)) (mtNot (mtE (mCall m_is_begin (mgD (m2 ixD (mVar 0) (mC (.int 0))) mgNil)) truth)))
  (sRet (mC (.bool false)))
  sNx)
  (sRet (mAnd (mIsi "tuple" (m2 ixD (mVar 0) (mC (.int 1)))) (mAnd (m2 gtX (mCa lenD (maCons (m2 ixD (mVar 0) (mC (.int 1))) maNil)) (mC (.int 0))) (mCa allD (maCons (mLc (miV (m2 ixD (mVar 0) (mC (.int 1)))) (.nm 1) mtYes (mCall m_is_role (mgD (mVar 1) mgNil)) [1]) maNil))))))
def m_is_written : MF := mFn 2 b_is_written
theorem ok_is_written (T : Txt L.K mg) : FnG P w L.K mg base (L2.CX P w) 6 T.a_is_written T.d_is_written ["thing"] (spD L 1 m_is_written) := by
  refine def_ok (k := 5) T.f_is_written sc_is_written (by decide) fun c hL cdv A outer s H E gd hr => ?_
  have nd := sc_is_written.nd
  subst hL
  exact (qs_cons (qs_if (PW.pt (qw_or (qt_not (qt_val rfl (qe_call rfl (FnG.mono (ok_is_twofold T) (by omega)) gd hr T.g_is_twofold T.f_is_twofold.kp T.b_is_twofold (takes_of rfl rfl rfl rfl) (qg_d (qe_var (i := 0)) qg_nil) (glen_d glen_nil)))) (qw_or1 (qt_not (qt_val rfl (qe_call rfl (FnG.mono (ok_is_begin T) (by omega)) gd hr T.g_is_begin T.f_is_begin.kp T.b_is_begin (takes_of rfl rfl rfl rfl) (qg_d (qe_ix ix_seq (ix_d rfl) (qe_var (i := 0)) qe_int) qg_nil) (glen_d glen_nil)))))))
  (qs_one (qs_ret qe_bl))
  qs_nil)
  (qs_one (qs_ret (qe_and rfl (qe_isi isi_tuple T.n_isinstance T.n_tuple rfl (qe_ix ix_seq (ix_d rfl) (qe_var (i := 0)) qe_int)) (qe_and rfl (qe_cmp (op_gtX (room65 hr)) (x_cmp rfl) (qe_callB call_lenDt (len_d rfl) T.n_len (qa_cons (qe_ix ix_seq (ix_d rfl) (qe_var (i := 0)) qe_int) qa_nil)) qe_int) (qe_one (qe_callB (cr_all rfl) (all_d rfl) T.n_all (qa_cons (qe_lc (own := [("role", 1)]) (t := (.nm 1)) rfl rfl nd (qi_v rfl (qe_ix ix_seq (ix_d rfl) (qe_var (i := 0)) qe_int)) (blkOk_by (N := ["thing", "role"]) (sc := defScope s_is_written) (own := [("role", 1)]) (by decide +kernel)) (by decide) (fun _ _ _ _ _ => (pg_name (i := 1) nd rfl (by first | exact Or.inl rfl | exact Or.inr rfl))) (fun _ _ _ _ _ => qts_nil) (fun _ _ _ _ _ => (qe_call rfl (FnG.mono (ok_is_role T) (by omega)) gd hr T.g_is_role T.f_is_role.kp T.b_is_role LamX.takes0 (qg_d (qe_var (i := 1)) qg_nil) (glen_d glen_nil)))) qa_nil))))))))
/-! ### instruction_text -/
theorem sc_instruction_text : FnScope ["instruction"] ["instruction"] (defScope s_instruction_text) := ⟨rfl, rfl, rfl, by decide +kernel, rfl, by decide +kernel, by decide +kernel⟩
def b_instruction_text : MS := (sSeq (sExpr (mCall m_want (mgD (mCall m_is_instruction (mgD (mVar 0) mgNil)) (mgD (mC (.str "instruction")) mgNil))))
  (sRet (m1 (joinS " ") (mCall m_words_of (mgD (mVar 0) mgNil)))))
def m_instruction_text : MF := mFn 1 b_instruction_text
theorem ok_instruction_text (T : Txt L.K mg) (EX : Exs P L mg T) : FnG P w L.K mg base (L2.CX P w) 5 T.a_instruction_text T.d_instruction_text ["instruction"] (spD L 1 m_instruction_text) := by
  refine def_ok (k := 4) T.f_instruction_text sc_instruction_text (by decide) fun c hL cdv A outer s H E gd hr => ?_
  have nd := sc_instruction_text.nd
  subst hL
  exact (qs_cons (qs_expr (qe_call rfl (FnG.mono (ok_want T EX) (by omega)) gd hr T.g_want T.f_want.kp T.b_want (takes_of rfl rfl rfl rfl) (qg_d (qe_call rfl (FnG.mono (ok_is_instruction T) (by omega)) gd hr T.g_is_instruction T.f_is_instruction.kp T.b_is_instruction (takes_of rfl rfl rfl rfl) (qg_d (qe_var (i := 0)) qg_nil) (glen_d glen_nil)) (qg_d qe_str qg_nil)) (glen_d (glen_d glen_nil))))
  (qs_one (qs_ret (qe_join rfl (qe_call rfl (FnG.mono (ok_words_of T) (by omega)) gd hr T.g_words_of T.f_words_of.kp T.b_words_of (takes_of rfl rfl rfl rfl) (qg_d (qe_var (i := 0)) qg_nil) (glen_d glen_nil))))))
/-! ### program_text -/
theorem sc_program_text : FnScope ["program", "begin", "roles", "lines", "name", "places", "asides", "instruction", "word", "child"] ["program"] (defScope s_program_text) := ⟨rfl, rfl, rfl, by decide +kernel, rfl, by decide +kernel, by decide +kernel⟩
def b_program_text : MS := (sSeq (sExpr (mCall m_want (mgD (mCall m_is_written (mgD (mVar 0) mgNil)) (mgD (mC (.str "program")) mgNil))))
  (sSeq (sUnp (.tp [1, 2]) (mVar 0))
  (sSeq (sOwn 3 (maCons (mJ [(mC (.str "begin ")), (m1 fmtD (m2 ixD (mVar 1) (mC (.int 0)))), (mC (.str " ")), (m1 fmtD (m2 ixD (mVar 1) (mC (.int 1))))] Str.empty) maNil))
  (sSeq (sFor (miV (mVar 2)) (.tp [4, 5, 6])
  (sSeq (sApp 3 (mJ [(mC (.str "role ")), (m1 fmtD (mVar 4))] Str.empty))
  (sSeq (sExt 3 (mLc (miV (mVar 5)) (.nm 7) mtYes (m1 (joinS " ") (mCall m_words_of (mgD (mVar 7) mgNil))) [7]))
  (sExt 3 (mLc (miV (mVar 6)) (.tp [8, 9]) mtYes (mJ [(mC (.str "aside ")), (m1 fmtD (mVar 8)), (mC (.str " ")), (m1 fmtD (mVar 9))] Str.empty) [8, 9])))))
  (sSeq (sFrz 3) (sRet (m1 (joinS "\n") (mVar 3))))))))
def m_program_text : MF := mFn 10 b_program_text
theorem ok_program_text (T : Txt L.K mg) (EX : Exs P L mg T) : FnG P w L.K mg base (L2.CX P w) 7 T.a_program_text T.d_program_text ["program"] (spD L 1 m_program_text) := by
  refine def_ok (k := 6) T.f_program_text sc_program_text (by decide) fun c hL cdv A outer s H E gd hr => ?_
  have nd := sc_program_text.nd
  subst hL
  exact (qs_cons (qs_expr (qe_call rfl (FnG.mono (ok_want T EX) (by omega)) gd hr T.g_want T.f_want.kp T.b_want (takes_of rfl rfl rfl rfl) (qg_d (qe_call rfl (FnG.mono (ok_is_written T) (by omega)) gd hr T.g_is_written T.f_is_written.kp T.b_is_written (takes_of rfl rfl rfl rfl) (qg_d (qe_var (i := 0)) qg_nil) (glen_d glen_nil)) (qg_d qe_str qg_nil)) (glen_d (glen_d glen_nil))))
  (qs_cons (qs_unp (t := (.tp [1, 2])) rfl (qe_var (i := 0)) (pg_tup rfl (pgs_cons (pg_name (i := 1) nd rfl (by first | exact Or.inl rfl | exact Or.inr rfl)) (pgs_cons (pg_name (i := 2) nd rfl (by first | exact Or.inl rfl | exact Or.inr rfl)) pgs_nil))))
  (qs_cons (qs_own (j := 3) (qa_cons (qe_joined (qj_cons qe_str (qj_cons (qe_fmt (qe_ix ix_seq (ix_d rfl) (qe_var (i := 1)) qe_int)) (qj_cons qe_str (qj_cons (qe_fmt (qe_ix ix_seq (ix_d rfl) (qe_var (i := 1)) qe_int)) qj_nil))))) qa_nil) nd)
  (qs_cons (qs_for (t := (.tp [4, 5, 6])) rfl (passes_of rfl) rfl (qi_v rfl (qe_var (i := 2))) (pg_tup rfl (pgs_cons (pg_name (i := 4) nd rfl (by first | exact Or.inl rfl | exact Or.inr rfl)) (pgs_cons (pg_name (i := 5) nd rfl (by first | exact Or.inl rfl | exact Or.inr rfl)) (pgs_cons (pg_name (i := 6) nd rfl (by first | exact Or.inl rfl | exact Or.inr rfl)) pgs_nil))))
  (qs_cons (qs_app (j := 3) (qe_joined (qj_cons qe_str (qj_cons (qe_fmt (qe_var (i := 4))) qj_nil))))
  (qs_cons (qs_ext (j := 3) rfl (qe_lc (own := [("instruction", 7)]) (t := (.nm 7)) rfl rfl nd (qi_v rfl (qe_var (i := 5))) (blkOk_by (N := ["program", "begin", "roles", "lines", "name", "places", "asides", "instruction", "word", "child"]) (sc := defScope s_program_text) (own := [("instruction", 7)]) (by decide +kernel)) (by decide) (fun _ _ _ _ _ => (pg_name (i := 7) nd rfl (by first | exact Or.inl rfl | exact Or.inr rfl))) (fun _ _ _ _ _ => qts_nil) (fun _ _ _ _ _ => (qe_join rfl (qe_call rfl (FnG.mono (ok_words_of T) (by omega)) gd hr T.g_words_of T.f_words_of.kp T.b_words_of LamX.takes0 (qg_d (qe_var (i := 7)) qg_nil) (glen_d glen_nil))))))
  (qs_one (qs_ext (j := 3) rfl (qe_lc (own := [("word", 8), ("child", 9)]) (t := (.tp [8, 9])) rfl rfl nd (qi_v rfl (qe_var (i := 6))) (blkOk_by (N := ["program", "begin", "roles", "lines", "name", "places", "asides", "instruction", "word", "child"]) (sc := defScope s_program_text) (own := [("word", 8), ("child", 9)]) (by decide +kernel)) (by decide) (fun _ _ _ _ _ => (pg_tup rfl (pgs_cons (pg_name (i := 8) nd rfl (by first | exact Or.inl rfl | exact Or.inr rfl)) (pgs_cons (pg_name (i := 9) nd rfl (by first | exact Or.inl rfl | exact Or.inr rfl)) pgs_nil)))) (fun _ _ _ _ _ => qts_nil) (fun _ _ _ _ _ => (qe_joined (qj_cons qe_str (qj_cons (qe_fmt (qe_var (i := 8))) (qj_cons qe_str (qj_cons (qe_fmt (qe_var (i := 9))) qj_nil))))))))))))
  (qs_frz (qs_one (qs_ret (qe_join rfl (qe_var (i := 3))))))))))
/-! ### _law_draw -/
theorem sc__law_draw : FnScope ["_law_feed_here", "_law_many", "_law_idx", "_law_cells", "_law_cell", "_law_mixed", "_law_figure"] ["_law_feed_here", "_law_many"] (defScope s__law_draw) := ⟨rfl, rfl, rfl, by decide +kernel, rfl, by decide +kernel, by decide +kernel⟩
def b__law_draw : MS := (sSeq (sFd 0 .n (m2 addD (mFg 0 .n) (mC (.int 1))))
  (sSeq (sIf (mtE (m2 gtX (mFg 0 .l) (mC (.int 0))) asBool)
  (sSeq (sSet 6 (m2 modD (mCa intD (maCons (mFg 0 .l) maNil)) (mVar 1)))
  (sSeq (sFd 0 .l (m2 fdivD (mFg 0 .l) (mVar 1)))
  (sRet (mVar 6))))
  sNx)
  (sSeq (sPar 2 3 (maCons (mFg 0 .s) (maCons (mFg 0 .c) maNil)))
  (sSeq (sFd 0 .s (m2 addD (mVar 2) (mC (.int 1))))
  (sSeq (sSet 4 (mIf (mtE (m2 neD (mVar 3) (mLst maNil)) asBool) (m2 ixD (mVar 3) (m2 modD (mCa intD (maCons (mVar 2) maNil)) (mCa lenD (maCons (mVar 3) maNil)))) (mC (.int 4611))))
  (sSeq (sIf (mtAnd (mtE (m2 geX (mVar 4) (m2 powD (mC (.int 10)) (mC (.int 18)))) asBool) (mtE (m2 ltX (mVar 2) (mCa lenD (maCons (mVar 3) maNil))) asBool))
  (sSeq (sFd 0 .l (m2 fdivD (mVar 4) (mVar 1)))
  (sRet (m2 modD (mCa intD (maCons (mVar 4) maNil)) (mVar 1))))
  sNx)
  (sSeq (sSet 5 (m2 modD (mCa intD (maCons (m2 addD (m2 addD (m2 mulD (m2 modD (mCa intD (maCons (mVar 4) maNil)) (mC (.int 1000000007))) (mC (.int 3))) (m2 mulD (mC (.int 74149)) (mFg 0 .n))) (mC (.int 1090))) maNil)) (mC (.int 2147483477))))
  (sSeq (sSet 5 (m2 modD (mCa intD (maCons (m2 addD (m2 addD (m2 mulD (mVar 5) (mVar 5)) (m2 mulD (mC (.int 51929)) (mFg 0 .n))) (mC (.int 707))) maNil)) (mC (.int 2147483489))))
  (sRet (m2 modD (mCa intD (maCons (m2 fdivD (m2 modD (mCa intD (maCons (m2 addD (m2 mulD (mVar 5) (mVar 5)) (m2 mulD (mC (.int 641)) (mVar 5))) maNil)) (mC (.int 2147483137))) (mC (.int 32))) maNil)) (mVar 1)))))))))))
def m__law_draw : MF := mFn 7 b__law_draw
theorem ok__law_draw (T : Txt L.K mg) (kk : Keys L) (nk : L.Nk) : FnG P w L.K mg base (L2.CX P w) 1 T.a__law_draw T.d__law_draw ["_law_feed_here", "_law_many"] (spD L 2 m__law_draw) := by
  refine def_ok (k := 0) T.f__law_draw sc__law_draw (by decide) fun c hL cdv A outer s H E gd hr => ?_
  have nd := sc__law_draw.nd
  subst hL
  exact (qs_cons (qs_fd (i := 0) (k := .n) kk.n nk (hu_of hr) (qe_bin op_addD (add_d rfl) (qe_fg (i := 0) (k := .n) kk.n nk (hu_of hr)) qe_int))
  (qs_cons (qs_if (qt_cmp (op_gtX (room65 hr)) (x_cmp rfl) (qe_fg (i := 0) (k := .l) kk.l nk (hu_of hr)) qe_int)
  (qs_cons (qs_set (j := 6) (qe_bin op_mod mod_d (qe_callTy call_int1 int_d T.n_int (qa_cons (qe_fg (i := 0) (k := .l) kk.l nk (hu_of hr)) qa_nil)) (qe_var (i := 1))) nd)
  (qs_cons (qs_fd (i := 0) (k := .l) kk.l nk (hu_of hr) (qe_bin op_fdiv fdiv_d (qe_fg (i := 0) (k := .l) kk.l nk (hu_of hr)) (qe_var (i := 1))))
  (qs_one (qs_ret (qe_var (i := 6))))))
  qs_nil)
  (qs_cons (qs_par (i := 2) (j := 3) rfl nd (qa_cons (qe_fg (i := 0) (k := .s) kk.s nk (hu_of hr)) (qa_cons (qe_fg (i := 0) (k := .c) kk.c nk (hu_of hr)) qa_nil)))
  (qs_cons (qs_fd (i := 0) (k := .s) kk.s nk (hu_of hr) (qe_bin op_addD (add_d rfl) (qe_var (i := 2)) qe_int))
  (qs_cons (qs_set (j := 4) (qe_if (qt_cmp (op_neD hr.units) (ne_d rfl) (qe_var (i := 3)) (qe_lst qa_nil)) (qe_ix ix_seq (ix_d rfl) (qe_var (i := 3)) (qe_bin op_mod mod_d (qe_callTy call_int1 int_d T.n_int (qa_cons (qe_var (i := 2)) qa_nil)) (qe_callB call_lenDt (len_d rfl) T.n_len (qa_cons (qe_var (i := 3)) qa_nil)))) qe_int) nd)
  (qs_cons (qs_if (PW.pt (qw_and (qt_cmp (op_geX (room65 hr)) (x_cmp rfl) (qe_var (i := 4)) (qe_bin op_pow pow_d qe_int qe_int)) (qw_and1 (qt_cmp (op_ltX (room65 hr)) (x_cmp rfl) (qe_var (i := 2)) (qe_callB call_lenDt (len_d rfl) T.n_len (qa_cons (qe_var (i := 3)) qa_nil))))))
  (qs_cons (qs_fd (i := 0) (k := .l) kk.l nk (hu_of hr) (qe_bin op_fdiv fdiv_d (qe_var (i := 4)) (qe_var (i := 1))))
  (qs_one (qs_ret (qe_bin op_mod mod_d (qe_callTy call_int1 int_d T.n_int (qa_cons (qe_var (i := 4)) qa_nil)) (qe_var (i := 1))))))
  qs_nil)
  (qs_cons (qs_set (j := 5) (qe_bin op_mod mod_d (qe_callTy call_int1 int_d T.n_int (qa_cons (qe_bin op_addD (add_d rfl) (qe_bin op_addD (add_d rfl) (qe_bin op_mul mul_d (qe_bin op_mod mod_d (qe_callTy call_int1 int_d T.n_int (qa_cons (qe_var (i := 4)) qa_nil)) qe_int) qe_int) (qe_bin op_mul mul_d qe_int (qe_fg (i := 0) (k := .n) kk.n nk (hu_of hr)))) qe_int) qa_nil)) qe_int) nd)
  (qs_cons (qs_set (j := 5) (qe_bin op_mod mod_d (qe_callTy call_int1 int_d T.n_int (qa_cons (qe_bin op_addD (add_d rfl) (qe_bin op_addD (add_d rfl) (qe_bin op_mul mul_d (qe_var (i := 5)) (qe_var (i := 5))) (qe_bin op_mul mul_d qe_int (qe_fg (i := 0) (k := .n) kk.n nk (hu_of hr)))) qe_int) qa_nil)) qe_int) nd)
  (qs_one (qs_ret (qe_bin op_mod mod_d (qe_callTy call_int1 int_d T.n_int (qa_cons (qe_bin op_fdiv fdiv_d (qe_bin op_mod mod_d (qe_callTy call_int1 int_d T.n_int (qa_cons (qe_bin op_addD (add_d rfl) (qe_bin op_mul mul_d (qe_var (i := 5)) (qe_var (i := 5))) (qe_bin op_mul mul_d qe_int (qe_var (i := 5)))) qa_nil)) qe_int) qe_int) qa_nil)) (qe_var (i := 1)))))))))))))
/-! ### _law_pick -/
theorem sc__law_pick : FnScope ["_law_feed_here", "_law_some"] ["_law_feed_here", "_law_some"] (defScope s__law_pick) := ⟨rfl, rfl, rfl, by decide +kernel, rfl, by decide +kernel, by decide +kernel⟩
def b__law_pick : MS := (sRet (m2 ixD (mVar 1) (mCall m__law_draw (mgF 0 (mgD (mCa lenD (maCons (mVar 1) maNil)) mgNil)))))
def m__law_pick : MF := mFn 2 b__law_pick
theorem ok__law_pick (T : Txt L.K mg) (kk : Keys L) (nk : L.Nk) : FnG P w L.K mg base (L2.CX P w) 2 T.a__law_pick T.d__law_pick ["_law_feed_here", "_law_some"] (spD L 2 m__law_pick) := by
  refine def_ok (k := 1) T.f__law_pick sc__law_pick (by decide) fun c hL cdv A outer s H E gd hr => ?_
  have nd := sc__law_pick.nd
  subst hL
  exact (qs_one (qs_ret (qe_ix ix_seq (ix_d rfl) (qe_var (i := 1)) (qe_call rfl (FnG.mono (ok__law_draw T kk nk) (by omega)) gd hr T.g__law_draw T.f__law_draw.kp T.b__law_draw (takes_of rfl rfl rfl rfl) (qg_f (i := 0) (qg_d (qe_callB call_lenDt (len_d rfl) T.n_len (qa_cons (qe_var (i := 1)) qa_nil)) qg_nil)) (glen_f (glen_d glen_nil))))))
/-! ### _law_name -/
theorem sc__law_name : FnScope ["_law_feed_here", "_law_menu", "_law_letters", "_law_k"] ["_law_feed_here"] (defScope s__law_name) := ⟨rfl, rfl, rfl, by decide +kernel, rfl, by decide +kernel, by decide +kernel⟩
def b__law_name : MS := (sSeq (sSet 1 (mLst (maCons (mC (.str "main")) (maCons (mC (.str "kid")) (maCons (mC (.str "server")) (maCons (mC (.str "a")) (maCons (mC (.str "ab")) (maCons (mC (.str "aba")) (maCons (mC (.str "b")) (maCons (mC (.str "zz")) (maCons (mC (.str "read")) (maCons (mC (.str "stay")) (maCons (mC (.str "role")) (maCons (mC (.str "aside")) (maCons (mC (.str "begin")) (maCons (mC (.str "copy")) (maCons (mC (.str "open")) maNil)))))))))))))))))
  (sSeq (sIf (mtE (m2 gtX (mCall m__law_draw (mgF 0 (mgD (mC (.int 3)) mgNil))) (mC (.int 0))) asBool)
  (sRet (mCall m__law_pick (mgF 0 (mgD (m2 addD (mVar 1) (mLst (maCons (mC (.str "abcdefgh")) (maCons (mC (.str "w")) (maCons (mC (.str "r")) maNil))))) mgNil))))
  sNx)
  (sSeq (sSet 2 (mC (.str "abcdefghijklmnopqrstuvwxyz")))
  (sRet (m1 (joinS "") (mLc (miR1 (maCons (m2 addD (mC (.int 1)) (mCall m__law_draw (mgF 0 (mgD (mC (.int 8)) mgNil)))) maNil)) (.nm 3) mtYes (m2 ixD (mVar 2) (mCall m__law_draw (mgF 0 (mgD (mC (.int 26)) mgNil)))) [3]))))))
def m__law_name : MF := mFn 4 b__law_name
theorem ok__law_name (T : Txt L.K mg) (kk : Keys L) (nk : L.Nk) : FnG P w L.K mg base (L2.CX P w) 3 T.a__law_name T.d__law_name ["_law_feed_here"] (spD L 1 m__law_name) := by
  refine def_ok (k := 2) T.f__law_name sc__law_name (by decide) fun c hL cdv A outer s H E gd hr => ?_
  have nd := sc__law_name.nd
  subst hL
  exact (qs_cons (qs_set (j := 1) (qe_lst (qa_cons qe_str (qa_cons qe_str (qa_cons qe_str (qa_cons qe_str (qa_cons qe_str (qa_cons qe_str (qa_cons qe_str (qa_cons qe_str (qa_cons qe_str (qa_cons qe_str (qa_cons qe_str (qa_cons qe_str (qa_cons qe_str (qa_cons qe_str (qa_cons qe_str qa_nil)))))))))))))))) nd)
  (qs_cons (qs_if (qt_cmp (op_gtX (room65 hr)) (x_cmp rfl) (qe_call rfl (FnG.mono (ok__law_draw T kk nk) (by omega)) gd hr T.g__law_draw T.f__law_draw.kp T.b__law_draw (takes_of rfl rfl rfl rfl) (qg_f (i := 0) (qg_d qe_int qg_nil)) (glen_f (glen_d glen_nil))) qe_int)
  (qs_one (qs_ret (qe_call rfl (FnG.mono (ok__law_pick T kk nk) (by omega)) gd hr T.g__law_pick T.f__law_pick.kp T.b__law_pick (takes_of rfl rfl rfl rfl) (qg_f (i := 0) (qg_d (qe_bin op_addD (add_d rfl) (qe_var (i := 1)) (qe_lst (qa_cons qe_str (qa_cons qe_str (qa_cons qe_str qa_nil))))) qg_nil)) (glen_f (glen_d glen_nil)))))
  qs_nil)
  (qs_cons (qs_set (j := 2) qe_str nd)
  (qs_one (qs_ret (qe_join rfl (qe_lc (own := [("_law_k", 3)]) (t := (.nm 3)) rfl rfl nd (qi_r1 T.n_range (qa_cons (qe_bin op_addD (add_d rfl) qe_int (qe_call rfl (FnG.mono (ok__law_draw T kk nk) (by omega)) gd hr T.g__law_draw T.f__law_draw.kp T.b__law_draw (takes_of rfl rfl rfl rfl) (qg_f (i := 0) (qg_d qe_int qg_nil)) (glen_f (glen_d glen_nil)))) qa_nil)) (blkOk_by (N := ["_law_feed_here", "_law_menu", "_law_letters", "_law_k"]) (sc := defScope s__law_name) (own := [("_law_k", 3)]) (by decide +kernel)) (by decide) (fun _ _ _ _ _ => (pg_name (i := 3) nd rfl (by first | exact Or.inl rfl | exact Or.inr rfl))) (fun _ _ _ _ _ => qts_nil) (fun _ _ _ _ _ => (qe_ix ix_seq (ix_d rfl) (qe_var (i := 2)) (qe_call rfl (FnG.mono (ok__law_draw T kk nk) (by omega)) gd hr T.g__law_draw T.f__law_draw.kp T.b__law_draw LamX.takes0 (qg_f (i := 0) (qg_d qe_int qg_nil)) (glen_f (glen_d glen_nil))))))))))))
/-! ### _law_fresh -/
theorem sc__law_fresh : FnScope ["_law_names_here", "_law_one"] ["_law_names_here"] (defScope s__law_fresh) := ⟨rfl, rfl, rfl, by decide +kernel, rfl, by decide +kernel, by decide +kernel⟩
def b__law_fresh : MS := (sRet (m2 ixD (mLc (miV (mLst (maCons (mC (.str "qa")) (maCons (mC (.str "qb")) (maCons (mC (.str "qc")) (maCons (mC (.str "qd")) (maCons (mC (.str "qe")) (maCons (mC (.str "qf")) (maCons (mC (.str "qg")) (maCons (mC (.str "qh")) (maCons (mC (.str "qi")) maNil))))))))))) (.nm 1) (mtE (m2 ninX (mVar 1) (mVar 0)) asBool) (mVar 1) [1]) (mC (.int 0))))
def m__law_fresh : MF := mFn 2 b__law_fresh
theorem ok__law_fresh (T : Txt L.K mg) : FnG P w L.K mg base (L2.CX P w) 1 T.a__law_fresh T.d__law_fresh ["_law_names_here"] (spD L 1 m__law_fresh) := by
  refine def_ok (k := 0) T.f__law_fresh sc__law_fresh (by decide) fun c hL cdv A outer s H E gd hr => ?_
  have nd := sc__law_fresh.nd
  subst hL
  exact (qs_one (qs_ret (qe_ix ix_seq (ix_d rfl) (qe_lc (own := [("_law_one", 1)]) (t := (.nm 1)) rfl rfl nd (qi_v rfl (qe_lst (qa_cons qe_str (qa_cons qe_str (qa_cons qe_str (qa_cons qe_str (qa_cons qe_str (qa_cons qe_str (qa_cons qe_str (qa_cons qe_str (qa_cons qe_str qa_nil))))))))))) (blkOk_by (N := ["_law_names_here", "_law_one"]) (sc := defScope s__law_fresh) (own := [("_law_one", 1)]) (by decide +kernel)) (by decide) (fun _ _ _ _ _ => (pg_name (i := 1) nd rfl (by first | exact Or.inl rfl | exact Or.inr rfl))) (fun _ _ _ _ _ => (qts_one (qt_cmp (op_ninX (room65 hr)) (x_nin rfl) (qe_var (i := 1)) (qe_var (i := 0))))) (fun _ _ _ _ _ => (qe_var (i := 1)))) qe_int)))
/-! ### _law_names -/
theorem sc__law_names : FnScope ["_law_feed_here", "_law_many", "_law_found", "_law_k", "_law_one"] ["_law_feed_here", "_law_many"] (defScope s__law_names) := ⟨rfl, rfl, rfl, by decide +kernel, rfl, by decide +kernel, by decide +kernel⟩
def b__law_names : MS := (sSeq (sOwn 2 maNil)
  (sSeq (sFor (miR1 (maCons (mVar 1) maNil)) (.nm 3)
  (sSeq (sSet 4 (mCall m__law_name (mgF 0 mgNil)))
  (sSeq (sIf (mtThaw 2 (mtAnd (mtE (m2 neD (mVar 2) (mLst maNil)) asBool) (mtE (m2 eqD (mCall m__law_draw (mgF 0 (mgD (mC (.int 4)) mgNil))) (mC (.int 0))) asBool)))
  (sSet 4 (mThaw 2 (mSl (m2 addD (m2 ixD (mVar 2) (mC (.int 0))) (mVar 4)) moNone (moSome (mC (.int 8))))))
  sNx)
  (sApp 2 (mThaw 2 (mIf (mtE (m2 ninX (mVar 4) (mVar 2)) asBool) (mVar 4) (mCall m__law_fresh (mgD (mVar 2) mgNil))))))))
  (sSeq (sFrz 2) (sRet (mVar 2)))))
def m__law_names : MF := mFn 5 b__law_names
theorem ok__law_names (T : Txt L.K mg) (kk : Keys L) (nk : L.Nk) : FnG P w L.K mg base (L2.CX P w) 4 T.a__law_names T.d__law_names ["_law_feed_here", "_law_many"] (spD L 2 m__law_names) := by
  refine def_ok (k := 3) T.f__law_names sc__law_names (by decide) fun c hL cdv A outer s H E gd hr => ?_
  have nd := sc__law_names.nd
  subst hL
  exact (qs_cons (qs_own (j := 2) qa_nil nd)
  (qs_cons (qs_for (t := (.nm 3)) rfl (passes_of rfl) rfl (qi_r1 T.n_range (qa_cons (qe_var (i := 1)) qa_nil)) (pg_name (i := 3) nd rfl (by first | exact Or.inl rfl | exact Or.inr rfl))
  (qs_cons (qs_set (j := 4) (qe_call rfl (FnG.mono (ok__law_name T kk nk) (by omega)) gd hr T.g__law_name T.f__law_name.kp T.b__law_name (takes_of rfl rfl rfl rfl) (qg_f (i := 0) qg_nil) (glen_f glen_nil)) nd)
  (qs_cons (qs_if (qt_thaw (i := 2) (PW.pt (qw_and (qt_cmp (op_neD hr.units) (ne_d rfl) (qe_var (i := 2)) (qe_lst qa_nil)) (qw_and1 (qt_cmp (op_eqD hr.units) (eq_d rfl) (qe_call rfl (FnG.mono (ok__law_draw T kk nk) (by omega)) gd hr T.g__law_draw T.f__law_draw.kp T.b__law_draw (takes_of rfl rfl rfl rfl) (qg_f (i := 0) (qg_d qe_int qg_nil)) (glen_f (glen_d glen_nil))) qe_int)))))
  (qs_one (qs_set (j := 4) (qe_thaw (i := 2) (qe_sl rfl (qe_bin op_addD (add_d rfl) (qe_ix ix_seq (ix_d rfl) (qe_var (i := 2)) qe_int) (qe_var (i := 4))) qo_none (qo_some qe_int))) nd))
  qs_nil)
  (qs_one (qs_app (j := 2) (qe_thaw (i := 2) (qe_if (qt_cmp (op_ninX (room65 hr)) (x_nin rfl) (qe_var (i := 4)) (qe_var (i := 2))) (qe_var (i := 4)) (qe_call rfl (FnG.mono (ok__law_fresh T) (by omega)) gd hr T.g__law_fresh T.f__law_fresh.kp T.b__law_fresh (takes_of rfl rfl rfl rfl) (qg_d (qe_var (i := 2)) qg_nil) (glen_d glen_nil)))))))))
  (qs_frz (qs_one (qs_ret (qe_var (i := 2)))))))
/-! ### _law_set -/
theorem sc__law_set : FnScope ["_law_feed_here", "_law_many", "_law_low", "_law_k"] ["_law_feed_here", "_law_many"] (defScope s__law_set) := ⟨rfl, rfl, rfl, by decide +kernel, rfl, by decide +kernel, by decide +kernel⟩
def b__law_set : MS := (sSeq (sSet 2 (mCall m__law_draw (mgF 0 (mgD (mVar 1) mgNil))))
  (sRet (mCa tupleD (maCons (mLc (miR1 (maCons (mVar 1) maNil)) (.nm 3) (mtOr (mtE (m2 eqD (mVar 3) (mVar 2)) asBool) (mtE (m2 eqD (mCall m__law_draw (mgF 0 (mgD (mC (.int 4)) mgNil))) (mC (.int 0))) asBool)) (mVar 3) [3]) maNil))))
def m__law_set : MF := mFn 4 b__law_set
theorem ok__law_set (T : Txt L.K mg) (kk : Keys L) (nk : L.Nk) : FnG P w L.K mg base (L2.CX P w) 2 T.a__law_set T.d__law_set ["_law_feed_here", "_law_many"] (spD L 2 m__law_set) := by
  refine def_ok (k := 1) T.f__law_set sc__law_set (by decide) fun c hL cdv A outer s H E gd hr => ?_
  have nd := sc__law_set.nd
  subst hL
  exact (qs_cons (qs_set (j := 2) (qe_call rfl (FnG.mono (ok__law_draw T kk nk) (by omega)) gd hr T.g__law_draw T.f__law_draw.kp T.b__law_draw (takes_of rfl rfl rfl rfl) (qg_f (i := 0) (qg_d (qe_var (i := 1)) qg_nil)) (glen_f (glen_d glen_nil))) nd)
  (qs_one (qs_ret (qe_callTy call_tuple_of (tuple_d rfl) T.n_tuple (qa_cons (qe_lc (own := [("_law_k", 3)]) (t := (.nm 3)) rfl rfl nd (qi_r1 T.n_range (qa_cons (qe_var (i := 1)) qa_nil)) (blkOk_by (N := ["_law_feed_here", "_law_many", "_law_low", "_law_k"]) (sc := defScope s__law_set) (own := [("_law_k", 3)]) (by decide +kernel)) (by decide) (fun _ _ _ _ _ => (pg_name (i := 3) nd rfl (by first | exact Or.inl rfl | exact Or.inr rfl))) (fun _ _ _ _ _ => (qts_one (PW.pt (qw_or (qt_cmp (op_eqD hr.units) (eq_d rfl) (qe_var (i := 3)) (qe_var (i := 2))) (qw_or1 (qt_cmp (op_eqD hr.units) (eq_d rfl) (qe_call rfl (FnG.mono (ok__law_draw T kk nk) (by omega)) gd hr T.g__law_draw T.f__law_draw.kp T.b__law_draw LamX.takes0 (qg_f (i := 0) (qg_d qe_int qg_nil)) (glen_f (glen_d glen_nil))) qe_int)))))) (fun _ _ _ _ _ => (qe_var (i := 3)))) qa_nil)))))
/-! ### _law_instruction -/
theorem sc__law_instruction : FnScope ["_law_feed_here", "_law_many", "_law_names_here", "_law_way", "_law_target"] ["_law_feed_here", "_law_many", "_law_names_here"] (defScope s__law_instruction) := ⟨rfl, rfl, rfl, by decide +kernel, rfl, by decide +kernel, by decide +kernel⟩
def b__law_instruction : MS := (sSeq (sPar 3 4 (maCons (mCall m__law_draw (mgF 0 (mgD (mC (.int 14)) mgNil))) (maCons (mCall m__law_draw (mgF 0 (mgD (mVar 1) mgNil))) maNil)))
  (sSeq (sIf (mtE (m2 ltX (mVar 3) (mC (.int 5))) asBool)
  (sRet (mTup (maCons (m2 ixD (mLst (maCons (mC (.str "copy")) (maCons (mC (.str "start")) (maCons (mC (.str "copy")) (maCons (mC (.str "start")) (maCons (mC (.str "start")) maNil)))))) (mVar 3)) (maCons (mCall m__law_pick (mgF 0 (mgD (mVar 2) mgNil))) (maCons (mVar 4) maNil)))))
  sNx)
  (sSeq (sIf (mtE (m2 ltX (mVar 3) (mC (.int 9))) asBool)
  (sRet (mTup (maCons (m2 ixD (mLst (maCons (mC (.str "mark")) (maCons (mC (.str "close")) maNil))) (mCall m__law_draw (mgF 0 (mgD (mC (.int 2)) mgNil)))) (maCons (m2 ixD (mLst (maCons (mC (.str "r")) (maCons (mC (.str "w")) maNil))) (mCall m__law_draw (mgF 0 (mgD (mC (.int 2)) mgNil)))) (maCons (mVar 4) maNil)))))
  sNx)
  (sSeq (sIf (mtE (m2 eqD (mVar 3) (mC (.int 9))) asBool)
  (sRet (mTup (maCons (mC (.str "go")) (maCons (mCall m__law_set (mgF 0 (mgD (mVar 1) mgNil))) maNil))))
  sNx)
  (sRet (mIf (mtE (m2 ltX (mVar 3) (mC (.int 13))) asBool) (mTup (maCons (m2 ixD (mLst (maCons (mC (.str "read")) (maCons (mC (.str "write")) (maCons (mC (.str "wait")) maNil)))) (m2 subD (mVar 3) (mC (.int 10)))) (maCons (mVar 4) maNil))) (mTup (maCons (m2 ixD (mLst (maCons (mC (.str "stay")) (maCons (mC (.str "end")) maNil))) (mCall m__law_draw (mgF 0 (mgD (mC (.int 2)) mgNil)))) maNil))))))))
def m__law_instruction : MF := mFn 5 b__law_instruction
theorem ok__law_instruction (T : Txt L.K mg) (kk : Keys L) (nk : L.Nk) : FnG P w L.K mg base (L2.CX P w) 3 T.a__law_instruction T.d__law_instruction ["_law_feed_here", "_law_many", "_law_names_here"] (spD L 3 m__law_instruction) := by
  refine def_ok (k := 2) T.f__law_instruction sc__law_instruction (by decide) fun c hL cdv A outer s H E gd hr => ?_
  have nd := sc__law_instruction.nd
  subst hL
  exact (qs_cons (qs_par (i := 3) (j := 4) rfl nd (qa_cons (qe_call rfl (FnG.mono (ok__law_draw T kk nk) (by omega)) gd hr T.g__law_draw T.f__law_draw.kp T.b__law_draw (takes_of rfl rfl rfl rfl) (qg_f (i := 0) (qg_d qe_int qg_nil)) (glen_f (glen_d glen_nil))) (qa_cons (qe_call rfl (FnG.mono (ok__law_draw T kk nk) (by omega)) gd hr T.g__law_draw T.f__law_draw.kp T.b__law_draw (takes_of rfl rfl rfl rfl) (qg_f (i := 0) (qg_d (qe_var (i := 1)) qg_nil)) (glen_f (glen_d glen_nil))) qa_nil)))
  (qs_cons (qs_if (qt_cmp (op_ltX (room65 hr)) (x_cmp rfl) (qe_var (i := 3)) qe_int)
  (qs_one (qs_ret (qe_tup (qa_cons (qe_ix ix_seq (ix_d rfl) (qe_lst (qa_cons qe_str (qa_cons qe_str (qa_cons qe_str (qa_cons qe_str (qa_cons qe_str qa_nil)))))) (qe_var (i := 3))) (qa_cons (qe_call rfl (FnG.mono (ok__law_pick T kk nk) (by omega)) gd hr T.g__law_pick T.f__law_pick.kp T.b__law_pick (takes_of rfl rfl rfl rfl) (qg_f (i := 0) (qg_d (qe_var (i := 2)) qg_nil)) (glen_f (glen_d glen_nil))) (qa_cons (qe_var (i := 4)) qa_nil))))))
  qs_nil)
  (qs_cons (qs_if (qt_cmp (op_ltX (room65 hr)) (x_cmp rfl) (qe_var (i := 3)) qe_int)
  (qs_one (qs_ret (qe_tup (qa_cons (qe_ix ix_seq (ix_d rfl) (qe_lst (qa_cons qe_str (qa_cons qe_str qa_nil))) (qe_call rfl (FnG.mono (ok__law_draw T kk nk) (by omega)) gd hr T.g__law_draw T.f__law_draw.kp T.b__law_draw (takes_of rfl rfl rfl rfl) (qg_f (i := 0) (qg_d qe_int qg_nil)) (glen_f (glen_d glen_nil)))) (qa_cons (qe_ix ix_seq (ix_d rfl) (qe_lst (qa_cons qe_str (qa_cons qe_str qa_nil))) (qe_call rfl (FnG.mono (ok__law_draw T kk nk) (by omega)) gd hr T.g__law_draw T.f__law_draw.kp T.b__law_draw (takes_of rfl rfl rfl rfl) (qg_f (i := 0) (qg_d qe_int qg_nil)) (glen_f (glen_d glen_nil)))) (qa_cons (qe_var (i := 4)) qa_nil))))))
  qs_nil)
  (qs_cons (qs_if (qt_cmp (op_eqD hr.units) (eq_d rfl) (qe_var (i := 3)) qe_int)
  (qs_one (qs_ret (qe_tup (qa_cons qe_str (qa_cons (qe_call rfl (FnG.mono (ok__law_set T kk nk) (by omega)) gd hr T.g__law_set T.f__law_set.kp T.b__law_set (takes_of rfl rfl rfl rfl) (qg_f (i := 0) (qg_d (qe_var (i := 1)) qg_nil)) (glen_f (glen_d glen_nil))) qa_nil)))))
  qs_nil)
  (qs_one (qs_ret (qe_if (qt_cmp (op_ltX (room65 hr)) (x_cmp rfl) (qe_var (i := 3)) qe_int) (qe_tup (qa_cons (qe_ix ix_seq (ix_d rfl) (qe_lst (qa_cons qe_str (qa_cons qe_str (qa_cons qe_str qa_nil)))) (qe_bin op_sub sub_d (qe_var (i := 3)) qe_int)) (qa_cons (qe_var (i := 4)) qa_nil))) (qe_tup (qa_cons (qe_ix ix_seq (ix_d rfl) (qe_lst (qa_cons qe_str (qa_cons qe_str qa_nil))) (qe_call rfl (FnG.mono (ok__law_draw T kk nk) (by omega)) gd hr T.g__law_draw T.f__law_draw.kp T.b__law_draw (takes_of rfl rfl rfl rfl) (qg_f (i := 0) (qg_d qe_int qg_nil)) (glen_f (glen_d glen_nil)))) qa_nil)))))))))
/-! ### _law_asides -/
theorem sc__law_asides : FnScope ["_law_feed_here", "_law_names_here", "_law_found", "_law_k"] ["_law_feed_here", "_law_names_here"] (defScope s__law_asides) := ⟨rfl, rfl, rfl, by decide +kernel, rfl, by decide +kernel, by decide +kernel⟩
def b__law_asides : MS := (sSeq (sSet 2 (mLc (miR1 (maCons (mCall m__law_draw (mgF 0 (mgD (mC (.int 4)) mgNil))) maNil)) (.nm 3) mtYes (mTup (maCons (m2 ixD (mLst (maCons (mC (.str "copy")) (maCons (mC (.str "start")) maNil))) (mCall m__law_draw (mgF 0 (mgD (mC (.int 2)) mgNil)))) (maCons (mCall m__law_pick (mgF 0 (mgD (mVar 1) mgNil))) maNil))) [3]))
  (sRet (mCa tupleD (maCons (m1 sortSetD (mVar 2)) maNil))))
def m__law_asides : MF := mFn 4 b__law_asides
theorem ok__law_asides (T : Txt L.K mg) (kk : Keys L) (nk : L.Nk) : FnG P w L.K mg base (L2.CX P w) 3 T.a__law_asides T.d__law_asides ["_law_feed_here", "_law_names_here"] (spD L 2 m__law_asides) := by
  refine def_ok (k := 2) T.f__law_asides sc__law_asides (by decide) fun c hL cdv A outer s H E gd hr => ?_
  have nd := sc__law_asides.nd
  subst hL
  exact (qs_cons (qs_setLc (i := 2) (own := [("_law_k", 3)]) (t := (.nm 3)) rfl rfl nd (qi_r1 T.n_range (qa_cons (qe_call rfl (FnG.mono (ok__law_draw T kk nk) (by omega)) gd hr T.g__law_draw T.f__law_draw.kp T.b__law_draw (takes_of rfl rfl rfl rfl) (qg_f (i := 0) (qg_d qe_int qg_nil)) (glen_f (glen_d glen_nil))) qa_nil)) (blkOk_by (N := ["_law_feed_here", "_law_names_here", "_law_found", "_law_k"]) (sc := defScope s__law_asides) (own := [("_law_k", 3)]) (by decide +kernel)) (by decide) (fun _ _ _ _ _ => (pg_name (i := 3) nd rfl (by first | exact Or.inl rfl | exact Or.inr rfl))) (fun _ _ _ _ _ => qts_nil) (fun _ _ _ _ _ => (qe_tup (qa_cons (qe_ix ix_seq (ix_d rfl) (qe_lst (qa_cons qe_str (qa_cons qe_str qa_nil))) (qe_call rfl (FnG.mono (ok__law_draw T kk nk) (by omega)) gd hr T.g__law_draw T.f__law_draw.kp T.b__law_draw LamX.takes0 (qg_f (i := 0) (qg_d qe_int qg_nil)) (glen_f (glen_d glen_nil)))) (qa_cons (qe_call rfl (FnG.mono (ok__law_pick T kk nk) (by omega)) gd hr T.g__law_pick T.f__law_pick.kp T.b__law_pick LamX.takes0 (qg_f (i := 0) (qg_d (qe_var (i := 1)) qg_nil)) (glen_f (glen_d glen_nil))) qa_nil)))))
  (qs_one (qs_ret (qe_callTy call_tuple_of (tuple_d rfl) T.n_tuple (qa_cons (qe_sset rfl rfl (room64 hr) T.n_sorted T.n_set (qe_var (i := 2))) qa_nil)))))
/-! ### _law_role -/
theorem sc__law_role : FnScope ["_law_feed_here", "_law_title", "_law_names_here", "_law_many", "_law_places", "_law_k"] ["_law_feed_here", "_law_title", "_law_names_here"] (defScope s__law_role) := ⟨rfl, rfl, rfl, by decide +kernel, rfl, by decide +kernel, by decide +kernel⟩
def b__law_role : MS := (sSeq (sSet 3 (m2 ixD (mLst (maCons (mC (.int 1)) (maCons (mC (.int 2)) (maCons (mC (.int 3)) (maCons (mC (.int 4)) (maCons (mC (.int 5)) (maCons (mC (.int 6)) (maCons (mC (.int 12)) maNil)))))))) (mCall m__law_draw (mgF 0 (mgD (mC (.int 7)) mgNil)))))
  (sSeq (sSet 4 (mCa tupleD (maCons (mLc (miR1 (maCons (mVar 3) maNil)) (.nm 5) mtYes (mCall m__law_instruction (mgF 0 (mgD (mVar 3) (mgD (mVar 2) mgNil)))) [5]) maNil)))
  (sRet (mTup (maCons (mVar 1) (maCons (mVar 4) (maCons (mCall m__law_asides (mgF 0 (mgD (mVar 2) mgNil))) maNil)))))))
def m__law_role : MF := mFn 6 b__law_role
theorem ok__law_role (T : Txt L.K mg) (kk : Keys L) (nk : L.Nk) : FnG P w L.K mg base (L2.CX P w) 4 T.a__law_role T.d__law_role ["_law_feed_here", "_law_title", "_law_names_here"] (spD L 3 m__law_role) := by
  refine def_ok (k := 3) T.f__law_role sc__law_role (by decide) fun c hL cdv A outer s H E gd hr => ?_
  have nd := sc__law_role.nd
  subst hL
  exact (qs_cons (qs_set (j := 3) (qe_ix ix_seq (ix_d rfl) (qe_lst (qa_cons qe_int (qa_cons qe_int (qa_cons qe_int (qa_cons qe_int (qa_cons qe_int (qa_cons qe_int (qa_cons qe_int qa_nil)))))))) (qe_call rfl (FnG.mono (ok__law_draw T kk nk) (by omega)) gd hr T.g__law_draw T.f__law_draw.kp T.b__law_draw (takes_of rfl rfl rfl rfl) (qg_f (i := 0) (qg_d qe_int qg_nil)) (glen_f (glen_d glen_nil)))) nd)
  (qs_cons (qs_set (j := 4) (qe_callTy call_tuple_of (tuple_d rfl) T.n_tuple (qa_cons (qe_lc (own := [("_law_k", 5)]) (t := (.nm 5)) rfl rfl nd (qi_r1 T.n_range (qa_cons (qe_var (i := 3)) qa_nil)) (blkOk_by (N := ["_law_feed_here", "_law_title", "_law_names_here", "_law_many", "_law_places", "_law_k"]) (sc := defScope s__law_role) (own := [("_law_k", 5)]) (by decide +kernel)) (by decide) (fun _ _ _ _ _ => (pg_name (i := 5) nd rfl (by first | exact Or.inl rfl | exact Or.inr rfl))) (fun _ _ _ _ _ => qts_nil) (fun _ _ _ _ _ => (qe_call rfl (FnG.mono (ok__law_instruction T kk nk) (by omega)) gd hr T.g__law_instruction T.f__law_instruction.kp T.b__law_instruction LamX.takes0 (qg_f (i := 0) (qg_d (qe_var (i := 3)) (qg_d (qe_var (i := 2)) qg_nil))) (glen_f (glen_d (glen_d glen_nil)))))) qa_nil)) nd)
  (qs_one (qs_ret (qe_tup (qa_cons (qe_var (i := 1)) (qa_cons (qe_var (i := 4)) (qa_cons (qe_call rfl (FnG.mono (ok__law_asides T kk nk) (by omega)) gd hr T.g__law_asides T.f__law_asides.kp T.b__law_asides (takes_of rfl rfl rfl rfl) (qg_f (i := 0) (qg_d (qe_var (i := 2)) qg_nil)) (glen_f (glen_d glen_nil))) qa_nil))))))))
/-! ### _law_begin -/
theorem sc__law_begin : FnScope ["_law_feed_here"] ["_law_feed_here"] (defScope s__law_begin) := ⟨rfl, rfl, rfl, by decide +kernel, rfl, by decide +kernel, by decide +kernel⟩
def b__law_begin : MS := (sRet (mTup (maCons (m2 ixD (mLst (maCons (mC (.str "open")) (maCons (mC (.str "marked")) maNil))) (mCall m__law_draw (mgF 0 (mgD (mC (.int 2)) mgNil)))) (maCons (m2 ixD (mLst (maCons (mC (.str "open")) (maCons (mC (.str "marked")) maNil))) (mCall m__law_draw (mgF 0 (mgD (mC (.int 2)) mgNil)))) maNil))))
def m__law_begin : MF := mFn 1 b__law_begin
theorem ok__law_begin (T : Txt L.K mg) (kk : Keys L) (nk : L.Nk) : FnG P w L.K mg base (L2.CX P w) 2 T.a__law_begin T.d__law_begin ["_law_feed_here"] (spD L 1 m__law_begin) := by
  refine def_ok (k := 1) T.f__law_begin sc__law_begin (by decide) fun c hL cdv A outer s H E gd hr => ?_
  have nd := sc__law_begin.nd
  subst hL
  exact (qs_one (qs_ret (qe_tup (qa_cons (qe_ix ix_seq (ix_d rfl) (qe_lst (qa_cons qe_str (qa_cons qe_str qa_nil))) (qe_call rfl (FnG.mono (ok__law_draw T kk nk) (by omega)) gd hr T.g__law_draw T.f__law_draw.kp T.b__law_draw (takes_of rfl rfl rfl rfl) (qg_f (i := 0) (qg_d qe_int qg_nil)) (glen_f (glen_d glen_nil)))) (qa_cons (qe_ix ix_seq (ix_d rfl) (qe_lst (qa_cons qe_str (qa_cons qe_str qa_nil))) (qe_call rfl (FnG.mono (ok__law_draw T kk nk) (by omega)) gd hr T.g__law_draw T.f__law_draw.kp T.b__law_draw (takes_of rfl rfl rfl rfl) (qg_f (i := 0) (qg_d qe_int qg_nil)) (glen_f (glen_d glen_nil)))) qa_nil)))))
/-! ### _law_program -/
theorem sc__law_program : FnScope ["_law_feed_here", "_law_most", "_law_names_here", "_law_tip", "_law_title"] ["_law_feed_here", "_law_most"] (defScope s__law_program) := ⟨rfl, rfl, rfl, by decide +kernel, rfl, by decide +kernel, by decide +kernel⟩
def b__law_program : MS := (sSeq (sUnp (.tp [2, 3]) (mTup (maCons (mCall m__law_names (mgF 0 (mgD (m2 addD (mC (.int 1)) (mCall m__law_draw (mgF 0 (mgD (mVar 1) mgNil)))) mgNil))) (maCons (mCall m__law_begin (mgF 0 mgNil)) maNil))))
  (sRet (mTup (maCons (mVar 3) (maCons (mCa tupleD (maCons (mLc (miV (mVar 2)) (.nm 4) mtYes (mCall m__law_role (mgF 0 (mgD (mVar 4) (mgD (mVar 2) mgNil)))) [4]) maNil)) maNil)))))
def m__law_program : MF := mFn 5 b__law_program
theorem ok__law_program (T : Txt L.K mg) (kk : Keys L) (nk : L.Nk) : FnG P w L.K mg base (L2.CX P w) 5 T.a__law_program T.d__law_program ["_law_feed_here", "_law_most"] (spD L 2 m__law_program) := by
  refine def_ok (k := 4) T.f__law_program sc__law_program (by decide) fun c hL cdv A outer s H E gd hr => ?_
  have nd := sc__law_program.nd
  subst hL
  exact (qs_cons (qs_unp (t := (.tp [2, 3])) rfl (qe_tup (qa_cons (qe_call rfl (FnG.mono (ok__law_names T kk nk) (by omega)) gd hr T.g__law_names T.f__law_names.kp T.b__law_names (takes_of rfl rfl rfl rfl) (qg_f (i := 0) (qg_d (qe_bin op_addD (add_d rfl) qe_int (qe_call rfl (FnG.mono (ok__law_draw T kk nk) (by omega)) gd hr T.g__law_draw T.f__law_draw.kp T.b__law_draw (takes_of rfl rfl rfl rfl) (qg_f (i := 0) (qg_d (qe_var (i := 1)) qg_nil)) (glen_f (glen_d glen_nil)))) qg_nil)) (glen_f (glen_d glen_nil))) (qa_cons (qe_call rfl (FnG.mono (ok__law_begin T kk nk) (by omega)) gd hr T.g__law_begin T.f__law_begin.kp T.b__law_begin (takes_of rfl rfl rfl rfl) (qg_f (i := 0) qg_nil) (glen_f glen_nil)) qa_nil))) (pg_tup rfl (pgs_cons (pg_name (i := 2) nd rfl (by first | exact Or.inl rfl | exact Or.inr rfl)) (pgs_cons (pg_name (i := 3) nd rfl (by first | exact Or.inl rfl | exact Or.inr rfl)) pgs_nil))))
  (qs_one (qs_ret (qe_tup (qa_cons (qe_var (i := 3)) (qa_cons (qe_callTy call_tuple_of (tuple_d rfl) T.n_tuple (qa_cons (qe_lc (own := [("_law_title", 4)]) (t := (.nm 4)) rfl rfl nd (qi_v rfl (qe_var (i := 2))) (blkOk_by (N := ["_law_feed_here", "_law_most", "_law_names_here", "_law_tip", "_law_title"]) (sc := defScope s__law_program) (own := [("_law_title", 4)]) (by decide +kernel)) (by decide) (fun _ _ _ _ _ => (pg_name (i := 4) nd rfl (by first | exact Or.inl rfl | exact Or.inr rfl))) (fun _ _ _ _ _ => qts_nil) (fun _ _ _ _ _ => (qe_call rfl (FnG.mono (ok__law_role T kk nk) (by omega)) gd hr T.g__law_role T.f__law_role.kp T.b__law_role LamX.takes0 (qg_f (i := 0) (qg_d (qe_var (i := 4)) (qg_d (qe_var (i := 2)) qg_nil))) (glen_f (glen_d (glen_d glen_nil)))))) qa_nil)) qa_nil))))))
/-! ### _law_no -/
theorem sc__law_no : FnScope ["_law_verb"] ["_law_verb"] (defScope s__law_no) := ⟨rfl, rfl, rfl, by decide +kernel, rfl, by decide +kernel, by decide +kernel⟩
def b__law_no : MS := (sRet (mTup (maCons (mC (.str "use")) (maCons (mVar 0) (maCons (m1 negD (mC (.int 1))) maNil)))))
def m__law_no : MF := mFn 1 b__law_no
theorem ok__law_no (T : Txt L.K mg) : FnG P w L.K mg base (L2.CX P w) 1 T.a__law_no T.d__law_no ["_law_verb"] (spD L 1 m__law_no) := by
  refine def_ok (k := 0) T.f__law_no sc__law_no (by decide) fun c hL cdv A outer s H E gd hr => ?_
  have nd := sc__law_no.nd
  subst hL
  exact (qs_one (qs_ret (qe_tup (qa_cons qe_str (qa_cons (qe_var (i := 0)) (qa_cons (qe_neg qe_int) qa_nil))))))
/-! ### _law_same -/
theorem sc__law_same : FnScope ["_law_told", "_law_due"] ["_law_told", "_law_due"] (defScope s__law_same) := ⟨rfl, rfl, rfl, by decide +kernel, rfl, by decide +kernel, by decide +kernel⟩
def b__law_same : MS := (sRet (m2 eqD (mCa reprD (maCons (mVar 0) maNil)) (mCa reprD (maCons (mVar 1) maNil))))
def m__law_same : MF := mFn 2 b__law_same
theorem ok__law_same (T : Txt L.K mg) : FnG P w L.K mg base (L2.CX P w) 1 T.a__law_same T.d__law_same ["_law_told", "_law_due"] (spD L 2 m__law_same) := by
  refine def_ok (k := 0) T.f__law_same sc__law_same (by decide) fun c hL cdv A outer s H E gd hr => ?_
  have nd := sc__law_same.nd
  subst hL
  exact (qs_one (qs_ret (qe_cmp (op_eqD hr.units) (eq_d rfl) (qe_callB (call_repr_d gd (room65 hr)) (repr_d rfl) T.n_repr (qa_cons (qe_var (i := 0)) qa_nil)) (qe_callB (call_repr_d gd (room65 hr)) (repr_d rfl) T.n_repr (qa_cons (qe_var (i := 1)) qa_nil)))))
/-! ### _law_error -/
theorem sc__law_error : FnScope ["_law_e", "_law_sorts"] ["_law_e"] (defScope s__law_error) := ⟨rfl, rfl, rfl, by decide +kernel, rfl, by decide +kernel, by decide +kernel⟩
def b__law_error : MS := (sSeq (sSet 1 (mLst (maCons (mIsE 0 p_PaperError) (maCons (mIsE 0 p_ProgramError) (maCons (mIsE 0 p_HouseError) (maCons (mIsE 0 p_TextError) maNil))))))
  (sSeq (sIf (mtOr (mtNot (mtE (mIsE 0 p_ValueError) truth)) (mtOr (mtE (m2 neD (mCount (mVar 1) (mC (.bool true))) (mC (.int 1))) asBool) (mtE (mIsE 0 p_InvalidStep_InvalidRow) truth)))
  (sRet (mTup (maCons (mC (.str "odd")) maNil)))
  sNx)
  (sSeq (sIf (mtAnd (mtE (m2 ixD (mVar 1) (mC (.int 0))) truth) (mtE (mIsE 0 p_InvalidPaper) truth))
  (sRet (mTup (maCons (mC (.str "paper")) (maCons (mXf 0 "word") (maCons (mXf 0 "at") maNil)))))
  sNx)
  (sSeq (sIf (mtAnd (mtE (m2 ixD (mVar 1) (mC (.int 1))) truth) (mtE (mIsE 0 p_NotUsable) truth))
  (sRet (mTup (maCons (mC (.str "use")) (maCons (mXf 0 "word") (maCons (mXf 0 "at") maNil)))))
  sNx)
  (sRet (mIf (mtAnd (mtE (m2 ixD (mVar 1) (mC (.int 3))) truth) (mtE (mIsE 0 p_InvalidText) truth)) (mTup (maCons (mC (.str "text")) (maCons (mXf 0 "line") (maCons (mXf 0 "field") maNil)))) (mTup (maCons (mC (.str "odd")) maNil))))))))
def m__law_error : Er → Fd → Res Dt := mFnE 2 b__law_error
theorem ok__law_error (T : Txt L.K mg) (EX : Exs P L mg T) : FnE P w L mg base 1 T.a__law_error T.d__law_error "_law_e" m__law_error := by
  refine def_okE (k := 0) T.f__law_error sc__law_error (by decide) fun c hL cdv A outer s H p hot gd hr => ?_
  have nd := sc__law_error.nd
  subst hL
  exact (qs_cons (qs_set (j := 1) (qe_lst (qa_cons (qe_isE (i := 0) rfl hot EX.exk T.n_isinstance (pe_glob (v := .ref EX.C_PaperError) rfl EX.m_PaperError rfl) (.own _) EX.is_PaperError) (qa_cons (qe_isE (i := 0) rfl hot EX.exk T.n_isinstance (pe_glob (v := .ref EX.C_ProgramError) rfl EX.m_ProgramError rfl) (.own _) EX.is_ProgramError) (qa_cons (qe_isE (i := 0) rfl hot EX.exk T.n_isinstance (pe_glob (v := .ref EX.C_HouseError) rfl EX.m_HouseError rfl) (.own _) EX.is_HouseError) (qa_cons (qe_isE (i := 0) rfl hot EX.exk T.n_isinstance (pe_glob (v := .ref EX.C_TextError) rfl EX.m_TextError rfl) (.own _) EX.is_TextError) qa_nil))))) nd)
  (qs_cons (qs_if (PW.pt (qw_or (qt_not (qt_val rfl (qe_isE (i := 0) rfl hot EX.exk T.n_isinstance (pe_bltn (v := .ty "ValueError") (u := .type "ValueError") rfl T.n_ValueError (by decide +kernel) rfl) (.ty _) EX.is_ValueError))) (qw_or (qt_cmp (op_neD hr.units) (ne_d rfl) (qe_count rfl (by have := hr.un; omega) (qe_var (i := 1)) qe_bl) qe_int) (qw_or1 (qt_val rfl (qe_isE2 (i := 0) rfl hot EX.exk T.n_isinstance (pe_glob (v := .ref EX.C_InvalidStep) rfl EX.m_InvalidStep rfl) (.own _) (pe_glob (v := .ref EX.C_InvalidRow) rfl EX.m_InvalidRow rfl) (.own _) EX.is_InvalidStep_InvalidRow))))))
  (qs_one (qs_ret (qe_tup (qa_cons qe_str qa_nil))))
  qs_nil)
  (qs_cons (qs_if (PW.pt (qw_and (qt_val rfl (qe_ix ix_seq (ix_d rfl) (qe_var (i := 1)) qe_int)) (qw_and1 (qt_val rfl (qe_isE (i := 0) rfl hot EX.exk T.n_isinstance (pe_glob (v := .ref EX.C_InvalidPaper) rfl EX.m_InvalidPaper rfl) (.own _) EX.is_InvalidPaper)))))
  (qs_one (qs_ret (qe_tup (qa_cons qe_str (qa_cons (qe_xf (i := 0) rfl hot EX.exk EX.fl_word) (qa_cons (qe_xf (i := 0) rfl hot EX.exk EX.fl_at) qa_nil))))))
  qs_nil)
  (qs_cons (qs_if (PW.pt (qw_and (qt_val rfl (qe_ix ix_seq (ix_d rfl) (qe_var (i := 1)) qe_int)) (qw_and1 (qt_val rfl (qe_isE (i := 0) rfl hot EX.exk T.n_isinstance (pe_glob (v := .ref EX.C_NotUsable) rfl EX.m_NotUsable rfl) (.own _) EX.is_NotUsable)))))
  (qs_one (qs_ret (qe_tup (qa_cons qe_str (qa_cons (qe_xf (i := 0) rfl hot EX.exk EX.fl_word) (qa_cons (qe_xf (i := 0) rfl hot EX.exk EX.fl_at) qa_nil))))))
  qs_nil)
  (qs_one (qs_ret (qe_if (PW.pt (qw_and (qt_val rfl (qe_ix ix_seq (ix_d rfl) (qe_var (i := 1)) qe_int)) (qw_and1 (qt_val rfl (qe_isE (i := 0) rfl hot EX.exk T.n_isinstance (pe_glob (v := .ref EX.C_InvalidText) rfl EX.m_InvalidText rfl) (.own _) EX.is_InvalidText))))) (qe_tup (qa_cons qe_str (qa_cons (qe_xf (i := 0) rfl hot EX.exk EX.fl_line) (qa_cons (qe_xf (i := 0) rfl hot EX.exk EX.fl_field) qa_nil)))) (qe_tup (qa_cons qe_str qa_nil)))))))))
/-! ### _law_heard -/
theorem sc__law_heard : FnScope ["_law_ask", "_law_e"] ["_law_ask"] (defScope s__law_heard) := ⟨rfl, rfl, rfl, by decide +kernel, rfl, by decide +kernel, by decide +kernel⟩
/-! ### _law_odd_instruction -/
theorem sc__law_odd_instruction : FnScope ["_law_feed_here", "_law_title", "_law_odd"] ["_law_feed_here", "_law_title"] (defScope s__law_odd_instruction) := ⟨rfl, rfl, rfl, by decide +kernel, rfl, by decide +kernel, by decide +kernel⟩
def b__law_odd_instruction : MS := (sSeq (sSet 2 (mLst (maCons (mC .none) (maCons (mTup maNil) (maCons (mLst maNil) (maCons (mC (.str "stay")) (maCons (mTup (maCons (mC (.str "stay")) (maCons (mC (.int 0)) maNil))) (maCons (mTup (maCons (mC (.str "end")) (maCons (mC (.int 0)) maNil))) (maCons (mTup (maCons (mC (.str "go")) (maCons (mTup maNil) maNil))) (maCons (mTup (maCons (mC (.str "go")) (maCons (mC (.int 0)) maNil))) (maCons (mTup (maCons (mC (.str "go")) (maCons (mTup (maCons (mC (.int 1)) (maCons (mC (.int 0)) maNil))) maNil))) (maCons (mTup (maCons (mC (.str "go")) (maCons (mTup (maCons (mC (.int 0)) (maCons (mC (.int 0)) maNil))) maNil))) (maCons (mTup (maCons (mC (.str "go")) (maCons (mLst (maCons (mC (.int 0)) maNil)) maNil))) (maCons (mTup (maCons (mC (.str "go")) (maCons (mTup (maCons (mLst (maCons (mC (.int 0)) maNil)) maNil)) maNil))) (maCons (mTup (maCons (mC (.str "go")) (maCons (mTup (maCons (mC (.int 0)) (maCons (mLst (maCons (mC (.int 1)) maNil)) maNil))) maNil))) maNil)))))))))))))))
  (sSeq (sSet 2 (m2 addD (mVar 2) (mLst (maCons (mTup (maCons (mC (.str "go")) (maCons (mTup (maCons (mC (.bool true)) maNil)) maNil))) (maCons (mTup (maCons (mC (.str "go")) (maCons (mTup (maCons (mC (.int 0)) maNil)) (maCons (mC (.int 0)) maNil)))) (maCons (mTup (maCons (mC (.str "copy")) (maCons (mVar 1) maNil))) (maCons (mTup (maCons (mC (.str "copy")) (maCons (mVar 1) (maCons (mC (.bool true)) maNil)))) (maCons (mTup (maCons (mC (.str "copy")) (maCons (mVar 1) (maCons (m1 negD (mC (.int 1))) maNil)))) (maCons (mTup (maCons (mC (.str "copy")) (maCons (mC (.str "A")) (maCons (mC (.int 0)) maNil)))) maNil)))))))))
  (sSeq (sSet 2 (m2 addD (mVar 2) (mLst (maCons (mTup (maCons (mC (.str "copy")) (maCons (mC .none) (maCons (mC (.int 0)) maNil)))) (maCons (mTup (maCons (mC (.str "start")) (maCons (mVar 1) (maCons (mC (.int 0)) (maCons (mC (.int 0)) maNil))))) (maCons (mTup (maCons (mC (.str "start")) (maCons (mC (.str "")) (maCons (mC (.int 0)) maNil)))) (maCons (mTup (maCons (mC (.str "mark")) (maCons (mC (.str "x")) (maCons (mC (.int 0)) maNil)))) (maCons (mTup (maCons (mC (.str "mark")) (maCons (mC (.str "w")) maNil))) (maCons (mTup (maCons (mC (.str "mark")) (maCons (mC (.int 0)) (maCons (mC (.str "w")) maNil)))) maNil)))))))))
  (sSeq (sSet 2 (m2 addD (mVar 2) (mLst (maCons (mTup (maCons (mC (.str "mark")) (maCons (mTup (maCons (mC (.str "w")) maNil)) (maCons (mC (.int 0)) maNil)))) (maCons (mTup (maCons (mC (.str "close")) (maCons (mC (.str "r")) (maCons (mC .none) maNil)))) (maCons (mTup (maCons (mC (.str "close")) (maCons (mC (.str "r")) (maCons (mC (.str "0")) maNil)))) (maCons (mTup (maCons (mC (.str "close")) (maCons (mC (.str "rw")) (maCons (mC (.int 0)) maNil)))) (maCons (mTup (maCons (mC (.str "read")) maNil)) (maCons (mTup (maCons (mC (.str "read")) (maCons (m1 negD (mC (.int 1))) maNil))) maNil)))))))))
  (sSeq (sSet 2 (m2 addD (mVar 2) (mLst (maCons (mTup (maCons (mC (.str "read")) (maCons (mC (.bool true)) maNil))) (maCons (mTup (maCons (mC (.str "read")) (maCons (mC (.int 0)) (maCons (mC (.int 0)) maNil)))) (maCons (mTup (maCons (mC (.str "write")) (maCons (mC .none) maNil))) (maCons (mTup (maCons (mC (.str "wait")) (maCons (mTup (maCons (mC (.int 0)) maNil)) maNil))) (maCons (mLst (maCons (mC (.str "read")) (maCons (mC (.int 0)) maNil))) (maCons (mTup (maCons (mC (.str "Read")) (maCons (mC (.int 0)) maNil))) (maCons (mTup (maCons (mC (.str "kill")) (maCons (mC (.int 0)) maNil))) maNil))))))))))
  (sSeq (sSet 2 (m2 addD (mVar 2) (mLst (maCons (mTup (maCons (mC (.str "aside")) (maCons (mC (.int 0)) maNil))) (maCons (mTup (maCons (mC (.int 0)) maNil)) (maCons (mTup (maCons (mTup (maCons (mC (.str "read")) maNil)) (maCons (mC (.int 0)) maNil))) (maCons (mTup (maCons (mC (.str "read")) (maCons (mC (.str "0")) maNil))) (maCons (mTup (maCons (mC (.str "start")) (maCons (mC (.str "abcdefghi")) (maCons (mC (.int 0)) maNil)))) (maCons (mTup (maCons (mC (.str "wait")) (maCons (mC (.bool false)) maNil))) (maCons (mTup (maCons (mC (.str "go")) (maCons (mTup (maCons (mC (.int 0)) (maCons (mC .none) maNil))) maNil))) maNil))))))))))
  (sRet (mCall m__law_pick (mgF 0 (mgD (mVar 2) mgNil))))))))))
def m__law_odd_instruction : MF := mFn 3 b__law_odd_instruction
theorem ok__law_odd_instruction (T : Txt L.K mg) (kk : Keys L) (nk : L.Nk) : FnG P w L.K mg base (L2.CX P w) 3 T.a__law_odd_instruction T.d__law_odd_instruction ["_law_feed_here", "_law_title"] (spD L 2 m__law_odd_instruction) := by
  refine def_ok (k := 2) T.f__law_odd_instruction sc__law_odd_instruction (by decide) fun c hL cdv A outer s H E gd hr => ?_
  have nd := sc__law_odd_instruction.nd
  subst hL
  exact (qs_cons (qs_set (j := 2) (qe_lst (qa_cons qe_non (qa_cons (qe_tup qa_nil) (qa_cons (qe_lst qa_nil) (qa_cons qe_str (qa_cons (qe_tup (qa_cons qe_str (qa_cons qe_int qa_nil))) (qa_cons (qe_tup (qa_cons qe_str (qa_cons qe_int qa_nil))) (qa_cons (qe_tup (qa_cons qe_str (qa_cons (qe_tup qa_nil) qa_nil))) (qa_cons (qe_tup (qa_cons qe_str (qa_cons qe_int qa_nil))) (qa_cons (qe_tup (qa_cons qe_str (qa_cons (qe_tup (qa_cons qe_int (qa_cons qe_int qa_nil))) qa_nil))) (qa_cons (qe_tup (qa_cons qe_str (qa_cons (qe_tup (qa_cons qe_int (qa_cons qe_int qa_nil))) qa_nil))) (qa_cons (qe_tup (qa_cons qe_str (qa_cons (qe_lst (qa_cons qe_int qa_nil)) qa_nil))) (qa_cons (qe_tup (qa_cons qe_str (qa_cons (qe_tup (qa_cons (qe_lst (qa_cons qe_int qa_nil)) qa_nil)) qa_nil))) (qa_cons (qe_tup (qa_cons qe_str (qa_cons (qe_tup (qa_cons qe_int (qa_cons (qe_lst (qa_cons qe_int qa_nil)) qa_nil))) qa_nil))) qa_nil)))))))))))))) nd)
  (qs_cons (qs_set (j := 2) (qe_bin op_addD (add_d rfl) (qe_var (i := 2)) (qe_lst (qa_cons (qe_tup (qa_cons qe_str (qa_cons (qe_tup (qa_cons qe_bl qa_nil)) qa_nil))) (qa_cons (qe_tup (qa_cons qe_str (qa_cons (qe_tup (qa_cons qe_int qa_nil)) (qa_cons qe_int qa_nil)))) (qa_cons (qe_tup (qa_cons qe_str (qa_cons (qe_var (i := 1)) qa_nil))) (qa_cons (qe_tup (qa_cons qe_str (qa_cons (qe_var (i := 1)) (qa_cons qe_bl qa_nil)))) (qa_cons (qe_tup (qa_cons qe_str (qa_cons (qe_var (i := 1)) (qa_cons (qe_neg qe_int) qa_nil)))) (qa_cons (qe_tup (qa_cons qe_str (qa_cons qe_str (qa_cons qe_int qa_nil)))) qa_nil)))))))) nd)
  (qs_cons (qs_set (j := 2) (qe_bin op_addD (add_d rfl) (qe_var (i := 2)) (qe_lst (qa_cons (qe_tup (qa_cons qe_str (qa_cons qe_non (qa_cons qe_int qa_nil)))) (qa_cons (qe_tup (qa_cons qe_str (qa_cons (qe_var (i := 1)) (qa_cons qe_int (qa_cons qe_int qa_nil))))) (qa_cons (qe_tup (qa_cons qe_str (qa_cons qe_str (qa_cons qe_int qa_nil)))) (qa_cons (qe_tup (qa_cons qe_str (qa_cons qe_str (qa_cons qe_int qa_nil)))) (qa_cons (qe_tup (qa_cons qe_str (qa_cons qe_str qa_nil))) (qa_cons (qe_tup (qa_cons qe_str (qa_cons qe_int (qa_cons qe_str qa_nil)))) qa_nil)))))))) nd)
  (qs_cons (qs_set (j := 2) (qe_bin op_addD (add_d rfl) (qe_var (i := 2)) (qe_lst (qa_cons (qe_tup (qa_cons qe_str (qa_cons (qe_tup (qa_cons qe_str qa_nil)) (qa_cons qe_int qa_nil)))) (qa_cons (qe_tup (qa_cons qe_str (qa_cons qe_str (qa_cons qe_non qa_nil)))) (qa_cons (qe_tup (qa_cons qe_str (qa_cons qe_str (qa_cons qe_str qa_nil)))) (qa_cons (qe_tup (qa_cons qe_str (qa_cons qe_str (qa_cons qe_int qa_nil)))) (qa_cons (qe_tup (qa_cons qe_str qa_nil)) (qa_cons (qe_tup (qa_cons qe_str (qa_cons (qe_neg qe_int) qa_nil))) qa_nil)))))))) nd)
  (qs_cons (qs_set (j := 2) (qe_bin op_addD (add_d rfl) (qe_var (i := 2)) (qe_lst (qa_cons (qe_tup (qa_cons qe_str (qa_cons qe_bl qa_nil))) (qa_cons (qe_tup (qa_cons qe_str (qa_cons qe_int (qa_cons qe_int qa_nil)))) (qa_cons (qe_tup (qa_cons qe_str (qa_cons qe_non qa_nil))) (qa_cons (qe_tup (qa_cons qe_str (qa_cons (qe_tup (qa_cons qe_int qa_nil)) qa_nil))) (qa_cons (qe_lst (qa_cons qe_str (qa_cons qe_int qa_nil))) (qa_cons (qe_tup (qa_cons qe_str (qa_cons qe_int qa_nil))) (qa_cons (qe_tup (qa_cons qe_str (qa_cons qe_int qa_nil))) qa_nil))))))))) nd)
  (qs_cons (qs_set (j := 2) (qe_bin op_addD (add_d rfl) (qe_var (i := 2)) (qe_lst (qa_cons (qe_tup (qa_cons qe_str (qa_cons qe_int qa_nil))) (qa_cons (qe_tup (qa_cons qe_int qa_nil)) (qa_cons (qe_tup (qa_cons (qe_tup (qa_cons qe_str qa_nil)) (qa_cons qe_int qa_nil))) (qa_cons (qe_tup (qa_cons qe_str (qa_cons qe_str qa_nil))) (qa_cons (qe_tup (qa_cons qe_str (qa_cons qe_str (qa_cons qe_int qa_nil)))) (qa_cons (qe_tup (qa_cons qe_str (qa_cons qe_bl qa_nil))) (qa_cons (qe_tup (qa_cons qe_str (qa_cons (qe_tup (qa_cons qe_int (qa_cons qe_non qa_nil))) qa_nil))) qa_nil))))))))) nd)
  (qs_one (qs_ret (qe_call rfl (FnG.mono (ok__law_pick T kk nk) (by omega)) gd hr T.g__law_pick T.f__law_pick.kp T.b__law_pick (takes_of rfl rfl rfl rfl) (qg_f (i := 0) (qg_d (qe_var (i := 2)) qg_nil)) (glen_f (glen_d glen_nil)))))))))))
/-! ### _law_odd_asides -/
theorem sc__law_odd_asides : FnScope ["_law_feed_here", "_law_title", "_law_one", "_law_odd"] ["_law_feed_here", "_law_title"] (defScope s__law_odd_asides) := ⟨rfl, rfl, rfl, by decide +kernel, rfl, by decide +kernel, by decide +kernel⟩
def b__law_odd_asides : MS := (sSeq (sSet 2 (mTup (maCons (mC (.str "copy")) (maCons (mVar 1) maNil))))
  (sSeq (sSet 3 (mLst (maCons (mC .none) (maCons (mLst maNil) (maCons (mLst (maCons (mVar 2) maNil)) (maCons (mTup (maCons (mVar 2) (maCons (mVar 2) maNil))) (maCons (mVar 2) (maCons (mTup (maCons (mTup (maCons (mC (.str "start")) (maCons (mVar 1) maNil))) (maCons (mVar 2) maNil))) (maCons (mTup (maCons (mTup (maCons (mC (.str "read")) (maCons (mVar 1) maNil))) maNil)) (maCons (mTup (maCons (mLst (maCons (mC (.str "copy")) (maCons (mVar 1) maNil))) maNil)) (maCons (mTup (maCons (m2 addD (mVar 2) (mTup (maCons (mC (.int 0)) maNil))) maNil)) (maCons (mC (.str "copy")) maNil))))))))))))
  (sRet (mCall m__law_pick (mgF 0 (mgD (m2 addD (mVar 3) (mLst (maCons (mTup (maCons (mTup (maCons (mC (.str "copy")) (maCons (mC (.str "")) maNil))) maNil)) (maCons (mTup (maCons (mTup (maCons (m2 addD (mVar 1) (mC (.str "A"))) (maCons (mC (.str "copy")) maNil))) maNil)) (maCons (mTup (maCons (mVar 2) (maCons (mC .none) maNil))) (maCons (mTup (maCons (mTup (maCons (mC (.str "copy")) (maCons (mC (.str "A")) maNil))) maNil)) (maCons (mTup (maCons (mC (.str "copy")) maNil)) (maCons (mC (.int 0)) (maCons (mTup (maCons (mTup (maCons (mC (.str "copy")) (maCons (mC (.int 0)) maNil))) maNil)) maNil))))))))) mgNil))))))
def m__law_odd_asides : MF := mFn 4 b__law_odd_asides
theorem ok__law_odd_asides (T : Txt L.K mg) (kk : Keys L) (nk : L.Nk) : FnG P w L.K mg base (L2.CX P w) 3 T.a__law_odd_asides T.d__law_odd_asides ["_law_feed_here", "_law_title"] (spD L 2 m__law_odd_asides) := by
  refine def_ok (k := 2) T.f__law_odd_asides sc__law_odd_asides (by decide) fun c hL cdv A outer s H E gd hr => ?_
  have nd := sc__law_odd_asides.nd
  subst hL
  exact (qs_cons (qs_set (j := 2) (qe_tup (qa_cons qe_str (qa_cons (qe_var (i := 1)) qa_nil))) nd)
  (qs_cons (qs_set (j := 3) (qe_lst (qa_cons qe_non (qa_cons (qe_lst qa_nil) (qa_cons (qe_lst (qa_cons (qe_var (i := 2)) qa_nil)) (qa_cons (qe_tup (qa_cons (qe_var (i := 2)) (qa_cons (qe_var (i := 2)) qa_nil))) (qa_cons (qe_var (i := 2)) (qa_cons (qe_tup (qa_cons (qe_tup (qa_cons qe_str (qa_cons (qe_var (i := 1)) qa_nil))) (qa_cons (qe_var (i := 2)) qa_nil))) (qa_cons (qe_tup (qa_cons (qe_tup (qa_cons qe_str (qa_cons (qe_var (i := 1)) qa_nil))) qa_nil)) (qa_cons (qe_tup (qa_cons (qe_lst (qa_cons qe_str (qa_cons (qe_var (i := 1)) qa_nil))) qa_nil)) (qa_cons (qe_tup (qa_cons (qe_bin op_addD (add_d rfl) (qe_var (i := 2)) (qe_tup (qa_cons qe_int qa_nil))) qa_nil)) (qa_cons qe_str qa_nil))))))))))) nd)
  (qs_one (qs_ret (qe_call rfl (FnG.mono (ok__law_pick T kk nk) (by omega)) gd hr T.g__law_pick T.f__law_pick.kp T.b__law_pick (takes_of rfl rfl rfl rfl) (qg_f (i := 0) (qg_d (qe_bin op_addD (add_d rfl) (qe_var (i := 3)) (qe_lst (qa_cons (qe_tup (qa_cons (qe_tup (qa_cons qe_str (qa_cons qe_str qa_nil))) qa_nil)) (qa_cons (qe_tup (qa_cons (qe_tup (qa_cons (qe_bin op_addD (add_d rfl) (qe_var (i := 1)) qe_str) (qa_cons qe_str qa_nil))) qa_nil)) (qa_cons (qe_tup (qa_cons (qe_var (i := 2)) (qa_cons qe_non qa_nil))) (qa_cons (qe_tup (qa_cons (qe_tup (qa_cons qe_str (qa_cons qe_str qa_nil))) qa_nil)) (qa_cons (qe_tup (qa_cons qe_str qa_nil)) (qa_cons qe_int (qa_cons (qe_tup (qa_cons (qe_tup (qa_cons qe_str (qa_cons qe_int qa_nil))) qa_nil)) qa_nil))))))))) qg_nil)) (glen_f (glen_d glen_nil)))))))
/-! ### _law_odd_begin -/
theorem sc__law_odd_begin : FnScope ["_law_feed_here", "_law_odd"] ["_law_feed_here"] (defScope s__law_odd_begin) := ⟨rfl, rfl, rfl, by decide +kernel, rfl, by decide +kernel, by decide +kernel⟩
def b__law_odd_begin : MS := (sSeq (sSet 1 (mLst (maCons (mC .none) (maCons (mLst (maCons (mC (.str "open")) (maCons (mC (.str "open")) maNil))) (maCons (mTup (maCons (mC (.str "open")) maNil)) (maCons (mTup (maCons (mC (.str "open")) (maCons (mC (.str "none")) maNil))) (maCons (mTup (maCons (mC (.str "open")) (maCons (mC (.str "open")) (maCons (mC (.str "open")) maNil)))) (maCons (mTup (maCons (mC (.str "marked")) (maCons (mC (.bool true)) maNil))) (maCons (mC (.str "open")) maNil)))))))))
  (sRet (mCall m__law_pick (mgF 0 (mgD (m2 addD (mVar 1) (mLst (maCons (mTup (maCons (mC (.str "Open")) (maCons (mC (.str "open")) maNil))) (maCons (mTup (maCons (mC (.str "none")) (maCons (mC (.str "none")) maNil))) (maCons (mTup (maCons (mTup (maCons (mC (.str "open")) maNil)) (maCons (mC (.str "open")) maNil))) (maCons (mTup maNil) (maCons (mTup (maCons (mC (.str "open")) (maCons (mC .none) maNil))) (maCons (mTup (maCons (mC (.str "r")) (maCons (mC (.str "w")) maNil))) maNil)))))))) mgNil)))))
def m__law_odd_begin : MF := mFn 2 b__law_odd_begin
theorem ok__law_odd_begin (T : Txt L.K mg) (kk : Keys L) (nk : L.Nk) : FnG P w L.K mg base (L2.CX P w) 3 T.a__law_odd_begin T.d__law_odd_begin ["_law_feed_here"] (spD L 1 m__law_odd_begin) := by
  refine def_ok (k := 2) T.f__law_odd_begin sc__law_odd_begin (by decide) fun c hL cdv A outer s H E gd hr => ?_
  have nd := sc__law_odd_begin.nd
  subst hL
  exact (qs_cons (qs_set (j := 1) (qe_lst (qa_cons qe_non (qa_cons (qe_lst (qa_cons qe_str (qa_cons qe_str qa_nil))) (qa_cons (qe_tup (qa_cons qe_str qa_nil)) (qa_cons (qe_tup (qa_cons qe_str (qa_cons qe_str qa_nil))) (qa_cons (qe_tup (qa_cons qe_str (qa_cons qe_str (qa_cons qe_str qa_nil)))) (qa_cons (qe_tup (qa_cons qe_str (qa_cons qe_bl qa_nil))) (qa_cons qe_str qa_nil)))))))) nd)
  (qs_one (qs_ret (qe_call rfl (FnG.mono (ok__law_pick T kk nk) (by omega)) gd hr T.g__law_pick T.f__law_pick.kp T.b__law_pick (takes_of rfl rfl rfl rfl) (qg_f (i := 0) (qg_d (qe_bin op_addD (add_d rfl) (qe_var (i := 1)) (qe_lst (qa_cons (qe_tup (qa_cons qe_str (qa_cons qe_str qa_nil))) (qa_cons (qe_tup (qa_cons qe_str (qa_cons qe_str qa_nil))) (qa_cons (qe_tup (qa_cons (qe_tup (qa_cons qe_str qa_nil)) (qa_cons qe_str qa_nil))) (qa_cons (qe_tup qa_nil) (qa_cons (qe_tup (qa_cons qe_str (qa_cons qe_non qa_nil))) (qa_cons (qe_tup (qa_cons qe_str (qa_cons qe_str qa_nil))) qa_nil)))))))) qg_nil)) (glen_f (glen_d glen_nil))))))
/-! ### _law_line -/
theorem sc__law_line : FnScope ["_law_deed", "_law_some", "_law_one"] ["_law_deed"] (defScope s__law_line) := ⟨rfl, rfl, rfl, by decide +kernel, rfl, by decide +kernel, by decide +kernel⟩
def b__law_line : MS := (sSeq (sSet 1 (mLc (miV (mVar 0)) (.nm 2) mtYes (mCa strX (maCons (mVar 2) maNil)) [2]))
  (sSeq (sIf (mtE (m2 eqD (m2 ixD (mVar 0) (mC (.int 0))) (mC (.str "go"))) asBool)
  (sSet 1 (mLst (maCons (mC (.str "go")) (maCons (m1 (joinS ",") (mLc (miV (m2 ixD (mVar 0) (mC (.int 1)))) (.nm 2) mtYes (mCa strX (maCons (mVar 2) maNil)) [2])) maNil))))
  sNx)
  (sRet (m1 (joinS " ") (mVar 1)))))
def m__law_line : MF := mFn 3 b__law_line
theorem ok__law_line (T : Txt L.K mg) : FnG P w L.K mg base (L2.CX P w) 1 T.a__law_line T.d__law_line ["_law_deed"] (spD L 1 m__law_line) := by
  refine def_ok (k := 0) T.f__law_line sc__law_line (by decide) fun c hL cdv A outer s H E gd hr => ?_
  have nd := sc__law_line.nd
  subst hL
  exact (qs_cons (qs_setLc (i := 1) (own := [("_law_one", 2)]) (t := (.nm 2)) rfl rfl nd (qi_v rfl (qe_var (i := 0))) (blkOk_by (N := ["_law_deed", "_law_some", "_law_one"]) (sc := defScope s__law_line) (own := [("_law_one", 2)]) (by decide +kernel)) (by decide) (fun _ _ _ _ _ => (pg_name (i := 2) nd rfl (by first | exact Or.inl rfl | exact Or.inr rfl))) (fun _ _ _ _ _ => qts_nil) (fun _ _ _ _ _ => (qe_callTy (call_strX gd (room68 hr)) (strX_d rfl) T.n_str (qa_cons (qe_var (i := 2)) qa_nil))))
  (qs_cons (qs_if (qt_cmp (op_eqD hr.units) (eq_d rfl) (qe_ix ix_seq (ix_d rfl) (qe_var (i := 0)) qe_int) qe_str)
  (qs_one (qs_set (j := 1) (qe_lst (qa_cons qe_str (qa_cons (qe_join rfl (qe_lc (own := [("_law_one", 2)]) (t := (.nm 2)) rfl rfl nd (qi_v rfl (qe_ix ix_seq (ix_d rfl) (qe_var (i := 0)) qe_int)) (blkOk_by (N := ["_law_deed", "_law_some", "_law_one"]) (sc := defScope s__law_line) (own := [("_law_one", 2)]) (by decide +kernel)) (by decide) (fun _ _ _ _ _ => (pg_name (i := 2) nd rfl (by first | exact Or.inl rfl | exact Or.inr rfl))) (fun _ _ _ _ _ => qts_nil) (fun _ _ _ _ _ => (qe_callTy (call_strX gd (room68 hr)) (strX_d rfl) T.n_str (qa_cons (qe_var (i := 2)) qa_nil))))) qa_nil))) nd))
  qs_nil)
  (qs_one (qs_ret (qe_join rfl (qe_var (i := 1)))))))
/-! ### _law_text -/
theorem sc__law_text : FnScope ["_law_plan", "_law_lines", "_law_title", "_law_places", "_law_sides", "_law_one", "_law_verb"] ["_law_plan"] (defScope s__law_text) := ⟨rfl, rfl, rfl, by decide +kernel, rfl, by decide +kernel, by decide +kernel⟩
def b__law_text : MS := (sSeq (sSet 1 (mLst (maCons (m2 addD (mC (.str "begin ")) (m1 (joinS " ") (m2 ixD (mVar 0) (mC (.int 0))))) maNil)))
  (sSeq (sFor (miV (m2 ixD (mVar 0) (mC (.int 1)))) (.tp [2, 3, 4])
  (sSeq (sSet 1 (m2 addD (m2 addD (mVar 1) (mLst (maCons (m2 addD (mC (.str "role ")) (mVar 2)) maNil))) (mLc (miV (mVar 3)) (.nm 5) mtYes (mCall m__law_line (mgD (mVar 5) mgNil)) [5])))
  (sSet 1 (m2 addD (mVar 1) (mLc (miV (mVar 4)) (.tp [6, 5]) mtYes (m2 addD (m2 addD (m2 addD (mC (.str "aside ")) (mVar 6)) (mC (.str " "))) (mVar 5)) [6, 5])))))
  (sRet (m1 (joinS "\n") (mVar 1)))))
def m__law_text : MF := mFn 7 b__law_text
theorem ok__law_text (T : Txt L.K mg) : FnG P w L.K mg base (L2.CX P w) 2 T.a__law_text T.d__law_text ["_law_plan"] (spD L 1 m__law_text) := by
  refine def_ok (k := 1) T.f__law_text sc__law_text (by decide) fun c hL cdv A outer s H E gd hr => ?_
  have nd := sc__law_text.nd
  subst hL
  exact (qs_cons (qs_set (j := 1) (qe_lst (qa_cons (qe_bin op_addD (add_d rfl) qe_str (qe_join rfl (qe_ix ix_seq (ix_d rfl) (qe_var (i := 0)) qe_int))) qa_nil)) nd)
  (qs_cons (qs_for (t := (.tp [2, 3, 4])) rfl (passes_of rfl) rfl (qi_v rfl (qe_ix ix_seq (ix_d rfl) (qe_var (i := 0)) qe_int)) (pg_tup rfl (pgs_cons (pg_name (i := 2) nd rfl (by first | exact Or.inl rfl | exact Or.inr rfl)) (pgs_cons (pg_name (i := 3) nd rfl (by first | exact Or.inl rfl | exact Or.inr rfl)) (pgs_cons (pg_name (i := 4) nd rfl (by first | exact Or.inl rfl | exact Or.inr rfl)) pgs_nil))))
  (qs_cons (qs_set (j := 1) (qe_bin op_addD (add_d rfl) (qe_bin op_addD (add_d rfl) (qe_var (i := 1)) (qe_lst (qa_cons (qe_bin op_addD (add_d rfl) qe_str (qe_var (i := 2))) qa_nil))) (qe_lc (own := [("_law_one", 5)]) (t := (.nm 5)) rfl rfl nd (qi_v rfl (qe_var (i := 3))) (blkOk_by (N := ["_law_plan", "_law_lines", "_law_title", "_law_places", "_law_sides", "_law_one", "_law_verb"]) (sc := defScope s__law_text) (own := [("_law_one", 5)]) (by decide +kernel)) (by decide) (fun _ _ _ _ _ => (pg_name (i := 5) nd rfl (by first | exact Or.inl rfl | exact Or.inr rfl))) (fun _ _ _ _ _ => qts_nil) (fun _ _ _ _ _ => (qe_call rfl (FnG.mono (ok__law_line T) (by omega)) gd hr T.g__law_line T.f__law_line.kp T.b__law_line LamX.takes0 (qg_d (qe_var (i := 5)) qg_nil) (glen_d glen_nil))))) nd)
  (qs_one (qs_set (j := 1) (qe_bin op_addD (add_d rfl) (qe_var (i := 1)) (qe_lc (own := [("_law_verb", 6), ("_law_one", 5)]) (t := (.tp [6, 5])) rfl rfl nd (qi_v rfl (qe_var (i := 4))) (blkOk_by (N := ["_law_plan", "_law_lines", "_law_title", "_law_places", "_law_sides", "_law_one", "_law_verb"]) (sc := defScope s__law_text) (own := [("_law_verb", 6), ("_law_one", 5)]) (by decide +kernel)) (by decide) (fun _ _ _ _ _ => (pg_tup rfl (pgs_cons (pg_name (i := 6) nd rfl (by first | exact Or.inl rfl | exact Or.inr rfl)) (pgs_cons (pg_name (i := 5) nd rfl (by first | exact Or.inl rfl | exact Or.inr rfl)) pgs_nil)))) (fun _ _ _ _ _ => qts_nil) (fun _ _ _ _ _ => (qe_bin op_addD (add_d rfl) (qe_bin op_addD (add_d rfl) (qe_bin op_addD (add_d rfl) qe_str (qe_var (i := 6))) qe_str) (qe_var (i := 5)))))) nd))))
  (qs_one (qs_ret (qe_join rfl (qe_var (i := 1)))))))
/-! ### _law_great -/
theorem sc__law_great : FnScope ["_law_feed_here"] ["_law_feed_here"] (defScope s__law_great) := ⟨rfl, rfl, rfl, by decide +kernel, rfl, by decide +kernel, by decide +kernel⟩
def b__law_great : MS := (sRet (mCall m__law_pick (mgF 0 (mgD (mLst (maCons (mC (.int 0)) (maCons (mC (.int 1)) (maCons (mC (.int 7)) (maCons (mC (.int 9)) (maCons (mC (.int 10)) (maCons (mC (.int 11)) (maCons (mC (.int 99)) (maCons (mC (.int 100)) (maCons (m2 powD (mC (.int 10)) (mC (.int 59))) (maCons (m2 subD (m2 powD (mC (.int 10)) (mC (.int 60))) (mC (.int 1))) (maCons (m2 addD (m2 powD (mC (.int 10)) (mC (.int 17))) (mC (.int 3))) (maCons (mC (.int 12345678901234567890)) maNil))))))))))))) mgNil))))
def m__law_great : MF := mFn 1 b__law_great
theorem ok__law_great (T : Txt L.K mg) (kk : Keys L) (nk : L.Nk) : FnG P w L.K mg base (L2.CX P w) 3 T.a__law_great T.d__law_great ["_law_feed_here"] (spD L 1 m__law_great) := by
  refine def_ok (k := 2) T.f__law_great sc__law_great (by decide) fun c hL cdv A outer s H E gd hr => ?_
  have nd := sc__law_great.nd
  subst hL
  exact (qs_one (qs_ret (qe_call rfl (FnG.mono (ok__law_pick T kk nk) (by omega)) gd hr T.g__law_pick T.f__law_pick.kp T.b__law_pick (takes_of rfl rfl rfl rfl) (qg_f (i := 0) (qg_d (qe_lst (qa_cons qe_int (qa_cons qe_int (qa_cons qe_int (qa_cons qe_int (qa_cons qe_int (qa_cons qe_int (qa_cons qe_int (qa_cons qe_int (qa_cons (qe_bin op_pow pow_d qe_int qe_int) (qa_cons (qe_bin op_sub sub_d (qe_bin op_pow pow_d qe_int qe_int) qe_int) (qa_cons (qe_bin op_addD (add_d rfl) (qe_bin op_pow pow_d qe_int qe_int) qe_int) (qa_cons qe_int qa_nil))))))))))))) qg_nil)) (glen_f (glen_d glen_nil)))))
/-! ### _law_any_set -/
theorem sc__law_any_set : FnScope ["_law_feed_here", "_law_k"] ["_law_feed_here"] (defScope s__law_any_set) := ⟨rfl, rfl, rfl, by decide +kernel, rfl, by decide +kernel, by decide +kernel⟩
def b__law_any_set : MS := (sRet (mCa tupleD (maCons (m1 sortSetI (mLc (miR1 (maCons (m2 addD (mC (.int 1)) (mCall m__law_draw (mgF 0 (mgD (mC (.int 4)) mgNil)))) maNil)) (.nm 1) mtYes (mCall m__law_great (mgF 0 mgNil)) [1])) maNil)))
def m__law_any_set : MF := mFn 2 b__law_any_set
theorem ok__law_any_set (T : Txt L.K mg) (kk : Keys L) (nk : L.Nk) : FnG P w L.K mg base (L2.CX P w) 4 T.a__law_any_set T.d__law_any_set ["_law_feed_here"] (spD L 1 m__law_any_set) := by
  refine def_ok (k := 3) T.f__law_any_set sc__law_any_set (by decide) fun c hL cdv A outer s H E gd hr => ?_
  have nd := sc__law_any_set.nd
  subst hL
  exact (qs_one (qs_ret (qe_callTy call_tuple_of (tuple_d rfl) T.n_tuple (qa_cons (qe_ssetI rfl rfl T.n_sorted T.n_set (qe_lc (own := [("_law_k", 1)]) (t := (.nm 1)) rfl rfl nd (qi_r1 T.n_range (qa_cons (qe_bin op_addD (add_d rfl) qe_int (qe_call rfl (FnG.mono (ok__law_draw T kk nk) (by omega)) gd hr T.g__law_draw T.f__law_draw.kp T.b__law_draw (takes_of rfl rfl rfl rfl) (qg_f (i := 0) (qg_d qe_int qg_nil)) (glen_f (glen_d glen_nil)))) qa_nil)) (blkOk_by (N := ["_law_feed_here", "_law_k"]) (sc := defScope s__law_any_set) (own := [("_law_k", 1)]) (by decide +kernel)) (by decide) (fun _ _ _ _ _ => (pg_name (i := 1) nd rfl (by first | exact Or.inl rfl | exact Or.inr rfl))) (fun _ _ _ _ _ => qts_nil) (fun _ _ _ _ _ => (qe_call rfl (FnG.mono (ok__law_great T kk nk) (by omega)) gd hr T.g__law_great T.f__law_great.kp T.b__law_great LamX.takes0 (qg_f (i := 0) qg_nil) (glen_f glen_nil))))) qa_nil))))
/-! ### _law_any_instruction -/
theorem sc__law_any_instruction : FnScope ["_law_feed_here", "_law_way"] ["_law_feed_here"] (defScope s__law_any_instruction) := ⟨rfl, rfl, rfl, by decide +kernel, rfl, by decide +kernel, by decide +kernel⟩
def b__law_any_instruction : MS := (sSeq (sSet 1 (mCall m__law_draw (mgF 0 (mgD (mC (.int 10)) mgNil))))
  (sSeq (sIf (mtE (m2 eqD (mVar 1) (mC (.int 0))) asBool)
  (sRet (mTup (maCons (mC (.str "go")) (maCons (mCall m__law_any_set (mgF 0 mgNil)) maNil))))
  sNx)
  (sSeq (sIf (mtE (m2 ltX (mVar 1) (mC (.int 3))) asBool)
  (sRet (mTup (maCons (m2 ixD (mLst (maCons (mC (.str "copy")) (maCons (mC (.str "start")) maNil))) (m2 subD (mVar 1) (mC (.int 1)))) (maCons (mCall m__law_name (mgF 0 mgNil)) (maCons (mCall m__law_great (mgF 0 mgNil)) maNil)))))
  sNx)
  (sSeq (sIf (mtE (m2 ltX (mVar 1) (mC (.int 5))) asBool)
  (sRet (mTup (maCons (m2 ixD (mLst (maCons (mC (.str "mark")) (maCons (mC (.str "close")) maNil))) (m2 subD (mVar 1) (mC (.int 3)))) (maCons (m2 ixD (mLst (maCons (mC (.str "r")) (maCons (mC (.str "w")) maNil))) (mCall m__law_draw (mgF 0 (mgD (mC (.int 2)) mgNil)))) (maCons (mCall m__law_great (mgF 0 mgNil)) maNil)))))
  sNx)
  (sRet (mIf (mtE (m2 ltX (mVar 1) (mC (.int 8))) asBool) (mTup (maCons (m2 ixD (mLst (maCons (mC (.str "read")) (maCons (mC (.str "write")) (maCons (mC (.str "wait")) maNil)))) (m2 subD (mVar 1) (mC (.int 5)))) (maCons (mCall m__law_great (mgF 0 mgNil)) maNil))) (mTup (maCons (m2 ixD (mLst (maCons (mC (.str "stay")) (maCons (mC (.str "end")) maNil))) (m2 subD (mVar 1) (mC (.int 8)))) maNil))))))))
def m__law_any_instruction : MF := mFn 2 b__law_any_instruction
theorem ok__law_any_instruction (T : Txt L.K mg) (kk : Keys L) (nk : L.Nk) : FnG P w L.K mg base (L2.CX P w) 5 T.a__law_any_instruction T.d__law_any_instruction ["_law_feed_here"] (spD L 1 m__law_any_instruction) := by
  refine def_ok (k := 4) T.f__law_any_instruction sc__law_any_instruction (by decide) fun c hL cdv A outer s H E gd hr => ?_
  have nd := sc__law_any_instruction.nd
  subst hL
  exact (qs_cons (qs_set (j := 1) (qe_call rfl (FnG.mono (ok__law_draw T kk nk) (by omega)) gd hr T.g__law_draw T.f__law_draw.kp T.b__law_draw (takes_of rfl rfl rfl rfl) (qg_f (i := 0) (qg_d qe_int qg_nil)) (glen_f (glen_d glen_nil))) nd)
  (qs_cons (qs_if (qt_cmp (op_eqD hr.units) (eq_d rfl) (qe_var (i := 1)) qe_int)
  (qs_one (qs_ret (qe_tup (qa_cons qe_str (qa_cons (qe_call rfl (FnG.mono (ok__law_any_set T kk nk) (by omega)) gd hr T.g__law_any_set T.f__law_any_set.kp T.b__law_any_set (takes_of rfl rfl rfl rfl) (qg_f (i := 0) qg_nil) (glen_f glen_nil)) qa_nil)))))
  qs_nil)
  (qs_cons (qs_if (qt_cmp (op_ltX (room65 hr)) (x_cmp rfl) (qe_var (i := 1)) qe_int)
  (qs_one (qs_ret (qe_tup (qa_cons (qe_ix ix_seq (ix_d rfl) (qe_lst (qa_cons qe_str (qa_cons qe_str qa_nil))) (qe_bin op_sub sub_d (qe_var (i := 1)) qe_int)) (qa_cons (qe_call rfl (FnG.mono (ok__law_name T kk nk) (by omega)) gd hr T.g__law_name T.f__law_name.kp T.b__law_name (takes_of rfl rfl rfl rfl) (qg_f (i := 0) qg_nil) (glen_f glen_nil)) (qa_cons (qe_call rfl (FnG.mono (ok__law_great T kk nk) (by omega)) gd hr T.g__law_great T.f__law_great.kp T.b__law_great (takes_of rfl rfl rfl rfl) (qg_f (i := 0) qg_nil) (glen_f glen_nil)) qa_nil))))))
  qs_nil)
  (qs_cons (qs_if (qt_cmp (op_ltX (room65 hr)) (x_cmp rfl) (qe_var (i := 1)) qe_int)
  (qs_one (qs_ret (qe_tup (qa_cons (qe_ix ix_seq (ix_d rfl) (qe_lst (qa_cons qe_str (qa_cons qe_str qa_nil))) (qe_bin op_sub sub_d (qe_var (i := 1)) qe_int)) (qa_cons (qe_ix ix_seq (ix_d rfl) (qe_lst (qa_cons qe_str (qa_cons qe_str qa_nil))) (qe_call rfl (FnG.mono (ok__law_draw T kk nk) (by omega)) gd hr T.g__law_draw T.f__law_draw.kp T.b__law_draw (takes_of rfl rfl rfl rfl) (qg_f (i := 0) (qg_d qe_int qg_nil)) (glen_f (glen_d glen_nil)))) (qa_cons (qe_call rfl (FnG.mono (ok__law_great T kk nk) (by omega)) gd hr T.g__law_great T.f__law_great.kp T.b__law_great (takes_of rfl rfl rfl rfl) (qg_f (i := 0) qg_nil) (glen_f glen_nil)) qa_nil))))))
  qs_nil)
  (qs_one (qs_ret (qe_if (qt_cmp (op_ltX (room65 hr)) (x_cmp rfl) (qe_var (i := 1)) qe_int) (qe_tup (qa_cons (qe_ix ix_seq (ix_d rfl) (qe_lst (qa_cons qe_str (qa_cons qe_str (qa_cons qe_str qa_nil)))) (qe_bin op_sub sub_d (qe_var (i := 1)) qe_int)) (qa_cons (qe_call rfl (FnG.mono (ok__law_great T kk nk) (by omega)) gd hr T.g__law_great T.f__law_great.kp T.b__law_great (takes_of rfl rfl rfl rfl) (qg_f (i := 0) qg_nil) (glen_f glen_nil)) qa_nil))) (qe_tup (qa_cons (qe_ix ix_seq (ix_d rfl) (qe_lst (qa_cons qe_str (qa_cons qe_str qa_nil))) (qe_bin op_sub sub_d (qe_var (i := 1)) qe_int)) qa_nil)))))))))
/-! ### _law_any_program -/
theorem sc__law_any_program : FnScope ["_law_feed_here", "_law_lot", "_law_k", "_law_places", "_law_some", "_law_n", "_law_p"] ["_law_feed_here"] (defScope s__law_any_program) := ⟨rfl, rfl, rfl, by decide +kernel, rfl, by decide +kernel, by decide +kernel⟩
def b__law_any_program : MS := (sSeq (sOwn 1 maNil)
  (sSeq (sFor (miR1 (maCons (m2 addD (mC (.int 1)) (mCall m__law_draw (mgF 0 (mgD (mC (.int 3)) mgNil)))) maNil)) (.nm 2)
  (sSeq (sSet 3 (mCa tupleD (maCons (mLc (miR1 (maCons (m2 addD (mC (.int 1)) (mCall m__law_draw (mgF 0 (mgD (mC (.int 4)) mgNil)))) maNil)) (.nm 6) mtYes (mCall m__law_any_instruction (mgF 0 mgNil)) [6]) maNil)))
  (sSeq (sSet 4 (mLc (miR1 (maCons (mCall m__law_draw (mgF 0 (mgD (mC (.int 4)) mgNil))) maNil)) (.nm 5) mtYes (mTup (maCons (m2 ixD (mLst (maCons (mC (.str "copy")) (maCons (mC (.str "start")) maNil))) (mCall m__law_draw (mgF 0 (mgD (mC (.int 2)) mgNil)))) (maCons (mCall m__law_name (mgF 0 mgNil)) maNil))) [5]))
  (sApp 1 (mTup (maCons (mCall m__law_name (mgF 0 mgNil)) (maCons (mVar 3) (maCons (mCa tupleD (maCons (m1 sortSetD (mVar 4)) maNil)) maNil))))))))
  (sSeq (sFrz 1) (sRet (mTup (maCons (mCall m__law_begin (mgF 0 mgNil)) (maCons (mCa tupleD (maCons (mVar 1) maNil)) maNil)))))))
def m__law_any_program : MF := mFn 7 b__law_any_program
theorem ok__law_any_program (T : Txt L.K mg) (kk : Keys L) (nk : L.Nk) : FnG P w L.K mg base (L2.CX P w) 6 T.a__law_any_program T.d__law_any_program ["_law_feed_here"] (spD L 1 m__law_any_program) := by
  refine def_ok (k := 5) T.f__law_any_program sc__law_any_program (by decide) fun c hL cdv A outer s H E gd hr => ?_
  have nd := sc__law_any_program.nd
  subst hL
  exact (qs_cons (qs_own (j := 1) qa_nil nd)
  (qs_cons (qs_for (t := (.nm 2)) rfl (passes_of rfl) rfl (qi_r1 T.n_range (qa_cons (qe_bin op_addD (add_d rfl) qe_int (qe_call rfl (FnG.mono (ok__law_draw T kk nk) (by omega)) gd hr T.g__law_draw T.f__law_draw.kp T.b__law_draw (takes_of rfl rfl rfl rfl) (qg_f (i := 0) (qg_d qe_int qg_nil)) (glen_f (glen_d glen_nil)))) qa_nil)) (pg_name (i := 2) nd rfl (by first | exact Or.inl rfl | exact Or.inr rfl))
  (qs_cons (qs_set (j := 3) (qe_callTy call_tuple_of (tuple_d rfl) T.n_tuple (qa_cons (qe_lc (own := [("_law_p", 6)]) (t := (.nm 6)) rfl rfl nd (qi_r1 T.n_range (qa_cons (qe_bin op_addD (add_d rfl) qe_int (qe_call rfl (FnG.mono (ok__law_draw T kk nk) (by omega)) gd hr T.g__law_draw T.f__law_draw.kp T.b__law_draw (takes_of rfl rfl rfl rfl) (qg_f (i := 0) (qg_d qe_int qg_nil)) (glen_f (glen_d glen_nil)))) qa_nil)) (blkOk_by (N := ["_law_feed_here", "_law_lot", "_law_k", "_law_places", "_law_some", "_law_n", "_law_p"]) (sc := defScope s__law_any_program) (own := [("_law_p", 6)]) (by decide +kernel)) (by decide) (fun _ _ _ _ _ => (pg_name (i := 6) nd rfl (by first | exact Or.inl rfl | exact Or.inr rfl))) (fun _ _ _ _ _ => qts_nil) (fun _ _ _ _ _ => (qe_call rfl (FnG.mono (ok__law_any_instruction T kk nk) (by omega)) gd hr T.g__law_any_instruction T.f__law_any_instruction.kp T.b__law_any_instruction LamX.takes0 (qg_f (i := 0) qg_nil) (glen_f glen_nil)))) qa_nil)) nd)
  (qs_cons (qs_setLc (i := 4) (own := [("_law_n", 5)]) (t := (.nm 5)) rfl rfl nd (qi_r1 T.n_range (qa_cons (qe_call rfl (FnG.mono (ok__law_draw T kk nk) (by omega)) gd hr T.g__law_draw T.f__law_draw.kp T.b__law_draw (takes_of rfl rfl rfl rfl) (qg_f (i := 0) (qg_d qe_int qg_nil)) (glen_f (glen_d glen_nil))) qa_nil)) (blkOk_by (N := ["_law_feed_here", "_law_lot", "_law_k", "_law_places", "_law_some", "_law_n", "_law_p"]) (sc := defScope s__law_any_program) (own := [("_law_n", 5)]) (by decide +kernel)) (by decide) (fun _ _ _ _ _ => (pg_name (i := 5) nd rfl (by first | exact Or.inl rfl | exact Or.inr rfl))) (fun _ _ _ _ _ => qts_nil) (fun _ _ _ _ _ => (qe_tup (qa_cons (qe_ix ix_seq (ix_d rfl) (qe_lst (qa_cons qe_str (qa_cons qe_str qa_nil))) (qe_call rfl (FnG.mono (ok__law_draw T kk nk) (by omega)) gd hr T.g__law_draw T.f__law_draw.kp T.b__law_draw LamX.takes0 (qg_f (i := 0) (qg_d qe_int qg_nil)) (glen_f (glen_d glen_nil)))) (qa_cons (qe_call rfl (FnG.mono (ok__law_name T kk nk) (by omega)) gd hr T.g__law_name T.f__law_name.kp T.b__law_name LamX.takes0 (qg_f (i := 0) qg_nil) (glen_f glen_nil)) qa_nil)))))
  (qs_one (qs_app (j := 1) (qe_tup (qa_cons (qe_call rfl (FnG.mono (ok__law_name T kk nk) (by omega)) gd hr T.g__law_name T.f__law_name.kp T.b__law_name (takes_of rfl rfl rfl rfl) (qg_f (i := 0) qg_nil) (glen_f glen_nil)) (qa_cons (qe_var (i := 3)) (qa_cons (qe_callTy call_tuple_of (tuple_d rfl) T.n_tuple (qa_cons (qe_sset rfl rfl (room64 hr) T.n_sorted T.n_set (qe_var (i := 4))) qa_nil)) qa_nil)))))))))
  (qs_frz (qs_one (qs_ret (qe_tup (qa_cons (qe_call rfl (FnG.mono (ok__law_begin T kk nk) (by omega)) gd hr T.g__law_begin T.f__law_begin.kp T.b__law_begin (takes_of rfl rfl rfl rfl) (qg_f (i := 0) qg_nil) (glen_f glen_nil)) (qa_cons (qe_callTy call_tuple_of (tuple_d rfl) T.n_tuple (qa_cons (qe_var (i := 1)) qa_nil)) qa_nil))))))))
/-! ### _law_instruction_right -/
theorem sc__law_instruction_right : FnScope ["_law_one", "_law_kept", "_law_due"] ["_law_one"] (defScope s__law_instruction_right) := ⟨rfl, rfl, rfl, by decide +kernel, rfl, by decide +kernel, by decide +kernel⟩
def b__law_instruction_right : MS := (sSeq (sPar 1 2 (maCons (mCa reprD (maCons (mVar 0) maNil)) (maCons (mCall m__law_line (mgD (mVar 0) mgNil)) maNil)))
  (sRet (mAnd (mCall m__law_same (mgD (mLst (maCons (mCall m_instruction_text (mgD (mVar 0) mgNil)) (maCons (mCall m_instruction_text (mgD (mVar 0) mgNil)) maNil))) (mgD (mLst (maCons (mVar 2) (maCons (mVar 2) maNil))) mgNil))) (m2 eqD (mCa reprD (maCons (mVar 0) maNil)) (mVar 1)))))
def m__law_instruction_right : MF := mFn 3 b__law_instruction_right
theorem ok__law_instruction_right (T : Txt L.K mg) (EX : Exs P L mg T) : FnG P w L.K mg base (L2.CX P w) 6 T.a__law_instruction_right T.d__law_instruction_right ["_law_one"] (spD L 1 m__law_instruction_right) := by
  refine def_ok (k := 5) T.f__law_instruction_right sc__law_instruction_right (by decide) fun c hL cdv A outer s H E gd hr => ?_
  have nd := sc__law_instruction_right.nd
  subst hL
  exact (qs_cons (qs_par (i := 1) (j := 2) rfl nd (qa_cons (qe_callB (call_repr_d gd (room65 hr)) (repr_d rfl) T.n_repr (qa_cons (qe_var (i := 0)) qa_nil)) (qa_cons (qe_call rfl (FnG.mono (ok__law_line T) (by omega)) gd hr T.g__law_line T.f__law_line.kp T.b__law_line (takes_of rfl rfl rfl rfl) (qg_d (qe_var (i := 0)) qg_nil) (glen_d glen_nil)) qa_nil)))
  (qs_one (qs_ret (qe_and rfl (qe_call rfl (FnG.mono (ok__law_same T) (by omega)) gd hr T.g__law_same T.f__law_same.kp T.b__law_same (takes_of rfl rfl rfl rfl) (qg_d (qe_lst (qa_cons (qe_call rfl (FnG.mono (ok_instruction_text T EX) (by omega)) gd hr T.g_instruction_text T.f_instruction_text.kp T.b_instruction_text (takes_of rfl rfl rfl rfl) (qg_d (qe_var (i := 0)) qg_nil) (glen_d glen_nil)) (qa_cons (qe_callK0 rfl (FnG.mono (ok_instruction_text T EX) (by omega)) gd hr T.g_instruction_text T.f_instruction_text.kp T.kb_instruction_text (takes_of rfl rfl rfl rfl) (qk_d (qe_var (i := 0)) qk_nil) (glen_d glen_nil)) qa_nil))) (qg_d (qe_lst (qa_cons (qe_var (i := 2)) (qa_cons (qe_var (i := 2)) qa_nil))) qg_nil)) (glen_d (glen_d glen_nil))) (qe_one (qe_cmp (op_eqD hr.units) (eq_d rfl) (qe_callB (call_repr_d gd (room65 hr)) (repr_d rfl) T.n_repr (qa_cons (qe_var (i := 0)) qa_nil)) (qe_var (i := 1))))))))
/-! ### _law_program_right -/
theorem sc__law_program_right : FnScope ["_law_plan", "_law_kept", "_law_due"] ["_law_plan"] (defScope s__law_program_right) := ⟨rfl, rfl, rfl, by decide +kernel, rfl, by decide +kernel, by decide +kernel⟩
def b__law_program_right : MS := (sSeq (sPar 1 2 (maCons (mCa reprD (maCons (mVar 0) maNil)) (maCons (mCall m__law_text (mgD (mVar 0) mgNil)) maNil)))
  (sRet (mAnd (mCall m__law_same (mgD (mLst (maCons (mCall m_program_text (mgD (mVar 0) mgNil)) (maCons (mCall m_program_text (mgD (mVar 0) mgNil)) maNil))) (mgD (mLst (maCons (mVar 2) (maCons (mVar 2) maNil))) mgNil))) (m2 eqD (mCa reprD (maCons (mVar 0) maNil)) (mVar 1)))))
def m__law_program_right : MF := mFn 3 b__law_program_right
theorem ok__law_program_right (T : Txt L.K mg) (EX : Exs P L mg T) : FnG P w L.K mg base (L2.CX P w) 8 T.a__law_program_right T.d__law_program_right ["_law_plan"] (spD L 1 m__law_program_right) := by
  refine def_ok (k := 7) T.f__law_program_right sc__law_program_right (by decide) fun c hL cdv A outer s H E gd hr => ?_
  have nd := sc__law_program_right.nd
  subst hL
  exact (qs_cons (qs_par (i := 1) (j := 2) rfl nd (qa_cons (qe_callB (call_repr_d gd (room65 hr)) (repr_d rfl) T.n_repr (qa_cons (qe_var (i := 0)) qa_nil)) (qa_cons (qe_call rfl (FnG.mono (ok__law_text T) (by omega)) gd hr T.g__law_text T.f__law_text.kp T.b__law_text (takes_of rfl rfl rfl rfl) (qg_d (qe_var (i := 0)) qg_nil) (glen_d glen_nil)) qa_nil)))
  (qs_one (qs_ret (qe_and rfl (qe_call rfl (FnG.mono (ok__law_same T) (by omega)) gd hr T.g__law_same T.f__law_same.kp T.b__law_same (takes_of rfl rfl rfl rfl) (qg_d (qe_lst (qa_cons (qe_call rfl (FnG.mono (ok_program_text T EX) (by omega)) gd hr T.g_program_text T.f_program_text.kp T.b_program_text (takes_of rfl rfl rfl rfl) (qg_d (qe_var (i := 0)) qg_nil) (glen_d glen_nil)) (qa_cons (qe_callK0 rfl (FnG.mono (ok_program_text T EX) (by omega)) gd hr T.g_program_text T.f_program_text.kp T.kb_program_text (takes_of rfl rfl rfl rfl) (qk_d (qe_var (i := 0)) qk_nil) (glen_d glen_nil)) qa_nil))) (qg_d (qe_lst (qa_cons (qe_var (i := 2)) (qa_cons (qe_var (i := 2)) qa_nil))) qg_nil)) (glen_d (glen_d glen_nil))) (qe_one (qe_cmp (op_eqD hr.units) (eq_d rfl) (qe_callB (call_repr_d gd (room65 hr)) (repr_d rfl) T.n_repr (qa_cons (qe_var (i := 0)) qa_nil)) (qe_var (i := 1))))))))
/-! ### _law_refused_right -/
theorem sc__law_refused_right : FnScope ["_law_feed_here", "_law_plan", "_law_tip", "_law_lot", "_law_part", "_law_odd", "_law_bad", "_law_one", "_law_told"] ["_law_feed_here", "_law_plan"] (defScope s__law_refused_right) := ⟨rfl, rfl, rfl, by decide +kernel, rfl, by decide +kernel, by decide +kernel⟩
def b__law_refused_right : MS := (sSeq (sUnp (.tp [2, 3]) (mVar 1))
  (sSeq (sSet 4 (m2 ixD (mVar 3) (mC (.int 0))))
  (sSeq (sOwn 5 (maCons (mC .none) (maCons (mC (.str "stay")) (maCons (mCa listD (maCons (mVar 1) maNil)) (maCons (mTup (maCons (mVar 2) maNil)) (maCons (mTup (maCons (mVar 2) (maCons (mTup maNil) maNil))) (maCons (mTup (maCons (mVar 2) (maCons (mCa listD (maCons (mVar 3) maNil)) maNil))) (maCons (mTup (maCons (mCa listD (maCons (mVar 2) maNil)) (maCons (mVar 3) maNil))) (maCons (mTup (maCons (mVar 2) (maCons (mVar 3) (maCons (mTup maNil) maNil)))) maNil)))))))))
  (sSeq (sOwnAdd 5 (mLst (maCons (mTup (maCons (mCall m__law_odd_begin (mgF 0 mgNil)) (maCons (mVar 3) maNil))) (maCons (mTup (maCons (mVar 2) (maCons (m2 addD (mVar 3) (mTup (maCons (mC .none) maNil))) maNil))) (maCons (mTup (maCons (mVar 2) (maCons (m2 addD (mVar 3) (mTup (maCons (mSl (mVar 4) moNone (moSome (mC (.int 2)))) maNil))) maNil))) (maCons (mVar 3) (maCons (mVar 2) (maCons (mTup (maCons (mC (.str "stay")) maNil)) maNil))))))))
  (sSeq (sApp 5 (mTup (maCons (mVar 2) (maCons (m2 addD (mVar 3) (mTup (maCons (mTup (maCons (m2 ixD (mVar 4) (mC (.int 0))) (maCons (mTup (maCons (mCall m__law_odd_instruction (mgF 0 (mgD (m2 ixD (mVar 4) (mC (.int 0))) mgNil))) maNil)) (maCons (mTup maNil) maNil)))) maNil))) maNil))))
  (sSeq (sApp 5 (mTup (maCons (mVar 2) (maCons (m2 addD (mTup (maCons (mTup (maCons (m2 ixD (mVar 4) (mC (.int 0))) (maCons (m2 ixD (mVar 4) (mC (.int 1))) (maCons (mCall m__law_odd_asides (mgF 0 (mgD (m2 ixD (mVar 4) (mC (.int 0))) mgNil))) maNil)))) maNil)) (mVar 3)) maNil))))
  (sSeq (sApp 5 (mTup (maCons (mVar 2) (maCons (mTup (maCons (m2 addD (mTup (maCons (mCall m__law_pick (mgF 0 (mgD (mLst (maCons (mC (.str "")) (maCons (mC (.str "A")) (maCons (mC .none) (maCons (mC (.int 0)) (maCons (mTup (maCons (mC (.str "a")) maNil)) maNil)))))) mgNil))) maNil)) (mSl (mVar 4) (moSome (mC (.int 1))) moNone)) maNil)) maNil))))
  (sSeq (sFrz 5) (sSeq (sUnp (.tp [6, 7]) (mTup (maCons (mCall m__law_pick (mgF 0 (mgD (mVar 5) mgNil))) (maCons (mCall m__law_odd_instruction (mgF 0 (mgD (m2 ixD (mVar 4) (mC (.int 0))) mgNil))) maNil))))
  (sSeq (sSet 8 (mLst (maCons (mHeard m__law_error "told" (mCall m_program_text (mgD (mVar 6) mgNil))) (maCons (mHeard m__law_error "told" (mCall m_instruction_text (mgD (mVar 7) mgNil))) (maCons (mHeard m__law_error "told" (mCall m_instruction_text (mgD (mVar 4) mgNil))) maNil)))))
  (sRet (mCall m__law_same (mgD (mVar 8) (mgD (mLst (maCons (mCall m__law_no (mgD (mC (.str "program")) mgNil)) (maCons (mCall m__law_no (mgD (mC (.str "instruction")) mgNil)) (maCons (mCall m__law_no (mgD (mC (.str "instruction")) mgNil)) maNil)))) mgNil))))))))))))))
def m__law_refused_right : MF := mFn 9 b__law_refused_right
theorem ok__law_refused_right (T : Txt L.K mg) (kk : Keys L) (nk : L.Nk) (EX : Exs P L mg T) (BX : Tbs EX base) : FnG P w L.K mg base (L2.CX P w) 10 T.a__law_refused_right T.d__law_refused_right ["_law_feed_here", "_law_plan"] (spD L 2 m__law_refused_right) := by
  refine def_okC (k := 9) EX.fc__law_refused_right sc__law_refused_right (by decide) fun c hL A outer s H E gd hr => ?_
  have nd := sc__law_refused_right.nd
  subst hL
  exact (qs_cons (qs_unp (t := (.tp [2, 3])) rfl (qe_var (i := 1)) (pg_tup rfl (pgs_cons (pg_name (i := 2) nd rfl (by first | exact Or.inl rfl | exact Or.inr rfl)) (pgs_cons (pg_name (i := 3) nd rfl (by first | exact Or.inl rfl | exact Or.inr rfl)) pgs_nil))))
  (qs_cons (qs_set (j := 4) (qe_ix ix_seq (ix_d rfl) (qe_var (i := 3)) qe_int) nd)
  (qs_cons (qs_own (j := 5) (qa_cons qe_non (qa_cons qe_str (qa_cons (qe_callTy call_list_of (list_d rfl) T.n_list (qa_cons (qe_var (i := 1)) qa_nil)) (qa_cons (qe_tup (qa_cons (qe_var (i := 2)) qa_nil)) (qa_cons (qe_tup (qa_cons (qe_var (i := 2)) (qa_cons (qe_tup qa_nil) qa_nil))) (qa_cons (qe_tup (qa_cons (qe_var (i := 2)) (qa_cons (qe_callTy call_list_of (list_d rfl) T.n_list (qa_cons (qe_var (i := 3)) qa_nil)) qa_nil))) (qa_cons (qe_tup (qa_cons (qe_callTy call_list_of (list_d rfl) T.n_list (qa_cons (qe_var (i := 2)) qa_nil)) (qa_cons (qe_var (i := 3)) qa_nil))) (qa_cons (qe_tup (qa_cons (qe_var (i := 2)) (qa_cons (qe_var (i := 3)) (qa_cons (qe_tup qa_nil) qa_nil)))) qa_nil)))))))) nd)
  (qs_cons (qs_ownAdd (j := 5) rfl (qe_lst (qa_cons (qe_tup (qa_cons (qe_call rfl (FnG.mono (ok__law_odd_begin T kk nk) (by omega)) gd hr T.g__law_odd_begin T.f__law_odd_begin.kp T.b__law_odd_begin (takes_of rfl rfl rfl rfl) (qg_f (i := 0) qg_nil) (glen_f glen_nil)) (qa_cons (qe_var (i := 3)) qa_nil))) (qa_cons (qe_tup (qa_cons (qe_var (i := 2)) (qa_cons (qe_bin op_addD (add_d rfl) (qe_var (i := 3)) (qe_tup (qa_cons qe_non qa_nil))) qa_nil))) (qa_cons (qe_tup (qa_cons (qe_var (i := 2)) (qa_cons (qe_bin op_addD (add_d rfl) (qe_var (i := 3)) (qe_tup (qa_cons (qe_sl rfl (qe_var (i := 4)) qo_none (qo_some qe_int)) qa_nil))) qa_nil))) (qa_cons (qe_var (i := 3)) (qa_cons (qe_var (i := 2)) (qa_cons (qe_tup (qa_cons qe_str qa_nil)) qa_nil))))))) nd)
  (qs_cons (qs_app (j := 5) (qe_tup (qa_cons (qe_var (i := 2)) (qa_cons (qe_bin op_addD (add_d rfl) (qe_var (i := 3)) (qe_tup (qa_cons (qe_tup (qa_cons (qe_ix ix_seq (ix_d rfl) (qe_var (i := 4)) qe_int) (qa_cons (qe_tup (qa_cons (qe_call rfl (FnG.mono (ok__law_odd_instruction T kk nk) (by omega)) gd hr T.g__law_odd_instruction T.f__law_odd_instruction.kp T.b__law_odd_instruction (takes_of rfl rfl rfl rfl) (qg_f (i := 0) (qg_d (qe_ix ix_seq (ix_d rfl) (qe_var (i := 4)) qe_int) qg_nil)) (glen_f (glen_d glen_nil))) qa_nil)) (qa_cons (qe_tup qa_nil) qa_nil)))) qa_nil))) qa_nil))))
  (qs_cons (qs_app (j := 5) (qe_tup (qa_cons (qe_var (i := 2)) (qa_cons (qe_bin op_addD (add_d rfl) (qe_tup (qa_cons (qe_tup (qa_cons (qe_ix ix_seq (ix_d rfl) (qe_var (i := 4)) qe_int) (qa_cons (qe_ix ix_seq (ix_d rfl) (qe_var (i := 4)) qe_int) (qa_cons (qe_call rfl (FnG.mono (ok__law_odd_asides T kk nk) (by omega)) gd hr T.g__law_odd_asides T.f__law_odd_asides.kp T.b__law_odd_asides (takes_of rfl rfl rfl rfl) (qg_f (i := 0) (qg_d (qe_ix ix_seq (ix_d rfl) (qe_var (i := 4)) qe_int) qg_nil)) (glen_f (glen_d glen_nil))) qa_nil)))) qa_nil)) (qe_var (i := 3))) qa_nil))))
  (qs_cons (qs_app (j := 5) (qe_tup (qa_cons (qe_var (i := 2)) (qa_cons (qe_tup (qa_cons (qe_bin op_addD (add_d rfl) (qe_tup (qa_cons (qe_call rfl (FnG.mono (ok__law_pick T kk nk) (by omega)) gd hr T.g__law_pick T.f__law_pick.kp T.b__law_pick (takes_of rfl rfl rfl rfl) (qg_f (i := 0) (qg_d (qe_lst (qa_cons qe_str (qa_cons qe_str (qa_cons qe_non (qa_cons qe_int (qa_cons (qe_tup (qa_cons qe_str qa_nil)) qa_nil)))))) qg_nil)) (glen_f (glen_d glen_nil))) qa_nil)) (qe_sl rfl (qe_var (i := 4)) (qo_some qe_int) qo_none)) qa_nil)) qa_nil))))
  (qs_frz (qs_cons (qs_unp (t := (.tp [6, 7])) rfl (qe_tup (qa_cons (qe_call rfl (FnG.mono (ok__law_pick T kk nk) (by omega)) gd hr T.g__law_pick T.f__law_pick.kp T.b__law_pick (takes_of rfl rfl rfl rfl) (qg_f (i := 0) (qg_d (qe_var (i := 5)) qg_nil)) (glen_f (glen_d glen_nil))) (qa_cons (qe_call rfl (FnG.mono (ok__law_odd_instruction T kk nk) (by omega)) gd hr T.g__law_odd_instruction T.f__law_odd_instruction.kp T.b__law_odd_instruction (takes_of rfl rfl rfl rfl) (qg_f (i := 0) (qg_d (qe_ix ix_seq (ix_d rfl) (qe_var (i := 4)) qe_int) qg_nil)) (glen_f (glen_d glen_nil))) qa_nil))) (pg_tup rfl (pgs_cons (pg_name (i := 6) nd rfl (by first | exact Or.inl rfl | exact Or.inr rfl)) (pgs_cons (pg_name (i := 7) nd rfl (by first | exact Or.inl rfl | exact Or.inr rfl)) pgs_nil))))
  (qs_cons (qs_set (j := 8) (qe_lst (qa_cons (qe_heard (k := 7) rfl EX.hears (FnE.mono (ok__law_error T EX) (by omega)) gd (hr.mono (by omega)) BX.tb__law_refused_right rfl EX.tm__law_refused_right EX.tu__law_refused_right (LamX.lamS_by (sc := defScope s__law_refused_right) (by decide +kernel)) (fun A outer s H EE f c2 gd hr => (qe_call rfl (FnG.mono (ok_program_text T EX) (by omega)) gd hr T.g_program_text T.f_program_text.kp T.b_program_text (takes_of rfl rfl rfl rfl) (qg_d (qe_var (i := 6)) qg_nil) (glen_d glen_nil)))) (qa_cons (qe_heard (k := 7) rfl EX.hears (FnE.mono (ok__law_error T EX) (by omega)) gd (hr.mono (by omega)) BX.tb__law_refused_right rfl EX.tm__law_refused_right EX.tu__law_refused_right (LamX.lamS_by (sc := defScope s__law_refused_right) (by decide +kernel)) (fun A outer s H EE f c2 gd hr => (qe_call rfl (FnG.mono (ok_instruction_text T EX) (by omega)) gd hr T.g_instruction_text T.f_instruction_text.kp T.b_instruction_text (takes_of rfl rfl rfl rfl) (qg_d (qe_var (i := 7)) qg_nil) (glen_d glen_nil)))) (qa_cons (qe_heard (k := 7) rfl EX.hears (FnE.mono (ok__law_error T EX) (by omega)) gd (hr.mono (by omega)) BX.tb__law_refused_right rfl EX.tm__law_refused_right EX.tu__law_refused_right (LamX.lamS_by (sc := defScope s__law_refused_right) (by decide +kernel)) (fun A outer s H EE f c2 gd hr => (qe_call rfl (FnG.mono (ok_instruction_text T EX) (by omega)) gd hr T.g_instruction_text T.f_instruction_text.kp T.b_instruction_text (takes_of rfl rfl rfl rfl) (qg_d (qe_var (i := 4)) qg_nil) (glen_d glen_nil)))) qa_nil)))) nd)
  (qs_one (qs_ret (qe_call rfl (FnG.mono (ok__law_same T) (by omega)) gd hr T.g__law_same T.f__law_same.kp T.b__law_same (takes_of rfl rfl rfl rfl) (qg_d (qe_var (i := 8)) (qg_d (qe_lst (qa_cons (qe_call rfl (FnG.mono (ok__law_no T) (by omega)) gd hr T.g__law_no T.f__law_no.kp T.b__law_no (takes_of rfl rfl rfl rfl) (qg_d qe_str qg_nil) (glen_d glen_nil)) (qa_cons (qe_call rfl (FnG.mono (ok__law_no T) (by omega)) gd hr T.g__law_no T.f__law_no.kp T.b__law_no (takes_of rfl rfl rfl rfl) (qg_d qe_str qg_nil) (glen_d glen_nil)) (qa_cons (qe_call rfl (FnG.mono (ok__law_no T) (by omega)) gd hr T.g__law_no T.f__law_no.kp T.b__law_no (takes_of rfl rfl rfl rfl) (qg_d qe_str qg_nil) (glen_d glen_nil)) qa_nil)))) qg_nil)) (glen_d (glen_d glen_nil)))))))))))))))
/-! ### _law_feed -/
theorem sc__law_feed : FnScope ["_law_script", "_law_cell"] ["_law_script"] (defScope s__law_feed) := ⟨rfl, rfl, rfl, by decide +kernel, rfl, by decide +kernel, by decide +kernel⟩
theorem ok__law_feed (T : Txt L.K mg) (kk : Keys L) (nk : L.Nk) : FnG P w L.K mg base (L2.CX P w) 1 T.a__law_feed T.d__law_feed ["_law_script"] (spFeed L) := by
  refine fng_of (k := 0) T.f__law_feed sc__law_feed (fun vs H Q E h => by obtain ⟨a, ns, rfl, _⟩ := h; rfl) fun cdv A outer s H vs Q E gd room want => ?_
  refine ⟨_, pss_one (ps_ret (pe_disp (pps_cons pe_str (pe_lc rfl sc__law_feed.nd (pi_list (pe_slice sl_list (pv 0) po_none (po_some pe_int))) (blkOk_by (N := ["_law_script", "_law_cell"]) (sc := defScope s__law_feed) (own := [("_law_cell", 1)]) (by decide +kernel)) (fun _ _ _ _ _ => pg_name (i := 1) sc__law_feed.nd rfl (by first | exact Or.inl rfl | exact Or.inr rfl)) (fun _ _ _ _ _ => pts_nil) (fun _ _ _ _ _ => pe_callTy call_int1 (by rfl) T.n_int (by decide +kernel) (pa_cons (pv 1) pa_nil))) (pps_cons pe_str pe_int (pps_cons pe_str pe_int (pps_cons pe_str pe_int pps_nil)))) rfl rfl (fun z => by cases z) (by decide))), ?_⟩
  have hl : (L2.start ["_law_script", "_law_cell"] vs).length = 2 := by
    obtain ⟨a, ns, rfl, _⟩ := want
    rfl
  have h := feed_readL nk (N := ["_law_script", "_law_cell"]) (cells_comp (n := 63)) want hl
  rw [show L.k1 = _ from kk.c, show L.k2 = _ from kk.s, show L.k3 = _ from kk.l, show L.k4 = _ from kk.n] at h
  exact h
/-! ### law -/
theorem sc_law : FnScope ["_law_script", "_law_feed_here", "_law_lap", "_law_some", "_law_due", "_law_one", "_law_plan", "_law_part", "_law_turn"] ["_law_script"] (defScope s_law) := ⟨rfl, rfl, rfl, by decide +kernel, rfl, by decide +kernel, by decide +kernel⟩
def b_law : MS := (sSeq (sFor (miR1 (maCons (mC (.int 4)) maNil)) (.nm 2)
  (sSeq (sSet 6 (mCall m__law_program (mgF 1 (mgD (mC (.int 5)) mgNil))))
  (sSeq (sFor (miV (m2 ixD (mVar 6) (mC (.int 1)))) (.nm 7)
  (sIf (mtE (m2 neD (mLc (miV (m2 ixD (mVar 7) (mC (.int 1)))) (.nm 5) (mtNot (mtE (mCall m__law_instruction_right (mgD (mVar 5) mgNil)) truth)) (mVar 5) [5]) (mLst maNil)) asBool)
  (sRet (mC (.bool false)))
  sNx))
  (sSeq (sIf (mtOr (mtNot (mtE (mCall m__law_program_right (mgD (mVar 6) mgNil)) truth)) (mtNot (mtE (mCall m__law_program_right (mgD (mCall m__law_any_program (mgF 1 mgNil)) mgNil)) truth)))
  (sRet (mC (.bool false)))
  sNx)
  (sFor (miR1 (maCons (mC (.int 6)) maNil)) (.nm 8)
  (sIf (mtOr (mtNot (mtE (mCall m__law_instruction_right (mgD (mCall m__law_any_instruction (mgF 1 mgNil)) mgNil)) truth)) (mtNot (mtE (mCall m__law_refused_right (mgF 1 (mgD (mVar 6) mgNil))) truth)))
  (sRet (mC (.bool false)))
  sNx))))))
  (sSeq (sSet 3 (mLst (maCons (mTup (maCons (mC (.str "go")) (maCons (mTup (maCons (mC (.int 0)) (maCons (mC (.int 2)) maNil))) maNil))) (maCons (mTup (maCons (mC (.str "go")) (maCons (mTup (maCons (mC (.int 9)) (maCons (mC (.int 10)) (maCons (mC (.int 100)) maNil)))) maNil))) (maCons (mTup (maCons (mC (.str "copy")) (maCons (mC (.str "kid")) (maCons (mC (.int 1)) maNil)))) (maCons (mTup (maCons (mC (.str "start")) (maCons (mC (.str "go")) (maCons (mC (.int 0)) maNil)))) (maCons (mTup (maCons (mC (.str "mark")) (maCons (mC (.str "w")) (maCons (mC (.int 1)) maNil)))) (maCons (mTup (maCons (mC (.str "close")) (maCons (mC (.str "r")) (maCons (mC (.int 2)) maNil)))) maNil))))))))
  (sSeq (sSet 3 (m2 addD (mVar 3) (mLst (maCons (mTup (maCons (mC (.str "read")) (maCons (mC (.int 3)) maNil))) (maCons (mTup (maCons (mC (.str "write")) (maCons (mC (.int 3)) maNil))) (maCons (mTup (maCons (mC (.str "wait")) (maCons (m2 powD (mC (.int 10)) (mC (.int 59))) maNil))) (maCons (mTup (maCons (mC (.str "stay")) maNil)) (maCons (mTup (maCons (mC (.str "end")) maNil)) maNil))))))))
  (sSeq (sSet 4 (mLst (maCons (mC (.str "go 0,2")) (maCons (mC (.str "go 9,10,100")) (maCons (mC (.str "copy kid 1")) (maCons (mC (.str "start go 0")) (maCons (mC (.str "mark w 1")) (maCons (mC (.str "close r 2")) (maCons (mC (.str "read 3")) (maCons (mC (.str "write 3")) maNil))))))))))
  (sSeq (sSet 4 (m2 addD (mVar 4) (mLst (maCons (m2 addD (mC (.str "wait 1")) (m2 mulX (mC (.str "0")) (mC (.int 59)))) (maCons (mC (.str "stay")) (maCons (mC (.str "end")) maNil))))))
  (sSeq (sIf (mtNot (mtE (mCall m__law_same (mgD (mLc (miV (mVar 3)) (.nm 5) mtYes (mCall m_instruction_text (mgD (mVar 5) mgNil)) [5]) (mgD (mVar 4) mgNil))) truth))
  (sRet (mC (.bool false)))
  sNx)
  (sSeq (sSet 5 (mTup (maCons (mTup (maCons (mC (.str "marked")) (maCons (mC (.str "open")) maNil))) (maCons (mTup (maCons (mTup (maCons (mC (.str "b")) (maCons (mTup (maCons (mTup (maCons (mC (.str "read")) (maCons (mC (.int 7)) maNil))) (maCons (mTup (maCons (mC (.str "end")) maNil)) maNil))) (maCons (mTup (maCons (mTup (maCons (mC (.str "copy")) (maCons (mC (.str "b")) maNil))) (maCons (mTup (maCons (mC (.str "start")) (maCons (mC (.str "a")) maNil))) maNil))) maNil)))) (maCons (mTup (maCons (mC (.str "b")) (maCons (mTup (maCons (mTup (maCons (mC (.str "stay")) maNil)) maNil)) (maCons (mTup maNil) maNil)))) maNil))) maNil))))
  (sRet (mCall m__law_same (mgD (mCall m_program_text (mgD (mVar 5) mgNil)) (mgD (mC (.str "begin marked open\nrole b\nread 7\nend\naside copy b\naside start a\nrole b\nstay")) mgNil)))))))))))
abbrev n_law : Nat := 9
def Math : Prop := ∀ cells : List Int, ∃ φ', b_law ((List.replicate 9 .un).set 1 .fd) (fd0 cells) = .ok (.rt (.bool true)) φ'
theorem ok_law (T : Txt L.K mg) (kk : Keys L) (nk : L.Nk) {f0 : Addr} {fd : FuncData} (EX : Exs P L mg T) (BX : Tbs EX base) (F : Fun L.K "law" "law" s_law f0 fd) (math : Math) : FnG P w L.K mg base (L2.CX P w) 11 f0 fd ["_law_script"] (spLaw L) := by
  have nd := sc_law.nd
  exact law_A (i := 1) (k := 10) (rest := (defBody s_law).tail) (body := b_law) F sc_law (by decide) rfl (fun cdv A outer s H E gd hr => (ps_set (i := 1) nd rfl (by first | exact Or.inl rfl | exact Or.inr rfl) (peg_call (ok__law_feed T kk nk) gd (hr.mono (by decide)) rfl T.g__law_feed T.f__law_feed.kp T.b__law_feed (passAt (takes_of rfl rfl rfl rfl)) (pa_cons (pv 0) pa_nil))))
    (fun c hL cdv A outer s H E gd hr => by
      subst hL
      exact (qs_cons (qs_for (t := (.nm 2)) rfl (passes_of rfl) rfl (qi_r1 T.n_range (qa_cons qe_int qa_nil)) (pg_name (i := 2) nd rfl (by first | exact Or.inl rfl | exact Or.inr rfl))
  (qs_cons (qs_set (j := 6) (qe_call rfl (FnG.mono (ok__law_program T kk nk) (by omega)) gd hr T.g__law_program T.f__law_program.kp T.b__law_program (takes_of rfl rfl rfl rfl) (qg_f (i := 1) (qg_d qe_int qg_nil)) (glen_f (glen_d glen_nil))) nd)
  (qs_cons (qs_for (t := (.nm 7)) rfl (passes_of rfl) rfl (qi_v rfl (qe_ix ix_seq (ix_d rfl) (qe_var (i := 6)) qe_int)) (pg_name (i := 7) nd rfl (by first | exact Or.inl rfl | exact Or.inr rfl))
  (qs_one (qs_if (qt_cmp (op_neD hr.units) (ne_d rfl) (qe_lc (own := [("_law_one", 5)]) (t := (.nm 5)) rfl rfl nd (qi_v rfl (qe_ix ix_seq (ix_d rfl) (qe_var (i := 7)) qe_int)) (blkOk_by (N := ["_law_script", "_law_feed_here", "_law_lap", "_law_some", "_law_due", "_law_one", "_law_plan", "_law_part", "_law_turn"]) (sc := defScope s_law) (own := [("_law_one", 5)]) (by decide +kernel)) (by decide) (fun _ _ _ _ _ => (pg_name (i := 5) nd rfl (by first | exact Or.inl rfl | exact Or.inr rfl))) (fun _ _ _ _ _ => (qts_one (qt_not (qt_val rfl (qe_call rfl (FnG.mono (ok__law_instruction_right T EX) (by omega)) gd hr T.g__law_instruction_right T.f__law_instruction_right.kp T.b__law_instruction_right LamX.takes0 (qg_d (qe_var (i := 5)) qg_nil) (glen_d glen_nil)))))) (fun _ _ _ _ _ => (qe_var (i := 5)))) (qe_lst qa_nil))
  (qs_one (qs_ret qe_bl))
  qs_nil)))
  (qs_cons (qs_if (PW.pt (qw_or (qt_not (qt_val rfl (qe_call rfl (FnG.mono (ok__law_program_right T EX) (by omega)) gd hr T.g__law_program_right T.f__law_program_right.kp T.b__law_program_right (takes_of rfl rfl rfl rfl) (qg_d (qe_var (i := 6)) qg_nil) (glen_d glen_nil)))) (qw_or1 (qt_not (qt_val rfl (qe_call rfl (FnG.mono (ok__law_program_right T EX) (by omega)) gd hr T.g__law_program_right T.f__law_program_right.kp T.b__law_program_right (takes_of rfl rfl rfl rfl) (qg_d (qe_call rfl (FnG.mono (ok__law_any_program T kk nk) (by omega)) gd hr T.g__law_any_program T.f__law_any_program.kp T.b__law_any_program (takes_of rfl rfl rfl rfl) (qg_f (i := 1) qg_nil) (glen_f glen_nil)) qg_nil) (glen_d glen_nil)))))))
  (qs_one (qs_ret qe_bl))
  qs_nil)
  (qs_one (qs_for (t := (.nm 8)) rfl (passes_of rfl) rfl (qi_r1 T.n_range (qa_cons qe_int qa_nil)) (pg_name (i := 8) nd rfl (by first | exact Or.inl rfl | exact Or.inr rfl))
  (qs_one (qs_if (PW.pt (qw_or (qt_not (qt_val rfl (qe_call rfl (FnG.mono (ok__law_instruction_right T EX) (by omega)) gd hr T.g__law_instruction_right T.f__law_instruction_right.kp T.b__law_instruction_right (takes_of rfl rfl rfl rfl) (qg_d (qe_call rfl (FnG.mono (ok__law_any_instruction T kk nk) (by omega)) gd hr T.g__law_any_instruction T.f__law_any_instruction.kp T.b__law_any_instruction (takes_of rfl rfl rfl rfl) (qg_f (i := 1) qg_nil) (glen_f glen_nil)) qg_nil) (glen_d glen_nil)))) (qw_or1 (qt_not (qt_val rfl (qe_call rfl (FnG.mono (ok__law_refused_right T kk nk EX BX) (by omega)) gd hr T.g__law_refused_right T.f__law_refused_right.kp T.b__law_refused_right (takes_of rfl rfl rfl rfl) (qg_f (i := 1) (qg_d (qe_var (i := 6)) qg_nil)) (glen_f (glen_d glen_nil))))))))
  (qs_one (qs_ret qe_bl))
  qs_nil))))))))
  (qs_cons (qs_set (j := 3) (qe_lst (qa_cons (qe_tup (qa_cons qe_str (qa_cons (qe_tup (qa_cons qe_int (qa_cons qe_int qa_nil))) qa_nil))) (qa_cons (qe_tup (qa_cons qe_str (qa_cons (qe_tup (qa_cons qe_int (qa_cons qe_int (qa_cons qe_int qa_nil)))) qa_nil))) (qa_cons (qe_tup (qa_cons qe_str (qa_cons qe_str (qa_cons qe_int qa_nil)))) (qa_cons (qe_tup (qa_cons qe_str (qa_cons qe_str (qa_cons qe_int qa_nil)))) (qa_cons (qe_tup (qa_cons qe_str (qa_cons qe_str (qa_cons qe_int qa_nil)))) (qa_cons (qe_tup (qa_cons qe_str (qa_cons qe_str (qa_cons qe_int qa_nil)))) qa_nil))))))) nd)
  (qs_cons (qs_set (j := 3) (qe_bin op_addD (add_d rfl) (qe_var (i := 3)) (qe_lst (qa_cons (qe_tup (qa_cons qe_str (qa_cons qe_int qa_nil))) (qa_cons (qe_tup (qa_cons qe_str (qa_cons qe_int qa_nil))) (qa_cons (qe_tup (qa_cons qe_str (qa_cons (qe_bin op_pow pow_d qe_int qe_int) qa_nil))) (qa_cons (qe_tup (qa_cons qe_str qa_nil)) (qa_cons (qe_tup (qa_cons qe_str qa_nil)) qa_nil))))))) nd)
  (qs_cons (qs_set (j := 4) (qe_lst (qa_cons qe_str (qa_cons qe_str (qa_cons qe_str (qa_cons qe_str (qa_cons qe_str (qa_cons qe_str (qa_cons qe_str (qa_cons qe_str qa_nil))))))))) nd)
  (qs_cons (qs_set (j := 4) (qe_bin op_addD (add_d rfl) (qe_var (i := 4)) (qe_lst (qa_cons (qe_bin op_addD (add_d rfl) qe_str (qe_bin op_mulX' (mulX_d rfl) qe_str qe_int)) (qa_cons qe_str (qa_cons qe_str qa_nil))))) nd)
  (qs_cons (qs_if (qt_not (qt_val rfl (qe_call rfl (FnG.mono (ok__law_same T) (by omega)) gd hr T.g__law_same T.f__law_same.kp T.b__law_same (takes_of rfl rfl rfl rfl) (qg_d (qe_lc (own := [("_law_one", 5)]) (t := (.nm 5)) rfl rfl nd (qi_v rfl (qe_var (i := 3))) (blkOk_by (N := ["_law_script", "_law_feed_here", "_law_lap", "_law_some", "_law_due", "_law_one", "_law_plan", "_law_part", "_law_turn"]) (sc := defScope s_law) (own := [("_law_one", 5)]) (by decide +kernel)) (by decide) (fun _ _ _ _ _ => (pg_name (i := 5) nd rfl (by first | exact Or.inl rfl | exact Or.inr rfl))) (fun _ _ _ _ _ => qts_nil) (fun _ _ _ _ _ => (qe_call rfl (FnG.mono (ok_instruction_text T EX) (by omega)) gd hr T.g_instruction_text T.f_instruction_text.kp T.b_instruction_text LamX.takes0 (qg_d (qe_var (i := 5)) qg_nil) (glen_d glen_nil)))) (qg_d (qe_var (i := 4)) qg_nil)) (glen_d (glen_d glen_nil)))))
  (qs_one (qs_ret qe_bl))
  qs_nil)
  (qs_cons (qs_set (j := 5) (qe_tup (qa_cons (qe_tup (qa_cons qe_str (qa_cons qe_str qa_nil))) (qa_cons (qe_tup (qa_cons (qe_tup (qa_cons qe_str (qa_cons (qe_tup (qa_cons (qe_tup (qa_cons qe_str (qa_cons qe_int qa_nil))) (qa_cons (qe_tup (qa_cons qe_str qa_nil)) qa_nil))) (qa_cons (qe_tup (qa_cons (qe_tup (qa_cons qe_str (qa_cons qe_str qa_nil))) (qa_cons (qe_tup (qa_cons qe_str (qa_cons qe_str qa_nil))) qa_nil))) qa_nil)))) (qa_cons (qe_tup (qa_cons qe_str (qa_cons (qe_tup (qa_cons (qe_tup (qa_cons qe_str qa_nil)) qa_nil)) (qa_cons (qe_tup qa_nil) qa_nil)))) qa_nil))) qa_nil))) nd)
  (qs_one (qs_ret (qe_call rfl (FnG.mono (ok__law_same T) (by omega)) gd hr T.g__law_same T.f__law_same.kp T.b__law_same (takes_of rfl rfl rfl rfl) (qg_d (qe_call rfl (FnG.mono (ok_program_text T EX) (by omega)) gd hr T.g_program_text T.f_program_text.kp T.b_program_text (takes_of rfl rfl rfl rfl) (qg_d (qe_var (i := 5)) qg_nil) (glen_d glen_nil)) (qg_d qe_str qg_nil)) (glen_d (glen_d glen_nil))))))))))))) math
end
end K09

set_option maxHeartbeats 4000000
set_option pp.maxSteps 300
namespace DL
open PySem PySem.Spec PyProof.Rows L2
theorem ws_fd {ρ : Rho} {D : Fl → Prop} {i : Nat} {k : Fk} {f : ME} (e : ρ[i]? = some .fd) (h : wE1 f ρ fun d => ∃ z : Int, d = .int z ∧ (match k with | .c => False | _ => True) ∧ D (.nx ρ)) : wS1 (sFd i k f) ρ D := fun φ => by
  obtain ⟨a, φ', e1, z, rfl, hk, q⟩ := h φ
  unfold sFd
  rw [e]
  show ∃ a φ', eS (f ρ φ) ρ _ = _ ∧ _
  rw [e1]
  cases k <;> first | exact hk.elim | exact ⟨_, _, rfl, q⟩
theorem we_fg_n {ρ : Rho} {P : Dt → Prop} {i : Nat} (e : ρ[i]? = some .fd) (h : ∀ z : Int, P (.int z)) : wE1 (mFg i .n) ρ P := fun φ => by
  unfold mFg
  rw [e]
  exact ⟨_, φ, rfl, h _⟩
theorem we_fg_l {ρ : Rho} {P : Dt → Prop} {i : Nat} (e : ρ[i]? = some .fd) (h : ∀ z : Int, P (.int z)) : wE1 (mFg i .l) ρ P := fun φ => by
  unfold mFg
  rw [e]
  exact ⟨_, φ, rfl, h _⟩
theorem we_fg_s {ρ : Rho} {P : Dt → Prop} {i : Nat} (e : ρ[i]? = some .fd) (h : ∀ z : Int, P (.int z)) : wE1 (mFg i .s) ρ P := fun φ => by
  unfold mFg
  rw [e]
  exact ⟨_, φ, rfl, h _⟩
theorem we_fg_c {ρ : Rho} {P : Dt → Prop} {i : Nat} (e : ρ[i]? = some .fd) (h : ∀ ns : List Int, P (.list (ns.map .int))) : wE1 (mFg i .c) ρ P := fun φ => by
  unfold mFg
  rw [e]
  exact ⟨_, φ, rfl, h _⟩
theorem ex_mod {a n : Int} {P : Dt → Prop} (h : 0 < n) (p : P (.int (a % n))) : ∃ z, modD (.int a) (.int n) = some z ∧ P z := ⟨_, if_pos h, p⟩
theorem ex_fdiv {a n : Int} {P : Dt → Prop} (h : 0 < n) (h2 : n < 1073741824) (p : P (.int (a / n))) : ∃ z, fdivD (.int a) (.int n) = some z ∧ P z := ⟨_, if_pos ⟨h, h2⟩, p⟩
theorem ex_sq {x m : Int} {P : Dt → Prop} (h : 0 < m) (h2 : m ≤ 4294967296) (p : P (.int ((x % m) * (x % m)))) : ∃ z, mulD (.int (x % m)) (.int (x % m)) = some z ∧ P z := by
  have h3 := Int.emod_nonneg x (show m ≠ 0 by omega)
  have h4 := Int.emod_lt_of_pos x h
  exact ⟨_, if_pos (Or.inl (by omega)), p⟩
theorem ex_mulr {x m : Int} {P : Dt → Prop} (h : -18446744073709551616 < m ∧ m < 18446744073709551616) (p : P (.int (x * m))) : ∃ z, mulD (.int x) (.int m) = some z ∧ P z := ⟨_, if_pos (Or.inr h), p⟩
theorem ex_mull {x m : Int} {P : Dt → Prop} (h : -18446744073709551616 < m ∧ m < 18446744073709551616) (p : P (.int (m * x))) : ∃ z, mulD (.int m) (.int x) = some z ∧ P z := ⟨_, if_pos (Or.inl h), p⟩
theorem wt_isi {T : String} {d : Dt} {b : Bool} {P : Bool → Prop} (e : isiD T d = b) (h : P b) : ∃ z, truth (.bool (isiD T d)) = some z ∧ P z := ⟨b, by rw [e]; rfl, h⟩
theorem ws_ret_if {t : MT} {s r : MS} {ρ : Rho} {D : Fl → Prop} (hr : wS1 r ρ D) (h : wT1 t ρ fun b => b = true → wS1 s ρ fun fl => match fl with
    | .nx _ => False
    | x => D x) : wS1 (sSeq (sIf t s sNx) r) ρ D :=
  ws_seq (ws_if (h.mono fun b k => ⟨fun hb => (k hb).mono fun fl q => by cases fl <;> first | exact q.elim | exact q, fun _ => ws_nx hr⟩))
theorem wt_andT {t u : MT} {ρ : Rho} {P : Bool → Prop} (h : wT1 t ρ fun b => (b = true → wT1 u ρ P) ∧ (b = false → P false)) : wT1 (mtAnd t u) ρ P := wt_and h
theorem i_tuple_none  : isiD "tuple" .none = false := by simp [isiD, tyN]
theorem i_tuple_bool (x : Bool) : isiD "tuple" (.bool x) = false := by simp [isiD, tyN]
theorem i_tuple_int (x : Int) : isiD "tuple" (.int x) = false := by simp [isiD, tyN]
theorem i_tuple_str (x : Str) : isiD "tuple" (.str x) = false := by simp [isiD, tyN]
theorem i_tuple_list (x : List Dt) : isiD "tuple" (.list x) = false := by simp [isiD, tyN]
theorem i_tuple_tuple (x : List Dt) : isiD "tuple" (.tuple x) = true := by simp [isiD, tyN]
theorem i_bool_none  : isiD "bool" .none = false := by simp [isiD, tyN]
theorem i_bool_bool (x : Bool) : isiD "bool" (.bool x) = true := by simp [isiD, tyN]
theorem i_bool_int (x : Int) : isiD "bool" (.int x) = false := by simp [isiD, tyN]
theorem i_bool_str (x : Str) : isiD "bool" (.str x) = false := by simp [isiD, tyN]
theorem i_bool_list (x : List Dt) : isiD "bool" (.list x) = false := by simp [isiD, tyN]
theorem i_bool_tuple (x : List Dt) : isiD "bool" (.tuple x) = false := by simp [isiD, tyN]
theorem i_str_none  : isiD "str" .none = false := by simp [isiD, tyN]
theorem i_str_bool (x : Bool) : isiD "str" (.bool x) = false := by simp [isiD, tyN]
theorem i_str_int (x : Int) : isiD "str" (.int x) = false := by simp [isiD, tyN]
theorem i_str_str (x : Str) : isiD "str" (.str x) = true := by simp [isiD, tyN]
theorem i_str_list (x : List Dt) : isiD "str" (.list x) = false := by simp [isiD, tyN]
theorem i_str_tuple (x : List Dt) : isiD "str" (.tuple x) = false := by simp [isiD, tyN]
theorem i_int_none  : isiD "int" .none = false := by simp [isiD, tyN]
theorem i_int_bool (x : Bool) : isiD "int" (.bool x) = true := by simp [isiD, tyN]
theorem i_int_int (x : Int) : isiD "int" (.int x) = true := by simp [isiD, tyN]
theorem i_int_str (x : Str) : isiD "int" (.str x) = false := by simp [isiD, tyN]
theorem i_int_list (x : List Dt) : isiD "int" (.list x) = false := by simp [isiD, tyN]
theorem i_int_tuple (x : List Dt) : isiD "int" (.tuple x) = false := by simp [isiD, tyN]
theorem lay_ints : ∀ ns : List Int, PyData.canLayAll0 (ns.map PyData.int) = true ∧ PyData.depthAll (ns.map PyData.int) = 0
  | [] => ⟨rfl, rfl⟩
  | n :: ns => by
    obtain ⟨h1, h2⟩ := lay_ints ns
    refine ⟨?_, ?_⟩
    · show (PyData.canLay0 (.int n) && PyData.canLayAll0 (ns.map PyData.int)) = true
      rw [h1]; rfl
    · show max (PyData.depth (.int n)) (PyData.depthAll (ns.map PyData.int)) = 0
      rw [h2]; rfl
theorem shaped_ints (ns : List Int) : SeqAt.shaped (.list (ns.map PyData.int)) = true := by
  obtain ⟨h1, h2⟩ := lay_ints ns
  unfold SeqAt.shaped
  rw [show PyData.canLay0 (.list (ns.map PyData.int)) = _ from h1, Bool.true_and]
  exact decide_eq_true (show PyData.depthAll (ns.map PyData.int) + 1 ≤ 64 by omega)
theorem at_in {α : Type} {xs : List α} {k : Int} (h0 : 0 ≤ k) (h1 : k < xs.length) : ∃ x, x ∈ xs ∧ atI xs k = some x := by
  obtain ⟨j, rfl⟩ := Int.eq_ofNat_of_zero_le h0
  have hj : j < xs.length := by omega
  refine ⟨xs[j], List.getElem_mem hj, ?_⟩
  unfold atI ixN
  rw [if_pos h0, if_pos h1]
  show xs[(j : Int).toNat]? = _
  rw [Int.toNat_natCast, List.getElem?_eq_getElem hj]
theorem ixL {xs : List Dt} {k : Int} (h0 : 0 ≤ k) (h1 : k < xs.length) : ∃ x, x ∈ xs ∧ ixD (.list xs) (.int k) = some x := at_in h0 h1
theorem ixT {xs : List Dt} {k : Int} (h0 : 0 ≤ k) (h1 : k < xs.length) : ∃ x, x ∈ xs ∧ ixD (.tuple xs) (.int k) = some x := at_in h0 h1
end DL
namespace K09
open PySem PySem.Spec PyProof.Rows L2 DL
local macro_rules
  | `(tactic| walk_at "go") => `(tactic| (repeat' (first
    | with_reducible first
      | refine ws_ret_if ?_ ?_ | refine ws_seq ?_ | refine ws_fd rfl ?_ | refine we_fg_n rfl (fun _ => ?_) | refine we_fg_l rfl (fun _ => ?_) | refine we_fg_s rfl (fun _ => ?_) | refine we_fg_c rfl (fun _ => ?_) | refine we_chain ?_ | refine ws_set ?_ | refine ws_ret ?_ | refine ws_if ?_ | refine ws_nx ?_ | refine ws_par ?_ | refine ws_unp ?_
      | refine we_var rfl ?_ | refine we_c ?_ | refine we_2 ?_ | refine we_1 ?_ | refine we_isi ?_
      | refine wt_e ?_ | refine wt_not ?_ | refine wt_andT ?_ | refine wt_or ?_ | refine we_if ?_ | refine we_not ?_ | refine we_and ?_ | refine we_or ?_
      | refine wa_nil ?_ | refine wa_cons ?_ | refine we_tup ?_ | refine we_lst ?_ | refine we_ca ?_ | refine wo_none ?_ | refine wo_some ?_ | refine we_sl ?_
      | refine wg_nil ?_ | refine wg_d ?_ | refine wg_f rfl ?_ | refine we_call ?_
    | fail
    | refine ex_mod (by assumption) ?_ | refine ex_fdiv (by assumption) (by assumption) ?_ | refine ex_mulr (by decide) ?_ | refine ex_mull (by decide) ?_ | refine ex_sq (by decide) (by decide) ?_
    | refine wt_isi (by with_reducible first | exact i_tuple_none | exact i_tuple_bool _ | exact i_tuple_int _ | exact i_tuple_str _ | exact i_tuple_list _ | exact i_tuple_tuple _ | exact i_bool_none | exact i_bool_bool _ | exact i_bool_int _ | exact i_bool_str _ | exact i_bool_list _ | exact i_bool_tuple _ | exact i_str_none | exact i_str_bool _ | exact i_str_int _ | exact i_str_str _ | exact i_str_list _ | exact i_str_tuple _ | exact i_int_none | exact i_int_bool _ | exact i_int_int _ | exact i_int_str _ | exact i_int_list _ | exact i_int_tuple _) ?_
    | refine And.intro (Nat.le_of_ble_eq_true rfl) ?_
    | (refine And.intro (fun hb => ?_) (fun hb => ?_) <;> try (exact absurd hb (by decide)))
    | (refine fun (hb : (_ : Bool) = _) => ?_ <;> try (exact absurd hb (by decide)))
    | refine And.intro True.intro ?_
    | refine Exists.intro _ (And.intro rfl ?_) | refine Exists.intro _ (Exists.intro _ (And.intro rfl ?_)))))

theorem rest (c spot : Int) (cs : List Dt) {n : Int} (h1 : 0 < n) (h2 : n < 1073741824) {D : Fl → Prop} (hD : ∀ a : Int, D (.rt (.int (a % n)))) : wS1 (sSeq (sIf (mtAnd (mtE (m2 geX (mVar 4) (m2 powD (mC (.int 10)) (mC (.int 18)))) asBool) (mtE (m2 ltX (mVar 2) (mCa lenD (maCons (mVar 3) maNil))) asBool))
  (sSeq (sFd 0 .l (m2 fdivD (mVar 4) (mVar 1)))
  (sRet (m2 modD (mCa DL.intD (maCons (mVar 4) maNil)) (mVar 1))))
  sNx)
  (sSeq (sSet 5 (m2 modD (mCa DL.intD (maCons (m2 addD (m2 addD (m2 mulD (m2 modD (mCa DL.intD (maCons (mVar 4) maNil)) (mC (.int 1000000007))) (mC (.int 3))) (m2 mulD (mC (.int 74149)) (mFg 0 .n))) (mC (.int 1090))) maNil)) (mC (.int 2147483477))))
  (sSeq (sSet 5 (m2 modD (mCa DL.intD (maCons (m2 addD (m2 addD (m2 mulD (mVar 5) (mVar 5)) (m2 mulD (mC (.int 51929)) (mFg 0 .n))) (mC (.int 707))) maNil)) (mC (.int 2147483489))))
  (sRet (m2 modD (mCa DL.intD (maCons (m2 fdivD (m2 modD (mCa DL.intD (maCons (m2 addD (m2 mulD (mVar 5) (mVar 5)) (m2 mulD (mC (.int 641)) (mVar 5))) maNil)) (mC (.int 2147483137))) (mC (.int 32))) maNil)) (mVar 1))))))
    [.fd, .dat (.int n), .dat (.int spot), .dat (.list cs), .dat (.int c), .un, .un] D := by
  refine ws_ret_if ?_ ?_
  · walk_at "go"
    exact hD _
  · refine wt_and (wt_e (we_2 (we_var rfl (we_2 (we_c (we_c ⟨_, rfl, _, rfl, _, rfl, fun h => ?_, fun _ h => absurd h (by decide)⟩))))))
    clear h
    refine wt_e (we_2 (we_var rfl (we_ca (wa_cons (we_var rfl (wa_nil ⟨_, rfl, _, rfl, _, rfl, fun h => ?_⟩))))))
    clear h
    refine ws_seq (ws_fd rfl (we_2 (we_var rfl (we_var rfl (ex_fdiv h1 h2 ⟨_, rfl, True.intro, ?_⟩)))))
    exact ws_ret (we_2 (we_ca (wa_cons (we_var rfl (wa_nil ⟨_, rfl, we_var rfl (ex_mod h1 (hD _))⟩)))))
theorem draw (n : Int) (h1 : 0 < n) (h2 : n < 1073741824) : Can (m__law_draw [.fd, .dat (.int n)]) fun d => ∃ k : Int, d = .int k ∧ 0 ≤ k ∧ k < n := by
  have last : ∀ a : Int, ∃ k : Int, PyData.int (a % n) = .int k ∧ 0 ≤ k ∧ k < n := fun a => ⟨_, rfl, Int.emod_nonneg _ (by omega), Int.emod_lt_of_pos _ h1⟩
  refine can_fn ?_
  unfold b__law_draw
  have mm : ∀ a : Int, 0 ≤ a % n ∧ a % n < n := fun a => ⟨Int.emod_nonneg _ (by omega), Int.emod_lt_of_pos _ h1⟩
  walk_at "go"
  · rename_i spot cells
    have neL : neD (.list (cells.map .int)) (.list []) = some (.bool (!cells.isEmpty)) := by
      unfold neD
      rw [if_pos ⟨shaped_ints _, rfl⟩]
      cases cells <;> rfl
    refine ⟨_, neL, _, rfl, fun hb => ?_, fun _ => ?_⟩
    · have hlen : 0 < ((cells.map PyData.int).length : Int) := by
        cases cells with
        | nil => cases hb
        | cons c cs => simp
      refine we_2 (we_var rfl (we_2 (we_ca (wa_cons (we_var rfl (wa_nil ⟨_, rfl, we_ca (wa_cons (we_var rfl (wa_nil ⟨_, rfl, ex_mod hlen ?_⟩)))⟩))))))
      obtain ⟨x, hx, e⟩ := ixL (xs := cells.map PyData.int) (k := spot % ((cells.map PyData.int).length : Int)) (Int.emod_nonneg _ (by omega)) (Int.emod_lt_of_pos _ hlen)
      obtain ⟨c, _, rfl⟩ := List.mem_map.mp hx
      refine ⟨_, e, ?_⟩
      exact rest c spot _ h1 h2 last
    · refine we_c ?_
      exact rest _ spot _ h1 h2 last
  · exact mm _
end K09

set_option maxHeartbeats 1000000
namespace K09
open PySem PySem.Spec PyProof.Rows L2 DL PySem.W
theorem draw' {n : Int} {P : Dt → Prop} (h1 : 0 < n) (h2 : n < 1073741824) (k : ∀ k : Int, 0 ≤ k → k < n → P (.int k)) : Can (m__law_draw [.fd, .dat (.int n)]) P :=
  (draw n h1 h2).mono fun d hd => by
    obtain ⟨i, rfl, a, b⟩ := hd
    exact k i a b
local macro_rules
  | `(tactic| walk_at "go") => `(tactic| (repeat' (first
    | with_reducible first
      | refine ws_ret_if ?_ ?_ | refine ws_seq ?_ | refine ws_fd rfl ?_ | refine we_fg_n rfl (fun _ => ?_) | refine we_fg_l rfl (fun _ => ?_) | refine we_fg_s rfl (fun _ => ?_) | refine we_fg_c rfl (fun _ => ?_) | refine we_chain ?_ | refine ws_set ?_ | refine ws_ret ?_ | refine ws_if ?_ | refine ws_nx ?_ | refine ws_par ?_ | refine ws_unp ?_
      | refine we_var rfl ?_ | refine we_c ?_ | refine we_2 ?_ | refine we_1 ?_ | refine we_isi ?_
      | refine wt_e ?_ | refine wt_not ?_ | refine wt_andT ?_ | refine wt_or ?_ | refine we_if ?_ | refine we_not ?_ | refine we_and ?_ | refine we_or ?_
      | refine wa_nil ?_ | refine wa_cons ?_ | refine we_tup ?_ | refine we_lst ?_ | refine we_ca ?_ | refine wo_none ?_ | refine wo_some ?_ | refine we_sl ?_
      | refine wg_nil ?_ | refine wg_d ?_ | refine wg_f rfl ?_ | refine we_call ?_
    | refine draw' (by omega) (by omega) (fun k h0 h1 => ?_)
    | refine ex_mod (by assumption) ?_ | refine ex_fdiv (by assumption) (by assumption) ?_ | refine ex_mulr (by decide) ?_ | refine ex_mull (by decide) ?_ | refine ex_sq (by decide) (by decide) ?_
    | refine wt_isi (by with_reducible first | exact i_tuple_none | exact i_tuple_bool _ | exact i_tuple_int _ | exact i_tuple_str _ | exact i_tuple_list _ | exact i_tuple_tuple _ | exact i_bool_none | exact i_bool_bool _ | exact i_bool_int _ | exact i_bool_str _ | exact i_bool_list _ | exact i_bool_tuple _ | exact i_str_none | exact i_str_bool _ | exact i_str_int _ | exact i_str_str _ | exact i_str_list _ | exact i_str_tuple _ | exact i_int_none | exact i_int_bool _ | exact i_int_int _ | exact i_int_str _ | exact i_int_list _ | exact i_int_tuple _) ?_
    | refine And.intro (Nat.le_of_ble_eq_true rfl) ?_
    | (refine And.intro (fun hb => ?_) (fun hb => ?_) <;> try (first | exact absurd hb (by decide)))
    | (refine fun (hb : (_ : Bool) = _) => ?_ <;> try (first | exact absurd hb (by decide)))
    | refine And.intro True.intro ?_
    | refine Exists.intro _ (And.intro rfl ?_) | refine Exists.intro _ (Exists.intro _ (And.intro rfl ?_)))))

abbrev C (d : Dt) : Prop := gd (10 ^ 60) 1048576 1048576 d = true ∧ PyData.depth d ≤ 20
theorem C.shaped {d : Dt} (h : C d) : SeqAt.shaped d = true := gd_shaped h.1 h.2 (by decide)
theorem C.items {xs : List Dt} (h : C (.tuple xs)) : ∀ x ∈ xs, C x := fun x hx => ⟨(gd_tup.mp h.1).1 x hx, by
  have h2 : PyData.depthAll xs + 1 ≤ 20 := h.2
  have := depthAll_le.mp (Nat.le_refl (PyData.depthAll xs)) x hx
  omega⟩
theorem C.itemsL {xs : List Dt} (h : C (.list xs)) : ∀ x ∈ xs, C x := C.items (xs := xs) h
theorem C.len {xs : List Dt} (h : C (.tuple xs)) : xs.length ≤ sizeLine := Nat.le_trans (gd_tup.mp h.1).2 (by decide)
theorem C.slen {x : Str} (h : C (.str x)) : x.length ≤ sizeLine := by
  have := (gd_str.mp h.1).2
  have e : (cl x).length = x.length := Array.length_toList
  rw [e] at this
  exact Nat.le_trans this (by decide)

/-! is_integer, is_number -/
def sInt : Dt → Bool
  | .int _ => true
  | _ => false
def sNum : Dt → Bool
  | .int i => !dataLt (.int i) (.int 0)
  | _ => false
theorem integer_is {d : Dt} (h : C d) : Can (m_is_integer [.dat d]) fun r => r = .bool (sInt d) := by
  refine can_fn ?_
  unfold b_is_integer
  cases d with
  | dict _ => cases h.1
  | _ =>
    walk_at "go"
    all_goals rfl
theorem number_is {d : Dt} (h : C d) : Can (m_is_number [.dat d]) fun r => r = .bool (sNum d) := by
  refine can_fn ?_
  unfold b_is_number
  refine ws_ret (we_and (we_call (wg_d (we_var rfl (wg_nil ((integer_is h).mono ?_))))))
  rintro r rfl
  cases d with
  | dict _ => cases h.1
  | _ =>
    walk_at "go"
    all_goals first
      | rfl
      | (rename_i hb; cases hb)
/-! is_among(d, some), some a tuple of texts -/
def sAmong (ys : List Str) : Dt → Bool
  | .str x => (ys.map PyData.str).any fun y => PyData.eqv y (.str x)
  | _ => false
theorem flat_strs (ys : List Str) : (ys.map PyData.str).all flatD = true := by
  induction ys with
  | nil => rfl
  | cons y r ih =>
    show (flatD (.str y) && (r.map PyData.str).all flatD) = true
    rw [ih]
    rfl
theorem in_strs (x : Str) (ys : List Str) : inX (.str x) (.tuple (ys.map .str)) = some (.bool ((ys.map PyData.str).any fun y => PyData.eqv y (.str x))) := by
  show (if (flatD (.str x) = true ∧ (ys.map PyData.str).all flatD = true) ∨ _ then some _ else none).map PyData.bool = _
  rw [if_pos (.inl ⟨rfl, flat_strs ys⟩)]
  rfl
theorem nin_strs (x : Str) (ys : List Str) : ninX (.str x) (.tuple (ys.map .str)) = some (.bool (!((ys.map PyData.str).any fun y => PyData.eqv y (.str x)))) := by
  show (if (flatD (.str x) = true ∧ (ys.map PyData.str).all flatD = true) ∨ _ then some _ else none).map (fun b => PyData.bool (!b)) = _
  rw [if_pos (.inl ⟨rfl, flat_strs ys⟩)]
  rfl
theorem among_is {d : Dt} (h : C d) (ys : List Str) : Can (m_is_among [.dat d, .dat (.tuple (ys.map .str))]) fun r => r = .bool (sAmong ys d) := by
  refine can_fn ?_
  unfold b_is_among
  cases d with
  | dict _ => cases h.1
  | str x =>
    refine ws_ret (we_and (we_isi (we_var rfl (wt_isi (i_str_str _) ⟨fun _ => ?_, fun hb => absurd hb (by decide)⟩))))
    exact we_2 (we_var rfl (we_var rfl ⟨_, in_strs x ys, rfl⟩))
  | _ =>
    walk_at "go"
    all_goals rfl
/-! names -/
def lenOk (n : Int) : Bool := !dataLt (.int n) (.int 1) && !dataLt (.int 8) (.int n)
def letters : Str := "abcdefghijklmnopqrstuvwxyz"
def isLet (c : Nat) : Bool := !(Builtin.Str.occurrences letters ⟨#[c]⟩ 0 letters.length 1).isEmpty
def sName : Dt → Bool
  | .str x => lenOk x.length && (cl x).all isLet
  | _ => false
abbrev ch (c : Nat) : Dt := .str ⟨#[c]⟩
theorem all_map {α β : Type} (f : α → β) (p : β → Bool) (xs : List α) : (xs.map f).all p = xs.all fun x => p (f x) := by rw [List.all_map]; rfl
theorem name_is {d : Dt} (h : C d) : Can (m_is_name [.dat d]) fun r => r = .bool (sName d) := by
  refine can_fn ?_
  unfold b_is_name
  cases d with
  | dict _ => cases h.1
  | str x =>
    have hx := h.slen
    refine ws_ret (we_and (we_isi (we_var rfl (wt_isi (i_str_str _) ⟨fun _ => ?_, fun hb => absurd hb (by decide)⟩))))
    have hl : lenD [.str x] = some (.int x.length) := if_pos hx
    refine we_and (we_chain (we_c (we_ca (wa_cons (we_var rfl (wa_nil ⟨_, hl, !dataLt (.int x.length) (.int 1), rfl, fun h1 => ?_, fun h1 => ?_⟩))))))
    · refine we_c ⟨.bool (!dataLt (.int 8) (.int x.length)), rfl, _, rfl, fun h2 => ?_, fun h2 => ?_⟩
      · refine we_all (p := fun y => match y with
          | .str z => !(Builtin.Str.occurrences letters z 0 letters.length 1).isEmpty
          | _ => false) (wi_v (we_var rfl ⟨_, rfl, by rw [List.length_map, Array.length_toList]; exact hx, fun y hy => ?_, ?_⟩))
        · obtain ⟨c, _, rfl⟩ := List.mem_map.mp hy
          exact ⟨_, rfl, we_2 (we_var rfl (we_c ⟨_, rfl, rfl⟩))⟩
        · rw [all_map]
          show PyData.bool ((cl x).all isLet) = .bool (lenOk x.length && (cl x).all isLet)
          unfold lenOk
          rw [h1, h2]
          rfl
      · show PyData.bool (!dataLt (.int 8) (.int x.length)) = .bool (lenOk x.length && (cl x).all isLet)
        unfold lenOk
        rw [h1, h2]
        rfl
    · refine ⟨_, rfl, fun hb => absurd hb (by decide), fun _ => ?_⟩
      show PyData.bool false = .bool (lenOk x.length && (cl x).all isLet)
      unfold lenOk
      rw [h1]
      rfl
  | _ =>
    walk_at "go"
    all_goals rfl
end K09

set_option maxHeartbeats 1000000
namespace K09
open PySem PySem.Spec PyProof.Rows L2 DL PySem.W
local macro_rules
  | `(tactic| walk_at "go") => `(tactic| (repeat' (first
    | with_reducible first
      | refine ws_seq ?_ | refine ws_fd rfl ?_ | refine we_fg_n rfl (fun _ => ?_) | refine we_fg_l rfl (fun _ => ?_) | refine we_fg_s rfl (fun _ => ?_) | refine we_fg_c rfl (fun _ => ?_) | refine we_chain ?_ | refine ws_set ?_ | refine ws_ret ?_ | refine ws_if ?_ | refine ws_nx ?_ | refine ws_par ?_ | refine ws_unp ?_
      | refine we_var rfl ?_ | refine we_c ?_ | refine we_2 ?_ | refine we_1 ?_ | refine we_isi ?_
      | refine wt_e ?_ | refine wt_not ?_ | refine wt_andT ?_ | refine wt_or ?_ | refine we_if ?_ | refine we_not ?_ | refine we_and ?_ | refine we_or ?_
      | refine wa_nil ?_ | refine wa_cons ?_ | refine we_tup ?_ | refine we_lst ?_ | refine we_ca ?_ | refine wo_none ?_ | refine wo_some ?_ | refine we_sl ?_
      | refine wg_nil ?_ | refine wg_d ?_ | refine wg_f rfl ?_ | refine we_call ?_
    | refine draw' (by omega) (by omega) (fun k h0 h1 => ?_)
    | refine ex_mod (by assumption) ?_ | refine ex_fdiv (by assumption) (by assumption) ?_ | refine ex_mulr (by decide) ?_ | refine ex_mull (by decide) ?_ | refine ex_sq (by decide) (by decide) ?_
    | refine wt_isi (by with_reducible first | exact i_tuple_none | exact i_tuple_bool _ | exact i_tuple_int _ | exact i_tuple_str _ | exact i_tuple_list _ | exact i_tuple_tuple _ | exact i_bool_none | exact i_bool_bool _ | exact i_bool_int _ | exact i_bool_str _ | exact i_bool_list _ | exact i_bool_tuple _ | exact i_str_none | exact i_str_bool _ | exact i_str_int _ | exact i_str_str _ | exact i_str_list _ | exact i_str_tuple _ | exact i_int_none | exact i_int_bool _ | exact i_int_int _ | exact i_int_str _ | exact i_int_list _ | exact i_int_tuple _) ?_
    | refine And.intro (Nat.le_of_ble_eq_true rfl) ?_
    | (refine And.intro (fun hb => ?_) (fun hb => ?_) <;> try (first | exact absurd hb (by decide)))
    | (refine fun (hb : (_ : Bool) = _) => ?_ <;> try (first | exact absurd hb (by decide)))
    | refine And.intro True.intro ?_
    | refine Exists.intro _ (And.intro rfl ?_) | refine Exists.intro _ (Exists.intro _ (And.intro rfl ?_)))))
theorem okc_shaped {c : Nat} (h : okc c = true) : SeqAt.shaped (ch c) = true := by
  have h1 : PyData.canLay0 (ch c) = true := okS_strOk (x := ⟨#[c]⟩) (by
    show ([c] : List Nat).all okc = true
    rw [List.all_cons, h]
    rfl)
  unfold SeqAt.shaped
  rw [h1]
  rfl
theorem lay_all : ∀ {xs : List Dt}, (∀ x ∈ xs, SeqAt.shaped x = true) → PyData.canLayAll0 xs = true ∧ PyData.depthAll xs ≤ 64
  | [], _ => ⟨rfl, Nat.zero_le _⟩
  | x :: r, h => by
    obtain ⟨h1, h2⟩ := lay_all (xs := r) fun y hy => h y (List.mem_cons_of_mem _ hy)
    have h3 : (x.canLay0 && decide (x.depth ≤ 64)) = true := h x List.mem_cons_self
    rw [Bool.and_eq_true, decide_eq_true_eq] at h3
    refine ⟨?_, ?_⟩
    · show (PyData.canLay0 x && PyData.canLayAll0 r) = true
      rw [h3.1, h1]
      rfl
    · show max (PyData.depth x) (PyData.depthAll r) ≤ 64
      omega
theorem shaped_list {xs : List Dt} (h : ∀ x ∈ xs, SeqAt.shaped x = true) (hd : PyData.depthAll xs + 1 ≤ 64) : SeqAt.shaped (.list xs) = true := by
  unfold SeqAt.shaped
  rw [show PyData.canLay0 (.list xs) = true from (lay_all h).1, Bool.true_and]
  exact decide_eq_true hd
theorem left_shaped {xs : List Dt} (h : ∀ x ∈ xs, C x) (p : Dt → Bool) : SeqAt.shaped (.list (xs.filter p)) = true :=
  shaped_list (fun x hx => (h x (List.mem_filter.mp hx).1).shaped) (by
    have := (depthAll_le (xs := xs.filter p) (k := 20)).mpr fun x hx => (h x (List.mem_filter.mp hx).1).2
    omega)
def strLet : Dt → Bool
  | .str z => !(Builtin.Str.occurrences letters z 0 letters.length 1).isEmpty
  | _ => false
/-! two -/
def two (p : Dt → Dt → Bool) : Dt → Bool
  | .tuple [a, b] => p a b
  | _ => false
def sTwo : Dt → Bool := two fun _ _ => true
theorem eq_len (n m : Int) : eqD (.int n) (.int m) = some (.bool (n == m)) := rfl
theorem two_len {xs : List Dt} (h : xs.length ≠ 2) (p : Dt → Dt → Bool) : two p (.tuple xs) = false := by
  unfold two
  split
  · rename_i heq
    cases heq
    exact absurd rfl h
  · rfl
theorem two_cases {xs : List Dt} (h : xs.length = 2) : ∃ a b, xs = [a, b] := by
  match xs, h with
  | [a, b], _ => exact ⟨a, b, rfl⟩
theorem twofold_is {d : Dt} (h : C d) : Can (m_is_twofold [.dat d]) fun r => r = .bool (sTwo d) := by
  refine can_fn ?_
  unfold b_is_twofold
  cases d with
  | dict _ => cases h.1
  | tuple xs =>
    refine ws_ret (we_and (we_isi (we_var rfl (wt_isi (i_tuple_tuple _) ⟨fun _ => ?_, fun hb => absurd hb (by decide)⟩))))
    refine we_2 (we_ca (wa_cons (we_var rfl (wa_nil ⟨_, rfl, we_c ⟨_, eq_len _ _, ?_⟩⟩))))
    by_cases h2 : xs.length = 2
    · obtain ⟨a, b, rfl⟩ := two_cases h2
      rfl
    · show PyData.bool ((xs.length : Int) == 2) = .bool (two _ (.tuple xs))
      rw [two_len h2]
      have : ((xs.length : Int) == 2) = false := by simp; omega
      rw [this]
  | _ =>
    walk_at "go"
    all_goals rfl
end K09

set_option maxHeartbeats 1000000
namespace K09
open PySem PySem.Spec PyProof.Rows L2 DL PySem.W
local macro_rules
  | `(tactic| walk_at "go") => `(tactic| (repeat' (first
    | with_reducible first
      | refine ws_seq ?_ | refine ws_fd rfl ?_ | refine we_fg_n rfl (fun _ => ?_) | refine we_fg_l rfl (fun _ => ?_) | refine we_fg_s rfl (fun _ => ?_) | refine we_fg_c rfl (fun _ => ?_) | refine we_chain ?_ | refine ws_set ?_ | refine ws_ret ?_ | refine ws_if ?_ | refine ws_nx ?_ | refine ws_par ?_ | refine ws_unp ?_
      | refine we_var rfl ?_ | refine we_c ?_ | refine we_2 ?_ | refine we_1 ?_ | refine we_isi ?_
      | refine wt_e ?_ | refine wt_not ?_ | refine wt_andT ?_ | refine wt_or ?_ | refine we_if ?_ | refine we_not ?_ | refine we_and ?_ | refine we_or ?_
      | refine wa_nil ?_ | refine wa_cons ?_ | refine we_tup ?_ | refine we_lst ?_ | refine we_ca ?_ | refine wo_none ?_ | refine wo_some ?_ | refine we_sl ?_
      | refine wg_nil ?_ | refine wg_d ?_ | refine wg_f rfl ?_ | refine we_call ?_
    | refine draw' (by omega) (by omega) (fun k h0 h1 => ?_)
    | refine ex_mod (by assumption) ?_ | refine ex_fdiv (by assumption) (by assumption) ?_ | refine ex_mulr (by decide) ?_ | refine ex_mull (by decide) ?_ | refine ex_sq (by decide) (by decide) ?_
    | refine wt_isi (by with_reducible first | exact i_tuple_none | exact i_tuple_bool _ | exact i_tuple_int _ | exact i_tuple_str _ | exact i_tuple_list _ | exact i_tuple_tuple _ | exact i_bool_none | exact i_bool_bool _ | exact i_bool_int _ | exact i_bool_str _ | exact i_bool_list _ | exact i_bool_tuple _ | exact i_str_none | exact i_str_bool _ | exact i_str_int _ | exact i_str_str _ | exact i_str_list _ | exact i_str_tuple _ | exact i_int_none | exact i_int_bool _ | exact i_int_int _ | exact i_int_str _ | exact i_int_list _ | exact i_int_tuple _) ?_
    | refine And.intro (Nat.le_of_ble_eq_true rfl) ?_
    | (refine And.intro (fun hb => ?_) (fun hb => ?_) <;> try (first | exact absurd hb (by decide)))
    | (refine fun (hb : (_ : Bool) = _) => ?_ <;> try (first | exact absurd hb (by decide)))
    | refine And.intro True.intro ?_
    | refine Exists.intro _ (And.intro rfl ?_) | refine Exists.intro _ (Exists.intro _ (And.intro rfl ?_)))))

/-! membership in a tuple of texts -/
def sIn (ys : List Str) (d : Dt) : Bool := (ys.map PyData.str).any fun y => PyData.eqv y d
theorem sIn_no {ys : List Str} {d : Dt} (h : ∀ x, d ≠ .str x) : sIn ys d = false := by
  unfold sIn
  rw [List.any_eq_false]
  intro y hy
  obtain ⟨z, _, rfl⟩ := List.mem_map.mp hy
  cases d with
  | str x => exact absurd rfl (h x)
  | _ => exact Bool.false_ne_true
theorem among_in (ys : List Str) (d : Dt) : sAmong ys d = sIn ys d := by
  cases d with
  | str x => rfl
  | _ => exact (sIn_no fun x => by simp).symm
theorem strs_shaped {ys : List Str} (h : ys.all okS = true) : SeqAt.shaped (.tuple (ys.map .str)) = true :=
  shaped_list (xs := ys.map PyData.str) (fun y hy => by
    obtain ⟨z, hz, rfl⟩ := List.mem_map.mp hy
    have h1 : PyData.canLay0 (.str z) = true := okS_strOk (List.all_eq_true.mp h z hz)
    unfold SeqAt.shaped
    rw [h1]
    rfl) (Nat.succ_le_of_lt (Nat.lt_of_le_of_lt ((depthAll_le (k := 0)).mpr fun y hy => by
    obtain ⟨z, hz, rfl⟩ := List.mem_map.mp hy
    exact Nat.le_refl 0) (by decide)))
theorem mem_any {ys : List Str} (h : ys.all okS = true) {d : Dt} (hd : C d) : memX d (.tuple (ys.map .str)) = some (sIn ys d) := if_pos (.inr ⟨hd.shaped, strs_shaped h⟩)
theorem in_any {ys : List Str} (h : ys.all okS = true) {d : Dt} (hd : C d) {P : Dt → Prop} (p : P (.bool (sIn ys d))) : ∃ z, inX d (.tuple (ys.map .str)) = some z ∧ P z := ⟨_, by unfold inX; rw [mem_any h hd]; rfl, p⟩
theorem nin_any {ys : List Str} (h : ys.all okS = true) {d : Dt} (hd : C d) {P : Dt → Prop} (p : P (.bool (!sIn ys d))) : ∃ z, ninX d (.tuple (ys.map .str)) = some z ∧ P z := ⟨_, by unfold ninX; rw [mem_any h hd]; rfl, p⟩
abbrev HOLDS : List Str := ["none", "open", "marked"]
abbrev OM : List Str := ["open", "marked"]
theorem all_among {ρ : Rho} {ys : List Str} {f : ME} {P : Dt → Prop} {j : Nat} {xs : List Dt} {e : ME} (hx : ∀ x ∈ xs, C x) (hl : xs.length ≤ sizeLine) (hj : j < (wipeR ρ [j]).length) (he : ∀ ρ, wE1 e ρ fun y => y = .tuple (ys.map .str)) (hf : wE1 f ρ fun x => x = .tuple xs) (p : P (.bool (xs.all (sIn ys)))) :
    wE1 (mCa allD (maCons (mLc (miV f) (.nm j) mtYes (mCall m_is_among (mgD (mVar j) (mgD e mgNil))) [j]) maNil)) ρ P :=
  we_all (p := sIn ys) (wi_v (hf.mono fun x e1 => by
    subst e1
    refine ⟨_, rfl, hl, fun x hx1 => ⟨_, rfl, ?_⟩, p⟩
    refine we_call (wg_d (we_var (List.getElem?_set_self hj) (wg_d ((he _).mono fun y e2 => ?_))))
    subst e2
    refine wg_nil ((among_is (hx x hx1) ys).mono fun r e3 => ?_)
    rw [e3, among_in]))
def sPair : Dt → Bool := two fun a b => sIn HOLDS a && (sIn HOLDS b && true)
theorem pair_is {d : Dt} (h : C d) : Can (m_is_pair [.dat d]) fun r => r = .bool (sPair d) := by
  refine can_fn ?_
  unfold b_is_pair
  refine ws_ret (we_and (we_call (wg_d (we_var rfl (wg_nil ((twofold_is h).mono ?_))))))
  rintro r rfl
  refine ⟨_, rfl, fun hb => ?_, fun hb => ?_⟩
  · cases d with
    | tuple xs =>
      by_cases h2 : xs.length = 2
      · obtain ⟨a, b, rfl⟩ := two_cases h2
        refine all_among (ys := HOLDS) (xs := [a, b]) h.items h.len (show 1 < 2 by decide) (fun ρ => we_c rfl) (we_var rfl rfl) ?_
        rfl
      · exact absurd hb (by rw [show sTwo (.tuple xs) = false from two_len h2 _]; decide)
    | _ => cases hb
  · cases d with
    | tuple xs =>
      by_cases h2 : xs.length = 2
      · obtain ⟨a, b, rfl⟩ := two_cases h2
        cases hb
      · show PyData.bool (sTwo (.tuple xs)) = .bool (two _ (.tuple xs))
        rw [two_len h2, show sTwo (.tuple xs) = false from two_len h2 _]
    | _ => rfl
def sBegin : Dt → Bool := two fun a b => sIn OM a && (sIn OM b && true)
theorem om_eq (d : Dt) : sIn OM d = (sIn HOLDS d && !PyData.eqv (.str "none") d) := by
  cases d with
  | str x =>
    show (("open" : Str) == x || (("marked" : Str) == x || false)) = ((("none" : Str) == x || (("open" : Str) == x || (("marked" : Str) == x || false))) && !(("none" : Str) == x))
    by_cases hx : ("none" : Str) = x
    · subst hx
      decide +kernel
    · have : (("none" : Str) == x) = false := by simpa using hx
      rw [this]
      simp
  | _ =>
    rw [sIn_no fun x => by simp, sIn_no fun x => by simp]
    rfl
theorem begin_is {d : Dt} (h : C d) : Can (m_is_begin [.dat d]) fun r => r = .bool (sBegin d) := by
  refine can_fn ?_
  unfold b_is_begin
  refine ws_ret (we_and (we_call (wg_d (we_var rfl (wg_nil ((pair_is h).mono ?_))))))
  rintro r rfl
  refine ⟨_, rfl, fun hb => ?_, fun hb => ?_⟩
  · cases d with
    | tuple xs =>
      by_cases h2 : xs.length = 2
      · obtain ⟨a, b, rfl⟩ := two_cases h2
        have hb' : (sIn HOLDS a && (sIn HOLDS b && true)) = true := hb
        rw [Bool.and_true, Bool.and_eq_true] at hb'
        have isS : ∀ {z : Dt}, sIn HOLDS z = true → ∃ x, z = .str x := fun {z} hz => by
          cases z with
          | str x => exact ⟨x, rfl⟩
          | _ => rw [sIn_no fun x => by simp] at hz; cases hz
        obtain ⟨x, rfl⟩ := isS hb'.1
        obtain ⟨y, rfl⟩ := isS hb'.2
        refine we_2 (we_c (we_var rfl ⟨_, nin_strs "none" [x, y], ?_⟩))
        show PyData.bool (!((x == ("none" : Str)) || ((y == ("none" : Str)) || false))) = .bool (sIn OM (.str x) && (sIn OM (.str y) && true))
        rw [om_eq, om_eq, hb'.1, hb'.2]
        show PyData.bool (!((x == ("none" : Str)) || ((y == ("none" : Str)) || false))) = .bool ((true && !(("none" : Str) == x)) && ((true && !(("none" : Str) == y)) && true))
        rw [beq_swap x, beq_swap y]
        cases ("none" : Str) == x <;> cases ("none" : Str) == y <;> rfl
      · exact absurd hb (by rw [show sPair (.tuple xs) = false from two_len h2 _]; decide)
    | _ => cases hb
  · cases d with
    | tuple xs =>
      by_cases h2 : xs.length = 2
      · obtain ⟨a, b, rfl⟩ := two_cases h2
        have hb' : (sIn HOLDS a && (sIn HOLDS b && true)) = false := hb
        show PyData.bool (sIn HOLDS a && (sIn HOLDS b && true)) = .bool (sIn OM a && (sIn OM b && true))
        rw [hb', om_eq, om_eq]
        cases h3 : sIn HOLDS a with
        | false => rfl
        | true =>
          rw [h3] at hb'
          have : sIn HOLDS b = false := by simpa using hb'
          rw [this]
          simp
      · show PyData.bool (sPair (.tuple xs)) = .bool (two _ (.tuple xs))
        rw [two_len h2, show sPair (.tuple xs) = false from two_len h2 _]
    | _ => rfl
theorem all_in {ρ : Rho} {ys : List Str} (hy : ys.all okS = true) {f e : ME} {P : Dt → Prop} {j : Nat} {xs : List Dt} (hx : ∀ x ∈ xs, C x) (hl : xs.length ≤ sizeLine) (hj : j < (wipeR ρ [j]).length) (he : ∀ ρ, wE1 e ρ fun y => y = .tuple (ys.map .str)) (hf : wE1 f ρ fun x => x = .tuple xs) (p : P (.bool (xs.all (sIn ys)))) :
    wE1 (m2 eqD (mLc (miV f) (.nm j) (mtE (m2 ninX (mVar j) e) asBool) (mVar j) [j]) (mLst maNil)) ρ P :=
  we_2 (we_lc (p := fun y => !sIn ys y) (q := id) (wi_v (hf.mono fun x e1 => by
    subst e1
    refine ⟨_, rfl, hl, fun x hx1 => ⟨wt_e (we_2 (we_var (List.getElem?_set_self hj) ((he _).mono fun y e2 => ?_))), fun _ => we_var (List.getElem?_set_self hj) rfl⟩, ?_⟩
    · subst e2
      exact nin_any hy (hx x hx1) ⟨_, rfl, rfl⟩
    · rw [List.map_id]
      exact we_lst (wa_nil ⟨Nat.zero_le _, _, (none_left (fun x hx1 => (hx x hx1).shaped) (left_shaped hx _)).1, p⟩))))
end K09

set_option maxHeartbeats 1000000
namespace K09
open PySem PySem.Spec PyProof.Rows L2 DL PySem.W
local macro_rules
  | `(tactic| walk_at "go") => `(tactic| (repeat' (first
    | with_reducible first
      | refine ws_seq ?_ | refine ws_fd rfl ?_ | refine we_fg_n rfl (fun _ => ?_) | refine we_fg_l rfl (fun _ => ?_) | refine we_fg_s rfl (fun _ => ?_) | refine we_fg_c rfl (fun _ => ?_) | refine we_chain ?_ | refine ws_set ?_ | refine ws_ret ?_ | refine ws_if ?_ | refine ws_nx ?_ | refine ws_par ?_ | refine ws_unp ?_
      | refine we_var rfl ?_ | refine we_c ?_ | refine we_2 ?_ | refine we_1 ?_ | refine we_isi ?_
      | refine wt_e ?_ | refine wt_not ?_ | refine wt_andT ?_ | refine wt_or ?_ | refine we_if ?_ | refine we_not ?_ | refine we_and ?_ | refine we_or ?_
      | refine wa_nil ?_ | refine wa_cons ?_ | refine we_tup ?_ | refine we_lst ?_ | refine we_ca ?_ | refine wo_none ?_ | refine wo_some ?_ | refine we_sl ?_
      | refine wg_nil ?_ | refine wg_d ?_ | refine wg_f rfl ?_ | refine we_call ?_
    | refine draw' (by omega) (by omega) (fun k h0 h1 => ?_)
    | refine ex_mod (by assumption) ?_ | refine ex_fdiv (by assumption) (by assumption) ?_ | refine ex_mulr (by decide) ?_ | refine ex_mull (by decide) ?_ | refine ex_sq (by decide) (by decide) ?_
    | refine wt_isi (by with_reducible first | exact i_tuple_none | exact i_tuple_bool _ | exact i_tuple_int _ | exact i_tuple_str _ | exact i_tuple_list _ | exact i_tuple_tuple _ | exact i_bool_none | exact i_bool_bool _ | exact i_bool_int _ | exact i_bool_str _ | exact i_bool_list _ | exact i_bool_tuple _ | exact i_str_none | exact i_str_bool _ | exact i_str_int _ | exact i_str_str _ | exact i_str_list _ | exact i_str_tuple _ | exact i_int_none | exact i_int_bool _ | exact i_int_int _ | exact i_int_str _ | exact i_int_list _ | exact i_int_tuple _) ?_
    | refine And.intro (Nat.le_of_ble_eq_true rfl) ?_
    | (refine And.intro (fun hb => ?_) (fun hb => ?_) <;> try (first | exact absurd hb (by decide)))
    | (refine fun (hb : (_ : Bool) = _) => ?_ <;> try (first | exact absurd hb (by decide)))
    | refine And.intro True.intro ?_
    | refine Exists.intro _ (And.intro rfl ?_) | refine Exists.intro _ (Exists.intro _ (And.intro rfl ?_)))))

/-! births -/
abbrev BIRTHS : List Str := ["copy", "start"]
def sBirth : Dt → Bool := two fun a b => sIn BIRTHS a && sName b
theorem birth_is {d : Dt} (h : C d) : Can (m_is_birth [.dat d]) fun r => r = .bool (sBirth d) := by
  refine can_fn ?_
  unfold b_is_birth
  refine ws_ret (we_and (we_call (wg_d (we_var rfl (wg_nil ((twofold_is h).mono ?_))))))
  rintro r rfl
  refine ⟨_, rfl, fun hb => ?_, fun hb => ?_⟩
  · cases d with
    | tuple xs =>
      by_cases h2 : xs.length = 2
      · obtain ⟨a, b, rfl⟩ := two_cases h2
        have ha := h.items a List.mem_cons_self
        have hb2 := h.items b (List.mem_cons_of_mem _ List.mem_cons_self)
        refine we_and (we_call (wg_d (we_2 (we_var rfl (we_c ⟨_, rfl, wg_d (we_c (wg_nil ((among_is ha BIRTHS).mono ?_)))⟩)))))
        rintro r rfl
        rw [among_in]
        refine ⟨_, rfl, fun h3 => ?_, fun h3 => ?_⟩
        · refine we_call (wg_d (we_2 (we_var rfl (we_c ⟨_, rfl, wg_nil ((name_is hb2).mono ?_)⟩))))
          rintro r rfl
          show PyData.bool (sName b) = .bool (sIn BIRTHS a && sName b)
          rw [h3, Bool.true_and]
        · show PyData.bool (sIn BIRTHS a) = .bool (sIn BIRTHS a && sName b)
          rw [h3, Bool.false_and]
      · exact absurd hb (by rw [show sTwo (.tuple xs) = false from two_len h2 _]; decide)
    | _ => cases hb
  · cases d with
    | tuple xs =>
      by_cases h2 : xs.length = 2
      · obtain ⟨a, b, rfl⟩ := two_cases h2
        cases hb
      · show PyData.bool (sTwo (.tuple xs)) = .bool (two _ (.tuple xs))
        rw [two_len h2, show sTwo (.tuple xs) = false from two_len h2 _]
    | _ => rfl
/-! rising -/
def rise : List Dt → Bool
  | x :: y :: r => dataLt x y && rise (y :: r)
  | _ => true
abbrev Ord (xs : List Dt) : Prop := (∀ x ∈ xs, ∀ y ∈ xs, alike x y = true) ∧ ∀ x ∈ xs, x ≠ .none
theorem cmp_ok {x y : Dt} (h1 : alike x y = true) (h2 : x ≠ .none) (h3 : C x) : cmpOk x y = true := by
  unfold cmpOk
  rw [h1]
  have h4 : decide (x.depth ≤ 64) = true := decide_eq_true (Nat.le_trans h3.2 (by decide))
  rw [h4]
  cases x <;> first | rfl | exact absurd rfl h2
def pairLt : Dt → Bool
  | .tuple [a, b] => dataLt a b
  | _ => false
theorem rise_zip : ∀ xs : List Dt, ((xs.zip (xs.drop 1)).map fun p => PyData.tuple [p.1, p.2]).all pairLt = rise xs
  | [] => rfl
  | [x] => rfl
  | x :: y :: r => by
    have ih := rise_zip (y :: r)
    show (dataLt x y && (((y :: r).zip r).map fun p => PyData.tuple [p.1, p.2]).all pairLt) = (dataLt x y && rise (y :: r))
    rw [← ih]
    rfl
theorem rising_is {xs : List Dt} (h : C (.tuple xs)) (ho : Ord xs) : Can (m_is_rising [.dat (.tuple xs)]) fun r => r = .bool (rise xs) := by
  refine can_fn ?_
  unfold b_is_rising
  have e1 : cutL xs (some 1) none = xs.drop 1 := cut_drop (k := 1)
  refine ws_ret (we_all (p := pairLt) (wi_zip (we_var rfl (we_sl (we_var rfl (wo_some (we_c ⟨_, rfl, wo_none ⟨_, rfl, _, rfl, ?_, fun x hx => ?_, ?_⟩⟩)))))))
  · rw [List.length_map, List.length_zip]
    have := h.len
    omega
  · obtain ⟨⟨a, b⟩, hp, rfl⟩ := List.mem_map.mp hx
    have ha : a ∈ xs := (List.of_mem_zip hp).1
    have hb : b ∈ xs := cut_mem (List.of_mem_zip hp).2
    refine ⟨_, rfl, we_2 (we_var rfl (we_var rfl ⟨_, if_pos (cmp_ok (ho.1 a ha b hb) (ho.2 a ha) (h.items a ha)), rfl⟩))⟩
  · rw [e1, rise_zip]
/-! targets -/
def sTargets : Dt → Bool
  | .tuple xs => !xs.isEmpty && (xs.all sNum && rise xs)
  | _ => false
theorem num_ord {xs : List Dt} (h : xs.all sNum = true) : Ord xs := by
  have key : ∀ x ∈ xs, ∃ i, x = .int i := fun x hx => by
    have := List.all_eq_true.mp h x hx
    cases x with
    | int i => exact ⟨i, rfl⟩
    | _ => cases this
  refine ⟨fun x hx y hy => ?_, fun x hx => ?_⟩
  · obtain ⟨i, rfl⟩ := key x hx
    obtain ⟨j, rfl⟩ := key y hy
    rfl
  · obtain ⟨i, rfl⟩ := key x hx
    exact fun e => by cases e
theorem len_zero (xs : List Dt) : ((xs.length : Int) == 0) = xs.isEmpty := by
  cases xs with
  | nil => rfl
  | cons x r =>
    show (((r.length + 1 : Nat) : Int) == 0) = false
    simp
    omega
theorem targets_is {d : Dt} (h : C d) : Can (m_is_targets [.dat d]) fun r => r = .bool (sTargets d) := by
  refine can_fn ?_
  unfold b_is_targets
  cases d with
  | dict _ => cases h.1
  | tuple xs =>
    refine ws_seq (ws_if (wt_or (wt_not (wt_e (we_isi (we_var rfl (wt_isi (i_tuple_tuple _) ⟨fun hb => absurd hb (by decide), fun _ => ?_⟩)))))))
    refine wt_e (we_2 (we_ca (wa_cons (we_var rfl (wa_nil ⟨_, rfl, we_c ⟨_, eq_len _ _, _, rfl, fun hb => ?_, fun hb => ?_⟩⟩)))))
    · rw [len_zero] at hb
      refine ws_ret (we_c ?_)
      show PyData.bool false = .bool (!xs.isEmpty && _)
      rw [hb]
      rfl
    · rw [len_zero] at hb
      refine ws_nx (ws_ret (we_and (we_all (p := sNum) (wi_v (we_var rfl ⟨_, rfl, h.len, fun x hx => ⟨_, rfl, we_call (wg_d (we_var rfl (wg_nil ((number_is (h.items x hx)).mono fun r e => e))))⟩, _, rfl, fun hn => ?_, fun hn => ?_⟩)))))
      · refine we_call (wg_d (we_var rfl (wg_nil ((rising_is h (num_ord hn)).mono ?_))))
        rintro r rfl
        show PyData.bool (rise xs) = .bool (!xs.isEmpty && (xs.all sNum && rise xs))
        rw [hb, hn]
        rfl
      · show PyData.bool (xs.all sNum) = .bool (!xs.isEmpty && (xs.all sNum && rise xs))
        rw [hb, hn]
        rfl
  | _ =>
    walk_at "go"
    all_goals rfl
end K09

set_option maxHeartbeats 1000000
namespace K09
open PySem PySem.Spec PyProof.Rows L2 DL PySem.W
local macro_rules
  | `(tactic| walk_at "go") => `(tactic| (repeat' (first
    | with_reducible first
      | refine ws_seq ?_ | refine ws_fd rfl ?_ | refine we_fg_n rfl (fun _ => ?_) | refine we_fg_l rfl (fun _ => ?_) | refine we_fg_s rfl (fun _ => ?_) | refine we_fg_c rfl (fun _ => ?_) | refine we_chain ?_ | refine ws_set ?_ | refine ws_ret ?_ | refine ws_if ?_ | refine ws_nx ?_ | refine ws_par ?_ | refine ws_unp ?_
      | refine we_var rfl ?_ | refine we_c ?_ | refine we_2 ?_ | refine we_1 ?_ | refine we_isi ?_
      | refine wt_e ?_ | refine wt_not ?_ | refine wt_andT ?_ | refine wt_or ?_ | refine we_if ?_ | refine we_not ?_ | refine we_and ?_ | refine we_or ?_
      | refine wa_nil ?_ | refine wa_cons ?_ | refine we_tup ?_ | refine we_lst ?_ | refine we_ca ?_ | refine wo_none ?_ | refine wo_some ?_ | refine we_sl ?_
      | refine wg_nil ?_ | refine wg_d ?_ | refine wg_f rfl ?_ | refine we_call ?_
    | refine draw' (by omega) (by omega) (fun k h0 h1 => ?_)
    | refine ex_mod (by assumption) ?_ | refine ex_fdiv (by assumption) (by assumption) ?_ | refine ex_mulr (by decide) ?_ | refine ex_mull (by decide) ?_ | refine ex_sq (by decide) (by decide) ?_
    | refine wt_isi (by with_reducible first | exact i_tuple_none | exact i_tuple_bool _ | exact i_tuple_int _ | exact i_tuple_str _ | exact i_tuple_list _ | exact i_tuple_tuple _ | exact i_bool_none | exact i_bool_bool _ | exact i_bool_int _ | exact i_bool_str _ | exact i_bool_list _ | exact i_bool_tuple _ | exact i_str_none | exact i_str_bool _ | exact i_str_int _ | exact i_str_str _ | exact i_str_list _ | exact i_str_tuple _ | exact i_int_none | exact i_int_bool _ | exact i_int_int _ | exact i_int_str _ | exact i_int_list _ | exact i_int_tuple _) ?_
    | refine And.intro (Nat.le_of_ble_eq_true rfl) ?_
    | (refine And.intro (fun hb => ?_) (fun hb => ?_) <;> try (first | exact absurd hb (by decide)))
    | (refine fun (hb : (_ : Bool) = _) => ?_ <;> try (first | exact absurd hb (by decide)))
    | refine And.intro True.intro ?_
    | refine Exists.intro _ (And.intro rfl ?_) | refine Exists.intro _ (Exists.intro _ (And.intro rfl ?_)))))

theorem eq_nil {xs : List Dt} (h : SeqAt.shaped (.tuple xs) = true) : eqD (.tuple xs) (.tuple []) = some (.bool xs.isEmpty) := by
  have h2 : eqD (.tuple xs) (.tuple []) = some (.bool (PyData.eqv (.tuple xs) (.tuple []))) := if_pos ⟨h, rfl⟩
  rw [h2]
  cases xs <;> rfl
abbrev gt (xs : List Dt) (k : Nat) : Dt := xs.getD k .none
theorem gt_mem {xs : List Dt} {k : Nat} (h : k < xs.length) : gt xs k ∈ xs ∧ xs[k]? = some (gt xs k) := by
  have e : xs[k]? = some xs[k] := List.getElem?_eq_getElem h
  have e2 : gt xs k = xs[k] := by
    show xs.getD k .none = _
    rw [List.getD_eq_getElem?_getD, e]
    rfl
  rw [e2]
  exact ⟨List.getElem_mem h, e⟩
theorem ix_get {xs : List Dt} {k : Nat} (h : k < xs.length) : ixD (.tuple xs) (.int (k : Int)) = some (gt xs k) := by
  show atI xs (k : Int) = _
  unfold atI ixN
  rw [if_pos (by omega), if_pos (by omega)]
  show xs[(k : Int).toNat]? = _
  rw [Int.toNat_natCast]
  exact (gt_mem h).2
theorem rise_at : ∀ xs : List Dt, rise xs = (List.range (xs.length - 1)).all fun k => dataLt (gt xs k) (gt xs (k + 1))
  | [] => rfl
  | [x] => rfl
  | x :: y :: r => by
    have ih := rise_at (y :: r)
    show (dataLt x y && rise (y :: r)) = (List.range (r.length + 1)).all _
    rw [List.range_succ_eq_map, List.all_cons, all_map, ih]
    rfl
theorem ge_data' {x y : Dt} (h : cmpOk x y = true) : geX x y = some (.bool (!dataLt x y)) := if_pos h
theorem lrise {xs : List Dt} (h : C (.tuple xs)) (ho : Ord xs) {ρ : Rho} (h0 : ∀ z : Dt, (((wipeR ρ [1]).set 1 (.dat z)))[0]? = some (.dat (.tuple xs))) (h1 : ρ[0]? = some (.dat (.tuple xs))) (hj : 1 < (wipeR ρ [1]).length) {P : Dt → Prop} (p : P (.bool (rise xs))) :
    wE1 (m2 eqD (mLc (miR2 (mC (.int 1)) (mCa lenD (maCons (mVar 0) maNil))) (.nm 1) (mtE (m2 geX (m2 ixD (mVar 0) (m2 subD (mVar 1) (mC (.int 1)))) (m2 ixD (mVar 0) (mVar 1))) asBool) (mVar 1) [1]) (mLst maNil)) ρ P := by
  have hl := h.len
  have hl2 : xs.length ≤ 16777216 := hl
  let q : Dt → Bool := fun z => match z with
    | .int z => dataLt (gt xs (z - 1).toNat) (gt xs z.toNat)
    | _ => false
  have qi : ∀ k : Nat, q (.int (1 + (k : Int))) = dataLt (gt xs k) (gt xs (k + 1)) := fun k => by
    show dataLt (gt xs (1 + (k : Int) - 1).toNat) (gt xs (1 + (k : Int)).toNat) = _
    rw [show (1 + (k : Int) - 1).toNat = k by omega, show (1 + (k : Int)).toNat = k + 1 by omega]
  have ec : ((xs.length : Int) - 1).toNat = xs.length - 1 := by omega
  refine we_2 (we_lc (p := fun z => !q z) (q := id) (wi_r2 (we_c (we_ca (wa_cons (we_var h1 (wa_nil ⟨_, rfl, 1, xs.length, rfl, rfl, ⟨⟨by omega, by omega⟩, by omega, by omega⟩, ?_, fun x hx => ?_, ?_⟩)))))))
  · rw [List.length_map, List.length_range]
    omega
  · obtain ⟨k, hk, rfl⟩ := List.mem_map.mp hx
    rw [List.mem_range, ec] at hk
    have k1 : k < xs.length := by omega
    have k2 : k + 1 < xs.length := by omega
    have m1 := (gt_mem k1).1
    have m2 := (gt_mem k2).1
    refine ⟨wt_e (we_2 (we_2 (we_var (h0 _) (we_2 (we_var (List.getElem?_set_self hj) (we_c ⟨_, rfl, gt xs k, ?_, we_2 (we_var (h0 _) (we_var (List.getElem?_set_self hj) ⟨gt xs (k + 1), ?_, _, ge_data' (cmp_ok (ho.1 _ m1 _ m2) (ho.2 _ m1) (h.items _ m1)), _, rfl, ?_⟩))⟩)))))), fun _ => we_var (List.getElem?_set_self hj) rfl⟩
    · rw [show (1 + (k : Int) - 1) = (k : Int) by omega]
      exact ix_get k1
    · rw [show (1 + (k : Int)) = ((k + 1 : Nat) : Int) by omega]
      exact ix_get k2
    · show _ = !q (.int (1 + (k : Int)))
      rw [qi]
  · rw [List.map_id]
    have sh : ∀ x ∈ (List.range ((xs.length : Int) - 1).toNat).map fun k => PyData.int (1 + (k : Nat)), SeqAt.shaped x = true := fun x hx => by
      obtain ⟨k, _, rfl⟩ := List.mem_map.mp hx
      rfl
    refine we_lst (wa_nil ⟨Nat.zero_le _, _, (none_left (p := q) sh (shaped_list (fun y hy => sh y (List.mem_filter.mp hy).1) ?_)).1, ?_⟩)
    · have := (depthAll_le (xs := ((List.range ((xs.length : Int) - 1).toNat).map fun k => PyData.int (1 + (k : Nat))).filter fun z => !q z) (k := 0)).mpr fun y hy => by
        obtain ⟨k, _, rfl⟩ := List.mem_map.mp (List.mem_filter.mp hy).1
        exact Nat.le_refl 0
      exact Nat.le_trans (Nat.succ_le_succ this) (by decide)
    · rw [all_map, ec, show ((List.range (xs.length - 1)).all fun x => q (.int (1 + (x : Int)))) = rise xs from by rw [rise_at]; exact congrArg _ (funext qi)]
      exact p
/-! asides -/
def sAsides : Dt → Bool
  | .tuple xs => xs.all sBirth && rise xs
  | _ => false
theorem birth_form {d : Dt} (h : sBirth d = true) : ∃ x y : Str, d = .tuple [.str x, .str y] := by
  cases d with
  | tuple xs =>
    by_cases h2 : xs.length = 2
    · obtain ⟨a, b, rfl⟩ := two_cases h2
      have h' : (sIn BIRTHS a && sName b) = true := h
      rw [Bool.and_eq_true] at h'
      cases a with
      | str x =>
        cases b with
        | str y => exact ⟨x, y, rfl⟩
        | _ => cases h'.2
      | _ => exact absurd h'.1 (by rw [sIn_no fun x => by simp]; decide)
    · rw [show sBirth (.tuple xs) = false from two_len h2 _] at h
      cases h
  | _ => cases h
theorem birth_ord {xs : List Dt} (h : xs.all sBirth = true) : Ord xs := by
  refine ⟨fun x hx y hy => ?_, fun x hx => ?_⟩
  · obtain ⟨a, b, rfl⟩ := birth_form (List.all_eq_true.mp h x hx)
    obtain ⟨c, d, rfl⟩ := birth_form (List.all_eq_true.mp h y hy)
    rfl
  · obtain ⟨a, b, rfl⟩ := birth_form (List.all_eq_true.mp h x hx)
    exact fun e => by cases e
theorem asides_is {d : Dt} (h : C d) : Can (m_is_asides [.dat d]) fun r => r = .bool (sAsides d) := by
  refine can_fn ?_
  unfold b_is_asides
  cases d with
  | dict _ => cases h.1
  | tuple xs =>
    refine ws_ret (we_and (we_isi (we_var rfl (wt_isi (i_tuple_tuple _) ⟨fun _ => ?_, fun hb => absurd hb (by decide)⟩))))
    refine we_and (we_all (p := sBirth) (wi_v (we_var rfl ⟨_, rfl, h.len, fun x hx => ⟨_, rfl, we_call (wg_d (we_var rfl (wg_nil ((birth_is (h.items x hx)).mono fun r e => e))))⟩, _, rfl, fun hn => ?_, fun hn => ?_⟩)))
    · refine we_call (wg_d (we_var rfl (wg_nil ((rising_is h (birth_ord hn)).mono ?_))))
      rintro r rfl
      show PyData.bool (rise xs) = .bool (xs.all sBirth && rise xs)
      rw [hn]
      rfl
    · show PyData.bool (xs.all sBirth) = .bool (xs.all sBirth && rise xs)
      rw [hn]
      rfl
  | _ =>
    walk_at "go"
    all_goals rfl
end K09

set_option maxHeartbeats 1000000
namespace K09
open PySem PySem.Spec PyProof.Rows L2 DL PySem.W
local macro_rules
  | `(tactic| walk_at "go") => `(tactic| (repeat' (first
    | with_reducible first
      | refine ws_seq ?_ | refine ws_fd rfl ?_ | refine we_fg_n rfl (fun _ => ?_) | refine we_fg_l rfl (fun _ => ?_) | refine we_fg_s rfl (fun _ => ?_) | refine we_fg_c rfl (fun _ => ?_) | refine we_chain ?_ | refine ws_set ?_ | refine ws_ret ?_ | refine ws_if ?_ | refine ws_nx ?_ | refine ws_par ?_ | refine ws_unp ?_
      | refine we_var rfl ?_ | refine we_c ?_ | refine we_2 ?_ | refine we_1 ?_ | refine we_isi ?_
      | refine wt_e ?_ | refine wt_not ?_ | refine wt_andT ?_ | refine wt_or ?_ | refine we_if ?_ | refine we_not ?_ | refine we_and ?_ | refine we_or ?_
      | refine wa_nil ?_ | refine wa_cons ?_ | refine we_tup ?_ | refine we_lst ?_ | refine we_ca ?_ | refine wo_none ?_ | refine wo_some ?_ | refine we_sl ?_
      | refine wg_nil ?_ | refine wg_d ?_ | refine wg_f rfl ?_ | refine we_call ?_
    | refine draw' (by omega) (by omega) (fun k h0 h1 => ?_)
    | refine ex_mod (by assumption) ?_ | refine ex_fdiv (by assumption) (by assumption) ?_ | refine ex_mulr (by decide) ?_ | refine ex_mull (by decide) ?_ | refine ex_sq (by decide) (by decide) ?_
    | refine wt_isi (by with_reducible first | exact i_tuple_none | exact i_tuple_bool _ | exact i_tuple_int _ | exact i_tuple_str _ | exact i_tuple_list _ | exact i_tuple_tuple _ | exact i_bool_none | exact i_bool_bool _ | exact i_bool_int _ | exact i_bool_str _ | exact i_bool_list _ | exact i_bool_tuple _ | exact i_str_none | exact i_str_bool _ | exact i_str_int _ | exact i_str_str _ | exact i_str_list _ | exact i_str_tuple _ | exact i_int_none | exact i_int_bool _ | exact i_int_int _ | exact i_int_str _ | exact i_int_list _ | exact i_int_tuple _) ?_
    | refine And.intro (Nat.le_of_ble_eq_true rfl) ?_
    | (refine And.intro (fun hb => ?_) (fun hb => ?_) <;> try (first | exact absurd hb (by decide)))
    | (refine fun (hb : (_ : Bool) = _) => ?_ <;> try (first | exact absurd hb (by decide)))
    | refine And.intro True.intro ?_
    | refine Exists.intro _ (And.intro rfl ?_) | refine Exists.intro _ (Exists.intro _ (And.intro rfl ?_)))))

theorem two_of {d : Dt} (h : sTwo d = true) : ∃ a b, d = .tuple [a, b] := by
  cases d with
  | tuple xs =>
    by_cases h2 : xs.length = 2
    · obtain ⟨a, b, rfl⟩ := two_cases h2
      exact ⟨a, b, rfl⟩
    · rw [show sTwo (.tuple xs) = false from two_len h2 _] at h
      cases h
  | _ => cases h
theorem birth_two {d : Dt} (h : sTwo d = false) : sBirth d = false := by
  cases d with
  | tuple xs =>
    by_cases h2 : xs.length = 2
    · obtain ⟨a, b, rfl⟩ := two_cases h2
      cases h
    · exact two_len h2 _
  | _ => rfl
end K09

set_option maxHeartbeats 1000000
namespace K09
open PySem PySem.Spec PyProof.Rows L2 DL PySem.W
local macro_rules
  | `(tactic| walk_at "go") => `(tactic| (repeat' (first
    | with_reducible first
      | refine ws_seq ?_ | refine ws_fd rfl ?_ | refine we_fg_n rfl (fun _ => ?_) | refine we_fg_l rfl (fun _ => ?_) | refine we_fg_s rfl (fun _ => ?_) | refine we_fg_c rfl (fun _ => ?_) | refine we_chain ?_ | refine ws_set ?_ | refine ws_ret ?_ | refine ws_if ?_ | refine ws_nx ?_ | refine ws_par ?_ | refine ws_unp ?_
      | refine we_var rfl ?_ | refine we_c ?_ | refine we_2 ?_ | refine we_1 ?_ | refine we_isi ?_
      | refine wt_e ?_ | refine wt_not ?_ | refine wt_andT ?_ | refine wt_or ?_ | refine we_if ?_ | refine we_not ?_ | refine we_and ?_ | refine we_or ?_
      | refine wa_nil ?_ | refine wa_cons ?_ | refine we_tup ?_ | refine we_lst ?_ | refine we_ca ?_ | refine wo_none ?_ | refine wo_some ?_ | refine we_sl ?_
      | refine wg_nil ?_ | refine wg_d ?_ | refine wg_f rfl ?_ | refine we_call ?_
    | refine draw' (by omega) (by omega) (fun k h0 h1 => ?_)
    | refine ex_mod (by assumption) ?_ | refine ex_fdiv (by assumption) (by assumption) ?_ | refine ex_mulr (by decide) ?_ | refine ex_mull (by decide) ?_ | refine ex_sq (by decide) (by decide) ?_
    | refine wt_isi (by with_reducible first | exact i_tuple_none | exact i_tuple_bool _ | exact i_tuple_int _ | exact i_tuple_str _ | exact i_tuple_list _ | exact i_tuple_tuple _ | exact i_bool_none | exact i_bool_bool _ | exact i_bool_int _ | exact i_bool_str _ | exact i_bool_list _ | exact i_bool_tuple _ | exact i_str_none | exact i_str_bool _ | exact i_str_int _ | exact i_str_str _ | exact i_str_list _ | exact i_str_tuple _ | exact i_int_none | exact i_int_bool _ | exact i_int_int _ | exact i_int_str _ | exact i_int_list _ | exact i_int_tuple _) ?_
    | refine And.intro (Nat.le_of_ble_eq_true rfl) ?_
    | (refine And.intro (fun hb => ?_) (fun hb => ?_) <;> try (first | exact absurd hb (by decide)))
    | (refine fun (hb : (_ : Bool) = _) => ?_ <;> try (first | exact absurd hb (by decide)))
    | refine And.intro True.intro ?_
    | refine Exists.intro _ (And.intro rfl ?_) | refine Exists.intro _ (Exists.intro _ (And.intro rfl ?_)))))

abbrev WORDS : List Str := ["go", "copy", "start", "mark", "close", "read", "write", "wait", "stay", "end"]
abbrev SHUTS : List Str := ["mark", "close"]
abbrev GOINGS : List Str := ["read", "write", "wait"]
abbrev STOPS : List Str := ["stay", "end"]
abbrev ENDS : List Str := ["r", "w"]
def one (p : Dt → Bool) : List Dt → Bool
  | [x] => p x
  | _ => false
def both (p : Dt → Dt → Bool) : List Dt → Bool
  | [x, y] => p x y
  | _ => false
theorem kinds (x : Str) : ((x == "go", sIn BIRTHS (.str x), sIn SHUTS (.str x)), (sIn GOINGS (.str x), sIn STOPS (.str x), sIn WORDS (.str x))) ∈
    [((true, false, false), (false, false, true)), ((false, true, false), (false, false, true)), ((false, false, true), (false, false, true)), ((false, false, false), (true, false, true)), ((false, false, false), (false, true, true)), ((false, false, false), (false, false, false))] := by
  have key : ∀ y ∈ WORDS, ((y == "go", sIn BIRTHS (.str y), sIn SHUTS (.str y)), (sIn GOINGS (.str y), sIn STOPS (.str y), sIn WORDS (.str y))) ∈
    [((true, false, false), (false, false, true)), ((false, true, false), (false, false, true)), ((false, false, true), (false, false, true)), ((false, false, false), (true, false, true)), ((false, false, false), (false, true, true)), ((false, false, false), (false, false, false))] := by decide +kernel
  by_cases hx : x ∈ WORDS
  · exact key x hx
  · have no : ∀ ys : List Str, (∀ y ∈ ys, y ∈ WORDS) → sIn ys (.str x) = false := fun ys hs => by
      unfold sIn
      rw [List.any_eq_false]
      intro y hy
      obtain ⟨z, hz, rfl⟩ := List.mem_map.mp hy
      show ¬ ((z == x) = true)
      rw [beq_iff_eq]
      intro e
      subst e
      exact hx (hs z hz)
    have g : (x == "go") = false := by
      rw [beq_eq_false_iff_ne]
      intro e
      subst e
      exact hx List.mem_cons_self
    rw [g, no BIRTHS (by decide +kernel), no SHUTS (by decide +kernel), no GOINGS (by decide +kernel), no STOPS (by decide +kernel), no WORDS (by decide +kernel)]
    decide
def instrOf (x : Str) (r : List Dt) : Bool :=
  if (x == "go") = true then one sTargets r else if sIn BIRTHS (.str x) = true then both (fun n t => sName n && sNum t) r else
    if sIn SHUTS (.str x) = true then both (fun e t => sIn ENDS e && sNum t) r else if sIn GOINGS (.str x) = true then one sNum r else if sIn STOPS (.str x) = true then r.isEmpty else false
def sInstr : Dt → Bool
  | .tuple (.str x :: r) => instrOf x r
  | _ => false
theorem instr_no {xs : List Dt} (h : ∀ w r, xs = w :: r → sIn WORDS w = false) : sInstr (.tuple xs) = false := by
  unfold sInstr
  split
  · rename_i x r heq
    cases heq
    have h1 := h _ _ rfl
    have k := kinds x
    rw [h1] at k
    unfold instrOf
    simp only [List.mem_cons, Prod.mk.injEq, List.not_mem_nil, or_false] at k
    rcases k with k | k | k | k | k | k
    · exact absurd k.2.2.2 (by decide)
    · exact absurd k.2.2.2 (by decide)
    · exact absurd k.2.2.2 (by decide)
    · exact absurd k.2.2.2 (by decide)
    · exact absurd k.2.2.2 (by decide)
    · rw [k.1.1, k.1.2.1, k.1.2.2, k.2.1, k.2.2.1]
      rfl
  · rfl
theorem eqS2 {x : Str} (hx : okS x = true) (y : Str) (hy : okS y = true) : eqD (.str x) (.str y) = some (.bool (x == y)) := by
  have sh : ∀ z : Str, okS z = true → SeqAt.shaped (.str z) = true := fun z hz => by
    unfold SeqAt.shaped
    rw [show PyData.canLay0 (.str z) = true from okS_strOk hz]
    rfl
  exact if_pos ⟨sh x hx, sh y hy⟩
theorem len_is {n : Int} {w : Dt} {r : List Dt} {ρ : Rho} {f e : ME} {P : Dt → Prop} (h0 : ρ[0]? = some (.dat (.tuple (w :: r)))) (hf : ((r.length : Int) + 1 == n) = true → wE1 f ρ P) (hn : ((r.length : Int) + 1 == n) = false → P (.bool false)) :
    wE1 (mAnd (m2 eqD (mCa lenD (maCons (mVar 0) maNil)) (mC (.int n))) f) ρ P :=
  we_and (we_2 (we_ca (wa_cons (we_var h0 (wa_nil ⟨_, rfl, we_c ⟨_, eq_len _ _, _, rfl, fun hb => hf hb, fun hb => by
    have hb' : ((r.length : Int) + 1 == n) = false := hb
    show P (.bool ((r.length : Int) + 1 == n))
    rw [hb']
    exact hn hb'⟩⟩)))))
theorem one_no {p : Dt → Bool} {r : List Dt} (h : ((r.length : Int) + 1 == 2) = false) : one p r = false := by
  match r, h with
  | [_], h => exact absurd h (by simp)
  | [], _ => rfl
  | _ :: _ :: _, _ => rfl
theorem one_yes {r : List Dt} (h : ((r.length : Int) + 1 == 2) = true) : ∃ x, r = [x] := by
  match r, h with
  | [x], _ => exact ⟨x, rfl⟩
  | [], h => exact absurd h (by decide)
  | _ :: _ :: q, h => simp at h; omega
theorem both_no {p : Dt → Dt → Bool} {r : List Dt} (h : ((r.length : Int) + 1 == 3) = false) : both p r = false := by
  match r, h with
  | [_, _], h => exact absurd h (by simp)
  | [], _ => rfl
  | [_], _ => rfl
  | _ :: _ :: _ :: _, _ => rfl
theorem both_yes {r : List Dt} (h : ((r.length : Int) + 1 == 3) = true) : ∃ x y, r = [x, y] := by
  match r, h with
  | [x, y], _ => exact ⟨x, y, rfl⟩
  | [], h => exact absurd h (by decide)
  | [_], h => simp at h
  | _ :: _ :: _ :: q, h => simp at h; omega
theorem ix0 {w : Dt} {r : List Dt} : ixD (.tuple (w :: r)) (.int 0) = some w := ix_get (xs := w :: r) (k := 0) (by simp)
theorem instr_is {d : Dt} (h : C d) : Can (m_is_instruction [.dat d]) fun r => r = .bool (sInstr d) := by
  refine can_fn ?_
  unfold b_is_instruction
  cases d with
  | dict _ => cases h.1
  | tuple xs =>
    cases xs with
    | nil =>
      walk_at "go"
      all_goals rfl
    | cons w r =>
      have hw := h.items w List.mem_cons_self
      have hr : ∀ x ∈ r, C x := fun x hx => h.items x (List.mem_cons_of_mem _ hx)
      refine ws_seq (ws_if (wt_or (wt_not (wt_e (we_isi (we_var rfl (wt_isi (i_tuple_tuple _) ⟨fun hb => absurd hb (by decide), fun _ => ?_⟩)))))))
      refine wt_or (wt_e (we_2 (we_ca (wa_cons (we_var rfl (wa_nil ⟨_, rfl, we_c ⟨_, eq_len _ _, _, rfl, fun hb => ?_, fun hb => ?_⟩⟩))))))
      · rw [len_zero] at hb
        cases hb
      refine wt_not (wt_e (we_call (wg_d (we_2 (we_var rfl (we_c ⟨_, ix0, wg_d (we_c (wg_nil ((among_is hw WORDS).mono ?_)))⟩))))))
      rintro r' rfl
      rw [among_in]
      refine ⟨_, rfl, fun h3 => ws_ret (we_c ?_), fun h3 => ws_nx ?_⟩
      · have h3' : sIn WORDS w = false := by simpa using h3
        show PyData.bool false = .bool _
        rw [instr_no (xs := w :: r) fun w' r' e => by cases e; exact h3']
      · have h3' : sIn WORDS w = true := by simpa using h3
        obtain ⟨x, rfl⟩ : ∃ x, w = .str x := by
          cases w with
          | str x => exact ⟨x, rfl⟩
          | _ => rw [sIn_no fun x => by simp] at h3'; cases h3'
        have hok := (gd_str.mp hw.1).1
        refine ws_seq (ws_set (we_2 (we_var rfl (we_c ⟨_, ix0, ?_⟩))))
        have es : sInstr (.tuple (.str x :: r)) = instrOf x r := rfl
        rw [es]
        have k := kinds x
        rw [h3'] at k
        refine ws_seq (ws_if (wt_e (we_2 (we_var rfl (we_c ⟨_, eqS2 hok "go" (by decide +kernel), _, rfl, fun g1 => ?_, fun g1 => ws_nx ?_⟩)))))
        · refine ws_ret (len_is (e := mVar 0) rfl (fun hl => ?_) fun hl => ?_)
          · obtain ⟨t, rfl⟩ := one_yes hl
            refine we_call (wg_d (we_2 (we_var rfl (we_c ⟨_, rfl, wg_nil ((targets_is (hr t List.mem_cons_self)).mono ?_)⟩))))
            rintro q rfl
            show PyData.bool (sTargets t) = .bool (instrOf x [t])
            unfold instrOf
            rw [if_pos g1]
            rfl
          · show PyData.bool false = .bool (instrOf x r)
            unfold instrOf
            rw [if_pos g1, one_no hl]
        refine ws_seq (ws_if (wt_e (we_2 (we_var rfl (we_c ⟨_, in_strs x BIRTHS, _, rfl, fun g2 => ?_, fun g2 => ws_nx ?_⟩)))))
        · have g2' : sIn BIRTHS (.str x) = true := g2
          refine ws_ret (len_is (e := mVar 0) rfl (fun hl => ?_) fun hl => ?_)
          · obtain ⟨n, t, rfl⟩ := both_yes hl
            refine we_and (we_call (wg_d (we_2 (we_var rfl (we_c ⟨_, rfl, wg_nil ((name_is (hr n List.mem_cons_self)).mono ?_)⟩)))))
            rintro q rfl
            have e5 : instrOf x [n, t] = (sName n && sNum t) := by
              unfold instrOf
              rw [if_neg (by rw [g1]; decide), if_pos g2']
              rfl
            rw [e5]
            refine ⟨_, rfl, fun h6 => ?_, fun h6 => by rw [h6]; rfl⟩
            refine we_call (wg_d (we_2 (we_var rfl (we_c ⟨_, rfl, wg_nil ((number_is (hr t (List.mem_cons_of_mem _ List.mem_cons_self))).mono ?_)⟩))))
            rintro q rfl
            rw [h6]
            rfl
          · show PyData.bool false = .bool (instrOf x r)
            unfold instrOf
            rw [if_neg (by rw [g1]; decide), if_pos g2', both_no hl]
        have g2' : sIn BIRTHS (.str x) = false := g2
        refine ws_seq (ws_if (wt_e (we_2 (we_var rfl (we_c ⟨_, in_strs x SHUTS, _, rfl, fun g3 => ?_, fun g3 => ws_nx ?_⟩)))))
        · have g3' : sIn SHUTS (.str x) = true := g3
          refine ws_ret (len_is (e := mVar 0) rfl (fun hl => ?_) fun hl => ?_)
          · obtain ⟨n, t, rfl⟩ := both_yes hl
            refine we_and (we_call (wg_d (we_2 (we_var rfl (we_c ⟨_, rfl, wg_d (we_c (wg_nil ((among_is (hr n List.mem_cons_self) ENDS).mono ?_)))⟩)))))
            rintro q rfl
            rw [among_in]
            have e5 : instrOf x [n, t] = (sIn ENDS n && sNum t) := by
              unfold instrOf
              rw [if_neg (by rw [g1]; decide), if_neg (by rw [g2']; decide), if_pos g3']
              rfl
            rw [e5]
            refine ⟨_, rfl, fun h6 => ?_, fun h6 => by rw [h6]; rfl⟩
            refine we_call (wg_d (we_2 (we_var rfl (we_c ⟨_, rfl, wg_nil ((number_is (hr t (List.mem_cons_of_mem _ List.mem_cons_self))).mono ?_)⟩))))
            rintro q rfl
            rw [h6]
            rfl
          · show PyData.bool false = .bool (instrOf x r)
            unfold instrOf
            rw [if_neg (by rw [g1]; decide), if_neg (by rw [g2']; decide), if_pos g3', both_no hl]
        have g3' : sIn SHUTS (.str x) = false := g3
        refine ws_seq (ws_if (wt_e (we_2 (we_var rfl (we_c ⟨_, in_strs x GOINGS, _, rfl, fun g4 => ?_, fun g4 => ws_nx ?_⟩)))))
        · have g4' : sIn GOINGS (.str x) = true := g4
          refine ws_ret (len_is (e := mVar 0) rfl (fun hl => ?_) fun hl => ?_)
          · obtain ⟨t, rfl⟩ := one_yes hl
            refine we_call (wg_d (we_2 (we_var rfl (we_c ⟨_, rfl, wg_nil ((number_is (hr t List.mem_cons_self)).mono ?_)⟩))))
            rintro q rfl
            show PyData.bool (sNum t) = .bool (instrOf x [t])
            unfold instrOf
            rw [if_neg (by rw [g1]; decide), if_neg (by rw [g2']; decide), if_neg (by rw [g3']; decide), if_pos g4']
            rfl
          · show PyData.bool false = .bool (instrOf x r)
            unfold instrOf
            rw [if_neg (by rw [g1]; decide), if_neg (by rw [g2']; decide), if_neg (by rw [g3']; decide), if_pos g4', one_no hl]
        have g4' : sIn GOINGS (.str x) = false := g4
        have g5 : sIn STOPS (.str x) = true := by
          rw [g1, g2', g3', g4'] at k
          simp only [List.mem_cons, Prod.mk.injEq, List.not_mem_nil, or_false] at k
          simpa using k
        refine ws_ret (we_2 (we_ca (wa_cons (we_var rfl (wa_nil ⟨_, rfl, we_c ⟨_, eq_len _ _, ?_⟩⟩)))))
        show PyData.bool (((r.length + 1 : Nat) : Int) == 1) = .bool (instrOf x r)
        unfold instrOf
        rw [if_neg (by rw [g1]; decide), if_neg (by rw [g2']; decide), if_neg (by rw [g3']; decide), if_neg (by rw [g4']; decide), if_pos g5]
        cases r with
        | nil => rfl
        | cons a q =>
          have : (((((a :: q).length + 1 : Nat) : Int) == 1)) = false := by simp; omega
          rw [this]
          rfl
  | _ =>
    walk_at "go"
    all_goals rfl
end K09

set_option maxHeartbeats 1000000
namespace K09
open PySem PySem.Spec PyProof.Rows L2 DL PySem.W
local macro_rules
  | `(tactic| walk_at "go") => `(tactic| (repeat' (first
    | with_reducible first
      | refine ws_seq ?_ | refine ws_fd rfl ?_ | refine we_fg_n rfl (fun _ => ?_) | refine we_fg_l rfl (fun _ => ?_) | refine we_fg_s rfl (fun _ => ?_) | refine we_fg_c rfl (fun _ => ?_) | refine we_chain ?_ | refine ws_set ?_ | refine ws_ret ?_ | refine ws_if ?_ | refine ws_nx ?_ | refine ws_par ?_ | refine ws_unp ?_
      | refine we_var rfl ?_ | refine we_c ?_ | refine we_2 ?_ | refine we_1 ?_ | refine we_isi ?_
      | refine wt_e ?_ | refine wt_not ?_ | refine wt_andT ?_ | refine wt_or ?_ | refine we_if ?_ | refine we_not ?_ | refine we_and ?_ | refine we_or ?_
      | refine wa_nil ?_ | refine wa_cons ?_ | refine we_tup ?_ | refine we_lst ?_ | refine we_ca ?_ | refine wo_none ?_ | refine wo_some ?_ | refine we_sl ?_
      | refine wg_nil ?_ | refine wg_d ?_ | refine wg_f rfl ?_ | refine we_call ?_
    | refine draw' (by omega) (by omega) (fun k h0 h1 => ?_)
    | refine ex_mod (by assumption) ?_ | refine ex_fdiv (by assumption) (by assumption) ?_ | refine ex_mulr (by decide) ?_ | refine ex_mull (by decide) ?_ | refine ex_sq (by decide) (by decide) ?_
    | refine wt_isi (by with_reducible first | exact i_tuple_none | exact i_tuple_bool _ | exact i_tuple_int _ | exact i_tuple_str _ | exact i_tuple_list _ | exact i_tuple_tuple _ | exact i_bool_none | exact i_bool_bool _ | exact i_bool_int _ | exact i_bool_str _ | exact i_bool_list _ | exact i_bool_tuple _ | exact i_str_none | exact i_str_bool _ | exact i_str_int _ | exact i_str_str _ | exact i_str_list _ | exact i_str_tuple _ | exact i_int_none | exact i_int_bool _ | exact i_int_int _ | exact i_int_str _ | exact i_int_list _ | exact i_int_tuple _) ?_
    | refine And.intro (Nat.le_of_ble_eq_true rfl) ?_
    | (refine And.intro (fun hb => ?_) (fun hb => ?_) <;> try (first | exact absurd hb (by decide)))
    | (refine fun (hb : (_ : Bool) = _) => ?_ <;> try (first | exact absurd hb (by decide)))
    | refine And.intro True.intro ?_
    | refine Exists.intro _ (And.intro rfl ?_) | refine Exists.intro _ (Exists.intro _ (And.intro rfl ?_)))))

theorem C.rest {w : Dt} {r : List Dt} (h : C (.tuple (w :: r))) : C (.tuple r) := by
  have hi := h.items
  refine ⟨gd_tup.mpr ⟨fun x hx => (hi x (List.mem_cons_of_mem _ hx)).1, ?_⟩, ?_⟩
  · have := (gd_tup.mp h.1).2
    rw [List.length_cons] at this
    omega
  · have h2 : max (PyData.depth w) (PyData.depthAll r) + 1 ≤ 20 := h.2
    show PyData.depthAll r + 1 ≤ 20
    omega
theorem lenr1 (r : List Dt) : ((r.length : Int) == 1) = ((r.length : Int) + 1 == 2) := by
  rw [Bool.eq_iff_iff, beq_iff_eq, beq_iff_eq]
  omega
theorem lenr2 (r : List Dt) : ((r.length : Int) == 2) = ((r.length : Int) + 1 == 3) := by
  rw [Bool.eq_iff_iff, beq_iff_eq, beq_iff_eq]
  omega
theorem ne_len (n m : Int) : neD (.int n) (.int m) = some (.bool (!(n == m))) := rfl
end K09

set_option maxHeartbeats 1000000
namespace K09
open PySem PySem.Spec PyProof.Rows L2 DL PySem.W
local macro_rules
  | `(tactic| walk_at "go") => `(tactic| (repeat' (first
    | with_reducible first
      | refine ws_seq ?_ | refine ws_fd rfl ?_ | refine we_fg_n rfl (fun _ => ?_) | refine we_fg_l rfl (fun _ => ?_) | refine we_fg_s rfl (fun _ => ?_) | refine we_fg_c rfl (fun _ => ?_) | refine we_chain ?_ | refine ws_set ?_ | refine ws_ret ?_ | refine ws_if ?_ | refine ws_nx ?_ | refine ws_par ?_ | refine ws_unp ?_
      | refine we_var rfl ?_ | refine we_c ?_ | refine we_2 ?_ | refine we_1 ?_ | refine we_isi ?_
      | refine wt_e ?_ | refine wt_not ?_ | refine wt_andT ?_ | refine wt_or ?_ | refine we_if ?_ | refine we_not ?_ | refine we_and ?_ | refine we_or ?_
      | refine wa_nil ?_ | refine wa_cons ?_ | refine we_tup ?_ | refine we_lst ?_ | refine we_ca ?_ | refine wo_none ?_ | refine wo_some ?_ | refine we_sl ?_
      | refine wg_nil ?_ | refine wg_d ?_ | refine wg_f rfl ?_ | refine we_call ?_
    | refine draw' (by omega) (by omega) (fun k h0 h1 => ?_)
    | refine ex_mod (by assumption) ?_ | refine ex_fdiv (by assumption) (by assumption) ?_ | refine ex_mulr (by decide) ?_ | refine ex_mull (by decide) ?_ | refine ex_sq (by decide) (by decide) ?_
    | refine wt_isi (by with_reducible first | exact i_tuple_none | exact i_tuple_bool _ | exact i_tuple_int _ | exact i_tuple_str _ | exact i_tuple_list _ | exact i_tuple_tuple _ | exact i_bool_none | exact i_bool_bool _ | exact i_bool_int _ | exact i_bool_str _ | exact i_bool_list _ | exact i_bool_tuple _ | exact i_str_none | exact i_str_bool _ | exact i_str_int _ | exact i_str_str _ | exact i_str_list _ | exact i_str_tuple _ | exact i_int_none | exact i_int_bool _ | exact i_int_int _ | exact i_int_str _ | exact i_int_list _ | exact i_int_tuple _) ?_
    | refine And.intro (Nat.le_of_ble_eq_true rfl) ?_
    | (refine And.intro (fun hb => ?_) (fun hb => ?_) <;> try (first | exact absurd hb (by decide)))
    | (refine fun (hb : (_ : Bool) = _) => ?_ <;> try (first | exact absurd hb (by decide)))
    | refine And.intro True.intro ?_
    | refine Exists.intro _ (And.intro rfl ?_) | refine Exists.intro _ (Exists.intro _ (And.intro rfl ?_)))))

def three (p : Dt → Dt → Dt → Bool) : Dt → Bool
  | .tuple [a, b, c] => p a b c
  | _ => false
theorem three_len {xs : List Dt} (h : xs.length ≠ 3) (p : Dt → Dt → Dt → Bool) : three p (.tuple xs) = false := by
  unfold three
  split
  · rename_i heq
    cases heq
    exact absurd rfl h
  · rfl
theorem three_cases {xs : List Dt} (h : xs.length = 3) : ∃ a b c, xs = [a, b, c] := by
  match xs, h with
  | [a, b, c], _ => exact ⟨a, b, c, rfl⟩
def someOf (p : List Dt → Bool) : Dt → Bool
  | .tuple xs => !xs.isEmpty && p xs
  | _ => false
def sRole : Dt → Bool := three fun n ps as => sName n && (someOf (fun xs => xs.all sInstr) ps && sAsides as)
theorem ne3 {xs : List Dt} (h : xs.length ≠ 3) : (!((xs.length : Int) == 3)) = true := by
  have : ((xs.length : Int) == 3) = false := by simp; omega
  rw [this]
  rfl
theorem role_is {d : Dt} (h : C d) : Can (m_is_role [.dat d]) fun r => r = .bool (sRole d) := by
  refine can_fn ?_
  unfold b_is_role
  cases d with
  | dict _ => cases h.1
  | tuple xs =>
    refine ws_seq (ws_if (wt_or (wt_not (wt_e (we_isi (we_var rfl (wt_isi (i_tuple_tuple _) ⟨fun hb => absurd hb (by decide), fun _ => ?_⟩)))))))
    by_cases h2 : xs.length = 3
    · obtain ⟨n, ps, as, rfl⟩ := three_cases h2
      have hn := h.items n List.mem_cons_self
      have hp := h.items ps (List.mem_cons_of_mem _ List.mem_cons_self)
      have ha := h.items as (List.mem_cons_of_mem _ (List.mem_cons_of_mem _ List.mem_cons_self))
      refine wt_or (wt_e (we_2 (we_ca (wa_cons (we_var rfl (wa_nil ⟨_, rfl, we_c ⟨_, ne_len _ _, _, rfl, fun hb => (by cases hb), fun _ => ?_⟩⟩))))))
      refine wt_not (wt_e (we_call (wg_d (we_2 (we_var rfl (we_c ⟨_, rfl, wg_nil ((name_is hn).mono ?_)⟩))))))
      rintro r rfl
      refine ⟨_, rfl, fun h3 => ws_ret (we_c ?_), fun h3 => ws_nx ?_⟩
      · have h3' : sName n = false := by simpa using h3
        show PyData.bool false = .bool (sName n && _)
        rw [h3']
        rfl
      have h3' : sName n = true := by simpa using h3
      refine ws_seq (ws_unp (we_var rfl ⟨_, rfl, ?_⟩))
      have e0 : sRole (.tuple [n, ps, as]) = (someOf (fun xs => xs.all sInstr) ps && sAsides as) := by
        show (sName n && _) = _
        rw [h3']
        rfl
      rw [e0]
      cases ps with
      | dict _ => cases hp.1
      | tuple qs =>
        refine ws_seq (ws_if (wt_or (wt_not (wt_e (we_isi (we_var rfl (wt_isi (i_tuple_tuple _) ⟨fun hb => absurd hb (by decide), fun _ => ?_⟩)))))))
        refine wt_e (we_2 (we_ca (wa_cons (we_var rfl (wa_nil ⟨_, rfl, we_c ⟨_, eq_len _ _, _, rfl, fun hb => ?_, fun hb => ?_⟩⟩)))))
        · rw [len_zero] at hb
          refine ws_ret (we_c ?_)
          show PyData.bool false = .bool ((!qs.isEmpty && _) && _)
          rw [hb]
          rfl
        · rw [len_zero] at hb
          have e1 : someOf (fun xs => xs.all sInstr) (.tuple qs) = qs.all sInstr := by
            show (!qs.isEmpty && _) = _
            rw [hb]
            rfl
          rw [e1]
          refine ws_nx (ws_ret (we_and (we_all (p := sInstr) (wi_v (we_var rfl ⟨_, rfl, hp.len, fun x hx => ⟨_, rfl, we_call (wg_d (we_var rfl (wg_nil ((instr_is (hp.items x hx)).mono fun r e => e))))⟩, _, rfl, fun h4 => ?_, fun h4 => ?_⟩)))))
          · refine we_call (wg_d (we_var rfl (wg_nil ((asides_is ha).mono ?_))))
            rintro r rfl
            rw [h4]
            rfl
          · rw [h4]
            rfl
      | _ =>
        walk_at "go"
        all_goals rfl
    · refine wt_or (wt_e (we_2 (we_ca (wa_cons (we_var rfl (wa_nil ⟨_, rfl, we_c ⟨_, ne_len _ _, _, rfl, fun _ => ⟨fun _ => ws_ret (we_c ?_), fun hb => absurd hb (by decide)⟩, fun hb => ?_⟩⟩))))))
      · show PyData.bool false = .bool (three _ (.tuple xs))
        rw [three_len h2]
      · have hb' : (!((xs.length : Int) == 3)) = false := hb
        rw [ne3 h2] at hb'
        cases hb'
  | _ =>
    walk_at "go"
    all_goals rfl
end K09

set_option maxHeartbeats 1000000
namespace K09
open PySem PySem.Spec PyProof.Rows L2 DL PySem.W
local macro_rules
  | `(tactic| walk_at "go") => `(tactic| (repeat' (first
    | with_reducible first
      | refine ws_seq ?_ | refine ws_fd rfl ?_ | refine we_fg_n rfl (fun _ => ?_) | refine we_fg_l rfl (fun _ => ?_) | refine we_fg_s rfl (fun _ => ?_) | refine we_fg_c rfl (fun _ => ?_) | refine we_chain ?_ | refine ws_set ?_ | refine ws_ret ?_ | refine ws_if ?_ | refine ws_nx ?_ | refine ws_par ?_ | refine ws_unp ?_
      | refine we_var rfl ?_ | refine we_c ?_ | refine we_2 ?_ | refine we_1 ?_ | refine we_isi ?_
      | refine wt_e ?_ | refine wt_not ?_ | refine wt_andT ?_ | refine wt_or ?_ | refine we_if ?_ | refine we_not ?_ | refine we_and ?_ | refine we_or ?_
      | refine wa_nil ?_ | refine wa_cons ?_ | refine we_tup ?_ | refine we_lst ?_ | refine we_ca ?_ | refine wo_none ?_ | refine wo_some ?_ | refine we_sl ?_
      | refine wg_nil ?_ | refine wg_d ?_ | refine wg_f rfl ?_ | refine we_call ?_
    | refine draw' (by omega) (by omega) (fun k h0 h1 => ?_)
    | refine ex_mod (by assumption) ?_ | refine ex_fdiv (by assumption) (by assumption) ?_ | refine ex_mulr (by decide) ?_ | refine ex_mull (by decide) ?_ | refine ex_sq (by decide) (by decide) ?_
    | refine wt_isi (by with_reducible first | exact i_tuple_none | exact i_tuple_bool _ | exact i_tuple_int _ | exact i_tuple_str _ | exact i_tuple_list _ | exact i_tuple_tuple _ | exact i_bool_none | exact i_bool_bool _ | exact i_bool_int _ | exact i_bool_str _ | exact i_bool_list _ | exact i_bool_tuple _ | exact i_str_none | exact i_str_bool _ | exact i_str_int _ | exact i_str_str _ | exact i_str_list _ | exact i_str_tuple _ | exact i_int_none | exact i_int_bool _ | exact i_int_int _ | exact i_int_str _ | exact i_int_list _ | exact i_int_tuple _) ?_
    | refine And.intro (Nat.le_of_ble_eq_true rfl) ?_
    | (refine And.intro (fun hb => ?_) (fun hb => ?_) <;> try (first | exact absurd hb (by decide)))
    | (refine fun (hb : (_ : Bool) = _) => ?_ <;> try (first | exact absurd hb (by decide)))
    | refine And.intro True.intro ?_
    | refine Exists.intro _ (And.intro rfl ?_) | refine Exists.intro _ (Exists.intro _ (And.intro rfl ?_)))))

abbrev GA : List Str := ["go", "aside"]
abbrev LW : List Str := ["copy", "start", "mark", "close", "read", "write", "wait", "end"]
def isM1 (d : Dt) : Bool := sInt d && PyData.eqv d (.int (-1))
def sStep : Dt → Bool := three fun p w n => sNum p && (if sIn GA w = true then sNum n else sIn LW w && isM1 n)
theorem lw_eq {x : Str} (h : sIn GA (.str x) = false) : sIn LW (.str x) = (sIn WORDS (.str x) && !(x == "stay")) := by
  have key : ∀ y ∈ WORDS, sIn GA (.str y) = false → sIn LW (.str y) = (sIn WORDS (.str y) && !(y == "stay")) := by decide +kernel
  by_cases hx : x ∈ WORDS
  · exact key x hx h
  · have no : ∀ ys : List Str, (∀ y ∈ ys, y ∈ WORDS) → sIn ys (.str x) = false := fun ys hs => by
      unfold sIn
      rw [List.any_eq_false]
      intro y hy
      obtain ⟨z, hz, rfl⟩ := List.mem_map.mp hy
      show ¬ ((z == x) = true)
      rw [beq_iff_eq]
      intro e
      subst e
      exact hx (hs z hz)
    rw [no LW (by decide +kernel), no WORDS (by decide +kernel)]
    rfl
theorem neS2 {x : Str} (hx : okS x = true) (y : Str) (hy : okS y = true) : neD (.str x) (.str y) = some (.bool (!(x == y))) := by
  have sh : ∀ z : Str, okS z = true → SeqAt.shaped (.str z) = true := fun z hz => by
    unfold SeqAt.shaped
    rw [show PyData.canLay0 (.str z) = true from okS_strOk hz]
    rfl
  exact if_pos ⟨sh x hx, sh y hy⟩
theorem eqM1 {n : Dt} (h : C n) : eqD n (.int (-1)) = some (.bool (PyData.eqv n (.int (-1)))) := if_pos ⟨h.shaped, rfl⟩
end K09

set_option maxHeartbeats 1000000
namespace DL
open PySem PySem.Spec PyProof.Rows L2
/-! additive size of data -/
mutual
def sz : Dt → Nat
  | .none => 4
  | .bool _ => 5
  | .int _ => 62
  | .str x => (cl x).length + 2
  | .list xs => szAll xs + 3
  | .tuple xs => szAll xs + 3
  | .dict _ => 0
def szAll : List Dt → Nat
  | [] => 0
  | x :: xs => sz x + 2 + szAll xs
end
theorem szAll_app : ∀ xs ys : List Dt, szAll (xs ++ ys) = szAll xs + szAll ys
  | [], ys => by simp [szAll]
  | x :: xs, ys => by
    show sz x + 2 + szAll (xs ++ ys) = sz x + 2 + szAll xs + szAll ys
    rw [szAll_app xs ys]
    omega
theorem szAll_le {n : Nat} : ∀ {xs : List Dt}, (∀ x ∈ xs, sz x ≤ n) → szAll xs ≤ xs.length * (n + 2)
  | [], _ => Nat.zero_le _
  | x :: xs, h => by
    have h1 := h x List.mem_cons_self
    have h2 := szAll_le (xs := xs) fun y hy => h y (List.mem_cons_of_mem _ hy)
    show sz x + 2 + szAll xs ≤ (xs.length + 1) * (n + 2)
    rw [Nat.succ_mul]
    omega
theorem sz_mem {x : Dt} : ∀ {xs : List Dt}, x ∈ xs → sz x + 2 ≤ szAll xs
  | y :: r, h => by
    show _ ≤ sz y + 2 + szAll r
    rcases List.mem_cons.mp h with rfl | h
    · omega
    · have := sz_mem h
      omega
theorem jn_sz : ∀ {xs : List (List Nat)} {e : List Nat} {n : Nat}, (xs.map fun x => x.length + 2).sum ≤ n → (jn xs e).length ≤ n + e.length
  | [], e, n, _ => by simp [jn]
  | [x], e, n, h => by
    simp only [List.map_cons, List.map_nil, List.sum_cons, List.sum_nil] at h
    simp only [jn, List.length_append]
    omega
  | x :: y :: r, e, n, h => by
    rw [List.map_cons, List.sum_cons] at h
    have ih := jn_sz (xs := y :: r) (e := e) (n := n - (x.length + 2)) (by omega)
    simp only [jn, List.length_append, List.length_cons] at ih ⊢
    omega
mutual
theorem sh_sz {sb lb : Nat} : ∀ {d : Dt}, gd (10 ^ 60 - 1) sb lb d = true → (sh d).length ≤ sz d
  | .none, _ => by rw [sh_none]; exact Nat.le_refl _
  | .bool true, _ => by rw [sh_true]; decide
  | .bool false, _ => by rw [sh_false]; decide
  | .int i, h => Nat.le_trans (sh_int_len (k := 60) (by decide) (Nat.lt_of_le_of_lt (gd_int.mp h) (by decide +kernel))) (by show 61 ≤ 62; decide)
  | .str x, h => by
    rw [show sh (.str x) = _ from okS_repr (gd_str.mp h).1]
    show (39 :: (cl x ++ [39])).length ≤ (cl x).length + 2
    simp
  | .list xs, h => by
    have h' : (gdAll (10 ^ 60 - 1) sb lb xs && decide (xs.length ≤ lb)) = true := h
    rw [Bool.and_eq_true] at h'
    rw [sh_list]
    have := jn_sz (e := [93]) (shAll_sz h'.1)
    show (jn _ _).length + 1 ≤ szAll xs + 3
    simp only [List.length_cons, List.length_nil] at this
    omega
  | .tuple xs, h => by
    have h' : (gdAll (10 ^ 60 - 1) sb lb xs && decide (xs.length ≤ lb)) = true := h
    rw [Bool.and_eq_true] at h'
    rw [sh_tuple]
    have := jn_sz (e := if xs.length == 1 then [44, 41] else [41]) (shAll_sz h'.1)
    show (jn _ _).length + 1 ≤ szAll xs + 3
    have h2 : (if xs.length == 1 then [44, 41] else [41]).length ≤ 2 := by cases xs.length == 1 <;> decide
    omega
  | .dict _, h => by cases h
theorem shAll_sz {sb lb : Nat} : ∀ {xs : List Dt}, gdAll (10 ^ 60 - 1) sb lb xs = true → ((xs.map sh).map fun x => x.length + 2).sum ≤ szAll xs
  | [], _ => Nat.le_refl _
  | x :: xs, h => by
    have h' : (gd (10 ^ 60 - 1) sb lb x && gdAll (10 ^ 60 - 1) sb lb xs) = true := h
    rw [Bool.and_eq_true] at h'
    have h1 := sh_sz h'.1
    have h2 := shAll_sz h'.2
    show (sh x).length + 2 + ((xs.map sh).map fun x => x.length + 2).sum ≤ sz x + 2 + szAll xs
    omega
end
end DL
namespace K09
open PySem PySem.Spec PyProof.Rows L2 DL PySem.W
local macro_rules
  | `(tactic| walk_at "go") => `(tactic| (repeat' (first
    | with_reducible first
      | refine ws_seq ?_ | refine ws_fd rfl ?_ | refine we_fg_n rfl (fun _ => ?_) | refine we_fg_l rfl (fun _ => ?_) | refine we_fg_s rfl (fun _ => ?_) | refine we_fg_c rfl (fun _ => ?_) | refine we_chain ?_ | refine ws_set ?_ | refine ws_ret ?_ | refine ws_if ?_ | refine ws_nx ?_ | refine ws_par ?_ | refine ws_unp ?_
      | refine we_var rfl ?_ | refine we_c ?_ | refine we_2 ?_ | refine we_1 ?_ | refine we_isi ?_
      | refine wt_e ?_ | refine wt_not ?_ | refine wt_andT ?_ | refine wt_or ?_ | refine we_if ?_ | refine we_not ?_ | refine we_and ?_ | refine we_or ?_
      | refine wa_nil ?_ | refine wa_cons ?_ | refine we_tup ?_ | refine we_lst ?_ | refine we_ca ?_ | refine wo_none ?_ | refine wo_some ?_ | refine we_sl ?_
      | refine wg_nil ?_ | refine wg_d ?_ | refine wg_f rfl ?_ | refine we_call ?_
    | refine draw' (by omega) (by omega) (fun k h0 h1 => ?_)
    | refine ex_mod (by assumption) ?_ | refine ex_fdiv (by assumption) (by assumption) ?_ | refine ex_mulr (by decide) ?_ | refine ex_mull (by decide) ?_ | refine ex_sq (by decide) (by decide) ?_
    | refine wt_isi (by with_reducible first | exact i_tuple_none | exact i_tuple_bool _ | exact i_tuple_int _ | exact i_tuple_str _ | exact i_tuple_list _ | exact i_tuple_tuple _ | exact i_bool_none | exact i_bool_bool _ | exact i_bool_int _ | exact i_bool_str _ | exact i_bool_list _ | exact i_bool_tuple _ | exact i_str_none | exact i_str_bool _ | exact i_str_int _ | exact i_str_str _ | exact i_str_list _ | exact i_str_tuple _ | exact i_int_none | exact i_int_bool _ | exact i_int_int _ | exact i_int_str _ | exact i_int_list _ | exact i_int_tuple _) ?_
    | refine And.intro (Nat.le_of_ble_eq_true rfl) ?_
    | (refine And.intro (fun hb => ?_) (fun hb => ?_) <;> try (first | exact absurd hb (by decide)))
    | (refine fun (hb : (_ : Bool) = _) => ?_ <;> try (first | exact absurd hb (by decide)))
    | refine And.intro True.intro ?_
    | refine Exists.intro _ (And.intro rfl ?_) | refine Exists.intro _ (Exists.intro _ (And.intro rfl ?_)))))

abbrev B (n : Nat) (d : Dt) : Prop := gd (10 ^ 60 - 1) 1048576 1048576 d = true ∧ PyData.depth d ≤ 20 ∧ sz d ≤ n
theorem B.c {n : Nat} {d : Dt} (h : B n d) : C d := ⟨gd_mono (by omega) (by omega) (by omega) h.1, h.2.1⟩
theorem B.repr {n : Nat} {d : Dt} (h : B n d) (hn : n ≤ 16777216) : reprD [d] = some (.str d.shown) := if_pos ⟨gd_showable (by decide +kernel) h.1, h.c.shaped, Nat.le_trans (by
  have := sh_sz h.1
  have e : (sh d).length = d.shown.length := Array.length_toList
  rw [e] at this
  exact Nat.le_trans this h.2.2) hn⟩
theorem ask {ρ : Rho} {m : MF} {d x : Dt} {P : Dt → Prop} (h : Can (m [.dat d]) fun r => r = x) (h0 : ρ[0]? = some (.dat d)) (p : P x) : wE1 (mCall m (mgD (mVar 0) mgNil)) ρ P :=
  we_call (wg_d (we_var h0 (wg_nil (h.mono fun r e => by rw [e]; exact p))))
def tl (d : Dt) : List Dt := [.bool (sInt d), .bool (sNum d), .bool (sName d), .bool (sPair d), .bool (sBegin d), .bool (sAsides d), .bool (sInstr d), .bool (sRole d), .bool (sStep d)]
theorem tl_B (d : Dt) : B 100 (.list (tl d)) := ⟨rfl, Nat.le_of_ble_eq_true rfl, Nat.le_of_ble_eq_true rfl⟩
theorem strOk_of {x : Str} (h : ∀ c ∈ cl x, c < 0x110000) : PyData.strOk x = true := by
  unfold PyData.strOk
  rw [← Array.all_toList, List.all_eq_true]
  exact fun c hc => decide_eq_true (h c hc)
theorem jn_lt {n : Nat} : ∀ {xs : List (List Nat)} {e : List Nat}, 44 < n → (∀ x ∈ xs, ∀ c ∈ x, c < n) → (∀ c ∈ e, c < n) → ∀ c ∈ jn xs e, c < n
  | [], e, _, _, he, c, hc => he c hc
  | [x], e, _, hx, he, c, hc => by
    rcases List.mem_append.mp hc with h | h
    · exact hx x List.mem_cons_self c h
    · exact he c h
  | x :: y :: r, e, hn, hx, he, c, hc => by
    rcases List.mem_append.mp hc with h | h
    · exact hx x List.mem_cons_self c h
    · rcases List.mem_cons.mp h with h | h
      · omega
      · rcases List.mem_cons.mp h with h | h
        · omega
        · exact jn_lt (xs := y :: r) hn (fun z hz => hx z (List.mem_cons_of_mem _ hz)) he c h
mutual
theorem shown_lt : ∀ {d : Dt}, plain d = true → ∀ c ∈ sh d, c < 0x110000
  | .none, _ => by rw [sh_none]; decide
  | .bool true, _ => by rw [sh_true]; decide
  | .bool false, _ => by rw [sh_false]; decide
  | .int i, _ => fun c hc => by
    by_cases h : c ≠ 45 ∧ (c < 48 ∨ 57 < c)
    · exact absurd hc (shown_int_free' h i)
    · omega
  | .str x, h => fun c hc => by
    rw [show sh (.str x) = _ from okS_repr h] at hc
    rcases List.mem_cons.mp hc with h1 | h1
    · omega
    · rcases List.mem_append.mp h1 with h2 | h2
      · have := okc_lt (List.all_eq_true.mp h c h2)
        omega
      · have := List.mem_singleton.mp h2
        omega
  | .list xs, h => fun c hc => by
    rw [sh_list] at hc
    rcases List.mem_cons.mp hc with h1 | h1
    · omega
    · exact jn_lt (by decide) (shownAll_lt h) (by decide) c h1
  | .tuple xs, h => fun c hc => by
    rw [sh_tuple] at hc
    rcases List.mem_cons.mp hc with h1 | h1
    · omega
    · exact jn_lt (by decide) (shownAll_lt h) (by cases xs.length == 1 <;> decide) c h1
  | .dict _, h => by cases h
theorem shownAll_lt : ∀ {xs : List Dt}, plainAll xs = true → ∀ x ∈ xs.map sh, ∀ c ∈ x, c < 0x110000
  | [], _ => fun x h => (List.not_mem_nil h).elim
  | y :: r, h => fun x hx => by
    have h' : (plain y && plainAll r) = true := h
    rw [Bool.and_eq_true] at h'
    rcases List.mem_cons.mp hx with rfl | hx
    · exact shown_lt h'.1
    · exact shownAll_lt h'.2 x hx
end
theorem shown_ok {d : Dt} (h : plain d = true) : PyData.strOk d.shown = true := strOk_of (shown_lt h)
theorem same_is {n : Nat} {d : Dt} (h : B n d) (hn : n ≤ 16777216) : Can (m__law_same [.dat d, .dat d]) fun r => r = .bool true := by
  refine can_fn ?_
  unfold b__law_same
  have hs : SeqAt.shaped (.str d.shown) = true := by
    unfold SeqAt.shaped
    rw [show PyData.canLay0 (.str d.shown) = true from shown_ok (gd_plain h.1)]
    rfl
  refine ws_ret (we_2 (we_ca (wa_cons (we_var rfl (wa_nil ⟨_, h.repr hn, we_ca (wa_cons (we_var rfl (wa_nil ⟨_, h.repr hn, _, if_pos ⟨hs, hs⟩, ?_⟩)))⟩)))))
  show PyData.bool (d.shown == d.shown) = _
  rw [beq_self_eq_true]
end K09

set_option maxHeartbeats 4000000
namespace K09
open PySem PySem.Spec PyProof.Rows L2 DL PySem.W
local macro_rules
  | `(tactic| walk_at "go") => `(tactic| (repeat' (first
    | with_reducible first
      | refine ws_seq ?_ | refine ws_fd rfl ?_ | refine we_fg_n rfl (fun _ => ?_) | refine we_fg_l rfl (fun _ => ?_) | refine we_fg_s rfl (fun _ => ?_) | refine we_fg_c rfl (fun _ => ?_) | refine we_chain ?_ | refine ws_set ?_ | refine ws_ret ?_ | refine ws_if ?_ | refine ws_nx ?_ | refine ws_par ?_ | refine ws_unp ?_
      | refine we_var rfl ?_ | refine we_c ?_ | refine we_2 ?_ | refine we_1 ?_ | refine we_isi ?_
      | refine wt_e ?_ | refine wt_not ?_ | refine wt_andT ?_ | refine wt_or ?_ | refine we_if ?_ | refine we_not ?_ | refine we_and ?_ | refine we_or ?_
      | refine wa_nil ?_ | refine wa_cons ?_ | refine we_tup ?_ | refine we_lst ?_ | refine we_ca ?_ | refine wo_none ?_ | refine wo_some ?_ | refine we_sl ?_
      | refine wg_nil ?_ | refine wg_d ?_ | refine wg_f rfl ?_ | refine we_call ?_
    | refine draw' (by omega) (by omega) (fun k h0 h1 => ?_)
    | refine ex_mod (by assumption) ?_ | refine ex_fdiv (by assumption) (by assumption) ?_ | refine ex_mulr (by decide) ?_ | refine ex_mull (by decide) ?_ | refine ex_sq (by decide) (by decide) ?_
    | refine wt_isi (by with_reducible first | exact i_tuple_none | exact i_tuple_bool _ | exact i_tuple_int _ | exact i_tuple_str _ | exact i_tuple_list _ | exact i_tuple_tuple _ | exact i_bool_none | exact i_bool_bool _ | exact i_bool_int _ | exact i_bool_str _ | exact i_bool_list _ | exact i_bool_tuple _ | exact i_str_none | exact i_str_bool _ | exact i_str_int _ | exact i_str_str _ | exact i_str_list _ | exact i_str_tuple _ | exact i_int_none | exact i_int_bool _ | exact i_int_int _ | exact i_int_str _ | exact i_int_list _ | exact i_int_tuple _) ?_
    | refine And.intro (Nat.le_of_ble_eq_true rfl) ?_
    | (refine And.intro (fun hb => ?_) (fun hb => ?_) <;> try (first | exact absurd hb (by decide)))
    | (refine fun (hb : (_ : Bool) = _) => ?_ <;> try (first | exact absurd hb (by decide)))
    | refine And.intro True.intro ?_
    | refine Exists.intro _ (And.intro rfl ?_) | refine Exists.intro _ (Exists.intro _ (And.intro rfl ?_)))))

/-! the edges -/
def tlB (d : Dt) : List Bool := [sInt d, sNum d, sName d, sPair d, sBegin d, sAsides d, sInstr d, sRole d, sStep d]
def asks : Str := "inapbscrt"
def flag (s : Str) (c : Nat) : Bool := !(Builtin.Str.occurrences s ⟨#[c]⟩ 0 s.length 1).isEmpty
def okB (d : Dt) : Bool := gd (10 ^ 60 - 1) 1048576 1048576 d && decide (PyData.depth d ≤ 20) && decide (sz d ≤ 4000)
def edgeOk : Dt → Bool
  | .tuple [d, .str s] => okB d && (tlB d == (cl asks).map (flag s))
  | _ => false
theorem okB_of {d : Dt} (h : okB d = true) : B 4000 d := by
  unfold okB at h
  rw [Bool.and_eq_true, Bool.and_eq_true, decide_eq_true_eq, decide_eq_true_eq] at h
  exact ⟨h.1.1, h.1.2, h.2⟩
theorem edge_turn {d : Dt} {s : Str} (h : edgeOk (.tuple [d, .str s]) = true) (hs : s.length ≤ sizeLine) : B 4000 d ∧ (cl asks).map (flag s) = tlB d := by
  have h' : (okB d && (tlB d == (cl asks).map (flag s))) = true := h
  rw [Bool.and_eq_true, beq_iff_eq] at h'
  exact ⟨okB_of h'.1, h'.2.symm⟩
end K09

set_option maxHeartbeats 1000000
namespace K09
open PySem PySem.Spec PyProof.Rows L2 DL PySem.W DLS
abbrev Bk (k n : Nat) (d : Dt) : Prop := gd (10 ^ 60 - 1) 1048576 1048576 d = true ∧ PyData.depth d ≤ k ∧ sz d ≤ n
theorem Bk.up {k l n m : Nat} {d : Dt} (h : Bk k n d) (h1 : k ≤ l) (h2 : n ≤ m) : Bk l m d := ⟨h.1, Nat.le_trans h.2.1 h1, Nat.le_trans h.2.2 h2⟩
theorem szAll_mem {n : Nat} {xs : List Dt} (h : ∀ x ∈ xs, sz x ≤ n) {m : Nat} (hm : xs.length ≤ m) : szAll xs ≤ m * (n + 2) :=
  Nat.le_trans (szAll_le h) (Nat.mul_le_mul_right _ hm)
theorem Bk.seq {k n m : Nat} {xs : List Dt} (h : ∀ x ∈ xs, Bk k n x) (hm : xs.length ≤ m) (h1 : m ≤ 1048576) : Bk (k + 1) (m * (n + 2) + 3) (.list xs) ∧ Bk (k + 1) (m * (n + 2) + 3) (.tuple xs) := by
  have a : gd (10 ^ 60 - 1) 1048576 1048576 (.tuple xs) = true := gd_tup.mpr ⟨fun x hx => (h x hx).1, Nat.le_trans hm h1⟩
  have b : PyData.depthAll xs + 1 ≤ k + 1 := Nat.succ_le_succ (depthAll_le.mpr fun x hx => (h x hx).2.1)
  have c : szAll xs + 3 ≤ m * (n + 2) + 3 := Nat.add_le_add_right (szAll_mem (fun x hx => (h x hx).2.2) hm) 3
  exact ⟨⟨a, b, c⟩, ⟨a, b, c⟩⟩
theorem Bk.tup {k n m : Nat} {xs : List Dt} (h : ∀ x ∈ xs, Bk k n x) (hm : xs.length ≤ m) (h1 : m ≤ 1048576) : Bk (k + 1) (m * (n + 2) + 3) (.tuple xs) := (Bk.seq h hm h1).2
theorem Bk.lst {k n m : Nat} {xs : List Dt} (h : ∀ x ∈ xs, Bk k n x) (hm : xs.length ≤ m) (h1 : m ≤ 1048576) : Bk (k + 1) (m * (n + 2) + 3) (.list xs) := (Bk.seq h hm h1).1
/-! pick -/
theorem pickL {xs : List Dt} {P : Dt → Prop} (h0 : 0 < xs.length) (h1 : xs.length < 1073741824) (p : ∀ x ∈ xs, P x) : Can (m__law_pick [.fd, .dat (.list xs)]) P := by
  refine can_fn ?_
  unfold b__law_pick
  refine ws_ret (we_2 (we_var rfl (we_call (wg_f rfl (wg_d (we_ca (wa_cons (we_var rfl (wa_nil ⟨_, rfl, wg_nil (draw' (by omega) (by omega) fun k a b => ?_)⟩)))))))))
  obtain ⟨x, hx, e⟩ := ixL (xs := xs) a b
  exact ⟨x, e, p x hx⟩
theorem pickT {xs : List Dt} {P : Dt → Prop} (h0 : 0 < xs.length) (h1 : xs.length < 1073741824) (p : ∀ x ∈ xs, P x) : Can (m__law_pick [.fd, .dat (.tuple xs)]) P := by
  refine can_fn ?_
  unfold b__law_pick
  refine ws_ret (we_2 (we_var rfl (we_call (wg_f rfl (wg_d (we_ca (wa_cons (we_var rfl (wa_nil ⟨_, rfl, wg_nil (draw' (by omega) (by omega) fun k a b => ?_)⟩)))))))))
  obtain ⟨x, hx, e⟩ := ixT (xs := xs) a b
  exact ⟨x, e, p x hx⟩
/-! names -/
def sNm : Dt → Bool
  | .str x => okS x && decide ((cl x).length ≤ 8) && sName (.str x)
  | _ => false
theorem nm_str {d : Dt} (h : sNm d = true) : ∃ x, d = .str x ∧ okS x = true ∧ (cl x).length ≤ 8 := by
  cases d with
  | str x =>
    have h' : (okS x && decide ((cl x).length ≤ 8) && sName (.str x)) = true := h
    rw [Bool.and_eq_true, Bool.and_eq_true, decide_eq_true_eq] at h'
    exact ⟨x, rfl, h'.1.1, h'.1.2⟩
  | _ => cases h
theorem nm_name {d : Dt} (h : sNm d = true) : sName d = true := by
  cases d with
  | str x =>
    have h' : (okS x && decide ((cl x).length ≤ 8) && sName (.str x)) = true := h
    rw [Bool.and_eq_true] at h'
    exact h'.2
  | _ => cases h
theorem nm_bk {d : Dt} (h : sNm d = true) : Bk 0 10 d := by
  obtain ⟨x, rfl, h1, h2⟩ := nm_str h
  exact ⟨gd_str.mpr ⟨h1, Nat.le_trans h2 (by decide)⟩, Nat.le_refl 0, Nat.add_le_add_right h2 2⟩
theorem nm_lets {x : Str} (h : sNm (.str x) = true) : 1 ≤ (cl x).length ∧ (cl x).all isLet = true := by
  have h' : (lenOk x.length && (cl x).all isLet) = true := nm_name h
  rw [Bool.and_eq_true] at h'
  refine ⟨?_, h'.2⟩
  have h1 := h'.1
  unfold lenOk at h1
  rw [Bool.and_eq_true, Bool.not_eq_true', dataLt_int, decide_eq_false_iff_not] at h1
  have : (cl x).length = x.length := Array.length_toList
  omega
theorem nm_mk {x : Str} (h1 : okS x = true) (h2 : (cl x).length ≤ 8) (h3 : 1 ≤ (cl x).length) (h4 : (cl x).all isLet = true) : sNm (.str x) = true := by
  have e : (cl x).length = x.length := Array.length_toList
  show (okS x && decide ((cl x).length ≤ 8) && (lenOk x.length && (cl x).all isLet)) = true
  rw [h1, decide_eq_true h2, h4, Bool.and_true]
  unfold lenOk
  rw [dataLt_int, dataLt_int, decide_eq_false (by omega), decide_eq_false (by omega)]
  rfl
theorem fold_all {p : Nat → Bool} : ∀ (rest : List Str) (acc : Array Nat), acc.toList.all p = true → (∀ z ∈ rest, (cl z).all p = true) → (rest.foldl (fun acc z => acc ++ ("" : Str).cps ++ z.cps) acc).toList.all p = true
  | [], _, h, _ => h
  | z :: r, acc, h, hr => by
    refine fold_all r _ ?_ fun q hq => hr q (List.mem_cons_of_mem _ hq)
    rw [Array.toList_append, Array.toList_append, List.all_append, List.all_append, h, show z.cps.toList.all p = true from hr z List.mem_cons_self]
    rfl
theorem glue_all {p : Nat → Bool} {zs : List Str} (h : ∀ z ∈ zs, (cl z).all p = true) : (cl (Txt.join "" zs)).all p = true := by
  cases zs with
  | nil => rfl
  | cons z r => exact fold_all r z.cps (h z List.mem_cons_self) fun q hq => h q (List.mem_cons_of_mem _ hq)
theorem strs_of : ∀ {ys : List Dt}, (∀ y ∈ ys, ∃ c, y = ch c ∧ okc c = true ∧ isLet c = true) → ∃ zs, strsOf ys = some zs ∧ zs.length = ys.length ∧ ∀ z ∈ zs, (cl z).all okc = true ∧ (cl z).all isLet = true ∧ z.length = 1
  | [], _ => ⟨[], rfl, rfl, fun _ h => (List.not_mem_nil h).elim⟩
  | y :: r, h => by
    obtain ⟨zs, e, hl, hz⟩ := strs_of (ys := r) fun z hz => h z (List.mem_cons_of_mem _ hz)
    obtain ⟨c, rfl, hc, hc2⟩ := h y List.mem_cons_self
    refine ⟨⟨#[c]⟩ :: zs, ?_, ?_, fun z hz1 => ?_⟩
    · show (strsOf r).map _ = _
      rw [e]
      rfl
    · rw [List.length_cons, List.length_cons, hl]
    · rcases List.mem_cons.mp hz1 with rfl | h1
      · exact ⟨by show ([c] : List Nat).all okc = true; rw [List.all_cons, hc]; rfl, by show ([c] : List Nat).all isLet = true; rw [List.all_cons, hc2]; rfl, rfl⟩
      · exact hz z h1
theorem sum_one : ∀ {zs : List Str}, (∀ z ∈ zs, z.length = 1) → (zs.map (·.length)).sum = zs.length
  | [], _ => rfl
  | z :: r, h => by
    rw [List.map_cons, List.sum_cons, sum_one fun q hq => h q (List.mem_cons_of_mem _ hq), h z List.mem_cons_self, List.length_cons]
    omega
theorem join_nm {ys : List Dt} (h0 : 0 < ys.length) (hl : ys.length ≤ 8) (h : ∀ y ∈ ys, ∃ c, y = ch c ∧ okc c = true ∧ isLet c = true) : ∃ z, joinS "" (.list ys) = some z ∧ sNm z = true := by
  obtain ⟨zs, e, hz, hs⟩ := strs_of h
  have h1 := sum_one fun z hz => (hs z hz).2.2
  have hlen : (Txt.join "" zs).length = zs.length := by
    show (PySem.Builtin.Str.glued "" zs).length = _
    rw [size_glued, h1]
    show zs.length + (zs.length - 1) * 0 = _
    omega
  have : (cl (Txt.join "" zs)).length = (Txt.join "" zs).length := Array.length_toList
  refine ⟨.str (Txt.join "" zs), ?_, nm_mk (glue_all fun z hz => (hs z hz).1) (by omega) (by omega) (glue_all fun z hz => (hs z hz).2.1)⟩
  show (strsOf ys).bind (joinL1 "") = _
  rw [e]
  exact if_pos (by rw [h1]; show zs.length + zs.length * 0 ≤ _; omega)
theorem name_ok : Can (m__law_name [.fd]) fun d => sNm d = true := by
  refine can_fn ?_
  unfold b__law_name
  refine ws_seq (ws_set (we_lst (wa_cons (we_c (wa_cons (we_c (wa_cons (we_c (wa_cons (we_c (wa_cons (we_c (wa_cons (we_c (wa_cons (we_c (wa_cons (we_c (wa_cons (we_c (wa_cons (we_c (wa_cons (we_c (wa_cons (we_c (wa_cons (we_c (wa_cons (we_c (wa_cons (we_c (wa_nil ⟨Nat.le_of_ble_eq_true rfl, ?_⟩)))))))))))))))))))))))))))))))))
  refine ws_seq (ws_if (wt_e (we_2 (we_call (wg_f rfl (wg_d (we_c (wg_nil (draw' (by omega) (by omega) fun k a b => we_c ⟨_, rfl, _, rfl, fun hb => ?_, fun hb => ?_⟩)))))))))
  · refine ws_ret (we_call (wg_f rfl (wg_d (we_2 (we_var rfl (we_lst (wa_cons (we_c (wa_cons (we_c (wa_cons (we_c (wa_nil ⟨Nat.le_of_ble_eq_true rfl, _, rfl, wg_nil ?_⟩)))))))))))))
    refine pickL (by decide) (by decide) ?_
    show ∀ x ∈ _, sNm x = true
    exact List.all_eq_true.mp (by decide +kernel)
  · refine ws_nx (ws_seq (ws_set (we_c (ws_ret (we_1 (we_lcE (Q := fun y => ∃ c, y = ch c ∧ okc c = true ∧ isLet c = true) ?_))))))
    refine wi_r1' (wa_cons (we_2 (we_c (we_call (wg_f rfl (wg_d (we_c (wg_nil (draw' (by omega) (by omega) fun k a b => ?_)))))))))
    obtain ⟨j, rfl⟩ := Int.eq_ofNat_of_zero_le a
    have e1 : [PyData.int (1 + (j : Int))] = [.int ((1 + j : Nat) : Int)] := by
      rw [Int.natCast_add]
      rfl
    refine ⟨_, rfl, wa_nil ⟨_, e1, by omega, ?_⟩⟩
    rw [List.length_map, List.length_range]
    refine ⟨by unfold sizeLine; omega, fun x hx => ⟨_, rfl, ?_⟩, fun ys hy hq => ?_⟩
    · refine we_2 (we_var rfl (we_call (wg_f rfl (wg_d (we_c (wg_nil (draw' (by omega) (by omega) fun k a b => ?_)))))))
      have hL : (("abcdefghijklmnopqrstuvwxyz" : Str).cps.toList.length : Int) = 26 := by decide +kernel
      obtain ⟨c, hc, e⟩ := at_in (xs := ("abcdefghijklmnopqrstuvwxyz" : Str).cps.toList) a (by rw [hL]; exact b)
      refine ⟨ch c, ?_, c, rfl, List.all_eq_true.mp (show ("abcdefghijklmnopqrstuvwxyz" : Str).cps.toList.all okc = true by decide +kernel) c hc, List.all_eq_true.mp (show ("abcdefghijklmnopqrstuvwxyz" : Str).cps.toList.all isLet = true by decide +kernel) c hc⟩
      show (if ("abcdefghijklmnopqrstuvwxyz" : Str).length ≤ sizeLine then (atI _ _).map _ else none) = _
      rw [if_pos (by decide +kernel), e]
      rfl
    · exact join_nm (by omega) (by omega) hq
end K09

set_option maxHeartbeats 1000000
namespace K09
open PySem PySem.Spec PyProof.Rows L2 DL PySem.W
theorem nm_shaped {d : Dt} (h : sNm d = true) : SeqAt.shaped d = true := (show C d from ⟨gd_mono (by omega) (by omega) (by omega) (nm_bk h).1, Nat.le_trans (nm_bk h).2.1 (by decide)⟩).shaped
theorem nms_shaped {xs : List Dt} (h : ∀ x ∈ xs, sNm x = true) : SeqAt.shaped (.list xs) = true :=
  shaped_list (fun x hx => nm_shaped (h x hx)) (Nat.succ_le_succ (depthAll_le.mpr fun x hx => Nat.le_trans (nm_bk (h x hx)).2.1 (by decide : 0 ≤ 63)))
theorem nin_nm {d : Dt} {xs : List Dt} (h : sNm d = true) (hx : ∀ x ∈ xs, sNm x = true) : ninX d (.list xs) = some (.bool (!xs.any fun y => PyData.eqv y d)) := by
  obtain ⟨x, rfl, _, _⟩ := nm_str h
  have e : memX (.str x) (.list xs) = some (xs.any fun y => PyData.eqv y (.str x)) := if_pos ⟨nm_shaped h, nms_shaped hx⟩
  unfold ninX
  rw [e]
  rfl
def freshes : List Dt := [.str "qa", .str "qb", .str "qc", .str "qd", .str "qe", .str "qf", .str "qg", .str "qh", .str "qi"]
theorem nodup_len {α : Type} [DecidableEq α] : ∀ {l m : List α}, l.Nodup → (∀ x ∈ l, x ∈ m) → l.length ≤ m.length
  | [], _, _, _ => Nat.zero_le _
  | x :: l, m, nd, h => by
    rw [List.nodup_cons] at nd
    have hx := h x List.mem_cons_self
    have := nodup_len (l := l) (m := m.erase x) nd.2 fun y hy => (List.mem_erase_of_ne (fun (e : y = x) => nd.1 (e ▸ hy))).mpr (h y (List.mem_cons_of_mem _ hy))
    rw [List.length_erase_of_mem hx] at this
    have hp := List.length_pos_of_mem hx
    rw [List.length_cons]
    omega
def freshS : List Str := ["qa", "qb", "qc", "qd", "qe", "qf", "qg", "qh", "qi"]
def strD : Dt → Str
  | .str x => x
  | _ => ""
theorem free_one {xs : List Dt} (hl : xs.length ≤ 8) (hx : ∀ x ∈ xs, sNm x = true) : ∃ y ∈ freshes, (!xs.any fun z => PyData.eqv z y) = true := by
  by_cases h : ∃ y ∈ freshes, (!xs.any fun z => PyData.eqv z y) = true
  · exact h
  have sub : ∀ s ∈ freshS, s ∈ xs.map strD := fun s hs => by
    have hy : PyData.str s ∈ freshes := List.mem_map.mpr ⟨s, hs, rfl⟩
    have : (xs.any fun z => PyData.eqv z (.str s)) = true := by
      cases e : xs.any fun z => PyData.eqv z (.str s) with
      | true => rfl
      | false => exact absurd ⟨_, hy, by rw [e]; rfl⟩ h
    obtain ⟨z, hz, e⟩ := List.any_eq_true.mp this
    obtain ⟨x, rfl, _, _⟩ := nm_str (hx z hz)
    have e' : (x == s) = true := e
    exact List.mem_map.mpr ⟨_, hz, beq_iff_eq.mp e'⟩
  have := nodup_len (show freshS.Nodup by decide +kernel) sub
  rw [List.length_map] at this
  exact absurd (Nat.le_trans this hl) (by decide)
theorem fresh_nm : ∀ y ∈ freshes, sNm y = true := List.all_eq_true.mp (by decide +kernel)
theorem eqv_nm {x y : Dt} (hx : sNm x = true) (hy : sNm y = true) : PyData.eqv x y = true ↔ x = y := by
  obtain ⟨a, rfl, _, _⟩ := nm_str hx
  obtain ⟨b, rfl, _, _⟩ := nm_str hy
  show (a == b) = true ↔ _
  rw [beq_iff_eq]
  exact ⟨fun h => by rw [h], fun h => by cases h; rfl⟩
theorem any_nm {d : Dt} {xs : List Dt} (h : sNm d = true) (hx : ∀ x ∈ xs, sNm x = true) : (xs.any fun y => PyData.eqv y d) = true ↔ d ∈ xs := by
  rw [List.any_eq_true]
  constructor
  · rintro ⟨y, hy, e⟩
    rw [eqv_nm (hx y hy) h] at e
    exact e ▸ hy
  · intro hm
    exact ⟨d, hm, (eqv_nm h h).mpr rfl⟩
theorem not_nm {d : Dt} {xs : List Dt} (h : sNm d = true) (hx : ∀ x ∈ xs, sNm x = true) (k : (!xs.any fun y => PyData.eqv y d) = true) : d ∉ xs := fun hm => by
  rw [(any_nm h hx).mpr hm] at k
  cases k
theorem fresh_ok {xs : List Dt} (hl : xs.length ≤ 8) (hx : ∀ x ∈ xs, sNm x = true) : Can (m__law_fresh [.dat (.list xs)]) fun d => sNm d = true ∧ d ∉ xs := by
  refine can_fn ?_
  unfold b__law_fresh
  refine ws_ret (we_2 (we_lc (p := fun y => !xs.any fun z => PyData.eqv z y) (q := id) (wi_v (we_lst (wa_cons (we_c (wa_cons (we_c (wa_cons (we_c (wa_cons (we_c (wa_cons (we_c (wa_cons (we_c (wa_cons (we_c (wa_cons (we_c (wa_cons (we_c (wa_nil ⟨Nat.le_of_ble_eq_true rfl, _, rfl, Nat.le_of_ble_eq_true rfl, fun y hy => ?_, we_c ?_⟩)))))))))))))))))))))))
  · exact ⟨wt_e (we_2 (we_var rfl (we_var rfl ⟨_, nin_nm (fresh_nm y hy) hx, _, rfl, rfl⟩))), fun _ => we_var rfl rfl⟩
  · rw [List.map_id]
    obtain ⟨y, h1, h2⟩ := free_one hl hx
    have hm : y ∈ freshes.filter fun y => !xs.any fun z => PyData.eqv z y := List.mem_filter.mpr ⟨h1, h2⟩
    obtain ⟨z, hz, e⟩ := ixL (xs := freshes.filter fun y => !xs.any fun z => PyData.eqv z y) (k := 0) (Int.le_refl 0) (Int.natCast_pos.mpr (List.length_pos_of_mem hm))
    obtain ⟨z1, z2⟩ := List.mem_filter.mp hz
    exact ⟨z, e, fresh_nm z z1, not_nm (fresh_nm z z1) hx z2⟩
theorem cut8 {x y : Str} (hx : sNm (.str x) = true) (hy : sNm (.str y) = true) : sNm (.str (cutS (x ++ y) none (some 8))) = true := by
  have e : cl (cutS (x ++ y) none (some 8)) = (cl x ++ cl y).take 8 := by
    have h1 : cl (x ++ y) = cl x ++ cl y := Array.toList_append
    have h2 : (x ++ y).length = (cl (x ++ y)).length := Array.length_toList.symm
    have h3 : cl (cutS (x ++ y) none (some 8)) = cutL (cl (x ++ y)) none (some ((8 : Nat) : Int)) := by
      unfold cutL
      rw [← h2]
      rfl
    rw [h3, cut_take, h1]
  obtain ⟨_, ex, ox, lx⟩ := nm_str hx
  obtain ⟨_, ey, oy, ly⟩ := nm_str hy
  cases ex
  cases ey
  have both : ∀ {p : Nat → Bool}, (cl x).all p = true → (cl y).all p = true → (cl (cutS (x ++ y) none (some 8))).all p = true := fun {p} h1 h2 => by
    rw [e, List.all_eq_true]
    intro c hc
    rcases List.mem_append.mp (List.mem_of_mem_take hc) with h | h
    · exact List.all_eq_true.mp h1 c h
    · exact List.all_eq_true.mp h2 c h
  refine nm_mk (both ox oy) (by rw [e]; exact List.length_take_le _ _) ?_ (both (nm_lets hx).2 (nm_lets hy).2)
  rw [e, List.length_take, List.length_append]
  have := (nm_lets hx).1
  omega
abbrev JN (n : Nat) (k : Nat) (ρ : Rho) : Prop := ∃ ds a b, ρ = [.fd, .dat (.int (n : Nat)), .own ds, a, b] ∧ ds.length = k ∧ (∀ x ∈ ds, sNm x = true) ∧ ds.Nodup
theorem names_ok {n : Nat} (hn : n ≤ 8) : Can (m__law_names [.fd, .dat (.int (n : Nat))]) fun d => ∃ xs, d = .list xs ∧ xs.length = n ∧ (∀ x ∈ xs, sNm x = true) ∧ xs.Nodup := by
  refine can_fn ?_
  unfold b__law_names
  refine ws_seq (ws_own (wa_nil ⟨Nat.zero_le _, ?_⟩))
  refine ws_seq (ws_for (wi_r1' (wa_cons (we_var rfl (wa_nil ⟨n, rfl, by omega, ?_⟩)))))
  refine forGo_invN (J := JN n) (n := n) (k := 0) (by rw [List.length_map, List.length_range, Nat.zero_add]) (fun k hk x ρ hρ => ?_) ⟨[], _, _, rfl, rfl, fun _ h => (List.not_mem_nil h).elim, .nil⟩ (fun ρ hρ => ?_)
  · obtain ⟨ds, a, b, rfl, hl, hd, hnd⟩ := hρ
    refine ⟨_, rfl, ?_⟩
    refine ws_seq (ws_set (we_call (wg_f rfl (wg_nil (name_ok.mono fun d hnm => ?_)))))
    have fin : ∀ e : Dt, sNm e = true → wS1 (sApp 2 (mThaw 2 (mIf (mtE (m2 ninX (mVar 4) (mVar 2)) asBool) (mVar 4) (mCall m__law_fresh (mgD (mVar 2) mgNil))))) [.fd, .dat (.int (n : Nat)), .own ds, .dat x, .dat e] fun fl => match fl with
        | .nx ρ' => JN n (k + 1) ρ'
        | .ct ρ' => JN n (k + 1) ρ'
        | _ => False := fun e he => by
      have stop : ∀ z, sNm z = true → z ∉ ds → flatD z = true ∧ ds.length < sizeLine ∧ JN n (k + 1) [.fd, .dat (.int (n : Nat)), .own (ds ++ [z]), .dat x, .dat e] := fun z hz hni => by
        obtain ⟨t, rfl, _, _⟩ := nm_str hz
        refine ⟨rfl, by unfold sizeLine; omega, _, _, _, rfl, by rw [List.length_append, hl]; rfl, fun y hy => ?_, List.nodup_append.mpr ⟨hnd, by simp, fun a ha b hb e => hni (by rw [List.mem_singleton.mp hb] at e; exact e ▸ ha)⟩⟩
        rcases List.mem_append.mp hy with h | h
        · exact hd y h
        · rw [List.mem_singleton.mp h]
          exact hz
      refine ws_app rfl (we_thaw rfl (we_if (wt_e (we_2 (we_var rfl (we_var rfl ⟨_, nin_nm he hd, _, rfl, fun hk => we_var rfl (stop e he (not_nm he hd hk)), fun _ => ?_⟩))))))
      exact we_call (wg_d (we_var rfl (wg_nil ((fresh_ok (by omega) hd).mono fun z hz => stop z hz.1 hz.2))))
    refine ws_seq (ws_if (wt_thaw rfl (wt_and (wt_e (we_2 (we_var rfl (we_lst (wa_nil ⟨Nat.zero_le _, _, if_pos ⟨nms_shaped hd, rfl⟩, _, rfl, fun h1 => ?_, fun h1 => ?_⟩))))))))
    · refine wt_e (we_2 (we_call (wg_f rfl (wg_d (we_c (wg_nil (draw' (by omega) (by omega) fun i a b => we_c ⟨_, eq_len _ _, _, rfl, fun h2 => ?_, fun h2 => ?_⟩)))))))
      · obtain ⟨y, r, rfl⟩ : ∃ y r, ds = y :: r := by
          cases ds with
          | nil => cases h1
          | cons y r => exact ⟨y, r, rfl⟩
        obtain ⟨t, rfl, o1, l1⟩ := nm_str (hd y List.mem_cons_self)
        obtain ⟨u, rfl, o2, l2⟩ := nm_str hnm
        have l1' : t.length ≤ 8 := by rw [show t.length = (cl t).length from Array.length_toList.symm]; exact l1
        have l2' : u.length ≤ 8 := by rw [show u.length = (cl u).length from Array.length_toList.symm]; exact l2
        have l3 : (t ++ u).length ≤ sizeLine := by
          have h2 : (t ++ u).length = (cl (t ++ u)).length := Array.length_toList.symm
          have h3 : cl (t ++ u) = cl t ++ cl u := Array.toList_append
          rw [h2, h3, List.length_append]
          unfold sizeLine
          omega
        have l4 : t.length + u.length ≤ sizeLine := by unfold sizeLine; omega
        refine ws_set (we_thaw rfl (we_sl (we_2 (we_2 (we_var rfl (we_c ⟨.str t, (show ixD (.list (.str t :: r)) (.int 0) = some (.str t) from ix0 (w := .str t) (r := r)), we_var rfl ⟨.str (t ++ u), if_pos l4, wo_none (wo_some (we_c ⟨8, rfl, .str (cutS (t ++ u) none (some 8)), if_pos l3, rfl, ?_⟩))⟩⟩))))))
        exact fin _ (cut8 (hd _ List.mem_cons_self) hnm)
      · exact ws_nx (fin _ hnm)
    · exact ⟨fun hb => absurd hb (by decide), fun _ => ws_nx (fin _ hnm)⟩
  · obtain ⟨ds, a, b, rfl, hl, hd, hnd⟩ := hρ
    exact ws_seq (ws_frz rfl (ws_ret (we_var rfl ⟨ds, rfl, hl, hd, hnd⟩)))
end K09

set_option maxHeartbeats 1000000
namespace K09
open PySem PySem.Spec PyProof.Rows L2 DL PySem.W DLS
local macro_rules
  | `(tactic| walk_at "go") => `(tactic| (repeat' (first
    | with_reducible first
      | refine ws_seq ?_ | refine ws_fd rfl ?_ | refine we_fg_n rfl (fun _ => ?_) | refine we_fg_l rfl (fun _ => ?_) | refine we_fg_s rfl (fun _ => ?_) | refine we_fg_c rfl (fun _ => ?_) | refine we_chain ?_ | refine ws_set ?_ | refine ws_ret ?_ | refine ws_if ?_ | refine ws_nx ?_ | refine ws_par ?_ | refine ws_unp ?_
      | refine we_var rfl ?_ | refine we_c ?_ | refine we_2 ?_ | refine we_1 ?_ | refine we_isi ?_
      | refine wt_e ?_ | refine wt_not ?_ | refine wt_andT ?_ | refine wt_or ?_ | refine we_if ?_ | refine we_not ?_ | refine we_and ?_ | refine we_or ?_
      | refine wa_nil ?_ | refine wa_cons ?_ | refine we_tup ?_ | refine we_lst ?_ | refine we_ca ?_ | refine wo_none ?_ | refine wo_some ?_ | refine we_sl ?_
      | refine wg_nil ?_ | refine wg_d ?_ | refine wg_f rfl ?_ | refine we_call ?_
    | refine draw' (by omega) (by omega) (fun k h0 h1 => ?_)
    | refine ex_mod (by assumption) ?_ | refine ex_fdiv (by assumption) (by assumption) ?_ | refine ex_mulr (by decide) ?_ | refine ex_mull (by decide) ?_ | refine ex_sq (by decide) (by decide) ?_
    | refine wt_isi (by with_reducible first | exact i_tuple_none | exact i_tuple_bool _ | exact i_tuple_int _ | exact i_tuple_str _ | exact i_tuple_list _ | exact i_tuple_tuple _ | exact i_bool_none | exact i_bool_bool _ | exact i_bool_int _ | exact i_bool_str _ | exact i_bool_list _ | exact i_bool_tuple _ | exact i_str_none | exact i_str_bool _ | exact i_str_int _ | exact i_str_str _ | exact i_str_list _ | exact i_str_tuple _ | exact i_int_none | exact i_int_bool _ | exact i_int_int _ | exact i_int_str _ | exact i_int_list _ | exact i_int_tuple _) ?_
    | refine And.intro (Nat.le_of_ble_eq_true rfl) ?_
    | (refine And.intro (fun hb => ?_) (fun hb => ?_) <;> try (first | exact absurd hb (by decide +kernel)))
    | (refine fun (hb : (_ : Bool) = _) => ?_ <;> try (first | exact absurd hb (by decide +kernel)))
    | refine And.intro True.intro ?_
    | refine Exists.intro _ (And.intro (eqS2 (by decide +kernel) _ (by decide +kernel)) ?_)
    | refine Exists.intro _ (And.intro rfl ?_) | refine Exists.intro _ (Exists.intro _ (And.intro rfl ?_)))))

/-! instructions by form: their targets, their births -/
theorem sIn_mem {ys : List Str} {x : Str} (h : sIn ys (.str x) = true) : x ∈ ys := by
  unfold sIn at h
  rw [List.any_eq_true] at h
  obtain ⟨y, hy, e⟩ := h
  obtain ⟨z, hz, rfl⟩ := List.mem_map.mp hy
  have e' : (z == x) = true := e
  rw [beq_iff_eq] at e'
  exact e' ▸ hz
inductive Ins : Dt → List Dt → Option Dt → Prop
  | go {ts : List Dt} (h : ts.all sNum = true) : Ins (.tuple [.str "go", .tuple ts]) ts none
  | copy {n t : Dt} (hn : sName n = true) (ht : sNum t = true) : Ins (.tuple [.str "copy", n, t]) [t] (some n)
  | start {n t : Dt} (hn : sName n = true) (ht : sNum t = true) : Ins (.tuple [.str "start", n, t]) [t] (some n)
  | mark {e t : Dt} (he : sIn ENDS e = true) (ht : sNum t = true) : Ins (.tuple [.str "mark", e, t]) [t] none
  | close {e t : Dt} (he : sIn ENDS e = true) (ht : sNum t = true) : Ins (.tuple [.str "close", e, t]) [t] none
  | read {t : Dt} (ht : sNum t = true) : Ins (.tuple [.str "read", t]) [t] none
  | write {t : Dt} (ht : sNum t = true) : Ins (.tuple [.str "write", t]) [t] none
  | wait {t : Dt} (ht : sNum t = true) : Ins (.tuple [.str "wait", t]) [t] none
  | stay : Ins (.tuple [.str "stay"]) [] none
  | fin : Ins (.tuple [.str "end"]) [] none
theorem one_some {p : Dt → Bool} {r : List Dt} (h : one p r = true) : ∃ x, r = [x] ∧ p x = true := by
  match r, h with
  | [x], h => exact ⟨x, rfl, h⟩
theorem both_some {p : Dt → Dt → Bool} {r : List Dt} (h : both p r = true) : ∃ x y, r = [x, y] ∧ p x y = true := by
  match r, h with
  | [x, y], h => exact ⟨x, y, rfl, h⟩
theorem ins_of {d : Dt} (h : sInstr d = true) : ∃ ts b, Ins d ts b := by
  unfold sInstr at h
  split at h
  · rename_i x r
    unfold instrOf at h
    split at h
    · rename_i hx
      rw [beq_iff_eq] at hx
      subst hx
      obtain ⟨t, rfl, ht⟩ := one_some h
      cases t with
      | tuple ts =>
        have ht' : (!ts.isEmpty && (ts.all sNum && rise ts)) = true := ht
        rw [Bool.and_eq_true, Bool.and_eq_true] at ht'
        exact ⟨_, _, .go ht'.2.1⟩
      | _ => cases ht
    · split at h
      · rename_i hx
        obtain ⟨n, t, rfl, ht⟩ := both_some h
        rw [Bool.and_eq_true] at ht
        have hm := sIn_mem hx
        rcases List.mem_cons.mp hm with rfl | hm
        · exact ⟨_, _, .copy ht.1 ht.2⟩
        · rcases List.mem_cons.mp hm with rfl | hm
          · exact ⟨_, _, .start ht.1 ht.2⟩
          · cases hm
      · split at h
        · rename_i hx
          obtain ⟨n, t, rfl, ht⟩ := both_some h
          rw [Bool.and_eq_true] at ht
          have hm := sIn_mem hx
          rcases List.mem_cons.mp hm with rfl | hm
          · exact ⟨_, _, .mark ht.1 ht.2⟩
          · rcases List.mem_cons.mp hm with rfl | hm
            · exact ⟨_, _, .close ht.1 ht.2⟩
            · cases hm
        · split at h
          · rename_i hx
            obtain ⟨t, rfl, ht⟩ := one_some h
            have hm := sIn_mem hx
            rcases List.mem_cons.mp hm with rfl | hm
            · exact ⟨_, _, .read ht⟩
            · rcases List.mem_cons.mp hm with rfl | hm
              · exact ⟨_, _, .write ht⟩
              · rcases List.mem_cons.mp hm with rfl | hm
                · exact ⟨_, _, .wait ht⟩
                · cases hm
          · split at h
            · rename_i hx
              cases r with
              | nil =>
                have hm := sIn_mem hx
                rcases List.mem_cons.mp hm with rfl | hm
                · exact ⟨_, _, .stay⟩
                · rcases List.mem_cons.mp hm with rfl | hm
                  · exact ⟨_, _, .fin⟩
                  · cases hm
              | cons _ _ => cases h
            · cases h
  · cases h
def tgl : Dt → List Dt
  | .tuple [.str x, t] => if x == "go" then (match t with | .tuple ts => ts | _ => []) else [t]
  | .tuple [_, _, t] => [t]
  | _ => []
def bth : Dt → Option Dt
  | .tuple [.str x, n, _] => if sIn BIRTHS (.str x) then some n else none
  | _ => none
theorem Ins.fn {d : Dt} {ts : List Dt} {b : Option Dt} (h : Ins d ts b) : tgl d = ts ∧ bth d = b := by
  cases h <;> exact ⟨rfl, rfl⟩
theorem ins_at {d : Dt} (h : sInstr d = true) : Ins d (tgl d) (bth d) := by
  obtain ⟨ts, b, i⟩ := ins_of h
  rw [i.fn.1, i.fn.2]
  exact i
theorem Ins.nums {d : Dt} {ts : List Dt} {b : Option Dt} (h : Ins d ts b) : ts.all sNum = true := by
  cases h with
  | go h => exact h
  | stay => rfl
  | fin => rfl
  | copy _ h => show (sNum _ && true) = true; rw [h]; rfl
  | start _ h => show (sNum _ && true) = true; rw [h]; rfl
  | mark _ h => show (sNum _ && true) = true; rw [h]; rfl
  | close _ h => show (sNum _ && true) = true; rw [h]; rfl
  | read h => show (sNum _ && true) = true; rw [h]; rfl
  | write h => show (sNum _ && true) = true; rw [h]; rfl
  | wait h => show (sNum _ && true) = true; rw [h]; rfl
def nmOf : Dt → Dt
  | .tuple (n :: _) => n
  | _ => .none
def plOf : Dt → List Dt
  | .tuple [_, .tuple ps, _] => ps
  | _ => []
def asOf : Dt → List Dt
  | .tuple [_, _, .tuple as] => as
  | _ => []
def bnOf : Dt → Dt
  | .tuple [_, n] => n
  | _ => .none
theorem ins_birth {x : Str} {r : List Dt} (h0 : (x == "go") = false) (h1 : sIn BIRTHS (.str x) = true) : sInstr (.tuple (.str x :: r)) = both (fun n t => sName n && sNum t) r := by
  show instrOf x r = _
  unfold instrOf
  rw [if_neg (by rw [h0]; exact Bool.false_ne_true), if_pos h1]
theorem ins_shut {x : Str} {r : List Dt} (h0 : (x == "go") = false) (h1 : sIn BIRTHS (.str x) = false) (h2 : sIn SHUTS (.str x) = true) : sInstr (.tuple (.str x :: r)) = both (fun e t => sIn ENDS e && sNum t) r := by
  show instrOf x r = _
  unfold instrOf
  rw [if_neg (by rw [h0]; exact Bool.false_ne_true), if_neg (by rw [h1]; exact Bool.false_ne_true), if_pos h2]
theorem ins_going {x : Str} {r : List Dt} (h0 : (x == "go") = false) (h1 : sIn BIRTHS (.str x) = false) (h2 : sIn SHUTS (.str x) = false) (h3 : sIn GOINGS (.str x) = true) : sInstr (.tuple (.str x :: r)) = one sNum r := by
  show instrOf x r = _
  unfold instrOf
  rw [if_neg (by rw [h0]; exact Bool.false_ne_true), if_neg (by rw [h1]; exact Bool.false_ne_true), if_neg (by rw [h2]; exact Bool.false_ne_true), if_pos h3]
theorem ins_go {r : List Dt} : sInstr (.tuple (.str "go" :: r)) = one sTargets r := by
  show instrOf "go" r = _
  unfold instrOf
  rw [if_pos (by decide +kernel)]
theorem rise_pw : ∀ {xs : List Dt}, xs.Pairwise (fun x y => dataLt x y = true) → rise xs = true
  | [], _ => rfl
  | [_], _ => rfl
  | x :: y :: r, h => by
    rw [List.pairwise_cons] at h
    show (dataLt x y && rise (y :: r)) = true
    rw [h.1 y List.mem_cons_self, rise_pw h.2]
    rfl
theorem num_nat (k : Nat) : sNum (.int (k : Nat)) = true := by
  show (!dataLt (.int (k : Nat)) (.int 0)) = true
  rw [dataLt_int, decide_eq_false (by omega)]
  rfl
theorem int_bk {i : Nat} (h : i ≤ 12) : Bk 0 62 (.int (i : Nat)) := ⟨gd_int.mpr (Nat.le_trans (show (i : Int).natAbs ≤ 12 by omega) (by decide +kernel)), Nat.le_refl _, Nat.le_refl _⟩
theorem ixM {xs : List Dt} {k : Int} {P : Dt → Prop} (a : 0 ≤ k) (b : k < xs.length) (p : ∀ z ∈ xs, P z) : ∃ z, ixD (.list xs) (.int k) = some z ∧ P z := by
  obtain ⟨z, hz, e⟩ := ixL (xs := xs) a b
  exact ⟨z, e, p z hz⟩
theorem all_cons {P : Dt → Prop} {x : Dt} {r : List Dt} (h : P x) (k : ∀ y ∈ r, P y) : ∀ y ∈ x :: r, P y := fun y hy => by
  rcases List.mem_cons.mp hy with rfl | h1
  · exact h
  · exact k y h1
theorem all_nil {P : Dt → Prop} : ∀ y ∈ ([] : List Dt), P y := fun y hy => (List.not_mem_nil hy).elim
/-! a set of targets -/
theorem set_ok {n : Nat} (h1 : 0 < n) (h2 : n ≤ 12) : Can (m__law_set [.fd, .dat (.int (n : Nat))]) fun d => ∃ ys, d = .tuple ys ∧ Bk 1 771 d ∧ sTargets d = true ∧ ∀ y ∈ ys, ∃ k : Nat, k < n ∧ y = .int (k : Nat) := by
  refine can_fn ?_
  unfold b__law_set
  refine ws_seq (ws_set (we_call (wg_f rfl (wg_d (we_var rfl (wg_nil (draw' (by omega) (by omega) fun k a b => ?_)))))))
  obtain ⟨k, rfl⟩ := Int.eq_ofNat_of_zero_le a
  refine ws_ret (we_ca (wa_cons (we_lcSub (must := fun x => x = .int (k : Nat)) (wi_r1' (wa_cons (we_var rfl (wa_nil ⟨n, rfl, by omega, ?_⟩)))))))
  rw [List.length_map, List.length_range]
  refine ⟨by unfold sizeLine; omega, fun x hx => ?_, fun ys hs hm => ?_⟩
  · obtain ⟨i, hi, rfl⟩ := List.mem_map.mp hx
    refine wt_or (wt_e (we_2 (we_var rfl (we_var rfl ⟨_, eq_len _ _, _, rfl, fun _ => ⟨fun _ => rfl, we_var rfl rfl⟩, fun hb => ?_⟩))))
    refine wt_e (we_2 (we_call (wg_f rfl (wg_d (we_c (wg_nil (draw' (by omega) (by omega) fun q a b => we_c ⟨_, eq_len _ _, _, rfl, fun e => ?_, we_var rfl rfl⟩)))))))
    cases e
    have hb' : ((k : Int) == k) = false := hb
    rw [beq_self_eq_true] at hb'
    cases hb'
  · have it : ∀ y ∈ ys, ∃ k : Nat, k < n ∧ y = .int (k : Nat) := fun y hy => by
      obtain ⟨i, hi, rfl⟩ := List.mem_map.mp (hs.subset hy)
      exact ⟨i, List.mem_range.mp hi, rfl⟩
    have hk : PyData.int (k : Nat) ∈ ys := hm _ (List.mem_map.mpr ⟨k, List.mem_range.mpr (by omega), rfl⟩) rfl
    have hl : ys.length ≤ n := by
      have := hs.length_le
      rwa [List.length_map, List.length_range] at this
    have pw : ys.Pairwise (fun x y => dataLt x y = true) := List.Pairwise.sublist hs (List.pairwise_map.mpr (List.pairwise_lt_range.imp fun {a b} h => by
      rw [dataLt_int]
      exact decide_eq_true (by omega)))
    refine wa_nil ⟨_, rfl, ys, rfl, Bk.tup (k := 0) (n := 62) (fun y hy => ?_) (Nat.le_trans hl h2) (by decide), ?_, it⟩
    · obtain ⟨i, hi, rfl⟩ := it y hy
      exact int_bk (by omega)
    · show (!ys.isEmpty && (ys.all sNum && rise ys)) = true
      rw [rise_pw pw, List.all_eq_true.mpr fun y hy => by obtain ⟨i, hi, rfl⟩ := it y hy; exact num_nat i]
      cases ys with
      | nil => cases hk
      | cons _ _ => rfl
abbrev T (k n m : Nat) (d : Dt) : Prop := ∃ xs, d = .tuple xs ∧ xs.length ≤ m ∧ ∀ x ∈ xs, Bk k n x
theorem T.of3 {k n : Nat} {a b c : Dt} (h1 : Bk k n a) (h2 : Bk k n b) (h3 : Bk k n c) : T k n 3 (.tuple [a, b, c]) := ⟨_, rfl, Nat.le_refl _, all_cons h1 (all_cons h2 (all_cons h3 all_nil))⟩
theorem T.of2 {k n : Nat} {a b : Dt} (h1 : Bk k n a) (h2 : Bk k n b) : T k n 3 (.tuple [a, b]) := ⟨_, rfl, by simp, all_cons h1 (all_cons h2 all_nil)⟩
theorem T.of1 {k n : Nat} {a : Dt} (h1 : Bk k n a) : T k n 3 (.tuple [a]) := ⟨_, rfl, by simp, all_cons h1 all_nil⟩
theorem nm_up {d : Dt} (h : sNm d = true) : Bk 1 771 d := (nm_bk h).up (by decide) (by decide)
/-- an instruction of a role of so many places, births of these -/
structure GI (n : Nat) (names : List Dt) (d : Dt) : Prop where
  t : T 1 771 3 d
  s : sInstr d = true
  tg : ∀ x ∈ tgl d, ∃ k : Nat, k < n ∧ x = .int (k : Nat)
  bt : ∀ b, bth d = some b → b ∈ names
section
variable {n : Nat} {names : List Dt} {k : Nat}
theorem gi_num (lt : k < n) : ∀ x ∈ [PyData.int (k : Nat)], ∃ j : Nat, j < n ∧ x = .int (j : Nat) := all_cons ⟨k, lt, rfl⟩ all_nil
theorem gi_birth {x : Str} {b : Dt} (hx : x ∈ BIRTHS) (hb : b ∈ names) (hn : sNm b = true) (lt : k < n) (h2 : n ≤ 12) : GI n names (.tuple [.str x, b, .int (k : Nat)]) := by
  have hw : ∀ x ∈ BIRTHS, sNm (.str x) = true ∧ (x == "go") = false ∧ sIn BIRTHS (.str x) = true := by decide +kernel
  obtain ⟨w1, w2, w3⟩ := hw x hx
  refine ⟨T.of3 (nm_up w1) (nm_up hn) ((int_bk (by omega)).up (by decide) (by decide)), ?_, gi_num lt, fun c hc => ?_⟩
  · rw [ins_birth w2 w3]
    show (sName b && sNum _) = true
    rw [nm_name hn, num_nat]
    rfl
  · have : (if sIn BIRTHS (.str x) = true then some b else none) = some c := hc
    rw [if_pos w3] at this
    cases this
    exact hb
theorem gi_shut {x e : Str} (hx : x ∈ SHUTS) (he : e ∈ ENDS) (lt : k < n) (h2 : n ≤ 12) : GI n names (.tuple [.str x, .str e, .int (k : Nat)]) := by
  have hw : ∀ x ∈ SHUTS, sNm (.str x) = true ∧ (x == "go") = false ∧ sIn BIRTHS (.str x) = false ∧ sIn SHUTS (.str x) = true := by decide +kernel
  have hv : ∀ x ∈ ENDS, sNm (.str x) = true ∧ sIn ENDS (.str x) = true := by decide +kernel
  obtain ⟨w1, w2, w3, w4⟩ := hw x hx
  obtain ⟨v1, v2⟩ := hv e he
  refine ⟨T.of3 (nm_up w1) (nm_up v1) ((int_bk (by omega)).up (by decide) (by decide)), ?_, gi_num lt, fun c hc => ?_⟩
  · rw [ins_shut w2 w3 w4]
    show (sIn ENDS (.str e) && sNum _) = true
    rw [v2, num_nat]
    rfl
  · have : (if sIn BIRTHS (.str x) = true then some (PyData.str e) else none) = some c := hc
    rw [if_neg (by rw [w3]; exact Bool.false_ne_true)] at this
    cases this
theorem gi_going {x : Str} (hx : x ∈ GOINGS) (lt : k < n) (h2 : n ≤ 12) : GI n names (.tuple [.str x, .int (k : Nat)]) := by
  have hw : ∀ x ∈ GOINGS, sNm (.str x) = true ∧ (x == "go") = false ∧ sIn BIRTHS (.str x) = false ∧ sIn SHUTS (.str x) = false ∧ sIn GOINGS (.str x) = true := by decide +kernel
  obtain ⟨w1, w2, w3, w4, w5⟩ := hw x hx
  refine ⟨T.of2 (nm_up w1) ((int_bk (by omega)).up (by decide) (by decide)), ?_, ?_, fun c hc => by cases hc⟩
  · rw [ins_going w2 w3 w4 w5]
    exact num_nat k
  · have : tgl (.tuple [.str x, .int (k : Nat)]) = if x == "go" then [] else [.int (k : Nat)] := rfl
    rw [this, w2]
    exact gi_num lt
theorem gi_stop {x : Str} (hx : x ∈ STOPS) : GI n names (.tuple [.str x]) := by
  have hw : ∀ x ∈ STOPS, sNm (.str x) = true ∧ sInstr (.tuple [.str x]) = true := by decide +kernel
  obtain ⟨w1, w2⟩ := hw x hx
  exact ⟨T.of1 (nm_up w1), w2, fun y hy => (List.not_mem_nil hy).elim, fun c hc => by cases hc⟩
theorem gi_go {ys : List Dt} (hb : Bk 1 771 (.tuple ys)) (hs : sTargets (.tuple ys) = true) (ht : ∀ y ∈ ys, ∃ k : Nat, k < n ∧ y = .int (k : Nat)) : GI n names (.tuple [.str "go", .tuple ys]) :=
  ⟨T.of2 (nm_up (by decide +kernel)) hb, by rw [ins_go]; exact hs, ht, fun c hc => by cases hc⟩
end
theorem strs_in {ys : List Str} {z : Dt} {P : Dt → Prop} (h : z ∈ ys.map PyData.str) (k : ∀ x ∈ ys, P (.str x)) : P z := by
  obtain ⟨x, hx, rfl⟩ := List.mem_map.mp h
  exact k x hx
theorem instr_ok {n : Nat} (h1 : 0 < n) (h2 : n ≤ 12) {names : List Dt} (n0 : 0 < names.length) (n1 : names.length ≤ 1000) (hn : ∀ x ∈ names, sNm x = true) : Can (m__law_instruction [.fd, .dat (.int (n : Nat)), .dat (.list names)]) (GI n names) := by
  refine can_fn ?_
  unfold b__law_instruction
  refine ws_seq (ws_par (wa_cons (we_call (wg_f rfl (wg_d (we_c (wg_nil (draw' (by omega) (by omega) fun k a b => ?_))))))))
  refine wa_cons (we_call (wg_f rfl (wg_d (we_var rfl (wg_nil (draw' (by omega) (by omega) fun t a1 b1 => wa_nil ⟨_, _, rfl, ?_⟩))))))
  obtain ⟨t, rfl⟩ := Int.eq_ofNat_of_zero_le a1
  have ht : t < n := by omega
  have lt_is : ∀ c : Int, ltX (.int k) (.int c) = some (.bool (decide (k < c))) := fun c => by rw [← dataLt_int]; rfl
  refine ws_seq (ws_if (wt_e (we_2 (we_var rfl (we_c ⟨_, lt_is _, _, rfl, fun hb => ?_, fun hb => ?_⟩)))))
  · have hk : k < 5 := of_decide_eq_true hb
    refine ws_ret (we_tup (wa_cons (we_2 (we_lst (wa_cons (we_c (wa_cons (we_c (wa_cons (we_c (wa_cons (we_c (wa_cons (we_c (wa_nil ⟨by decide, we_var rfl (ixM a hk fun z hz => ?_)⟩)))))))))))))))
    refine wa_cons (we_call (wg_f rfl (wg_d (we_var rfl (wg_nil (pickL n0 (by omega) fun x hx => wa_cons (we_var rfl (wa_nil ⟨Nat.le_of_ble_eq_true rfl, ?_⟩))))))))
    exact strs_in (ys := ["copy", "start", "copy", "start", "start"]) (P := fun z => GI n names (.tuple [z, x, .int (t : Nat)])) hz fun w hw => gi_birth ((show ∀ w ∈ (["copy", "start", "copy", "start", "start"] : List Str), w ∈ BIRTHS by decide +kernel) w hw) hx (hn x hx) ht h2
  · refine ws_nx (ws_seq (ws_if (wt_e (we_2 (we_var rfl (we_c ⟨_, lt_is _, _, rfl, fun hb => ?_, fun hb => ?_⟩))))))
    · refine ws_ret (we_tup (wa_cons (we_2 (we_lst (wa_cons (we_c (wa_cons (we_c (wa_nil ⟨by decide, we_call (wg_f rfl (wg_d (we_c (wg_nil (draw' (by omega) (by omega) fun k a b => ixM a b fun z hz => ?_)))))⟩)))))))))
      refine wa_cons (we_2 (we_lst (wa_cons (we_c (wa_cons (we_c (wa_nil ⟨by decide, we_call (wg_f rfl (wg_d (we_c (wg_nil (draw' (by omega) (by omega) fun k a b => ixM a b fun y hy => ?_)))))⟩)))))))
      refine wa_cons (we_var rfl (wa_nil ⟨Nat.le_of_ble_eq_true rfl, ?_⟩))
      exact strs_in (ys := SHUTS) (P := fun z => GI n names (.tuple [z, y, .int (t : Nat)])) hz fun w hw => strs_in (ys := ENDS) (P := fun y => GI n names (.tuple [.str w, y, .int (t : Nat)])) hy fun e he => gi_shut hw he ht h2
    · refine ws_nx (ws_seq (ws_if (wt_e (we_2 (we_var rfl (we_c ⟨_, eq_len _ _, _, rfl, fun hc => ?_, fun hc => ?_⟩))))))
      · refine ws_ret (we_tup (wa_cons (we_c (wa_cons (we_call (wg_f rfl (wg_d (we_var rfl (wg_nil ((set_ok h1 h2).mono fun z hz => wa_nil ⟨Nat.le_of_ble_eq_true rfl, ?_⟩))))))))))
        obtain ⟨ys, rfl, q1, q2, q3⟩ := hz
        exact gi_go q1 q2 q3
      · have hk : 10 ≤ k := by
          have e1 : ¬ k < 9 := of_decide_eq_false hb
          have e2 : ¬ k = 9 := by simpa using hc
          omega
        refine ws_nx (ws_ret (we_if (wt_e (we_2 (we_var rfl (we_c ⟨_, lt_is _, _, rfl, fun hb => ?_, fun hb => ?_⟩))))))
        · have hk2 : k < 13 := of_decide_eq_true hb
          refine we_tup (wa_cons (we_2 (we_lst (wa_cons (we_c (wa_cons (we_c (wa_cons (we_c (wa_nil ⟨by decide, we_2 (we_var rfl (we_c ⟨.int (k - 10), rfl, ixM (by omega) (show k - 10 < 3 by omega) fun z hz => ?_⟩))⟩))))))))))
          exact wa_cons (we_var rfl (wa_nil ⟨Nat.le_of_ble_eq_true rfl, strs_in (ys := GOINGS) (P := fun z => GI n names (.tuple [z, .int (t : Nat)])) hz fun w hw => gi_going hw ht h2⟩))
        · refine we_tup (wa_cons (we_2 (we_lst (wa_cons (we_c (wa_cons (we_c (wa_nil ⟨by decide, we_call (wg_f rfl (wg_d (we_c (wg_nil (draw' (by omega) (by omega) fun k a b => ixM a b fun z hz => ?_)))))⟩))))))))
          exact wa_nil ⟨Nat.le_of_ble_eq_true rfl, strs_in (ys := STOPS) (P := fun z => GI n names (.tuple [z])) hz fun w hw => gi_stop hw⟩
/-! asides -/
def sAs : Dt → Bool
  | .tuple [.str x, .str y] => sNm (.str x) && sNm (.str y)
  | _ => false
theorem as_of {x y : Dt} (hx : sNm x = true) (hy : sNm y = true) : sAs (.tuple [x, y]) = true := by
  obtain ⟨x, rfl, _, _⟩ := nm_str hx
  obtain ⟨y, rfl, _, _⟩ := nm_str hy
  show (sNm (.str x) && sNm (.str y)) = true
  rw [hx, hy]
  rfl
theorem as_two {d : Dt} (h : sAs d = true) : ∃ x y, d = .tuple [.str x, .str y] ∧ sNm (.str x) = true ∧ sNm (.str y) = true := by
  unfold sAs at h
  split at h
  · rw [Bool.and_eq_true] at h
    exact ⟨_, _, rfl, h.1, h.2⟩
  · cases h
theorem as_bk {d : Dt} (h : sAs d = true) : Bk 1 27 d := by
  obtain ⟨x, y, rfl, hx, hy⟩ := as_two h
  exact Bk.tup (k := 0) (n := 10) (m := 2) (all_cons (nm_bk hx) (all_cons (nm_bk hy) all_nil)) (by simp) (by decide)
structure GAs (names : List Dt) (d : Dt) : Prop where
  a : sAs d = true
  b : sBirth d = true
  n : bnOf d ∈ names
theorem ga_of {names : List Dt} {x : Str} {b : Dt} (hx : x ∈ BIRTHS) (hb : b ∈ names) (hn : sNm b = true) : GAs names (.tuple [.str x, b]) := by
  have hw : ∀ x ∈ BIRTHS, sNm (.str x) = true ∧ sIn BIRTHS (.str x) = true := by decide +kernel
  obtain ⟨w1, w2⟩ := hw x hx
  refine ⟨as_of w1 hn, ?_, hb⟩
  show (sIn BIRTHS (.str x) && sName b) = true
  rw [w2, nm_name hn]
  rfl
abbrev AsT (names : List Dt) (d : Dt) : Prop := ∃ xs, d = .tuple xs ∧ xs.length ≤ 3 ∧ (∀ x ∈ xs, GAs names x) ∧ rise xs = true
theorem as_alike {ys : List Dt} (hq : ∀ y ∈ ys, sAs y = true) : (∀ x ∈ ys, ∀ y ∈ ys, alike x y = true) ∧ ∀ x ∈ ys, okKey x = true := by
  refine ⟨fun x hx y hy => ?_, fun x hx => ?_⟩
  · obtain ⟨a, b, rfl, _, _⟩ := as_two (hq x hx)
    obtain ⟨c, d, rfl, _, _⟩ := as_two (hq y hy)
    rfl
  · obtain ⟨a, b, rfl, _, _⟩ := as_two (hq x hx)
    rfl
/-- tuple(sorted(set(asides))) -/
theorem as_sort {ys : List Dt} {names : List Dt} (hl : ys.length < 64) (hq : ∀ y ∈ ys, GAs names y) : sortSetD (.list ys) = some (.list (riseD ys)) ∧ (∀ x ∈ riseD ys, GAs names x) ∧ rise (riseD ys) = true := by
  obtain ⟨al, ok⟩ := as_alike fun y hy => (hq y hy).a
  obtain ⟨r1, r2⟩ := riseD_ok al
  exact ⟨if_pos ⟨hl, List.all_eq_true.mpr ok, List.all_eq_true.mpr fun x hx => List.all_eq_true.mpr fun y hy => al x hx y hy⟩, fun x hx => hq x ((r2 x).mp hx), rise_pw r1⟩
theorem asides_ok {names : List Dt} (n0 : 0 < names.length) (n1 : names.length ≤ 1000) (hn : ∀ x ∈ names, sNm x = true) : Can (m__law_asides [.fd, .dat (.list names)]) (AsT names) := by
  refine can_fn ?_
  unfold b__law_asides
  refine ws_seq (ws_set (we_lcE (Q := GAs names) (wi_r1' (wa_cons (we_call (wg_f rfl (wg_d (we_c (wg_nil (draw' (by omega) (by omega) fun k a b => ?_))))))))))
  obtain ⟨k, rfl⟩ := Int.eq_ofNat_of_zero_le a
  refine wa_nil ⟨k, rfl, by omega, ?_⟩
  rw [List.length_map, List.length_range]
  refine ⟨by unfold sizeLine; omega, fun x hx => ⟨_, rfl, ?_⟩, fun ys hy hq => ?_⟩
  · refine we_tup (wa_cons (we_2 (we_lst (wa_cons (we_c (wa_cons (we_c (wa_nil ⟨by decide, we_call (wg_f rfl (wg_d (we_c (wg_nil (draw' (by omega) (by omega) fun k a b => ixM a b fun z hz => ?_)))))⟩))))))))
    refine wa_cons (we_call (wg_f rfl (wg_d (we_var rfl (wg_nil (pickL n0 (by omega) fun x hx => wa_nil ⟨Nat.le_of_ble_eq_true rfl, ?_⟩))))))
    exact strs_in (ys := BIRTHS) (P := fun z => GAs names (.tuple [z, x])) hz fun w hw => ga_of hw hx (hn x hx)
  · obtain ⟨e, q1, q2⟩ := as_sort (by omega) hq
    exact ws_ret (we_ca (wa_cons (we_1 (we_var rfl ⟨_, e, wa_nil ⟨_, rfl, _, rfl, Nat.le_trans riseD_len (by omega), q1, q2⟩⟩))))
/-! roles -/
abbrev GR (names : List Dt) (d : Dt) : Prop := ∃ t ps as, d = .tuple [t, .tuple ps, .tuple as] ∧ sNm t = true ∧ 0 < ps.length ∧ ps.length ≤ 12 ∧ (∀ p ∈ ps, GI ps.length names p) ∧ as.length ≤ 3 ∧ (∀ a ∈ as, GAs names a) ∧ rise as = true
theorem role_ok {t : Dt} (ht : sNm t = true) {names : List Dt} (n0 : 0 < names.length) (n1 : names.length ≤ 1000) (hn : ∀ x ∈ names, sNm x = true) : Can (m__law_role [.fd, .dat t, .dat (.list names)]) fun d => GR names d ∧ nmOf d = t := by
  refine can_fn ?_
  unfold b__law_role
  refine ws_seq (ws_set (we_2 (we_lst (wa_cons (we_c (wa_cons (we_c (wa_cons (we_c (wa_cons (we_c (wa_cons (we_c (wa_cons (we_c (wa_cons (we_c (wa_nil ⟨Nat.le_of_ble_eq_true rfl, we_call (wg_f rfl (wg_d (we_c (wg_nil (draw' (by omega) (by omega) fun k a b => ?_)))))⟩))))))))))))))))))
  obtain ⟨z, hz, e⟩ := ixL (xs := [.int 1, .int 2, .int 3, .int 4, .int 5, .int 6, .int 12]) a b
  have hz2 : ∃ n : Nat, z = .int (n : Nat) ∧ 0 < n ∧ n ≤ 12 := by
    simp only [List.mem_cons, List.not_mem_nil, or_false] at hz
    rcases hz with rfl | rfl | rfl | rfl | rfl | rfl | rfl
    all_goals first | exact ⟨1, rfl, by decide, by decide⟩ | exact ⟨2, rfl, by decide, by decide⟩ | exact ⟨3, rfl, by decide, by decide⟩ | exact ⟨4, rfl, by decide, by decide⟩ | exact ⟨5, rfl, by decide, by decide⟩ | exact ⟨6, rfl, by decide, by decide⟩ | exact ⟨12, rfl, by decide, by decide⟩
  obtain ⟨n, rfl, h1, h2⟩ := hz2
  refine ⟨_, e, ?_⟩
  refine ws_seq (ws_set (we_ca (wa_cons (we_lcE (Q := GI n names) (wi_r1' (wa_cons (we_var rfl (wa_nil ⟨n, rfl, by omega, ?_⟩))))))))
  rw [List.length_map, List.length_range]
  refine ⟨by unfold sizeLine; omega, fun x hx => ⟨_, rfl, ?_⟩, fun ys hy hq => wa_nil ⟨_, rfl, ?_⟩⟩
  · exact we_call (wg_f rfl (wg_d (we_var rfl (wg_d (we_var rfl (wg_nil (instr_ok h1 h2 n0 n1 hn)))))))
  · refine ws_ret (we_tup (wa_cons (we_var rfl (wa_cons (we_var rfl (wa_cons (we_call (wg_f rfl (wg_d (we_var rfl (wg_nil ((asides_ok n0 n1 hn).mono fun d hd => ?_))))))))))))
    obtain ⟨as, rfl, hl, ha, hr⟩ := hd
    exact wa_nil ⟨Nat.le_of_ble_eq_true rfl, ⟨_, _, _, rfl, ht, by omega, by omega, by rw [hy]; exact hq, hl, ha, hr⟩, rfl⟩
theorem beginl_ok : Can (m__law_begin [.fd]) fun d => sAs d = true ∧ sBegin d = true := by
  refine can_fn ?_
  unfold b__law_begin
  refine ws_ret (we_tup (wa_cons (we_2 (we_lst (wa_cons (we_c (wa_cons (we_c (wa_nil ⟨by decide, we_call (wg_f rfl (wg_d (we_c (wg_nil (draw' (by omega) (by omega) fun k a b => ixM a b fun z hz => ?_)))))⟩)))))))))
  refine wa_cons (we_2 (we_lst (wa_cons (we_c (wa_cons (we_c (wa_nil ⟨by decide, we_call (wg_f rfl (wg_d (we_c (wg_nil (draw' (by omega) (by omega) fun k a b => ixM a b fun y hy => wa_nil ⟨Nat.le_of_ble_eq_true rfl, ?_⟩)))))⟩)))))))
  have key : ∀ x ∈ OM, ∀ y ∈ OM, sAs (.tuple [.str x, .str y]) = true ∧ sBegin (.tuple [.str x, .str y]) = true := by decide +kernel
  exact strs_in (ys := OM) (P := fun z => sAs (.tuple [z, y]) = true ∧ sBegin (.tuple [z, y]) = true) hz fun w hw => strs_in (ys := OM) (P := fun y => sAs (.tuple [.str w, y]) = true ∧ sBegin (.tuple [.str w, y]) = true) hy fun v hv => key w hw v hv
/-- a program -/
structure GP (m : Nat) (t : Dt) (rs : List Dt) : Prop where
  a : sAs t = true
  b : sBegin t = true
  l0 : 0 < rs.length
  l1 : rs.length ≤ m
  nd : (rs.map nmOf).Nodup
  r : ∀ r ∈ rs, GR (rs.map nmOf) r
theorem program_ok {m : Nat} (m0 : 0 < m) (m8 : m ≤ 8) : Can (m__law_program [.fd, .dat (.int (m : Nat))]) fun d => ∃ t rs, d = .tuple [t, .tuple rs] ∧ GP m t rs := by
  refine can_fn ?_
  unfold b__law_program
  refine ws_seq (ws_unp (we_tup (wa_cons (we_call (wg_f rfl (wg_d (we_2 (we_c (we_call (wg_f rfl (wg_d (we_var rfl (wg_nil (draw' (by omega) (by omega) fun k a b => ?_))))))))))))))
  obtain ⟨k, rfl⟩ := Int.eq_ofNat_of_zero_le a
  refine ⟨.int ((1 + k : Nat) : Int), by rw [Int.natCast_add]; rfl, wg_nil ((names_ok (n := 1 + k) (by omega)).mono fun d hd => ?_)⟩
  obtain ⟨names, rfl, hl, hn, hnd⟩ := hd
  refine wa_cons (we_call (wg_f rfl (wg_nil (beginl_ok.mono fun d hd => wa_nil ⟨Nat.le_of_ble_eq_true rfl, _, rfl, ?_⟩))))
  refine ws_ret (we_tup (wa_cons (we_var rfl (wa_cons (we_ca (wa_cons (we_lcF (Q := fun x y => GR names y ∧ nmOf y = x) (wi_v (we_var rfl ⟨names, rfl, by unfold sizeLine; omega, fun x hx => ⟨_, rfl, ?_⟩, fun ys hq => wa_nil ⟨_, rfl, wa_nil ⟨Nat.le_of_ble_eq_true rfl, _, _, rfl, ?_⟩⟩⟩)))))))))
  · exact we_call (wg_f rfl (wg_d (we_var rfl (wg_d (we_var rfl (wg_nil (role_ok (hn x hx) (by omega) (by omega) hn)))))))
  · have e : ys.map nmOf = names := hq.map_eq fun x y q => q.2
    have el := hq.len
    refine ⟨hd.1, hd.2, by omega, by omega, by rw [e]; exact hnd, fun r hr => ?_⟩
    rw [e]
    obtain ⟨x, hx, q⟩ := hq.mem r hr
    exact q.1
end K09

set_option maxHeartbeats 2000000
namespace K09
open PySem PySem.Spec PyProof.Rows L2 DL PySem.W DLS
/-! texts -/
theorem str_ext {x y : Str} (h : cl x = cl y) : x = y := str_of_cps h
def partS : Dt → Str
  | .str x => x
  | d => PyData.shown d
def flat1 : Dt → Bool
  | .int _ => true
  | .str _ => true
  | _ => false
def lastS (x : Dt) : Dt → List Str
  | .tuple ts => ["go", Txt.join "," (ts.map partS)]
  | t => [partS x, partS t]
def wordsS : Dt → List Str
  | .tuple [x, t] => lastS x t
  | .tuple xs => xs.map partS
  | _ => []
theorem num_int {t : Dt} (h : sNum t = true) : ∃ i, t = .int i := by
  cases t with
  | int i => exact ⟨i, rfl⟩
  | _ => cases h
def lineS (d : Dt) : Str := Txt.join " " (wordsS d)
theorem int_okc {i : Int} : (sh (.int i)).all okc = true := List.all_eq_true.mpr fun c hc => by
  by_cases h : c ≠ 45 ∧ (c < 48 ∨ 57 < c)
  · exact absurd hc (shown_int_free' h i)
  · unfold okc
    simp only [Bool.and_eq_true, decide_eq_true_eq, bne_iff_ne]
    omega
abbrev G0 (d : Dt) : Prop := gd (10 ^ 60 - 1) 1048576 1048576 d = true
theorem part_ok {d : Dt} (h : G0 d) (f : flat1 d = true) : (partS d).length ≤ sz d ∧ okS (partS d) = true := by
  cases d with
  | int i => exact ⟨by
      have := sh_sz h
      have e : (sh (.int i)).length = (PyData.shown (.int i)).length := Array.length_toList
      rw [e] at this
      exact this, int_okc⟩
  | str x => exact ⟨by
      have e : (cl x).length = x.length := Array.length_toList
      show x.length ≤ (cl x).length + 2
      omega, (gd_str.mp h).1⟩
  | _ => cases f
theorem parts_ok : ∀ {xs : List Dt}, (∀ x ∈ xs, G0 x ∧ flat1 x = true) → ((xs.map partS).map (·.length)).sum + 2 * xs.length ≤ szAll xs ∧ ∀ w ∈ xs.map partS, okS w = true
  | [], _ => ⟨Nat.le_refl _, fun _ h => (List.not_mem_nil h).elim⟩
  | x :: r, h => by
    obtain ⟨h1, h2⟩ := parts_ok (xs := r) fun y hy => h y (List.mem_cons_of_mem _ hy)
    obtain ⟨g, f⟩ := h x List.mem_cons_self
    obtain ⟨p1, p2⟩ := part_ok g f
    refine ⟨?_, fun w hw => ?_⟩
    · show (partS x).length + ((r.map partS).map (·.length)).sum + 2 * (r.length + 1) ≤ sz x + 2 + szAll r
      omega
    · rcases List.mem_cons.mp hw with rfl | h3
      · exact p2
      · exact h2 w h3
theorem strs_map : ∀ zs : List Str, strsOf (zs.map PyData.str) = some zs
  | [] => rfl
  | z :: r => by
    show (strsOf (r.map PyData.str)).map (z :: ·) = _
    rw [strs_map r]
    rfl
theorem join_ok' {y : Str} {zs : List Str} (h : (zs.map (·.length)).sum + zs.length * y.length ≤ 16777216) : joinS y (.list (zs.map PyData.str)) = some (.str (Txt.join y zs)) := by
  show (strsOf (zs.map PyData.str)).bind (joinL1 y) = _
  rw [strs_map]
  exact if_pos h
theorem join_len (y : Str) (zs : List Str) : (Txt.join y zs).length ≤ (zs.map (·.length)).sum + zs.length * y.length := by
  show (PySem.Builtin.Str.glued y zs).length ≤ _
  rw [size_glued]
  have := Nat.mul_le_mul_right y.length (Nat.sub_le zs.length 1)
  omega
theorem join_all {p : Nat → Bool} {y : Str} (hy : (cl y).all p = true) : ∀ {zs : List Str}, (∀ z ∈ zs, (cl z).all p = true) → (cl (Txt.join y zs)).all p = true := by
  have key : ∀ zs : List Str, (∀ z ∈ zs, (cl z).all p = true) → (TL.joinL (cl y) (zs.map cl)).all p = true := by
    intro zs
    induction zs with
    | nil => exact fun _ => rfl
    | cons z r ih =>
      intro h
      cases r with
      | nil => exact h z List.mem_cons_self
      | cons w r =>
        show (cl z ++ (cl y ++ TL.joinL (cl y) ((w :: r).map cl))).all p = true
        rw [List.all_append, List.all_append, h z List.mem_cons_self, hy, ih fun q hq => h q (List.mem_cons_of_mem _ hq)]
        rfl
  intro zs h
  rw [TL.join_eq]
  have e := TL.tl_join y zs
  show (TL.tl (Str.join y zs)).all p = true
  rw [e]
  exact key zs h
theorem num_flat {t : Dt} (h : sNum t = true) : flat1 t = true := by
  cases t with
  | int _ => rfl
  | _ => cases h
theorem name_flat {t : Dt} (h : sName t = true) : flat1 t = true := by
  cases t with
  | str _ => rfl
  | _ => cases h
theorem ends_flat {t : Dt} (h : sIn ENDS t = true) : flat1 t = true := by
  cases t with
  | str _ => rfl
  | _ => exact absurd h (by rw [sIn_no fun x => by simp]; decide)
theorem str_part {x : Dt} (g : G0 x) (f : flat1 x = true) : strX [x] = some (.str (partS x)) := by
  cases x with
  | int i =>
    have h : PyData.showable (.int i) = true := gd_showable (by decide +kernel) g
    exact if_pos (of_decide_eq_true (show decide (i.natAbs.log2 < 1920) = true from h))
  | str x => rfl
  | _ => cases f
/-- an instruction with its sizes -/
structure IB (d : Dt) : Prop where
  s : sInstr d = true
  b : Bk 2 4000 d
theorem IB.c {d : Dt} (h : IB d) : C d := ⟨gd_mono (by omega) (by omega) (by omega) h.b.1, Nat.le_trans h.b.2.1 (by decide)⟩
/-- what is known of the items -/
theorem items_g {xs : List Dt} {k n : Nat} (h : Bk k n (.tuple xs)) : ∀ x ∈ xs, G0 x := (gd_tup.mp h.1).1
theorem sz_tup (xs : List Dt) : sz (.tuple xs) = szAll xs + 3 := rfl
structure Wd (d : Dt) : Prop where
  sum : ((wordsS d).map (·.length)).sum + (wordsS d).length ≤ sz d
  ok : ∀ w ∈ wordsS d, okS w = true
theorem flat_words {xs : List Dt} (e : wordsS (.tuple xs) = xs.map partS) (h : ∀ x ∈ xs, G0 x ∧ flat1 x = true) : Wd (.tuple xs) := by
  obtain ⟨h1, h2⟩ := parts_ok h
  refine ⟨?_, by rw [e]; exact h2⟩
  rw [e, List.length_map, sz_tup]
  omega
theorem go_words {ts : List Dt} (h : ∀ x ∈ ts, G0 x ∧ flat1 x = true) : Wd (.tuple [.str "go", .tuple ts]) := by
  obtain ⟨h1, h2⟩ := parts_ok h
  have jl := join_len "," (ts.map partS)
  rw [List.length_map] at jl
  have e1 : ("," : Str).length = 1 := by decide +kernel
  rw [e1] at jl
  have e2 : ("go" : Str).length = 2 := by decide +kernel
  have e3 : sz (.str "go") = 4 := by decide +kernel
  refine ⟨?_, fun w hw => ?_⟩
  · show ("go" : Str).length + ((Txt.join "," (ts.map partS)).length + 0) + 2 ≤ (sz (.str "go") + 2 + (szAll ts + 3 + 2 + 0)) + 3
    rw [e2, e3]
    omega
  · have hw : w ∈ (["go", Txt.join "," (ts.map partS)] : List Str) := hw
    rcases List.mem_cons.mp hw with rfl | h3
    · decide +kernel
    · rw [List.mem_singleton.mp h3]
      exact join_all (p := okc) (by decide +kernel) h2
theorem ins_words {d : Dt} (h : IB d) : Wd d ∧ Ins d (tgl d) (bth d) := by
  have I := ins_at h.s
  refine ⟨?_, I⟩
  have hb := h.b
  generalize tgl d = ts at I
  generalize bth d = b at I
  have lit : ∀ {x : Str}, flat1 (.str x) = true := rfl
  cases I with
  | go h1 =>
    have g := items_g hb _ (List.mem_cons_of_mem _ List.mem_cons_self)
    exact go_words fun x hx => ⟨(gd_tup.mp g).1 x hx, num_flat (List.all_eq_true.mp h1 x hx)⟩
  | copy hn ht => exact flat_words rfl fun x hx => ⟨items_g hb x hx, all_cons (P := fun x => flat1 x = true) rfl (all_cons (name_flat hn) (all_cons (num_flat ht) all_nil)) x hx⟩
  | start hn ht => exact flat_words rfl fun x hx => ⟨items_g hb x hx, all_cons (P := fun x => flat1 x = true) rfl (all_cons (name_flat hn) (all_cons (num_flat ht) all_nil)) x hx⟩
  | mark hn ht => exact flat_words rfl fun x hx => ⟨items_g hb x hx, all_cons (P := fun x => flat1 x = true) rfl (all_cons (ends_flat hn) (all_cons (num_flat ht) all_nil)) x hx⟩
  | close hn ht => exact flat_words rfl fun x hx => ⟨items_g hb x hx, all_cons (P := fun x => flat1 x = true) rfl (all_cons (ends_flat hn) (all_cons (num_flat ht) all_nil)) x hx⟩
  | read ht =>
    obtain ⟨i, rfl⟩ := num_int ht
    exact flat_words rfl fun x hx => ⟨items_g hb x hx, all_cons (P := fun x => flat1 x = true) rfl (all_cons (num_flat ht) all_nil) x hx⟩
  | write ht =>
    obtain ⟨i, rfl⟩ := num_int ht
    exact flat_words rfl fun x hx => ⟨items_g hb x hx, all_cons (P := fun x => flat1 x = true) rfl (all_cons (num_flat ht) all_nil) x hx⟩
  | wait ht =>
    obtain ⟨i, rfl⟩ := num_int ht
    exact flat_words rfl fun x hx => ⟨items_g hb x hx, all_cons (P := fun x => flat1 x = true) rfl (all_cons (num_flat ht) all_nil) x hx⟩
  | stay => exact flat_words rfl fun x hx => ⟨items_g hb x hx, all_cons (P := fun x => flat1 x = true) rfl all_nil x hx⟩
  | fin => exact flat_words rfl fun x hx => ⟨items_g hb x hx, all_cons (P := fun x => flat1 x = true) rfl all_nil x hx⟩
end K09

set_option maxHeartbeats 2000000
namespace K09
open PySem PySem.Spec PyProof.Rows L2 DL PySem.W DLS
theorem goS (x : Str) (h : okS x = true) : eqD (.str x) (.str "go") = some (.bool (x == "go")) := eqS2 h "go" (by decide +kernel)
/-- str of any item -/
theorem str_item {x : Dt} {k n : Nat} (h : Bk k n x) (hk : k ≤ 20) (hn : n ≤ 16777216) (f : flat1 x = true ∨ ∃ ts, x = .tuple ts) : strX [x] = some (.str (partS x)) := by
  rcases f with f | ⟨ts, rfl⟩
  · exact str_part h.1 f
  · have hc : C (.tuple ts) := ⟨gd_mono (by omega) (by omega) (by omega) h.1, Nat.le_trans h.2.1 hk⟩
    have := sh_sz h.1
    have e : (sh (.tuple ts)).length = (PyData.shown (.tuple ts)).length := Array.length_toList
    rw [e] at this
    exact if_pos ⟨gd_showable (by decide +kernel) h.1, hc.shaped, Nat.le_trans this (Nat.le_trans h.2.2 (by unfold sizeLine; omega))⟩
theorem map_str {xs : List Dt} : (xs.map fun x => PyData.str (partS x)) = (xs.map partS).map PyData.str := by rw [List.map_map]; rfl
theorem item_bk {xs : List Dt} {k n : Nat} (h : Bk (k + 1) n (.tuple xs)) : ∀ x ∈ xs, Bk k n x := fun x hx => ⟨items_g h x hx, by
  have h1 : PyData.depthAll xs + 1 ≤ k + 1 := h.2.1
  exact Nat.le_trans (depthAll_le.mp (Nat.le_refl _) x hx) (by omega), by
  have h1 := sz_mem hx
  have h2 : szAll xs + 3 ≤ n := h.2.2
  omega⟩
theorem IB.len {xs : List Dt} (h : IB (.tuple xs)) : xs.length ≤ sizeLine := h.c.len
/-- the words of a set of targets -/
theorem go_join {ts : List Dt} (h : ∀ x ∈ ts, G0 x ∧ flat1 x = true) (hs : szAll ts ≤ 4000) : joinS "," (.list (ts.map fun x => PyData.str (partS x))) = some (.str (Txt.join "," (ts.map partS))) := by
  obtain ⟨h1, _⟩ := parts_ok h
  rw [map_str]
  refine join_ok' ?_
  rw [List.length_map, show ("," : Str).length = 1 from by decide +kernel]
  omega
theorem go_sz {ts : List Dt} {x : Dt} (h : Bk 2 4000 (.tuple [x, .tuple ts])) : szAll ts ≤ 4000 := by
  have h2 : (sz x + 2 + (szAll ts + 3 + 2 + 0)) + 3 ≤ 4000 := h.2.2
  omega
theorem words_flat {w : Str} {r : List Dt} (h : Bk 2 4000 (.tuple (.str w :: r))) (hw : okS w = true) (hg : (w == "go") = false) (hf : ∀ x ∈ PyData.str w :: r, flat1 x = true) (e : wordsS (.tuple (.str w :: r)) = (PyData.str w :: r).map partS) :
    Can (m_words_of [.dat (.tuple (.str w :: r))]) fun d => d = .list ((wordsS (.tuple (.str w :: r))).map PyData.str) := by
  refine can_fn ?_
  unfold b_words_of
  have hc : C (.tuple (.str w :: r)) := ⟨gd_mono (by omega) (by omega) (by omega) h.1, Nat.le_trans h.2.1 (by decide)⟩
  refine ws_seq (ws_if (wt_e (we_2 (we_2 (we_var rfl (we_c ⟨_, ix0, we_c ⟨_, goS w hw, _, rfl, fun hb => ?_, fun _ => ws_nx ?_⟩⟩))))))
  · rw [hg] at hb
    cases hb
  · refine ws_ret (we_map (q := fun x => .str (partS x)) (wi_v (we_var rfl ⟨_, rfl, hc.len, fun x hx => we_ca (wa_cons (we_var rfl (wa_nil ⟨_, str_part (items_g h x hx) (hf x hx), rfl⟩))), ?_⟩)))
    rw [e, map_str]
theorem line_flat {w : Str} {r : List Dt} (h : Bk 2 4000 (.tuple (.str w :: r))) (hw : okS w = true) (hg : (w == "go") = false) (hf : ∀ x ∈ PyData.str w :: r, flat1 x = true) (e : wordsS (.tuple (.str w :: r)) = (PyData.str w :: r).map partS) (W : Wd (.tuple (.str w :: r))) :
    Can (m__law_line [.dat (.tuple (.str w :: r))]) fun d => d = .str (lineS (.tuple (.str w :: r))) := by
  refine can_fn ?_
  unfold b__law_line
  have hc : C (.tuple (.str w :: r)) := ⟨gd_mono (by omega) (by omega) (by omega) h.1, Nat.le_trans h.2.1 (by decide)⟩
  refine ws_seq (ws_set (we_map (q := fun x => .str (partS x)) (wi_v (we_var rfl ⟨_, rfl, hc.len, fun x hx => we_ca (wa_cons (we_var rfl (wa_nil ⟨_, str_part (items_g h x hx) (hf x hx), rfl⟩))), ?_⟩))))
  refine ws_seq (ws_if (wt_e (we_2 (we_2 (we_var rfl (we_c ⟨_, ix0, we_c ⟨_, goS w hw, _, rfl, fun hb => ?_, fun _ => ws_nx ?_⟩⟩))))))
  · rw [hg] at hb
    cases hb
  · refine ws_ret (we_1 (we_var rfl ⟨_, ?_, rfl⟩))
    rw [map_str, ← e]
    exact join_ok' (by
      have := W.sum
      have h2 := h.2.2
      rw [show (" " : Str).length = 1 from by decide +kernel]
      omega)
theorem texts_are {d : Dt} (h : IB d) : Can (m_words_of [.dat d]) (fun r => r = .list ((wordsS d).map PyData.str)) ∧ Can (m__law_line [.dat d]) fun r => r = .str (lineS d) := by
  obtain ⟨W, I⟩ := ins_words h
  have hb := h.b
  generalize tgl d = ts at I
  generalize bth d = b at I
  have flat : ∀ {w : Str} {r : List Dt}, Bk 2 4000 (.tuple (.str w :: r)) → okS w = true → (w == "go") = false → (∀ x ∈ PyData.str w :: r, flat1 x = true) → wordsS (.tuple (.str w :: r)) = (PyData.str w :: r).map partS → Wd (.tuple (.str w :: r)) →
      Can (m_words_of [.dat (.tuple (.str w :: r))]) (fun d => d = .list ((wordsS (.tuple (.str w :: r))).map PyData.str)) ∧ Can (m__law_line [.dat (.tuple (.str w :: r))]) fun d => d = .str (lineS (.tuple (.str w :: r))) := fun h1 h2 h3 h4 h5 h6 => ⟨words_flat h1 h2 h3 h4 h5, line_flat h1 h2 h3 h4 h5 h6⟩
  cases I with
  | go h1 =>
    have gs : ∀ x ∈ ts, G0 x ∧ flat1 x = true := fun x hx => ⟨(gd_tup.mp (items_g hb _ (List.mem_cons_of_mem _ List.mem_cons_self))).1 x hx, num_flat (List.all_eq_true.mp h1 x hx)⟩
    have hts : ts.length ≤ sizeLine := (h.c.items _ (List.mem_cons_of_mem _ List.mem_cons_self)).len
    have go1 : ("go" == ("go" : Str)) = true := by decide +kernel
    have jn := go_join gs (go_sz hb)
    have hok : okS "go" = true := by decide +kernel
    refine ⟨can_fn ?_, can_fn ?_⟩
    · unfold b_words_of
      refine ws_seq (ws_if (wt_e (we_2 (we_2 (we_var rfl (we_c ⟨_, rfl, we_c ⟨_, goS "go" hok, _, rfl, fun _ => ?_, fun hq => ?_⟩⟩))))))
      · exact ws_ret (we_lst (wa_cons (we_c (wa_cons (we_1 (we_map (q := fun x => .str (partS x)) (wi_v (we_2 (we_var rfl (we_c ⟨_, rfl, _, rfl, hts, fun x hx => we_ca (wa_cons (we_var rfl (wa_nil ⟨_, str_part (gs x hx).1 (gs x hx).2, rfl⟩))), _, jn, wa_nil ⟨Nat.le_of_ble_eq_true rfl, rfl⟩⟩))))))))))
      · rw [go1] at hq
        cases hq
    · unfold b__law_line
      have two : ∀ x ∈ [PyData.str "go", .tuple ts], flat1 x = true ∨ ∃ ts, x = .tuple ts := all_cons (.inl rfl) (all_cons (.inr ⟨_, rfl⟩) all_nil)
      refine ws_seq (ws_set (we_map (q := fun x => .str (partS x)) (wi_v (we_var rfl ⟨_, rfl, Nat.le_of_ble_eq_true rfl, fun x hx => we_ca (wa_cons (we_var rfl (wa_nil ⟨_, str_item (item_bk hb x hx) (by decide) (by decide) (two x hx), rfl⟩))), ?_⟩))))
      refine ws_seq (ws_if (wt_e (we_2 (we_2 (we_var rfl (we_c ⟨_, rfl, we_c ⟨_, goS "go" hok, _, rfl, fun _ => ?_, fun hq => ?_⟩⟩))))))
      · refine ws_set (we_lst (wa_cons (we_c (wa_cons (we_1 (we_map (q := fun x => .str (partS x)) (wi_v (we_2 (we_var rfl (we_c ⟨_, rfl, _, rfl, hts, fun x hx => we_ca (wa_cons (we_var rfl (wa_nil ⟨_, str_part (gs x hx).1 (gs x hx).2, rfl⟩))), _, jn, wa_nil ⟨Nat.le_of_ble_eq_true rfl, ?_⟩⟩))))))))))
        refine ws_ret (we_1 (we_var rfl ⟨_, (show joinS " " (.list ((wordsS (.tuple [.str "go", .tuple ts])).map PyData.str)) = some (.str (lineS (.tuple [.str "go", .tuple ts]))) from join_ok' ?_), rfl⟩))
        have := W.sum
        have h2 := hb.2.2
        rw [show (" " : Str).length = 1 from by decide +kernel]
        omega
      · rw [go1] at hq
        cases hq
  | copy hn ht => exact flat hb (by decide +kernel) (by decide +kernel) (all_cons rfl (all_cons (name_flat hn) (all_cons (num_flat ht) all_nil))) rfl W
  | start hn ht => exact flat hb (by decide +kernel) (by decide +kernel) (all_cons rfl (all_cons (name_flat hn) (all_cons (num_flat ht) all_nil))) rfl W
  | mark hn ht => exact flat hb (by decide +kernel) (by decide +kernel) (all_cons rfl (all_cons (ends_flat hn) (all_cons (num_flat ht) all_nil))) rfl W
  | close hn ht => exact flat hb (by decide +kernel) (by decide +kernel) (all_cons rfl (all_cons (ends_flat hn) (all_cons (num_flat ht) all_nil))) rfl W
  | read ht =>
    obtain ⟨i, rfl⟩ := num_int ht
    exact flat hb (by decide +kernel) (by decide +kernel) (all_cons rfl (all_cons rfl all_nil)) rfl W
  | write ht =>
    obtain ⟨i, rfl⟩ := num_int ht
    exact flat hb (by decide +kernel) (by decide +kernel) (all_cons rfl (all_cons rfl all_nil)) rfl W
  | wait ht =>
    obtain ⟨i, rfl⟩ := num_int ht
    exact flat hb (by decide +kernel) (by decide +kernel) (all_cons rfl (all_cons rfl all_nil)) rfl W
  | stay => exact flat hb (by decide +kernel) (by decide +kernel) (all_cons rfl all_nil) rfl W
  | fin => exact flat hb (by decide +kernel) (by decide +kernel) (all_cons rfl all_nil) rfl W
theorem line_len {d : Dt} (h : IB d) : (lineS d).length ≤ 4000 ∧ okS (lineS d) = true := by
  obtain ⟨W, _⟩ := ins_words h
  refine ⟨?_, join_all (p := okc) (by decide +kernel) W.ok⟩
  have := join_len " " (wordsS d)
  rw [show (" " : Str).length = 1 from by decide +kernel] at this
  have h1 := W.sum
  have h2 := h.b.2.2
  show (Txt.join " " (wordsS d)).length ≤ 4000
  omega
/-! refusing -/
def nU (w : Str) : Er := ⟨"NotUsable", [("at", .int (-1)), ("word", .str w)]⟩
theorem ws_want {ρ : Rho} {D : Fl → Prop} {f : ME} {w : Str} (h : wE1 f ρ fun x => ∃ b, x = .bool b ∧ (b = true → D (.nx ρ)) ∧ (b = false → D (.ex (nU w) ρ))) : wS1 (sExpr (mCall m_want (mgD f (mgD (mC (.str w)) mgNil)))) ρ D := by
  refine ws_exprX (wx_call (wg_d (h.mono fun x k => ?_)))
  obtain ⟨b, rfl, k⟩ := k
  refine wg_d (we_c (wg_nil (canx_fn ?_)))
  unfold b_want
  refine ws_if (wt_not (wt_e (we_var rfl ⟨b, rfl, fun hb => ?_, fun hb => ws_nx ?_⟩)))
  · rw [Bool.not_eq_true'] at hb
    exact ws_raise (wa_cons (we_var rfl (wa_cons (we_1 (we_c ⟨_, rfl, wa_nil ⟨_, _, rfl, k.2 hb⟩⟩)))))
  · rw [Bool.not_eq_false'] at hb
    exact k.1 hb
theorem itext_is {d : Dt} (hc : C d) (hb : sInstr d = true → Bk 2 4000 d) : CanX (m_instruction_text [.dat d]) (fun r => sInstr d = true ∧ r = .str (lineS d)) fun e => sInstr d = false ∧ e = nU "instruction" := by
  refine canx_fn ?_
  unfold b_instruction_text
  refine ws_seq (ws_want (we_call (wg_d (we_var rfl (wg_nil ((instr_is hc).mono fun r hr => ⟨_, hr, fun hs => ?_, fun hs => ⟨hs, rfl⟩⟩))))))
  have h : IB d := ⟨hs, hb hs⟩
  refine ws_ret (we_1 (we_call (wg_d (we_var rfl (wg_nil ((texts_are h).1.mono fun r hr => ⟨.str (lineS d), ?_, hs, rfl⟩))))))
  subst hr
  obtain ⟨W, _⟩ := ins_words h
  refine join_ok' ?_
  have h1 := W.sum
  have h2 := h.b.2.2
  rw [show (" " : Str).length = 1 from by decide +kernel]
  omega
theorem itext_ok {d : Dt} (h : IB d) : Can (m_instruction_text [.dat d]) fun r => r = .str (lineS d) := fun φ => by
  rcases itext_is h.c (fun _ => h.b) φ with ⟨a, φ', e, _, rfl⟩ | ⟨_, _, _, q, _⟩
  · exact ⟨_, φ', e, rfl⟩
  · rw [h.s] at q
    cases q
theorem all1 {P : Dt → Prop} {x : Dt} (h : P x) : ∀ y ∈ [x], P y := all_cons h all_nil
theorem all2 {P : Dt → Prop} {x y : Dt} (h : P x) (k : P y) : ∀ z ∈ [x, y], P z := all_cons h (all1 k)
theorem all3 {P : Dt → Prop} {x y z : Dt} (h : P x) (k : P y) (l : P z) : ∀ u ∈ [x, y, z], P u := all_cons h (all2 k l)
theorem str_bk {x : Str} {n : Nat} (h : okS x = true) (hl : x.length ≤ n) (hn : n ≤ 1048576) : Bk 0 (n + 2) (.str x) := ⟨gd_str.mpr ⟨h, by
  have e : (cl x).length = x.length := Array.length_toList
  omega⟩, Nat.le_refl _, by
  have e : (cl x).length = x.length := Array.length_toList
  show (cl x).length + 2 ≤ _
  omega⟩
theorem iright_is {d : Dt} (h : IB d) : Can (m__law_instruction_right [.dat d]) fun r => r = .bool true := by
  have hB : B 4000 d := h.b.up (by decide) (by decide)
  have hs : SeqAt.shaped (.str d.shown) = true := by
    unfold SeqAt.shaped
    rw [show PyData.canLay0 (.str d.shown) = true from shown_ok (gd_plain h.b.1)]
    rfl
  obtain ⟨l1, l2⟩ := line_len h
  have hb := str_bk l2 l1 (by decide)
  have hB2 : B 16777216 (.list [.str (lineS d), .str (lineS d)]) := (Bk.lst (m := 2) (all2 hb hb) (Nat.le_of_ble_eq_true rfl) (by decide)).up (by decide) (by decide)
  refine can_fn ?_
  unfold b__law_instruction_right
  refine ws_seq (ws_par (wa_cons (we_ca (wa_cons (we_var rfl (wa_nil ⟨_, hB.repr (by decide), wa_cons (we_call (wg_d (we_var rfl (wg_nil ((texts_are h).2.mono fun r hr => wa_nil ⟨_, _, rfl, ?_⟩)))))⟩))))))
  subst hr
  refine ws_ret (we_and (we_call (wg_d (we_lst (wa_cons (we_call (wg_d (we_var rfl (wg_nil ((itext_ok h).mono fun r hr => ?_))))))))))
  subst hr
  refine wa_cons (we_call (wg_d (we_var rfl (wg_nil ((itext_ok h).mono fun r hr => wa_nil ⟨Nat.le_of_ble_eq_true rfl, ?_⟩)))))
  subst hr
  refine wg_d (we_lst (wa_cons (we_var rfl (wa_cons (we_var rfl (wa_nil ⟨Nat.le_of_ble_eq_true rfl, wg_nil ((same_is hB2 (by decide)).mono fun r hr => ?_)⟩))))))
  subst hr
  refine ⟨_, rfl, fun _ => ?_, fun hq => absurd hq (by decide)⟩
  refine we_2 (we_ca (wa_cons (we_var rfl (wa_nil ⟨_, hB.repr (by decide), we_var rfl ⟨_, if_pos ⟨hs, hs⟩, ?_⟩⟩))))
  show PyData.bool (d.shown == d.shown) = _
  rw [beq_self_eq_true]
end K09

set_option maxHeartbeats 2000000
namespace K09
open PySem PySem.Spec PyProof.Rows L2 DL PySem.W DLS
theorem cl_app (x y : Str) : cl (x ++ y) = cl x ++ cl y := Array.toList_append
theorem cl_len (x : Str) : x.length = (cl x).length := Array.length_toList.symm
theorem app_len (x y : Str) : (x ++ y).length = x.length + y.length := by rw [cl_len, cl_len, cl_len, cl_app, List.length_append]
theorem app_ok {x y : Str} (h : okS x = true) (k : okS y = true) : okS (x ++ y) = true := by
  show (cl (x ++ y)).all okc = true
  rw [cl_app, List.all_append, show (cl x).all okc = true from h, show (cl y).all okc = true from k]
  rfl
theorem emp_app (x : Str) : Str.empty ++ x = x := str_ext (by rw [cl_app]; rfl)
def asideS : Dt → Str
  | .tuple [.str x, .str y] => (("aside " ++ x) ++ " ") ++ y
  | _ => ""
def beginS : Dt → Str
  | .tuple [.str x, .str y] => (("begin " ++ x) ++ " ") ++ y
  | _ => ""
def roleL (r : Dt) : List Str := ("role " ++ partS (nmOf r)) :: ((plOf r).map lineS ++ (asOf r).map asideS)
def linesP (t : Dt) (rs : List Dt) : List Str := beginS t :: rs.flatMap roleL
def textS (t : Dt) (rs : List Dt) : Str := Txt.join "\n" (linesP t rs)
abbrev WR (r : Dt) : Prop := ∃ n ps as, r = .tuple [.str n, .tuple ps, .tuple as] ∧ sNm (.str n) = true ∧ ps.length ≤ 12 ∧ (∀ p ∈ ps, IB p) ∧ as.length ≤ 4 ∧ ∀ a ∈ as, sAs a = true
structure WP (t : Dt) (rs : List Dt) : Prop where
  a : sAs t = true
  l : rs.length ≤ 5
  r : ∀ r ∈ rs, WR r
theorem nm_s {x : Str} (h : sNm (.str x) = true) : okS x = true ∧ x.length ≤ 8 := by
  obtain ⟨_, e, h1, h2⟩ := nm_str h
  cases e
  exact ⟨h1, by rw [cl_len]; exact h2⟩
abbrev LnB (x : Str) : Prop := okS x = true ∧ x.length ≤ 4000
theorem aside_ln {a : Dt} (h : sAs a = true) : LnB (asideS a) := by
  obtain ⟨x, y, rfl, hx, hy⟩ := as_two h
  obtain ⟨x1, x2⟩ := nm_s hx
  obtain ⟨y1, y2⟩ := nm_s hy
  refine ⟨app_ok (app_ok (app_ok (by decide +kernel) x1) (by decide +kernel)) y1, ?_⟩
  show ((("aside " ++ x) ++ " ") ++ y).length ≤ 4000
  rw [app_len, app_len, app_len, show ("aside " : Str).length = 6 from by decide +kernel, show (" " : Str).length = 1 from by decide +kernel]
  omega
theorem begin_ln {a : Dt} (h : sAs a = true) : LnB (beginS a) := by
  obtain ⟨x, y, rfl, hx, hy⟩ := as_two h
  obtain ⟨x1, x2⟩ := nm_s hx
  obtain ⟨y1, y2⟩ := nm_s hy
  refine ⟨app_ok (app_ok (app_ok (by decide +kernel) x1) (by decide +kernel)) y1, ?_⟩
  show ((("begin " ++ x) ++ " ") ++ y).length ≤ 4000
  rw [app_len, app_len, app_len, show ("begin " : Str).length = 6 from by decide +kernel, show (" " : Str).length = 1 from by decide +kernel]
  omega
theorem role_ln {r : Dt} (h : WR r) : (∀ x ∈ roleL r, LnB x) ∧ (roleL r).length ≤ 17 := by
  obtain ⟨n, ps, as, rfl, hn, hl, hp, hl2, ha⟩ := h
  obtain ⟨n1, n2⟩ := nm_s hn
  refine ⟨fun x hx => ?_, ?_⟩
  · rcases List.mem_cons.mp hx with rfl | hx
    · refine ⟨app_ok (by decide +kernel) n1, ?_⟩
      show ("role " ++ n).length ≤ 4000
      rw [app_len, show ("role " : Str).length = 5 from by decide +kernel]
      omega
    · rcases List.mem_append.mp hx with hx | hx
      · obtain ⟨p, q, rfl⟩ := List.mem_map.mp hx
        obtain ⟨q1, q2⟩ := line_len (hp p q)
        exact ⟨q2, q1⟩
      · obtain ⟨a, q, rfl⟩ := List.mem_map.mp hx
        exact aside_ln (ha a q)
  · show (ps.map lineS ++ as.map asideS).length + 1 ≤ 17
    rw [List.length_append, List.length_map, List.length_map]
    omega
theorem flat_len : ∀ {rs : List Dt}, (∀ r ∈ rs, WR r) → (rs.flatMap roleL).length ≤ 17 * rs.length ∧ ∀ x ∈ rs.flatMap roleL, LnB x
  | [], _ => ⟨Nat.le_refl _, fun _ h => (List.not_mem_nil h).elim⟩
  | r :: rs, h => by
    obtain ⟨h1, h2⟩ := flat_len (rs := rs) fun q hq => h q (List.mem_cons_of_mem _ hq)
    obtain ⟨k1, k2⟩ := role_ln (h r List.mem_cons_self)
    rw [List.flatMap_cons]
    refine ⟨?_, fun x hx => ?_⟩
    · rw [List.length_append, List.length_cons]
      omega
    · rcases List.mem_append.mp hx with q | q
      · exact k1 x q
      · exact h2 x q
theorem lines_ln {t : Dt} {rs : List Dt} (h : WP t rs) : (∀ x ∈ linesP t rs, LnB x) ∧ (linesP t rs).length ≤ 86 := by
  obtain ⟨h1, h2⟩ := flat_len h.r
  refine ⟨fun x hx => ?_, ?_⟩
  · rcases List.mem_cons.mp hx with rfl | q
    · exact begin_ln h.a
    · exact h2 x q
  · show (rs.flatMap roleL).length + 1 ≤ 86
    have := h.l
    omega
theorem sum_le {n : Nat} : ∀ {xs : List Str}, (∀ x ∈ xs, x.length ≤ n) → (xs.map (·.length)).sum ≤ xs.length * n
  | [], _ => Nat.zero_le _
  | x :: r, h => by
    have h1 := h x List.mem_cons_self
    have h2 := sum_le (xs := r) fun y hy => h y (List.mem_cons_of_mem _ hy)
    show x.length + (r.map (·.length)).sum ≤ (r.length + 1) * n
    rw [Nat.succ_mul]
    omega
theorem text_sum {t : Dt} {rs : List Dt} (h : WP t rs) : ((linesP t rs).map (·.length)).sum + (linesP t rs).length * ("\n" : Str).length ≤ 345000 := by
  obtain ⟨h1, h2⟩ := lines_ln h
  have := sum_le (n := 4000) fun x hx => (h1 x hx).2
  rw [show ("\n" : Str).length = 1 from by decide +kernel]
  omega
theorem take_lines {t : Dt} {rs : List Dt} {i : Nat} (lt : i < rs.length) : linesP t (rs.take (i + 1)) = linesP t (rs.take i) ++ roleL (gt rs i) := by
  unfold linesP
  rw [List.take_succ_eq_append_getElem lt, List.flatMap_append]
  have := (gt_mem lt).2
  rw [List.getElem?_eq_getElem lt] at this
  rw [Option.some.inj this]
  show _ = beginS t :: (_ ++ _)
  rw [List.flatMap_cons, List.flatMap_nil, List.append_nil]
/-! the program's text -/
theorem cl_nm {x : Str} (h : sNm (.str x) = true) : x.length ≤ 8 := (nm_s h).2
/-- f"role {name}" and the like -/
theorem we_j2 {ρ : Rho} {P : Dt → Prop} {a x : Str} {f : ME} (ha : a.length ≤ 10) (hx : x.length ≤ 8) (h : wE1 f ρ fun d => d = .str x) (p : P (.str (a ++ x))) : wE1 (mJ [mC (.str a), m1 fmtD f] Str.empty) ρ P := by
  have e : (Str.empty ++ a) ++ x = a ++ x := by rw [emp_app]
  refine we_jcons (we_c ⟨a, rfl, by rw [emp_app]; unfold sizeLine; omega, we_jcons (we_1 (h.mono fun d hd => ⟨.str x, ?_, x, rfl, ?_, we_jnil ?_⟩))⟩)
  · rw [hd]
    exact if_pos (by unfold sizeLine; omega)
  · rw [e, app_len]
    unfold sizeLine
    omega
  · rw [e]
    exact p
/-- f"aside {word} {child}" -/
theorem we_j4 {ρ : Rho} {P : Dt → Prop} {a x y : Str} {f g : ME} (ha : a.length ≤ 10) (hx : x.length ≤ 8) (hy : y.length ≤ 8) (h : wE1 f ρ fun d => d = .str x) (h2 : wE1 g ρ fun d => d = .str y) (p : P (.str (((a ++ x) ++ " ") ++ y))) :
    wE1 (mJ [mC (.str a), m1 fmtD f, mC (.str " "), m1 fmtD g] Str.empty) ρ P := by
  have e : ((Str.empty ++ a) ++ x) = a ++ x := by rw [emp_app]
  have l1 : (" " : Str).length = 1 := by decide +kernel
  refine we_jcons (we_c ⟨a, rfl, by rw [emp_app]; unfold sizeLine; omega, we_jcons (we_1 (h.mono fun d hd => ⟨.str x, ?_, x, rfl, ?_, we_jcons (we_c ⟨" ", rfl, ?_, we_jcons (we_1 (h2.mono fun d hd => ⟨.str y, ?_, y, rfl, ?_, we_jnil ?_⟩))⟩)⟩))⟩)
  · rw [hd]
    exact if_pos (by unfold sizeLine; omega)
  · rw [e, app_len]
    unfold sizeLine
    omega
  · rw [e, app_len, app_len, l1]
    unfold sizeLine
    omega
  · rw [hd]
    exact if_pos (by unfold sizeLine; omega)
  · rw [e, app_len, app_len, app_len, l1]
    unfold sizeLine
    omega
  · rw [e]
    exact p
def sWrit : Dt → Bool := two fun b rs => sBegin b && someOf (fun xs => xs.all sRole) rs
theorem written_is {d : Dt} (h : C d) : Can (m_is_written [.dat d]) fun r => r = .bool (sWrit d) := by
  refine can_fn ?_
  unfold b_is_written
  refine ws_seq (ws_if (wt_or (wt_not (wt_e (we_call (wg_d (we_var rfl (wg_nil ((twofold_is h).mono fun r hr => ?_)))))))))
  subst hr
  refine ⟨_, rfl, fun h1 => ⟨fun _ => ws_ret (we_c ?_), fun hq => absurd hq (by decide)⟩, fun h1 => ?_⟩
  · rw [Bool.not_eq_true'] at h1
    show PyData.bool false = .bool (sWrit d)
    unfold sWrit two
    split
    · exact absurd (show true = false from h1) (by decide)
    · rfl
  rw [Bool.not_eq_false'] at h1
  obtain ⟨b, r, rfl⟩ : ∃ b r, d = .tuple [b, r] := by
    unfold sTwo two at h1
    split at h1
    · exact ⟨_, _, rfl⟩
    · cases h1
  have cb := h.items b List.mem_cons_self
  have cr := h.items r (List.mem_cons_of_mem _ List.mem_cons_self)
  have e : sWrit (.tuple [b, r]) = (sBegin b && someOf (fun xs => xs.all sRole) r) := rfl
  refine wt_not (wt_e (we_call (wg_d (we_2 (we_var rfl (we_c ⟨_, rfl, wg_nil ((begin_is cb).mono fun x hx => ?_)⟩))))))
  subst hx
  refine ⟨_, rfl, fun h2 => ws_ret (we_c ?_), fun h2 => ws_nx ?_⟩
  · rw [Bool.not_eq_true'] at h2
    rw [e, h2]
    rfl
  rw [Bool.not_eq_false'] at h2
  rw [e, h2, Bool.true_and]
  refine ws_ret (we_and (we_isi (we_2 (we_var rfl (we_c ⟨_, rfl, ?_⟩)))))
  cases r with
  | tuple rs =>
    rw [i_tuple_tuple]
    refine ⟨_, rfl, fun _ => ?_, fun hq => absurd hq (by decide)⟩
    refine we_and (we_2 (we_ca (wa_cons (we_2 (we_var rfl (we_c ⟨_, rfl, wa_nil ⟨_, rfl, we_c ⟨_, rfl, _, rfl, fun h3 => ?_, fun h3 => ?_⟩⟩⟩))))))
    · refine we_all (p := sRole) (wi_v (we_2 (we_var rfl (we_c ⟨_, rfl, _, rfl, cr.len, fun x hx => ⟨_, rfl, we_call (wg_d (we_var rfl (wg_nil ((role_is (cr.items x hx)).mono fun r e => e))))⟩, ?_⟩))))
      show PyData.bool (rs.all sRole) = .bool (!rs.isEmpty && rs.all sRole)
      cases rs with
      | nil => exact absurd (show false = true from h3) (by decide)
      | cons _ _ => rfl
    · cases rs with
      | nil => rfl
      | cons x xs => exact absurd h3 (by
          show ¬ dataLt (.int 0) (.int ((xs.length + 1 : Nat) : Int)) = false
          rw [show dataLt (.int 0) (.int ((xs.length + 1 : Nat) : Int)) = true from (dataLt_int _ _).trans (decide_eq_true (by omega))]
          decide)
  | none => rw [i_tuple_none]; exact ⟨_, rfl, fun hq => absurd hq (by decide), fun _ => rfl⟩
  | bool _ => rw [i_tuple_bool]; exact ⟨_, rfl, fun hq => absurd hq (by decide), fun _ => rfl⟩
  | int _ => rw [i_tuple_int]; exact ⟨_, rfl, fun hq => absurd hq (by decide), fun _ => rfl⟩
  | str _ => rw [i_tuple_str]; exact ⟨_, rfl, fun hq => absurd hq (by decide), fun _ => rfl⟩
  | list _ => rw [i_tuple_list]; exact ⟨_, rfl, fun hq => absurd hq (by decide), fun _ => rfl⟩
  | dict _ => cases cr.1
theorem ptext_is {d : Dt} (hc : C d) (hw : sWrit d = true → ∃ t rs, d = .tuple [t, .tuple rs] ∧ WP t rs) : CanX (m_program_text [.dat d]) (fun r => sWrit d = true ∧ ∀ t rs, d = .tuple [t, .tuple rs] → r = .str (textS t rs)) fun e => sWrit d = false ∧ e = nU "program" := by
  refine canx_fn ?_
  unfold b_program_text
  refine ws_seq (ws_want (we_call (wg_d (we_var rfl (wg_nil ((written_is hc).mono fun r hr => ⟨_, hr, fun hs => ?_, fun hs => ⟨hs, rfl⟩⟩))))))
  obtain ⟨t, rs, rfl, W⟩ := hw hs
  obtain ⟨x, y, rfl, hx, hy⟩ := as_two W.a
  refine ws_seq (ws_unp (we_var rfl ⟨_, rfl, ?_⟩))
  have l6 : ("begin " : Str).length ≤ 10 := by decide +kernel
  have l5 : ("role " : Str).length ≤ 10 := by decide +kernel
  have l7 : ("aside " : Str).length ≤ 10 := by decide +kernel
  refine ws_seq (ws_own (wa_cons (we_j4 (x := x) (y := y) l6 (cl_nm hx) (cl_nm hy) (we_2 (we_var rfl (we_c ⟨_, rfl, rfl⟩))) (we_2 (we_var rfl (we_c ⟨_, rfl, rfl⟩))) (wa_nil ⟨Nat.le_of_ble_eq_true rfl, ?_⟩))))
  refine ws_seq (ws_for (wi_v (we_var rfl ⟨rs, rfl, ?_⟩)))
  refine forGo_ix (J := fun i ρ => ∃ a b c d e f, ρ = [.dat (.tuple [.tuple [.str x, .str y], .tuple rs]), .dat (.tuple [.str x, .str y]), .dat (.tuple rs), .own ((linesP (.tuple [.str x, .str y]) (rs.take i)).map PyData.str), a, b, c, d, e, f]) ⟨_, _, _, _, _, _, rfl⟩ ?_ ?_
  · rintro i r hr ρ ⟨a, b, c, d, e, f, rfl⟩
    have lt : i < rs.length := (List.getElem?_eq_some_iff.mp hr).1
    have er : r = gt rs i := by
      have := (gt_mem lt).2
      rw [hr] at this
      exact Option.some.inj this
    have hmi := (gt_mem lt).1
    have hrl := W.r _ hmi
    rw [← er] at hrl
    have tl := take_lines (t := .tuple [.str x, .str y]) lt
    rw [← er] at tl
    have W2 : WP (.tuple [.str x, .str y]) (rs.take i) := ⟨W.a, by rw [List.length_take]; have := W.l; omega, fun r hr => W.r r (List.mem_of_mem_take hr)⟩
    have ll := (lines_ln W2).2
    obtain ⟨n, ps, as, rfl, hn, hl, hp, hl2, ha⟩ := hrl
    refine ⟨_, rfl, ?_⟩
    have lq : ((linesP (.tuple [.str x, .str y]) (rs.take i)).map PyData.str).length ≤ 86 := by rw [List.length_map]; exact ll
    refine ws_seq (ws_app rfl (we_j2 (x := n) l5 (cl_nm hn) (we_var rfl rfl) ⟨by unfold sizeLine; omega, ?_⟩))
    refine ws_seq (ws_ext rfl (we_map (q := fun p => .str (lineS p)) (wi_v (we_var rfl ⟨_, rfl, by unfold sizeLine; omega, fun p hm => we_1 (we_call (wg_d (we_var rfl (wg_nil ((texts_are (hp p hm)).1.mono fun r hr => ⟨.str (lineS p), ?_, rfl⟩))))), _, rfl, ?_, ?_⟩))))
    · subst hr
      obtain ⟨Wd1, _⟩ := ins_words (hp p hm)
      refine join_ok' ?_
      have h1 := Wd1.sum
      have h2 := (hp p hm).b.2.2
      rw [show (" " : Str).length = 1 from by decide +kernel]
      omega
    · simp only [List.length_append, List.length_map, List.length_singleton]
      unfold sizeLine
      omega
    refine ws_ext rfl (we_lcT (p := fun _ => true) (q := fun a => .str (asideS a)) (wi_v (we_var rfl ⟨_, rfl, by unfold sizeLine; omega, fun a hm => ?_, _, rfl, ?_, ?_⟩)))
    · obtain ⟨u, v, rfl, hu, hv⟩ := as_two (ha a hm)
      exact ⟨_, rfl, wt_yes rfl, fun _ => we_j4 (x := u) (y := v) l7 (cl_nm hu) (cl_nm hv) (we_var rfl rfl) (we_var rfl rfl) rfl⟩
    · rw [List.filter_eq_self.mpr (fun _ _ => rfl)]
      simp only [List.length_append, List.length_map, List.length_singleton]
      unfold sizeLine
      omega
    · rw [List.filter_eq_self.mpr (fun _ _ => rfl), tl]
      have : (linesP (.tuple [.str x, .str y]) (rs.take i)).map PyData.str ++ [PyData.str ("role " ++ n)] ++ ps.map (fun p => PyData.str (lineS p)) ++ as.map (fun a => PyData.str (asideS a)) = (linesP (.tuple [.str x, .str y]) (rs.take i) ++ roleL (.tuple [.str n, .tuple ps, .tuple as])).map PyData.str := by
        rw [List.map_append, List.append_assoc, List.append_assoc]
        show _ ++ ([PyData.str ("role " ++ n)] ++ _) = _ ++ (PyData.str ("role " ++ n) :: (ps.map lineS ++ as.map asideS).map PyData.str)
        rw [List.map_append, List.map_map, List.map_map]
        rfl
      rw [this]
      exact ⟨_, _, _, _, _, _, rfl⟩
  · rintro ρ ⟨a, b, c, d, e, f, rfl⟩
    rw [List.take_length]
    refine ws_seq (ws_frz rfl (ws_ret (we_1 (we_var rfl ⟨_, join_ok' (Nat.le_trans (text_sum W) (by decide)), hs, fun t' rs' e => ?_⟩))))
    cases e
    rfl
theorem ltext_is {t : Dt} {rs : List Dt} (W : WP t rs) : Can (m__law_text [.dat (.tuple [t, .tuple rs])]) fun r => r = .str (textS t rs) := by
  obtain ⟨x, y, rfl, hx, hy⟩ := as_two W.a
  refine can_fn ?_
  unfold b__law_text
  have l1 : (" " : Str).length = 1 := by decide +kernel
  have l6 : ("begin " : Str).length = 6 := by decide +kernel
  have l5 : ("role " : Str).length = 5 := by decide +kernel
  have l7 : ("aside " : Str).length = 6 := by decide +kernel
  have hx8 := cl_nm hx
  have hy8 := cl_nm hy
  have jn : Txt.join " " [x, y] = (x ++ " ") ++ y := by
    rw [TL.join_eq]
    rfl
  have jlen : (x ++ " " ++ y).length ≤ 17 := by
    rw [app_len, app_len, l1]
    omega
  have bs : ("begin " : Str) ++ ((x ++ " ") ++ y) = (("begin " ++ x) ++ " ") ++ y := str_ext (by rw [cl_app, cl_app, cl_app, cl_app, cl_app, cl_app]; simp [List.append_assoc])
  refine ws_seq (ws_set (we_lst (wa_cons (we_2 (we_c (we_1 (we_2 (we_var rfl (we_c ⟨_, rfl, .str (Txt.join " " [x, y]), ?_, .str ((("begin " ++ x) ++ " ") ++ y), ?_, wa_nil ⟨Nat.le_of_ble_eq_true rfl, ?_⟩⟩)))))))))
  · refine join_ok' (zs := [x, y]) ?_
    show x.length + (y.length + 0) + 2 * (" " : Str).length ≤ 16777216
    omega
  · rw [jn, ← bs]
    exact if_pos (by rw [l6]; unfold sizeLine; omega)
  refine ws_seq (ws_for (wi_v (we_2 (we_var rfl (we_c ⟨_, rfl, rs, rfl, ?_⟩)))))
  refine forGo_ix (J := fun i ρ => ∃ a b c d e, ρ = [.dat (.tuple [.tuple [.str x, .str y], .tuple rs]), .dat (.list ((linesP (.tuple [.str x, .str y]) (rs.take i)).map PyData.str)), a, b, c, d, e]) ⟨_, _, _, _, _, rfl⟩ ?_ ?_
  · rintro i r hr ρ ⟨a, b, c, d, e, rfl⟩
    have lt : i < rs.length := (List.getElem?_eq_some_iff.mp hr).1
    have er : r = gt rs i := by
      have := (gt_mem lt).2
      rw [hr] at this
      exact Option.some.inj this
    have hmi := (gt_mem lt).1
    have hrl := W.r _ hmi
    rw [← er] at hrl
    have tl := take_lines (t := .tuple [.str x, .str y]) lt
    rw [← er] at tl
    have W2 : WP (.tuple [.str x, .str y]) (rs.take i) := ⟨W.a, by rw [List.length_take]; have := W.l; omega, fun r hr => W.r r (List.mem_of_mem_take hr)⟩
    have ll := (lines_ln W2).2
    obtain ⟨n, ps, as, rfl, hn, hl, hp, hl2, ha⟩ := hrl
    refine ⟨_, rfl, ?_⟩
    have lq : ((linesP (.tuple [.str x, .str y]) (rs.take i)).map PyData.str).length ≤ 86 := by rw [List.length_map]; exact ll
    have hn8 := cl_nm hn
    refine ws_seq (ws_set (we_2 (we_2 (we_var rfl (we_lst (wa_cons (we_2 (we_c (we_var rfl ⟨.str ("role " ++ n), if_pos (by rw [l5]; unfold sizeLine; omega), wa_nil ⟨Nat.le_of_ble_eq_true rfl, _, if_pos (by rw [List.length_singleton]; unfold sizeLine; omega), ?_⟩⟩)))))))))
    refine we_map (q := fun p => .str (lineS p)) (wi_v (we_var rfl ⟨_, rfl, by unfold sizeLine; omega, fun p hm => we_call (wg_d (we_var rfl (wg_nil ((texts_are (hp p hm)).2.mono fun r hr => hr)))), _, if_pos ?_, ?_⟩))
    · simp only [List.length_append, List.length_map, List.length_singleton]
      unfold sizeLine
      omega
    refine ws_set (we_2 (we_var rfl (we_lcT (p := fun _ => true) (q := fun a => .str (asideS a)) (wi_v (we_var rfl ⟨_, rfl, by unfold sizeLine; omega, fun a hm => ?_, _, if_pos ?_, ?_⟩)))))
    · obtain ⟨u, v, rfl, hu, hv⟩ := as_two (ha a hm)
      have hu8 := cl_nm hu
      have hv8 := cl_nm hv
      refine ⟨_, rfl, wt_yes rfl, fun _ => we_2 (we_2 (we_2 (we_c (we_var rfl ⟨.str ("aside " ++ u), if_pos ?_, we_c ⟨.str (("aside " ++ u) ++ " "), if_pos ?_, we_var rfl ⟨.str ((("aside " ++ u) ++ " ") ++ v), if_pos ?_, rfl⟩⟩⟩))))⟩
      · rw [l7]
        unfold sizeLine
        omega
      · rw [app_len, l7, l1]
        unfold sizeLine
        omega
      · rw [app_len, app_len, l7, l1]
        unfold sizeLine
        omega
    · rw [List.filter_eq_self.mpr (fun _ _ => rfl)]
      simp only [List.length_append, List.length_map, List.length_singleton]
      unfold sizeLine
      omega
    · rw [List.filter_eq_self.mpr (fun _ _ => rfl), tl]
      have : (linesP (.tuple [.str x, .str y]) (rs.take i)).map PyData.str ++ [PyData.str ("role " ++ n)] ++ ps.map (fun p => PyData.str (lineS p)) ++ as.map (fun a => PyData.str (asideS a)) = (linesP (.tuple [.str x, .str y]) (rs.take i) ++ roleL (.tuple [.str n, .tuple ps, .tuple as])).map PyData.str := by
        rw [List.map_append, List.append_assoc, List.append_assoc]
        show _ ++ ([PyData.str ("role " ++ n)] ++ _) = _ ++ (PyData.str ("role " ++ n) :: (ps.map lineS ++ as.map asideS).map PyData.str)
        rw [List.map_append, List.map_map, List.map_map]
        rfl
      rw [this]
      exact ⟨_, _, _, _, _, rfl⟩
  · rintro ρ ⟨a, b, c, d, e, rfl⟩
    rw [List.take_length]
    exact ws_ret (we_1 (we_var rfl ⟨_, join_ok' (Nat.le_trans (text_sum W) (by decide)), rfl⟩))
end K09

set_option maxHeartbeats 2000000
namespace K09
open PySem PySem.Spec PyProof.Rows L2 DL PySem.W DLS
/-! texts of more than one line, shown -/
def okt (c : Nat) : Bool := okc c || c == 10
theorem okt_repr {c : Nat} (h : okt c = true) : (Builtin.Str.reprChar 39 c).length ≤ 2 ∧ ∀ d ∈ Builtin.Str.reprChar 39 c, d < 127 := by
  unfold okt at h
  rw [Bool.or_eq_true] at h
  rcases h with h | h
  · rw [okc_repr h]
    refine ⟨by simp, fun d hd => ?_⟩
    rw [List.mem_singleton.mp hd]
    have := okc_lt h
    omega
  · rw [beq_iff_eq] at h
    subst h
    decide +kernel
theorem flat_ok : ∀ {l : List Nat}, l.all okt = true → (l.flatMap (Builtin.Str.reprChar 39)).length ≤ 2 * l.length ∧ ∀ d ∈ l.flatMap (Builtin.Str.reprChar 39), d < 127
  | [], _ => ⟨Nat.le_refl _, fun _ h => (List.not_mem_nil h).elim⟩
  | c :: r, h => by
    rw [List.all_cons, Bool.and_eq_true] at h
    obtain ⟨h1, h2⟩ := flat_ok h.2
    obtain ⟨k1, k2⟩ := okt_repr h.1
    rw [List.flatMap_cons]
    refine ⟨by rw [List.length_append, List.length_cons]; omega, fun d hd => ?_⟩
    rcases List.mem_append.mp hd with q | q
    · exact k2 d q
    · exact h2 d q
theorem okt_quote {x : Str} (h : (cl x).all okt = true) : reprQuote x = 39 := by
  unfold reprQuote
  have : x.cps.contains 39 = false := by
    cases hc : x.cps.contains 39 with
    | false => rfl
    | true =>
      have hm : (39 : Nat) ∈ x.cps.toList := by simpa using hc
      exact absurd (List.all_eq_true.mp h 39 hm) (by decide)
  rw [this]
  rfl
theorem rep_txt {x : Str} (h : (cl x).all okt = true) : (sh (.str x)).length ≤ 2 * x.length + 2 ∧ ∀ c ∈ sh (.str x), c < 127 := by
  have go : ∀ (l : List Nat) (acc : Array Nat), (l.foldl (fun out c => out ++ (Builtin.Str.reprChar 39 c).toArray) acc).toList = acc.toList ++ l.flatMap (Builtin.Str.reprChar 39) := by
    intro l
    induction l with
    | nil => intro acc; simp
    | cons c r ih =>
      intro acc
      rw [List.foldl_cons, ih, List.flatMap_cons]
      simp
  have e : sh (.str x) = 39 :: ((cl x).flatMap (Builtin.Str.reprChar 39) ++ [39]) := by
    show (Array.push (x.cps.foldl (fun out c => out ++ (Builtin.Str.reprChar (reprQuote x) c).toArray) #[reprQuote x]) (reprQuote x)).toList = _
    rw [okt_quote h, Array.toList_push, ← Array.foldl_toList, go]
    rfl
  obtain ⟨h1, h2⟩ := flat_ok h
  rw [e]
  refine ⟨?_, fun c hc => ?_⟩
  · rw [List.length_cons, List.length_append, List.length_singleton, cl_len]
    omega
  · rcases List.mem_cons.mp hc with rfl | q
    · decide
    · rcases List.mem_append.mp q with q | q
      · exact h2 c q
      · rw [List.mem_singleton.mp q]
        decide
theorem same_any {d : Dt} (h1 : d.showable = true) (h2 : SeqAt.shaped d = true) (h3 : (sh d).length ≤ 16777216) (h4 : ∀ c ∈ sh d, c < 0x110000) : Can (m__law_same [.dat d, .dat d]) fun r => r = .bool true := by
  have e : reprD [d] = some (.str d.shown) := if_pos ⟨h1, h2, by rw [cl_len]; exact h3⟩
  have hs : SeqAt.shaped (.str d.shown) = true := by
    unfold SeqAt.shaped
    rw [show PyData.canLay0 (.str d.shown) = true from strOk_of h4]
    rfl
  refine can_fn ?_
  unfold b__law_same
  refine ws_ret (we_2 (we_ca (wa_cons (we_var rfl (wa_nil ⟨_, e, we_ca (wa_cons (we_var rfl (wa_nil ⟨_, e, _, if_pos ⟨hs, hs⟩, ?_⟩)))⟩)))))
  show PyData.bool (d.shown == d.shown) = _
  rw [beq_self_eq_true]
theorem txt_shaped {x : Str} (h : (cl x).all okt = true) : SeqAt.shaped (.str x) = true := by
  have : PyData.canLay0 (.str x) = true := strOk_of fun c hc => by
    have := List.all_eq_true.mp h c hc
    unfold okt at this
    rw [Bool.or_eq_true] at this
    rcases this with q | q
    · have := okc_lt q
      omega
    · rw [beq_iff_eq] at q
      omega
  unfold SeqAt.shaped
  rw [this]
  rfl
theorem same_txts {x : Str} (h : (cl x).all okt = true) (hl : x.length ≤ 1000000) : Can (m__law_same [.dat (.list [.str x, .str x]), .dat (.list [.str x, .str x])]) fun r => r = .bool true := by
  obtain ⟨r1, r2⟩ := rep_txt h
  refine same_any rfl (shaped_list (all2 (txt_shaped h) (txt_shaped h)) (by show 0 + 1 ≤ 64; decide)) ?_ fun c hc => ?_
  · rw [sh_list, List.length_cons]
    have := jn_sz (xs := [sh (.str x), sh (.str x)]) (e := [93]) (n := 4 * x.length + 8) (by
      show (sh (.str x)).length + 2 + ((sh (.str x)).length + 2 + 0) ≤ _
      omega)
    have e : ([93] : List Nat).length = 1 := rfl
    rw [e] at this
    show (jn [sh (.str x), sh (.str x)] [93]).length + 1 ≤ _
    omega
  · rw [sh_list] at hc
    rcases List.mem_cons.mp hc with q | q
    · omega
    · exact jn_lt (n := 0x110000) (xs := [sh (.str x), sh (.str x)]) (by decide) (fun y hy c hc => by
        have : y = sh (.str x) := by
          rcases List.mem_cons.mp hy with q | q
          · exact q
          · exact List.mem_singleton.mp q
        subst this
        exact Nat.lt_trans (r2 c hc) (by decide)) (fun c hc => by rw [List.mem_singleton.mp hc]; decide) c q
theorem text_okt {t : Dt} {rs : List Dt} (W : WP t rs) : (cl (textS t rs)).all okt = true ∧ (textS t rs).length ≤ 1000000 := by
  refine ⟨join_all (p := okt) (by decide +kernel) fun z hz => List.all_eq_true.mpr fun c hc => ?_, Nat.le_trans (join_len _ _) (Nat.le_trans (text_sum W) (by decide))⟩
  have := List.all_eq_true.mp (show (cl z).all okc = true from ((lines_ln W).1 z hz).1) c hc
  unfold okt
  rw [this]
  rfl
theorem pright_is {t : Dt} {rs : List Dt} (W : WP t rs) (hw : sWrit (.tuple [t, .tuple rs]) = true) (hB : B 16777216 (.tuple [t, .tuple rs])) : Can (m__law_program_right [.dat (.tuple [t, .tuple rs])]) fun r => r = .bool true := by
  generalize hd : PyData.tuple [t, .tuple rs] = d at *
  have hs : SeqAt.shaped (.str d.shown) = true := by
    unfold SeqAt.shaped
    rw [show PyData.canLay0 (.str d.shown) = true from shown_ok (gd_plain hB.1)]
    rfl
  obtain ⟨l1, l2⟩ := text_okt W
  have pt : Can (m_program_text [.dat d]) fun r => r = .str (textS t rs) := fun φ => by
    rcases ptext_is hB.c (fun _ => ⟨t, rs, hd.symm, W⟩) φ with ⟨a, φ', e, _, k⟩ | ⟨_, _, _, q, _⟩
    · exact ⟨_, φ', e, k t rs hd.symm⟩
    · rw [hw] at q
      cases q
  have lt : Can (m__law_text [.dat d]) fun r => r = .str (textS t rs) := by
    rw [← hd]
    exact ltext_is W
  refine can_fn ?_
  unfold b__law_program_right
  refine ws_seq (ws_par (wa_cons (we_ca (wa_cons (we_var rfl (wa_nil ⟨_, hB.repr (by decide), wa_cons (we_call (wg_d (we_var rfl (wg_nil (lt.mono fun r hr => wa_nil ⟨_, _, rfl, ?_⟩)))))⟩))))))
  subst hr
  refine ws_ret (we_and (we_call (wg_d (we_lst (wa_cons (we_call (wg_d (we_var rfl (wg_nil (pt.mono fun r hr => ?_))))))))))
  subst hr
  refine wa_cons (we_call (wg_d (we_var rfl (wg_nil (pt.mono fun r hr => wa_nil ⟨Nat.le_of_ble_eq_true rfl, ?_⟩)))))
  subst hr
  refine wg_d (we_lst (wa_cons (we_var rfl (wa_cons (we_var rfl (wa_nil ⟨Nat.le_of_ble_eq_true rfl, wg_nil ((same_txts l1 l2).mono fun r hr => ?_)⟩))))))
  subst hr
  refine ⟨_, rfl, fun _ => ?_, fun hq => absurd hq (by decide)⟩
  refine we_2 (we_ca (wa_cons (we_var rfl (wa_nil ⟨_, hB.repr (by decide), we_var rfl ⟨_, if_pos ⟨hs, hs⟩, ?_⟩⟩))))
  show PyData.bool (d.shown == d.shown) = _
  rw [beq_self_eq_true]
/-! roles by form, their sizes -/
theorem role_mk {n : Dt} {ps as : List Dt} (hn : sNm n = true) (h0 : 0 < ps.length) (hp : ∀ p ∈ ps, sInstr p = true) (ha : ∀ a ∈ as, sBirth a = true) (hr : rise as = true) : sRole (.tuple [n, .tuple ps, .tuple as]) = true := by
  show (sName n && ((!ps.isEmpty && ps.all sInstr) && (as.all sBirth && rise as))) = true
  rw [nm_name hn, List.all_eq_true.mpr hp, List.all_eq_true.mpr ha, hr]
  cases ps with
  | nil => cases h0
  | cons _ _ => rfl
/-- a role that can be written -/
structure VR (r : Dt) : Prop where
  w : WR r
  s : sRole r = true
theorem T.ib {d : Dt} (h : T 1 771 3 d) : Bk 2 4000 d := by
  obtain ⟨xs, rfl, hl, hx⟩ := h
  exact (Bk.tup hx hl (by decide)).up (by decide) (by decide)
theorem GR.vr {names : List Dt} {r : Dt} (h : GR names r) : VR r := by
  obtain ⟨t, ps, as, rfl, ht, h0, hl, hp, hl2, ha, hr⟩ := h
  obtain ⟨n, rfl, _, _⟩ := nm_str ht
  exact ⟨⟨n, ps, as, rfl, ht, hl, fun p hm => ⟨(hp p hm).s, (hp p hm).t.ib⟩, by omega, fun a hm => (ha a hm).a⟩, role_mk ht h0 (fun p hm => (hp p hm).s) (fun a hm => (ha a hm).b) hr⟩
abbrev PlB (d : Dt) : Prop := Bk 4 48027 d
abbrev RoB (d : Dt) : Prop := Bk 5 144090 d
abbrev LoB (d : Dt) : Prop := Bk 6 1008647 d
theorem places_b {ps : List Dt} (h : ∀ p ∈ ps, Bk 3 4200 p) (hl : ps.length ≤ 11) : PlB (.tuple ps) := (Bk.tup h hl (by decide)).up (by decide) (by decide)
theorem places_b2 {ps : List Dt} (h : ∀ p ∈ ps, Bk 2 4000 p) (hl : ps.length ≤ 12) : PlB (.tuple ps) := (Bk.tup h hl (by decide)).up (by decide) (by decide)
theorem asides_b {as : List Dt} (h : ∀ a ∈ as, sAs a = true) (hl : as.length ≤ 4) : PlB (.tuple as) := (Bk.tup (k := 1) (n := 27) (fun a ha => as_bk (h a ha)) hl (by decide)).up (by decide) (by decide)
theorem nm4 {t : Dt} (h : sNm t = true) : PlB t := (nm_bk h).up (by decide) (by decide)
theorem role3 {a b c : Dt} (h1 : PlB a) (h2 : PlB b) (h3 : PlB c) : RoB (.tuple [a, b, c]) := (Bk.tup (m := 3) (all3 h1 h2 h3) (Nat.le_of_ble_eq_true rfl) (by decide)).up (by decide) (by decide)
theorem WR.b {r : Dt} (h : WR r) : RoB r := by
  obtain ⟨n, ps, as, rfl, hn, hl, hp, hl2, ha⟩ := h
  exact role3 (nm4 hn) (places_b2 (fun p hm => (hp p hm).b) hl) (asides_b ha hl2)
theorem lot_b {rs : List Dt} (h : ∀ r ∈ rs, RoB r) (hl : rs.length ≤ 7) : LoB (.tuple rs) ∧ LoB (.list rs) := ⟨(Bk.tup h hl (by decide)).up (by decide) (by decide), (Bk.lst h hl (by decide)).up (by decide) (by decide)⟩
theorem tip_b {t : Dt} (h : sAs t = true) : LoB t := (as_bk h).up (by decide) (by decide)
theorem prog_b {xs : List Dt} (h : ∀ x ∈ xs, LoB x) (hl : xs.length ≤ 3) : B 16777216 (.tuple xs) ∧ B 16777216 (.list xs) := ⟨(Bk.tup h hl (by decide)).up (by decide) (by decide), (Bk.lst h hl (by decide)).up (by decide) (by decide)⟩
/-- a program that can be written -/
structure VP (t : Dt) (rs : List Dt) : Prop where
  a : sAs t = true
  b : sBegin t = true
  l0 : 0 < rs.length
  l : rs.length ≤ 5
  r : ∀ r ∈ rs, VR r
theorem VP.wp {t : Dt} {rs : List Dt} (h : VP t rs) : WP t rs := ⟨h.a, h.l, fun r hr => (h.r r hr).w⟩
theorem VP.w {t : Dt} {rs : List Dt} (h : VP t rs) : sWrit (.tuple [t, .tuple rs]) = true := by
  show (sBegin t && (!rs.isEmpty && rs.all sRole)) = true
  rw [h.b, List.all_eq_true.mpr fun r hr => (h.r r hr).s]
  have := h.l0
  cases rs with
  | nil => cases this
  | cons _ _ => rfl
theorem VP.bk {t : Dt} {rs : List Dt} (h : VP t rs) : B 16777216 (.tuple [t, .tuple rs]) := (prog_b (all2 (tip_b h.a) (lot_b (fun r hr => (h.r r hr).w.b) (by have := h.l; omega)).1) (Nat.le_of_ble_eq_true rfl)).1
theorem VP.right {t : Dt} {rs : List Dt} (h : VP t rs) : Can (m__law_program_right [.dat (.tuple [t, .tuple rs])]) fun r => r = .bool true := pright_is h.wp h.w h.bk
theorem GP.vp {t : Dt} {rs : List Dt} (h : GP 5 t rs) : VP t rs := ⟨h.a, h.b, h.l0, h.l1, fun r hr => (h.r r hr).vr⟩
end K09

set_option maxHeartbeats 4000000
namespace K09
open PySem PySem.Spec PyProof.Rows L2 DL PySem.W DLS
local macro_rules
  | `(tactic| walk_at "go") => `(tactic| (repeat' (first
    | with_reducible first
      | refine ws_seq ?_ | refine ws_fd rfl ?_ | refine we_fg_n rfl (fun _ => ?_) | refine we_fg_l rfl (fun _ => ?_) | refine we_fg_s rfl (fun _ => ?_) | refine we_fg_c rfl (fun _ => ?_) | refine we_chain ?_ | refine ws_set ?_ | refine ws_ret ?_ | refine ws_if ?_ | refine ws_nx ?_ | refine ws_par ?_ | refine ws_unp ?_
      | refine we_var rfl ?_ | refine we_c ?_ | refine we_2 ?_ | refine we_1 ?_ | refine we_isi ?_
      | refine wt_e ?_ | refine wt_not ?_ | refine wt_andT ?_ | refine wt_or ?_ | refine we_if ?_ | refine we_not ?_ | refine we_and ?_ | refine we_or ?_
      | refine wa_nil ?_ | refine wa_cons ?_ | refine we_tup ?_ | refine we_lst ?_ | refine we_ca ?_ | refine wo_none ?_ | refine wo_some ?_ | refine we_sl ?_
      | refine wg_nil ?_ | refine wg_d ?_ | refine wg_f rfl ?_ | refine we_call ?_
    | refine draw' (by omega) (by omega) (fun k h0 h1 => ?_)
    | refine ex_mod (by assumption) ?_ | refine ex_fdiv (by assumption) (by assumption) ?_ | refine ex_mulr (by decide) ?_ | refine ex_mull (by decide) ?_ | refine ex_sq (by decide) (by decide) ?_
    | refine wt_isi (by with_reducible first | exact i_tuple_none | exact i_tuple_bool _ | exact i_tuple_int _ | exact i_tuple_str _ | exact i_tuple_list _ | exact i_tuple_tuple _ | exact i_bool_none | exact i_bool_bool _ | exact i_bool_int _ | exact i_bool_str _ | exact i_bool_list _ | exact i_bool_tuple _ | exact i_str_none | exact i_str_bool _ | exact i_str_int _ | exact i_str_str _ | exact i_str_list _ | exact i_str_tuple _ | exact i_int_none | exact i_int_bool _ | exact i_int_int _ | exact i_int_str _ | exact i_int_list _ | exact i_int_tuple _) ?_
    | refine And.intro (Nat.le_of_ble_eq_true rfl) ?_
    | (refine And.intro (fun hb => ?_) (fun hb => ?_) <;> try (first | exact absurd hb (by decide)))
    | (refine fun (hb : (_ : Bool) = _) => ?_ <;> try (first | exact absurd hb (by decide)))
    | refine And.intro True.intro ?_
    | refine Exists.intro _ (And.intro rfl ?_) | refine Exists.intro _ (Exists.intro _ (And.intro rfl ?_)))))

/-! drawn values of any size -/
def greatB (d : Dt) : Bool := gd (10 ^ 60 - 1) 1048576 1048576 d && (sNum d && isIntD d) && (decide (PyData.depth d ≤ 0) && decide (sz d ≤ 62))
theorem greatB_of {d : Dt} (h : greatB d = true) : Bk 0 62 d ∧ sNum d = true ∧ isIntD d = true := by
  unfold greatB at h
  simp only [Bool.and_eq_true, decide_eq_true_eq] at h
  exact ⟨⟨h.1.1, h.2.1, h.2.2⟩, h.1.2.1, h.1.2.2⟩
abbrev Gr (d : Dt) : Prop := Bk 0 62 d ∧ sNum d = true ∧ isIntD d = true
theorem great_ok : Can (m__law_great [.fd]) Gr := by
  refine can_fn ?_
  unfold b__law_great
  walk_at "go"
  refine pickL (by decide) (by decide) ?_
  exact fun x hx => greatB_of (List.all_eq_true.mp (show List.all _ greatB = true by decide +kernel) x hx)
theorem anyset_ok : Can (m__law_any_set [.fd]) fun d => Bk 1 259 d ∧ sTargets d = true := by
  refine can_fn ?_
  unfold b__law_any_set
  refine ws_ret (we_ca (wa_cons (we_1 (we_lcE (Q := Gr) (wi_r1' (wa_cons (we_2 (we_c (we_call (wg_f rfl (wg_d (we_c (wg_nil (draw' (by omega) (by omega) fun k a b => ?_))))))))))))))
  obtain ⟨k, rfl⟩ := Int.eq_ofNat_of_zero_le a
  refine ⟨.int ((1 + k : Nat) : Int), by rw [Int.natCast_add]; rfl, wa_nil ⟨1 + k, rfl, by omega, ?_⟩⟩
  rw [List.length_map, List.length_range]
  refine ⟨by unfold sizeLine; omega, fun x hx => ⟨_, rfl, we_call (wg_f rfl (wg_nil great_ok))⟩, fun ys hy hq => ?_⟩
  have al : ∀ x ∈ ys, ∀ y ∈ ys, alike x y = true := fun x hx y hy => by
    have h1 := (hq x hx).2.2
    have h2 := (hq y hy).2.2
    cases x <;> first | cases h1 | skip
    cases y <;> first | cases h2 | skip
    rfl
  obtain ⟨r1, r2⟩ := riseD_ok al
  have e : sortSetI (.list ys) = some (.list (riseD ys)) := if_pos ⟨by omega, List.all_eq_true.mpr fun x hx => (hq x hx).2.2⟩
  refine ⟨_, e, wa_nil ⟨_, rfl, Bk.tup (k := 0) (n := 62) (m := 4) (fun x hx => (hq x ((r2 x).mp hx)).1) (Nat.le_trans riseD_len (by omega)) (by decide), ?_⟩⟩
  show (!(riseD ys).isEmpty && ((riseD ys).all sNum && rise (riseD ys))) = true
  rw [rise_pw r1, List.all_eq_true.mpr fun x hx => (hq x ((r2 x).mp hx)).2.1]
  cases h : riseD ys with
  | nil =>
    cases ys with
    | nil => simp at hy; omega
    | cons y r =>
      have := (r2 y).mpr List.mem_cons_self
      rw [h] at this
      cases this
  | cons _ _ => rfl
theorem wd_bk {x : Str} (h : sNm (.str x) = true) : Bk 1 259 (.str x) := (nm_bk h).up (by decide) (by decide)
theorem gr_bk {d : Dt} (h : Gr d) : Bk 1 259 d := h.1.up (by decide) (by decide)
theorem ib3 {x n t : Dt} (h1 : Bk 1 259 x) (h2 : Bk 1 259 n) (h3 : Bk 1 259 t) (s : sInstr (.tuple [x, n, t]) = true) : IB (.tuple [x, n, t]) := ⟨s, (Bk.tup (m := 3) (all3 h1 h2 h3) (Nat.le_of_ble_eq_true rfl) (by decide)).up (by decide) (by decide)⟩
theorem ib2 {x t : Dt} (h1 : Bk 1 259 x) (h3 : Bk 1 259 t) (s : sInstr (.tuple [x, t]) = true) : IB (.tuple [x, t]) := ⟨s, (Bk.tup (m := 3) (all2 h1 h3) (Nat.le_of_ble_eq_true rfl) (by decide)).up (by decide) (by decide)⟩
theorem anyinstr_ok : Can (m__law_any_instruction [.fd]) IB := by
  refine can_fn ?_
  unfold b__law_any_instruction
  refine ws_seq (ws_set (we_call (wg_f rfl (wg_d (we_c (wg_nil (draw' (by omega) (by omega) fun k a b => ?_)))))))
  have lt_is : ∀ c : Int, ltX (.int k) (.int c) = some (.bool (decide (k < c))) := fun c => by rw [← dataLt_int]; rfl
  refine ws_seq (ws_if (wt_e (we_2 (we_var rfl (we_c ⟨_, eq_len _ _, _, rfl, fun hb => ?_, fun hb => ws_nx ?_⟩)))))
  · refine ws_ret (we_tup (wa_cons (we_c (wa_cons (we_call (wg_f rfl (wg_nil (anyset_ok.mono fun d hd => wa_nil ⟨Nat.le_of_ble_eq_true rfl, ?_⟩))))))))
    exact ib2 (wd_bk (by decide +kernel)) hd.1 (by
      rw [ins_go]
      exact hd.2)
  have k1 : 1 ≤ k := by
    have : ¬ k = 0 := by simpa using hb
    omega
  refine ws_seq (ws_if (wt_e (we_2 (we_var rfl (we_c ⟨_, lt_is _, _, rfl, fun hb => ?_, fun hb => ws_nx ?_⟩)))))
  · have hk : k < 3 := of_decide_eq_true hb
    refine ws_ret (we_tup (wa_cons (we_2 (we_lst (wa_cons (we_c (wa_cons (we_c (wa_nil ⟨by decide, we_2 (we_var rfl (we_c ⟨.int (k - 1), rfl, ixM (by omega) (show k - 1 < 2 by omega) fun z hz => ?_⟩))⟩)))))))))
    refine wa_cons (we_call (wg_f rfl (wg_nil (name_ok.mono fun n hn => wa_cons (we_call (wg_f rfl (wg_nil (great_ok.mono fun g hg => wa_nil ⟨Nat.le_of_ble_eq_true rfl, ?_⟩))))))))
    have hw : ∀ x ∈ BIRTHS, sNm (.str x) = true ∧ (x == "go") = false ∧ sIn BIRTHS (.str x) = true := by decide +kernel
    refine strs_in (ys := BIRTHS) (P := fun z => IB (.tuple [z, n, g])) hz fun w hm => ?_
    obtain ⟨w1, w2, w3⟩ := hw w hm
    refine ib3 (wd_bk w1) ((nm_bk hn).up (by decide) (by decide)) (gr_bk hg) ?_
    rw [ins_birth w2 w3]
    show (sName n && sNum g) = true
    rw [nm_name hn, hg.2.1]
    rfl
  have k3 : 3 ≤ k := by
    have : ¬ k < 3 := of_decide_eq_false hb
    omega
  refine ws_seq (ws_if (wt_e (we_2 (we_var rfl (we_c ⟨_, lt_is _, _, rfl, fun hb => ?_, fun hb => ws_nx ?_⟩)))))
  · have hk : k < 5 := of_decide_eq_true hb
    refine ws_ret (we_tup (wa_cons (we_2 (we_lst (wa_cons (we_c (wa_cons (we_c (wa_nil ⟨by decide, we_2 (we_var rfl (we_c ⟨.int (k - 3), rfl, ixM (by omega) (show k - 3 < 2 by omega) fun z hz => ?_⟩))⟩)))))))))
    refine wa_cons (we_2 (we_lst (wa_cons (we_c (wa_cons (we_c (wa_nil ⟨by decide, we_call (wg_f rfl (wg_d (we_c (wg_nil (draw' (by omega) (by omega) fun q a b => ixM a b fun y hy => ?_)))))⟩)))))))
    refine wa_cons (we_call (wg_f rfl (wg_nil (great_ok.mono fun g hg => wa_nil ⟨Nat.le_of_ble_eq_true rfl, ?_⟩))))
    have hw : ∀ x ∈ SHUTS, sNm (.str x) = true ∧ (x == "go") = false ∧ sIn BIRTHS (.str x) = false ∧ sIn SHUTS (.str x) = true := by decide +kernel
    have hv : ∀ x ∈ ENDS, sNm (.str x) = true ∧ sIn ENDS (.str x) = true := by decide +kernel
    refine strs_in (ys := SHUTS) (P := fun z => IB (.tuple [z, y, g])) hz fun w hm => strs_in (ys := ENDS) (P := fun y => IB (.tuple [.str w, y, g])) hy fun e he => ?_
    obtain ⟨w1, w2, w3, w4⟩ := hw w hm
    obtain ⟨v1, v2⟩ := hv e he
    refine ib3 (wd_bk w1) (wd_bk v1) (gr_bk hg) ?_
    rw [ins_shut w2 w3 w4]
    show (sIn ENDS (.str e) && sNum g) = true
    rw [v2, hg.2.1]
    rfl
  have k5 : 5 ≤ k := by
    have : ¬ k < 5 := of_decide_eq_false hb
    omega
  refine ws_ret (we_if (wt_e (we_2 (we_var rfl (we_c ⟨_, lt_is _, _, rfl, fun hb => ?_, fun hb => ?_⟩)))))
  · have hk : k < 8 := of_decide_eq_true hb
    refine we_tup (wa_cons (we_2 (we_lst (wa_cons (we_c (wa_cons (we_c (wa_cons (we_c (wa_nil ⟨by decide, we_2 (we_var rfl (we_c ⟨.int (k - 5), rfl, ixM (by omega) (show k - 5 < 3 by omega) fun z hz => ?_⟩))⟩))))))))))
    refine wa_cons (we_call (wg_f rfl (wg_nil (great_ok.mono fun g hg => wa_nil ⟨Nat.le_of_ble_eq_true rfl, ?_⟩))))
    have hw : ∀ x ∈ GOINGS, sNm (.str x) = true ∧ (x == "go") = false ∧ sIn BIRTHS (.str x) = false ∧ sIn SHUTS (.str x) = false ∧ sIn GOINGS (.str x) = true := by decide +kernel
    refine strs_in (ys := GOINGS) (P := fun z => IB (.tuple [z, g])) hz fun w hm => ?_
    obtain ⟨w1, w2, w3, w4, w5⟩ := hw w hm
    refine ib2 (wd_bk w1) (gr_bk hg) ?_
    rw [ins_going w2 w3 w4 w5]
    exact hg.2.1
  · have hk : 8 ≤ k := by
      have : ¬ k < 8 := of_decide_eq_false hb
      omega
    refine we_tup (wa_cons (we_2 (we_lst (wa_cons (we_c (wa_cons (we_c (wa_nil ⟨by decide, we_2 (we_var rfl (we_c ⟨.int (k - 8), rfl, ixM (by omega) (show k - 8 < 2 by omega) fun z hz => ?_⟩))⟩))))))))
    refine wa_nil ⟨Nat.le_of_ble_eq_true rfl, strs_in (ys := STOPS) (P := fun z => IB (.tuple [z])) hz fun w hm => ?_⟩
    have hw : ∀ x ∈ STOPS, sNm (.str x) = true ∧ sInstr (.tuple [.str x]) = true := by decide +kernel
    obtain ⟨w1, w2⟩ := hw w hm
    exact ⟨w2, (Bk.tup (m := 3) (all1 (wd_bk w1)) (Nat.le_of_ble_eq_true rfl) (by decide)).up (by decide) (by decide)⟩
theorem anyprog_ok : Can (m__law_any_program [.fd]) fun d => ∃ t rs, d = .tuple [t, .tuple rs] ∧ VP t rs := by
  refine can_fn ?_
  unfold b__law_any_program
  refine ws_seq (ws_own (wa_nil ⟨Nat.zero_le _, ?_⟩))
  refine ws_seq (ws_for (wi_r1' (wa_cons (we_2 (we_c (we_call (wg_f rfl (wg_d (we_c (wg_nil (draw' (by omega) (by omega) fun k a b => ?_)))))))))))
  obtain ⟨k, rfl⟩ := Int.eq_ofNat_of_zero_le a
  refine ⟨.int ((1 + k : Nat) : Int), by rw [Int.natCast_add]; rfl, wa_nil ⟨1 + k, rfl, by omega, ?_⟩⟩
  refine forGo_ix (J := fun i ρ => ∃ ds a b c d e, ρ = [.fd, .own ds, a, b, c, d, e] ∧ ds.length = i ∧ ∀ r ∈ ds, VR r) ⟨[], _, _, _, _, _, rfl, rfl, fun _ h => (List.not_mem_nil h).elim⟩ ?_ ?_
  · rintro i x hx ρ ⟨ds, a1, b1, c1, d1, e1, rfl, hl, hd⟩
    have hi := (List.getElem?_eq_some_iff.mp hx).1
    rw [List.length_map, List.length_range] at hi
    refine ⟨_, rfl, ?_⟩
    refine ws_seq (ws_set (we_ca (wa_cons (we_lcE (Q := IB) (wi_r1' (wa_cons (we_2 (we_c (we_call (wg_f rfl (wg_d (we_c (wg_nil (draw' (by omega) (by omega) fun m a b => ?_))))))))))))))
    obtain ⟨m, rfl⟩ := Int.eq_ofNat_of_zero_le a
    refine ⟨.int ((1 + m : Nat) : Int), by rw [Int.natCast_add]; rfl, wa_nil ⟨1 + m, rfl, by omega, ?_⟩⟩
    rw [List.length_map, List.length_range]
    refine ⟨by unfold sizeLine; omega, fun x hx => ⟨_, rfl, we_call (wg_f rfl (wg_nil anyinstr_ok))⟩, fun ps hy hq => wa_nil ⟨_, rfl, ?_⟩⟩
    refine ws_seq (ws_set (we_lcE (Q := fun d => sAs d = true ∧ sBirth d = true) (wi_r1' (wa_cons (we_call (wg_f rfl (wg_d (we_c (wg_nil (draw' (by omega) (by omega) fun q a b => ?_))))))))))
    obtain ⟨q, rfl⟩ := Int.eq_ofNat_of_zero_le a
    refine wa_nil ⟨q, rfl, by omega, ?_⟩
    rw [List.length_map, List.length_range]
    refine ⟨by unfold sizeLine; omega, fun x hx => ⟨_, rfl, ?_⟩, fun ys hy2 hq2 => ?_⟩
    · refine we_tup (wa_cons (we_2 (we_lst (wa_cons (we_c (wa_cons (we_c (wa_nil ⟨by decide, we_call (wg_f rfl (wg_d (we_c (wg_nil (draw' (by omega) (by omega) fun k a b => ixM a b fun z hz => ?_)))))⟩))))))))
      refine wa_cons (we_call (wg_f rfl (wg_nil (name_ok.mono fun n hn => wa_nil ⟨Nat.le_of_ble_eq_true rfl, ?_⟩))))
      refine strs_in (ys := BIRTHS) (P := fun z => sAs (.tuple [z, n]) = true ∧ sBirth (.tuple [z, n]) = true) hz fun w hw => ?_
      have g := ga_of (names := [n]) hw List.mem_cons_self hn
      exact ⟨g.a, g.b⟩
    · obtain ⟨al, ok⟩ := as_alike fun y hy => (hq2 y hy).1
      obtain ⟨r1, r2⟩ := riseD_ok al
      have e : sortSetD (.list ys) = some (.list (riseD ys)) := if_pos ⟨by omega, List.all_eq_true.mpr ok, List.all_eq_true.mpr fun x hx => List.all_eq_true.mpr fun y hy => al x hx y hy⟩
      refine ws_app rfl (we_tup (wa_cons (we_call (wg_f rfl (wg_nil (name_ok.mono fun n hn => wa_cons (we_var rfl (wa_cons (we_ca (wa_cons (we_1 (we_var rfl ⟨_, e, wa_nil ⟨_, rfl, wa_nil ⟨Nat.le_of_ble_eq_true rfl, by unfold sizeLine; omega, ?_⟩⟩⟩))))))))))))
      have vr : VR (.tuple [n, .tuple ps, .tuple (riseD ys)]) := by
        obtain ⟨n, rfl, _, _⟩ := nm_str hn
        exact ⟨⟨n, ps, riseD ys, rfl, hn, by omega, hq, Nat.le_trans riseD_len (by omega), fun a ha => (hq2 a ((r2 a).mp ha)).1⟩, role_mk hn (by omega) (fun p hm => (hq p hm).s) (fun a ha => (hq2 a ((r2 a).mp ha)).2) (rise_pw r1)⟩
      refine ⟨_, _, _, _, _, _, rfl, by rw [List.length_append, hl]; rfl, fun r hr => ?_⟩
      rcases List.mem_append.mp hr with h | h
      · exact hd r h
      · rw [List.mem_singleton.mp h]
        exact vr
  · rintro ρ ⟨ds, a1, b1, c1, d1, e1, rfl, hl, hd⟩
    rw [List.length_map, List.length_range] at hl
    refine ws_seq (ws_frz rfl (ws_ret (we_tup (wa_cons (we_call (wg_f rfl (wg_nil (beginl_ok.mono fun t ht => wa_cons (we_ca (wa_cons (we_var rfl (wa_nil ⟨_, rfl, wa_nil ⟨Nat.le_of_ble_eq_true rfl, _, _, rfl, ?_⟩⟩))))))))))))
    exact ⟨ht.1, ht.2, by omega, by omega, hd⟩
end K09

set_option maxHeartbeats 4000000
namespace K09
open PySem PySem.Spec PyProof.Rows L2 DL PySem.W DLS
local macro_rules
  | `(tactic| walk_at "go") => `(tactic| (repeat' (first
    | with_reducible first
      | refine ws_seq ?_ | refine ws_fd rfl ?_ | refine we_fg_n rfl (fun _ => ?_) | refine we_fg_l rfl (fun _ => ?_) | refine we_fg_s rfl (fun _ => ?_) | refine we_fg_c rfl (fun _ => ?_) | refine we_chain ?_ | refine ws_set ?_ | refine ws_ret ?_ | refine ws_if ?_ | refine ws_nx ?_ | refine ws_par ?_ | refine ws_unp ?_
      | refine we_var rfl ?_ | refine we_c ?_ | refine we_2 ?_ | refine we_1 ?_ | refine we_isi ?_
      | refine wt_e ?_ | refine wt_not ?_ | refine wt_andT ?_ | refine wt_or ?_ | refine we_if ?_ | refine we_not ?_ | refine we_and ?_ | refine we_or ?_
      | refine wa_nil ?_ | refine wa_cons ?_ | refine we_tup ?_ | refine we_lst ?_ | refine we_ca ?_ | refine wo_none ?_ | refine wo_some ?_ | refine we_sl ?_
      | refine wg_nil ?_ | refine wg_d ?_ | refine wg_f rfl ?_ | refine we_call ?_
    | refine draw' (by omega) (by omega) (fun k h0 h1 => ?_)
    | refine ex_mod (by assumption) ?_ | refine ex_fdiv (by assumption) (by assumption) ?_ | refine ex_mulr (by decide) ?_ | refine ex_mull (by decide) ?_ | refine ex_sq (by decide) (by decide) ?_
    | refine wt_isi (by with_reducible first | exact i_tuple_none | exact i_tuple_bool _ | exact i_tuple_int _ | exact i_tuple_str _ | exact i_tuple_list _ | exact i_tuple_tuple _ | exact i_bool_none | exact i_bool_bool _ | exact i_bool_int _ | exact i_bool_str _ | exact i_bool_list _ | exact i_bool_tuple _ | exact i_str_none | exact i_str_bool _ | exact i_str_int _ | exact i_str_str _ | exact i_str_list _ | exact i_str_tuple _ | exact i_int_none | exact i_int_bool _ | exact i_int_int _ | exact i_int_str _ | exact i_int_list _ | exact i_int_tuple _) ?_
    | refine And.intro (Nat.le_of_ble_eq_true rfl) ?_
    | (refine And.intro (fun hb => ?_) (fun hb => ?_) <;> try (first | exact absurd hb (by decide)))
    | (refine fun (hb : (_ : Bool) = _) => ?_ <;> try (first | exact absurd hb (by decide)))
    | refine And.intro True.intro ?_
    | refine Exists.intro _ (And.intro rfl ?_) | refine Exists.intro _ (Exists.intro _ (And.intro rfl ?_)))))

def bkB (k n : Nat) (d : Dt) : Bool := gd (10 ^ 60 - 1) 1048576 1048576 d && decide (PyData.depth d ≤ k) && decide (sz d ≤ n)
theorem bkB_of {k n : Nat} {d : Dt} (h : bkB k n d = true) : Bk k n d := by
  unfold bkB at h
  rw [Bool.and_eq_true, Bool.and_eq_true, decide_eq_true_eq, decide_eq_true_eq] at h
  exact ⟨h.1.1, h.1.2, h.2⟩
theorem bkB_no {k n : Nat} {p : Dt → Bool} {d : Dt} (h : (bkB k n d && !p d) = true) : Bk k n d ∧ p d = false := by
  rw [Bool.and_eq_true, Bool.not_eq_true'] at h
  exact ⟨bkB_of h.1, h.2⟩
local macro_rules
  | `(tactic| walk_at "bks") => `(tactic| repeat' (first
  | exact all_nil
  | exact (nm_bk (by assumption)).up (by decide) (by decide)
  | assumption
  | exact bkB_of (by decide +kernel)
  | refine all_cons ?_ ?_
  | refine Bk.tup (k := 2) (n := 1047) (m := 4) ?_ (Nat.le_of_ble_eq_true rfl) (by decide)
  | refine Bk.lst (k := 2) (n := 1047) (m := 4) ?_ (Nat.le_of_ble_eq_true rfl) (by decide)
  | refine Bk.tup (k := 1) (n := 259) (m := 4) ?_ (Nat.le_of_ble_eq_true rfl) (by decide)
  | refine Bk.lst (k := 1) (n := 259) (m := 4) ?_ (Nat.le_of_ble_eq_true rfl) (by decide)
  | refine Bk.tup (k := 0) (n := 62) (m := 4) ?_ (Nat.le_of_ble_eq_true rfl) (by decide)
  | refine Bk.lst (k := 0) (n := 62) (m := 4) ?_ (Nat.le_of_ble_eq_true rfl) (by decide)))
theorem oddbegin_ok : Can (m__law_odd_begin [.fd]) fun d => Bk 3 4199 d ∧ sBegin d = false := by
  refine can_fn ?_
  unfold b__law_odd_begin
  walk_at "go"
  refine pickL (by decide) (by decide) ?_
  exact fun x hx => bkB_no (p := sBegin) (List.all_eq_true.mp (show List.all _ (fun d => bkB 3 4199 d && !sBegin d) = true by decide +kernel) x hx)
theorem oddinstr_ok {t : Dt} (ht : sNm t = true) : Can (m__law_odd_instruction [.fd, .dat t]) fun d => Bk 3 4199 d ∧ sInstr d = false := by
  have m1 : sNum (.int (-1)) = false := by decide +kernel
  refine can_fn ?_
  unfold b__law_odd_instruction
  walk_at "go"
  refine pickL (by simp) (by simp) ?_
  repeat' (first | exact all_nil | refine all_cons ?_ ?_)
  all_goals first
    | exact bkB_no (p := sInstr) (by decide +kernel)
    | (refine And.intro ?_ ?_
       · walk_at "bks"
       · rw [ins_birth (by decide +kernel) (by decide +kernel)]
         first
           | rfl
           | exact Bool.and_false _
           | (show (sName _ && sNum (.int (-1))) = false
              rw [m1]
              exact Bool.and_false _))
theorem as_bad1 {d : Dt} {r : List Dt} (h : sBirth d = false) : sAsides (.tuple (d :: r)) = false := by
  show ((sBirth d && r.all sBirth) && rise (d :: r)) = false
  rw [h]
  rfl
theorem as_bad2 {d e : Dt} {r : List Dt} (h : sBirth e = false) : sAsides (.tuple (d :: e :: r)) = false := by
  show ((sBirth d && (sBirth e && r.all sBirth)) && rise (d :: e :: r)) = false
  rw [h, Bool.false_and, Bool.and_false]
  rfl
theorem as_bad3 {d e : Dt} (h : dataLt d e = false) : sAsides (.tuple [d, e]) = false := by
  show (_ && (dataLt d e && true)) = false
  rw [h, Bool.false_and, Bool.and_false]
theorem eqv_str (x : Str) : PyData.eqv (.str x) (.str x) = true := by
  show (x == x) = true
  exact beq_self_eq_true x
theorem lt_same (w x : Str) : dataLt (.tuple [.str w, .str x]) (.tuple [.str w, .str x]) = false := by
  rw [dataLt_tuple, dataLt_all_yes (by rfl) (eqv_str w), dataLt_all_yes (by rfl) (eqv_str x)]
  rfl
theorem lt_back (x : Str) : dataLt (.tuple [.str "start", .str x]) (.tuple [.str "copy", .str x]) = false := by
  rw [dataLt_tuple, dataLt_all_no (by rfl) (by decide +kernel), dataLt_str]
  decide +kernel
theorem in_A {x : Str} : sIn BIRTHS (.str (x ++ "A")) = false := by
  cases h : sIn BIRTHS (.str (x ++ "A")) with
  | false => rfl
  | true =>
    exfalso
    have key : ∀ w ∈ BIRTHS, (65 : Nat) ∉ cl w := by decide +kernel
    refine key _ (sIn_mem h) ?_
    rw [cl_app]
    exact List.mem_append_right _ (by decide +kernel)
theorem oddasides_ok {t : Dt} (ht : sNm t = true) : Can (m__law_odd_asides [.fd, .dat t]) fun d => Bk 3 4199 d ∧ sAsides d = false := by
  obtain ⟨x, rfl, h1, h2⟩ := nm_str ht
  have h2' : x.length ≤ 8 := by rw [cl_len]; exact h2
  have hadd : addD (.str x) (.str "A") = some (.str (x ++ "A")) := if_pos (by show x.length + 1 ≤ _; unfold sizeLine; omega)
  have h3 : cl (x ++ "A") = cl x ++ cl "A" := Array.toList_append
  have hl : (cl (x ++ "A")).length ≤ 9 := by
    rw [h3, List.length_append]
    exact Nat.add_le_add h2 (by decide : (cl "A").length ≤ 1)
  have hA : Bk 0 62 (.str (x ++ "A")) := ⟨gd_str.mpr ⟨by
    show (cl (x ++ "A")).all okc = true
    rw [h3, List.all_append, show (cl x).all okc = true from h1]
    rfl, Nat.le_trans hl (by decide)⟩, Nat.le_refl _, Nat.le_trans (Nat.add_le_add_right hl 2) (by decide)⟩
  have hA1 : Bk 1 259 (.str (x ++ "A")) := hA.up (by decide) (by decide)
  refine can_fn ?_
  unfold b__law_odd_asides
  walk_at "go"
  refine ⟨_, hadd, ?_⟩
  walk_at "go"
  refine pickL (by simp) (by simp) ?_
  repeat' (first | exact all_nil | refine all_cons ?_ ?_)
  all_goals first
    | exact bkB_no (p := sAsides) (by decide +kernel)
    | (refine And.intro ?_ ?_
       · walk_at "bks"
       · first
           | rfl
           | exact as_bad3 (lt_same _ _)
           | exact as_bad3 (lt_back _)
           | exact as_bad2 rfl
           | exact as_bad1 rfl
           | exact as_bad1 (by
               show (sIn BIRTHS (.str "read") && sName (.str x)) = false
               rw [show sIn BIRTHS (.str "read") = false from by decide +kernel]
               rfl)
           | exact as_bad1 (by
               show (sIn BIRTHS (.str (x ++ "A")) && sName (.str "copy")) = false
               rw [in_A]
               rfl))
/-! what is refused -/
theorem judge_is (w : Str) : Can (m__law_error (nU w)) fun r => r = .tuple [.str "use", .str w, .int (-1)] := by
  refine can_fnE ?_
  unfold b__law_error
  have p1 : p_PaperError "NotUsable" = false := by decide +kernel
  have p2 : p_ProgramError "NotUsable" = true := by decide +kernel
  have p3 : p_HouseError "NotUsable" = false := by decide +kernel
  have p4 : p_TextError "NotUsable" = false := by decide +kernel
  have p5 : p_ValueError "NotUsable" = true := by decide +kernel
  have p6 : p_InvalidStep_InvalidRow "NotUsable" = false := by decide +kernel
  have p7 : p_NotUsable "NotUsable" = true := by decide +kernel
  refine ws_seq (ws_set (we_lst (wa_cons (we_isE rfl (wa_cons (we_isE rfl (wa_cons (we_isE rfl (wa_cons (we_isE rfl (wa_nil ⟨Nat.le_of_ble_eq_true rfl, ?_⟩)))))))))))
  show wS1 _ (([.exc (nU w), .un] : Rho).set 1 (.dat (.list [.bool (p_PaperError "NotUsable"), .bool (p_ProgramError "NotUsable"), .bool (p_HouseError "NotUsable"), .bool (p_TextError "NotUsable")]))) _
  rw [p1, p2, p3, p4]
  refine ws_seq (ws_if (wt_or (wt_not (wt_e (we_isE rfl ⟨_, rfl, ?_⟩)))))
  show (((!p_ValueError "NotUsable") = true → _) ∧ ((!p_ValueError "NotUsable") = false → _))
  rw [p5]
  refine ⟨fun hq => absurd hq (by decide), fun _ => wt_or (wt_e (we_2 (we_count (we_var rfl ⟨_, rfl, we_c ⟨.int 1, rfl, we_c ⟨_, rfl, _, rfl, fun hq => absurd hq (by decide), fun _ => wt_e (we_isE rfl ⟨_, rfl, ?_⟩)⟩⟩⟩))))⟩
  show ((p_InvalidStep_InvalidRow "NotUsable" = true → _) ∧ (p_InvalidStep_InvalidRow "NotUsable" = false → _))
  rw [p6]
  refine ⟨fun hq => absurd hq (by decide), fun _ => ws_nx ?_⟩
  refine ws_seq (ws_if (wt_andT (wt_e (we_2 (we_var rfl (we_c ⟨_, rfl, _, rfl, fun hq => absurd hq (by decide), fun _ => ⟨fun hq => absurd hq (by decide), fun _ => ws_nx ?_⟩⟩))))))
  refine ws_seq (ws_if (wt_andT (wt_e (we_2 (we_var rfl (we_c ⟨_, rfl, _, rfl, fun _ => wt_e (we_isE rfl ⟨_, rfl, ?_⟩), fun hq => absurd hq (by decide)⟩))))))
  show ((p_NotUsable "NotUsable" = true → _) ∧ (p_NotUsable "NotUsable" = false → _))
  rw [p7]
  refine ⟨fun _ => ?_, fun hq => absurd hq (by decide)⟩
  exact ws_ret (we_tup (wa_cons (we_c (wa_cons (we_xf rfl (d := .str w) rfl (wa_cons (we_xf rfl (d := .int (-1)) rfl (wa_nil ⟨Nat.le_of_ble_eq_true rfl, rfl⟩))))))))
def use (w : Str) : Dt := .tuple [.str "use", .str w, .int (-1)]
theorem no_is (w : Str) : Can (m__law_no [.dat (.str w)]) fun r => r = use w := by
  refine can_fn ?_
  unfold b__law_no
  exact ws_ret (we_tup (wa_cons (we_c (wa_cons (we_var rfl (wa_cons (we_1 (we_c ⟨_, rfl, wa_nil ⟨Nat.le_of_ble_eq_true rfl, rfl⟩⟩))))))))
structure NW (d : Dt) : Prop where
  c : C d
  w : sWrit d = false
theorem heard_p {d : Dt} (h : NW d) {ρ : Rho} {i : Nat} {P : Dt → Prop} (e : ρ[i]? = some (.dat d)) (p : P (use "program")) : wE1 (mHeard m__law_error "told" (mCall m_program_text (mgD (mVar i) mgNil))) ρ P := by
  refine we_heard (wx_call (wg_d (we_var e (wg_nil ((ptext_is h.c fun q => ?_).mono ?_ ?_)))))
  · rw [h.w] at q
    cases q
  · rintro r ⟨q, _⟩
    rw [h.w] at q
    cases q
  · rintro er ⟨_, rfl⟩
    exact (judge_is "program").mono fun r hr => by rw [hr]; exact p
theorem heard_i {d : Dt} (hc : C d) (hs : sInstr d = false) {ρ : Rho} {i : Nat} {P : Dt → Prop} (e : ρ[i]? = some (.dat d)) (p : P (use "instruction")) : wE1 (mHeard m__law_error "told" (mCall m_instruction_text (mgD (mVar i) mgNil))) ρ P := by
  refine we_heard (wx_call (wg_d (we_var e (wg_nil ((itext_is hc fun q => ?_).mono ?_ ?_)))))
  · rw [hs] at q
    cases q
  · rintro r ⟨q, _⟩
    rw [hs] at q
    cases q
  · rintro er ⟨_, rfl⟩
    exact (judge_is "instruction").mono fun r hr => by rw [hr]; exact p
theorem nw_of {d : Dt} (h : B 16777216 d) (k : sWrit d = false) : NW d := ⟨h.c, k⟩
theorem writ_two (b r : Dt) : sWrit (.tuple [b, r]) = (sBegin b && someOf (fun xs => xs.all sRole) r) := rfl
theorem writ_roles {b : Dt} {rs : List Dt} (h : rs.all sRole = false) : sWrit (.tuple [b, .tuple rs]) = false := by
  rw [writ_two]
  show (sBegin b && (!rs.isEmpty && rs.all sRole)) = false
  rw [h, Bool.and_false, Bool.and_false]
theorem writ_begin {b r : Dt} (h : sBegin b = false) : sWrit (.tuple [b, r]) = false := by
  rw [writ_two, h]
  rfl
theorem writ_some {b r : Dt} (h : someOf (fun xs => xs.all sRole) r = false) : sWrit (.tuple [b, r]) = false := by
  rw [writ_two, h, Bool.and_false]
theorem all_last {rs : List Dt} {r : Dt} (h : sRole r = false) : (rs ++ [r]).all sRole = false := by
  rw [List.all_append, List.all_cons, h, Bool.false_and, Bool.and_false]
theorem all_first {rs : List Dt} {r : Dt} (h : sRole r = false) : (r :: rs).all sRole = false := by
  rw [List.all_cons, h, Bool.false_and]
theorem role_instr (n : Str) (ps as : List Dt) : sInstr (.tuple [.str n, .tuple ps, .tuple as]) = false := by
  show instrOf n [.tuple ps, .tuple as] = false
  unfold instrOf
  split
  · rfl
  · split
    · rfl
    · split
      · show (sIn ENDS (.tuple ps) && sNum (.tuple as)) = false
        exact Bool.and_false _
      · split
        · rfl
        · split <;> rfl
theorem refused_ok {t : Dt} {rs : List Dt} (V : VP t rs) : Can (m__law_refused_right [.fd, .dat (.tuple [t, .tuple rs])]) fun r => r = .bool true := by
  obtain ⟨r0, rr, rfl⟩ : ∃ r0 rr, rs = r0 :: rr := by
    cases rs with
    | nil => exact absurd V.l0 (by decide)
    | cons a b => exact ⟨a, b, rfl⟩
  have hrl := V.l
  rw [List.length_cons] at hrl
  have hrb : ∀ r ∈ r0 :: rr, RoB r := fun r hr => (V.r r hr).w.b
  have V0 := V.r r0 List.mem_cons_self
  obtain ⟨n, ps, as, rfl, hn, hl, hp, hl2, ha⟩ := V0.w
  generalize hR : PyData.tuple [.str n, .tuple ps, .tuple as] = r0 at *
  obtain ⟨x, y, rfl, hx, hy⟩ := as_two V.a
  have bt := tip_b V.a
  generalize hT : PyData.tuple [.str x, .str y] = t at *
  have bl := (lot_b hrb (by simp; omega)).1
  have bll := (lot_b hrb (by simp; omega)).2
  have btl : LoB (.list [.str x, .str y]) := (Bk.lst (k := 0) (n := 10) (m := 2) (all2 (nm_bk hx) (nm_bk hy)) (Nat.le_of_ble_eq_true rfl) (by decide)).up (by decide) (by decide)
  have be : LoB (.tuple []) := bkB_of (by decide +kernel)
  have bps : PlB (.tuple ps) := places_b2 (fun p hm => (hp p hm).b) hl
  have bas : PlB (.tuple as) := asides_b ha hl2
  have two : ∀ {a b : Dt}, LoB a → LoB b → B 16777216 (.tuple [a, b]) := fun h1 h2 => (prog_b (all2 h1 h2) (Nat.le_of_ble_eq_true rfl)).1
  have more : ∀ {q : Dt}, RoB q → B 16777216 (.tuple [t, .tuple ((r0 :: rr) ++ [q])]) := fun {q} hq => two bt (lot_b (fun z hz => by
    rcases List.mem_append.mp hz with h | h
    · exact hrb z h
    · rw [List.mem_singleton.mp h]; exact hq) (by rw [List.length_append]; simp; omega)).1
  have more1 : ∀ {q : Dt}, RoB q → B 16777216 (.tuple [t, .tuple (q :: r0 :: rr)]) := fun {q} hq => two bt (lot_b (all_cons hq hrb) (by simp; omega)).1
  have hl1000 : (r0 :: rr).length ≤ sizeLine := by unfold sizeLine; simp; omega
  have n1 : ∀ z ∈ [PyData.none, .str "stay", .list [t, .tuple (r0 :: rr)], .tuple [t], .tuple [t, .tuple []], .tuple [t, .list (r0 :: rr)], .tuple [.list [.str x, .str y], .tuple (r0 :: rr)], .tuple [t, .tuple (r0 :: rr), .tuple []]], NW z := by
    refine all_cons (nw_of (bkB_of (by decide +kernel)) rfl) (all_cons (nw_of (bkB_of (by decide +kernel)) rfl) (all_cons (nw_of (prog_b (all2 bt bl) (Nat.le_of_ble_eq_true rfl)).2 rfl) (all_cons (nw_of (prog_b (all1 bt) (Nat.le_of_ble_eq_true rfl)).1 rfl) (all_cons (nw_of (two bt be) (writ_some rfl)) (all_cons (nw_of (two bt bll) (writ_some rfl)) (all_cons (nw_of (two btl bl) (writ_begin rfl)) (all_cons (nw_of (prog_b (all3 bt bl be) (Nat.le_of_ble_eq_true rfl)).1 rfl) all_nil)))))))
  refine can_fn ?_
  unfold b__law_refused_right
  refine ws_seq (ws_unp (we_var rfl ⟨_, rfl, ?_⟩))
  refine ws_seq (ws_set (we_2 (we_var rfl (we_c ⟨_, ix0, ?_⟩))))
  refine ws_seq (ws_own (wa_cons (we_c (wa_cons (we_c (wa_cons (we_ca (wa_cons (we_var rfl (wa_nil ⟨_, rfl, ?_⟩)))))))))) 
  refine wa_cons (we_tup (wa_cons (we_var rfl (wa_nil ⟨Nat.le_of_ble_eq_true rfl, ?_⟩))))
  refine wa_cons (we_tup (wa_cons (we_var rfl (wa_cons (we_tup (wa_nil ⟨Nat.zero_le _, wa_nil ⟨Nat.le_of_ble_eq_true rfl, ?_⟩⟩))))))
  refine wa_cons (we_tup (wa_cons (we_var rfl (wa_cons (we_ca (wa_cons (we_var rfl (wa_nil ⟨_, rfl, wa_nil ⟨Nat.le_of_ble_eq_true rfl, ?_⟩⟩))))))))
  refine wa_cons (we_tup (wa_cons (we_ca (wa_cons (we_var rfl (wa_nil ⟨.list [.str x, .str y], by rw [← hT]; rfl, wa_cons (we_var rfl (wa_nil ⟨Nat.le_of_ble_eq_true rfl, ?_⟩))⟩))))))
  refine wa_cons (we_tup (wa_cons (we_var rfl (wa_cons (we_var rfl (wa_cons (we_tup (wa_nil ⟨Nat.zero_le _, wa_nil ⟨Nat.le_of_ble_eq_true rfl, wa_nil ⟨Nat.le_of_ble_eq_true rfl, ?_⟩⟩⟩))))))))
  have cat1 : ∀ z : Dt, addD (.tuple (r0 :: rr)) (.tuple [z]) = some (.tuple ((r0 :: rr) ++ [z])) := fun z => if_pos (by
    show (r0 :: rr).length + 1 ≤ sizeLine
    unfold sizeLine
    simp
    omega)
  refine ws_seq (ws_ownAdd rfl (we_lst (wa_cons (we_tup (wa_cons (we_call (wg_f rfl (wg_nil (oddbegin_ok.mono fun ob hob => wa_cons (we_var rfl (wa_nil ⟨Nat.le_of_ble_eq_true rfl, ?_⟩)))))))))))
  refine wa_cons (we_tup (wa_cons (we_var rfl (wa_cons (we_2 (we_var rfl (we_tup (wa_cons (we_c (wa_nil ⟨Nat.le_of_ble_eq_true rfl, _, cat1 _, wa_nil ⟨Nat.le_of_ble_eq_true rfl, ?_⟩⟩))))))))))
  refine wa_cons (we_tup (wa_cons (we_var rfl (wa_cons (we_2 (we_var rfl (we_tup (wa_cons (we_sl (we_var rfl (wo_none (wo_some (we_c ⟨_, rfl, .tuple [.str n, .tuple ps], by rw [← hR]; rfl, wa_nil ⟨Nat.le_of_ble_eq_true rfl, _, cat1 _, wa_nil ⟨Nat.le_of_ble_eq_true rfl, ?_⟩⟩⟩)))))))))))))
  refine wa_cons (we_var rfl (wa_cons (we_var rfl (wa_cons (we_tup (wa_cons (we_c (wa_nil ⟨Nat.le_of_ble_eq_true rfl, wa_nil ⟨Nat.le_of_ble_eq_true rfl, _, rfl, Nat.le_of_ble_eq_true rfl, ?_⟩⟩))))))))
  have n2 : ∀ z ∈ [PyData.tuple [ob, .tuple (r0 :: rr)], .tuple [t, .tuple ((r0 :: rr) ++ [.none])], .tuple [t, .tuple ((r0 :: rr) ++ [.tuple [.str n, .tuple ps]])], .tuple (r0 :: rr), t, .tuple [.str "stay"]], NW z := by
    refine all_cons (nw_of (two (hob.1.up (by decide) (by decide)) bl) (writ_begin hob.2)) (all_cons (nw_of (more (bkB_of (by decide +kernel))) (writ_roles (all_last rfl))) (all_cons (nw_of (more ((Bk.tup (m := 3) (all2 (nm4 hn) bps) (Nat.le_of_ble_eq_true rfl) (by decide)).up (by decide) (by decide))) (writ_roles (all_last rfl))) (all_cons (nw_of (bl.up (by decide) (by decide)) ?_) (all_cons (nw_of (bt.up (by decide) (by decide)) ?_) (all_cons (nw_of (bkB_of (by decide +kernel)) (by decide +kernel)) all_nil)))))
    · rw [← hR]
      cases rr with
      | nil => rfl
      | cons r1 q =>
        cases q with
        | nil => exact writ_begin rfl
        | cons _ _ => rfl
    · rw [← hT]
      exact writ_begin rfl
  have e0 : ixD r0 (.int 0) = some (.str n) := by rw [← hR]; rfl
  have e1 : ixD r0 (.int 1) = some (.tuple ps) := by rw [← hR]; rfl
  refine ws_seq (ws_app rfl (we_tup (wa_cons (we_var rfl (wa_cons (we_2 (we_var rfl (we_tup (wa_cons (we_tup (wa_cons (we_2 (we_var rfl (we_c ⟨_, e0, ?_⟩))))))))))))))
  refine wa_cons (we_tup (wa_cons (we_call (wg_f rfl (wg_d (we_2 (we_var rfl (we_c ⟨_, e0, wg_nil ((oddinstr_ok hn).mono fun oi hoi => wa_nil ⟨Nat.le_of_ble_eq_true rfl, ?_⟩)⟩))))))))
  refine wa_cons (we_tup (wa_nil ⟨Nat.zero_le _, wa_nil ⟨Nat.le_of_ble_eq_true rfl, wa_nil ⟨Nat.le_of_ble_eq_true rfl, _, cat1 _, wa_nil ⟨Nat.le_of_ble_eq_true rfl, Nat.le_of_ble_eq_true rfl, ?_⟩⟩⟩⟩))
  have n3 : NW (.tuple [t, .tuple ((r0 :: rr) ++ [.tuple [.str n, .tuple [oi], .tuple []]])]) := by
    refine nw_of (more (role3 (nm4 hn) ((Bk.tup (m := 1) (all1 hoi.1) (Nat.le_of_ble_eq_true rfl) (by decide)).up (by decide) (by decide)) (bkB_of (by decide +kernel)))) (writ_roles (all_last ?_))
    show (sName (.str n) && ((!false && (sInstr oi && true)) && _)) = false
    rw [hoi.2]
    exact Bool.and_false _
  refine ws_seq (ws_app rfl (we_tup (wa_cons (we_var rfl (wa_cons (we_2 (we_tup (wa_cons (we_tup (wa_cons (we_2 (we_var rfl (we_c ⟨_, e0, ?_⟩)))))))))))))
  refine wa_cons (we_2 (we_var rfl (we_c ⟨_, e1, wa_cons (we_call (wg_f rfl (wg_d (we_2 (we_var rfl (we_c ⟨_, e0, wg_nil ((oddasides_ok hn).mono fun oa hoa => wa_nil ⟨Nat.le_of_ble_eq_true rfl, ?_⟩)⟩))))))⟩)))
  refine wa_nil ⟨Nat.le_of_ble_eq_true rfl, we_var rfl ⟨.tuple (.tuple [.str n, .tuple ps, oa] :: r0 :: rr), if_pos ?_, wa_nil ⟨Nat.le_of_ble_eq_true rfl, Nat.le_of_ble_eq_true rfl, ?_⟩⟩⟩
  · show 1 + (r0 :: rr).length ≤ sizeLine
    unfold sizeLine
    simp
    omega
  have n4 : NW (.tuple [t, .tuple (.tuple [.str n, .tuple ps, oa] :: r0 :: rr)]) := by
    refine nw_of (more1 (role3 (nm4 hn) bps (hoa.1.up (by decide) (by decide)))) (writ_roles (all_first ?_))
    show (sName (.str n) && (someOf _ _ && sAsides oa)) = false
    rw [hoa.2, Bool.and_false, Bool.and_false]
  refine ws_seq (ws_app rfl (we_tup (wa_cons (we_var rfl (wa_cons (we_tup (wa_cons (we_2 (we_tup (wa_cons (we_call (wg_f rfl (wg_d (we_lst (wa_cons (we_c (wa_cons (we_c (wa_cons (we_c (wa_cons (we_c (wa_cons (we_tup (wa_cons (we_c (wa_nil ⟨Nat.le_of_ble_eq_true rfl, wa_nil ⟨Nat.le_of_ble_eq_true rfl, wg_nil (pickL (by decide) (by decide) fun on hon => ?_)⟩⟩)))))))))))))))))))))))))))
  have hon' : Bk 1 259 on ∧ sName on = false := bkB_no (p := sName) (List.all_eq_true.mp (show List.all _ (fun d => bkB 1 259 d && !sName d) = true by decide +kernel) on hon)
  refine wa_nil ⟨Nat.le_of_ble_eq_true rfl, we_sl (we_var rfl (wo_some (we_c ⟨_, rfl, wo_none ⟨.tuple [.tuple ps, .tuple as], by rw [← hR]; rfl, .tuple [on, .tuple ps, .tuple as], rfl, wa_nil ⟨Nat.le_of_ble_eq_true rfl, wa_nil ⟨Nat.le_of_ble_eq_true rfl, Nat.le_of_ble_eq_true rfl, ?_⟩⟩⟩⟩)))⟩
  have n5 : NW (.tuple [t, .tuple [.tuple [on, .tuple ps, .tuple as]]]) := by
    refine nw_of (two bt (lot_b (all1 (role3 (hon'.1.up (by decide) (by decide)) bps bas)) (Nat.le_of_ble_eq_true rfl)).1) (writ_roles (all_first ?_))
    show (sName on && _) = false
    rw [hon'.2]
    rfl
  refine ws_seq (ws_frz rfl (ws_seq (ws_unp (we_tup (wa_cons (we_call (wg_f rfl (wg_d (we_var rfl (wg_nil (pickL (by simp) (by simp) fun bad hbad => ?_)))))))))))
  refine wa_cons (we_call (wg_f rfl (wg_d (we_2 (we_var rfl (we_c ⟨_, e0, wg_nil ((oddinstr_ok hn).mono fun one hone => wa_nil ⟨Nat.le_of_ble_eq_true rfl, _, rfl, ?_⟩)⟩))))))
  have nb : NW bad := by
    rcases List.mem_append.mp hbad with h | h
    · rcases List.mem_append.mp h with h | h
      · rcases List.mem_append.mp h with h | h
        · rcases List.mem_append.mp h with h | h
          · exact n1 bad h
          · exact n2 bad h
        · rw [List.mem_singleton.mp h]
          exact n3
      · rw [List.mem_singleton.mp h]
        exact n4
    · rw [List.mem_singleton.mp h]
      exact n5
  have c1 : C one := B.c (n := 16777216) (hone.1.up (by decide) (by decide))
  have c0 : C r0 := B.c (n := 16777216) ((hrb r0 List.mem_cons_self).up (by decide) (by decide))
  have s0 : sInstr r0 = false := by rw [← hR]; exact role_instr n ps as
  refine ws_seq (ws_set (we_lst (wa_cons (heard_p nb rfl (wa_cons (heard_i c1 hone.2 rfl (wa_cons (heard_i c0 s0 rfl (wa_nil ⟨Nat.le_of_ble_eq_true rfl, ?_⟩)))))))))
  refine ws_ret (we_call (wg_d (we_var rfl (wg_d (we_lst (wa_cons (we_call (wg_d (we_c (wg_nil ((no_is "program").mono fun r hr => ?_)))))))))))
  subst hr
  refine wa_cons (we_call (wg_d (we_c (wg_nil ((no_is "instruction").mono fun r hr => ?_)))))
  subst hr
  refine wa_cons (we_call (wg_d (we_c (wg_nil ((no_is "instruction").mono fun r hr => wa_nil ⟨Nat.le_of_ble_eq_true rfl, ?_⟩)))))
  subst hr
  exact wg_nil (same_is (n := 4000) (bkB_of (by decide +kernel)) (by decide))
end K09

set_option maxHeartbeats 4000000
namespace K09
open PySem PySem.Spec PyProof.Rows L2 DL PySem.W DLS
local macro_rules
  | `(tactic| walk_at "go") => `(tactic| (repeat' (first
    | with_reducible first
      | refine ws_seq ?_ | refine ws_fd rfl ?_ | refine we_fg_n rfl (fun _ => ?_) | refine we_fg_l rfl (fun _ => ?_) | refine we_fg_s rfl (fun _ => ?_) | refine we_fg_c rfl (fun _ => ?_) | refine we_chain ?_ | refine ws_set ?_ | refine ws_ret ?_ | refine ws_if ?_ | refine ws_nx ?_ | refine ws_par ?_ | refine ws_unp ?_
      | refine we_var rfl ?_ | refine we_c ?_ | refine we_2 ?_ | refine we_1 ?_ | refine we_isi ?_
      | refine wt_e ?_ | refine wt_not ?_ | refine wt_andT ?_ | refine wt_or ?_ | refine we_if ?_ | refine we_not ?_ | refine we_and ?_ | refine we_or ?_
      | refine wa_nil ?_ | refine wa_cons ?_ | refine we_tup ?_ | refine we_lst ?_ | refine we_ca ?_ | refine wo_none ?_ | refine wo_some ?_ | refine we_sl ?_
      | refine wg_nil ?_ | refine wg_d ?_ | refine wg_f rfl ?_ | refine we_call ?_
    | refine draw' (by omega) (by omega) (fun k h0 h1 => ?_)
    | refine ex_mod (by assumption) ?_ | refine ex_fdiv (by assumption) (by assumption) ?_ | refine ex_mulr (by decide) ?_ | refine ex_mull (by decide) ?_ | refine ex_sq (by decide) (by decide) ?_
    | refine wt_isi (by with_reducible first | exact i_tuple_none | exact i_tuple_bool _ | exact i_tuple_int _ | exact i_tuple_str _ | exact i_tuple_list _ | exact i_tuple_tuple _ | exact i_bool_none | exact i_bool_bool _ | exact i_bool_int _ | exact i_bool_str _ | exact i_bool_list _ | exact i_bool_tuple _ | exact i_str_none | exact i_str_bool _ | exact i_str_int _ | exact i_str_str _ | exact i_str_list _ | exact i_str_tuple _ | exact i_int_none | exact i_int_bool _ | exact i_int_int _ | exact i_int_str _ | exact i_int_list _ | exact i_int_tuple _) ?_
    | refine And.intro (Nat.le_of_ble_eq_true rfl) ?_
    | (refine And.intro (fun hb => ?_) (fun hb => ?_) <;> try (first | exact absurd hb (by decide)))
    | (refine fun (hb : (_ : Bool) = _) => ?_ <;> try (first | exact absurd hb (by decide)))
    | refine And.intro True.intro ?_
    | refine Exists.intro _ (And.intro rfl ?_) | refine Exists.intro _ (Exists.intro _ (And.intro rfl ?_)))))

abbrev JL (ρ : Rho) : Prop := ∃ a c d e f g h i, ρ = [a, .fd, c, d, e, f, g, h, i]
abbrev JP (plan : Dt) (ρ : Rho) : Prop := ∃ a c d e f h i, ρ = [a, .fd, c, d, e, f, .dat plan, h, i]
theorem roles_go {t : Dt} {rs : List Dt} (V : VP t rs) {ρ : Rho} {D : Fl → Prop} (h : JP (.tuple [t, .tuple rs]) ρ) (k : ∀ ρ', JP (.tuple [t, .tuple rs]) ρ' → D (.nx ρ')) : wS1 (sFor (miV (m2 ixD (mVar 6) (mC (.int 1)))) (.nm 7)
  (sIf (mtE (m2 neD (mLc (miV (m2 ixD (mVar 7) (mC (.int 1)))) (.nm 5) (mtNot (mtE (mCall m__law_instruction_right (mgD (mVar 5) mgNil)) truth)) (mVar 5) [5]) (mLst maNil)) asBool)
  (sRet (mC (.bool false)))
  sNx)) ρ D := by
  obtain ⟨a, c, d, e, f, h, i, rfl⟩ := h
  refine ws_for (wi_v (we_2 (we_var rfl (we_c ⟨_, rfl, rs, rfl, ?_⟩))))
  refine forGo_inv (J := JP (.tuple [t, .tuple rs])) (fun r hr ρ hρ => ?_) ⟨_, _, _, _, _, _, _, rfl⟩ k
  obtain ⟨a, c, d, e, f, h, i, rfl⟩ := hρ
  obtain ⟨n, ps, as, rfl, hn, hl, hp, hl2, ha⟩ := (V.r r hr).w
  refine ⟨_, rfl, ?_⟩
  refine ws_if (wt_e (we_2 (we_lc (p := fun _ => false) (q := id) (wi_v (we_2 (we_var rfl (we_c ⟨_, rfl, ps, rfl, by unfold sizeLine; omega, fun x hx => ⟨?_, fun q => by cases q⟩, ?_⟩)))))))
  · refine wt_not (wt_e (we_call (wg_d (we_var rfl (wg_nil ((iright_is (hp x hx)).mono fun r hr => ?_))))))
    subst hr
    exact ⟨_, rfl, rfl⟩
  · have e0 : (ps.filter fun _ => false).map id = [] := by
      rw [List.filter_eq_nil_iff.mpr (by simp)]
      rfl
    rw [e0]
    exact we_lst (wa_nil ⟨Nat.zero_le _, _, (show neD (.list []) (.list []) = some (.bool false) from if_pos ⟨rfl, rfl⟩), _, rfl, fun hq => absurd hq (by decide), fun _ => ws_nx ⟨_, _, _, _, _, _, _, rfl⟩⟩)
theorem not_pr {ρ : Rho} {f : ME} {P : Bool → Prop} (h : wE1 f ρ fun d => (∃ t rs, d = .tuple [t, .tuple rs] ∧ VP t rs) ∧ P false) : wT1 (mtNot (mtE (mCall m__law_program_right (mgD f mgNil)) truth)) ρ P :=
  wt_not (wt_e (we_call (wg_d (h.mono fun d hd => by
    obtain ⟨⟨t, rs, rfl, V⟩, p⟩ := hd
    exact wg_nil (V.right.mono fun r hr => by
      subst hr
      exact ⟨_, rfl, p⟩)))))
theorem turns_go {t : Dt} {rs : List Dt} (V : VP t rs) {ρ : Rho} {D : Fl → Prop} (h : JP (.tuple [t, .tuple rs]) ρ) (k : ∀ ρ', JP (.tuple [t, .tuple rs]) ρ' → D (.nx ρ')) : wS1 (sFor (miR1 (maCons (mC (.int 6)) maNil)) (.nm 8)
  (sIf (mtOr (mtNot (mtE (mCall m__law_instruction_right (mgD (mCall m__law_any_instruction (mgF 1 mgNil)) mgNil)) truth)) (mtNot (mtE (mCall m__law_refused_right (mgF 1 (mgD (mVar 6) mgNil))) truth)))
  (sRet (mC (.bool false)))
  sNx)) ρ D := by
  refine ws_for (wi_r1' (wa_cons (we_c (wa_nil ⟨6, rfl, by decide, ?_⟩))))
  refine forGo_inv (J := JP (.tuple [t, .tuple rs])) (fun r hr ρ hρ => ?_) h k
  obtain ⟨a, c, d, e, f, h, i, rfl⟩ := hρ
  refine ⟨_, rfl, ?_⟩
  refine ws_if (wt_or (wt_not (wt_e (we_call (wg_d (we_call (wg_f rfl (wg_nil (anyinstr_ok.mono fun d hd => wg_nil ((iright_is hd).mono fun r hr => ?_)))))))))) 
  subst hr
  refine ⟨_, rfl, fun hq => absurd hq (by decide), fun _ => ?_⟩
  refine wt_not (wt_e (we_call (wg_f rfl (wg_d (we_var rfl (wg_nil ((refused_ok V).mono fun r hr => ?_)))))))
  subst hr
  exact ⟨_, rfl, fun hq => absurd hq (by decide), fun _ => ws_nx ⟨_, _, _, _, _, _, _, rfl⟩⟩
def ibB (d : Dt) : Bool := sInstr d && bkB 2 4000 d
theorem ibB_of {d : Dt} (h : ibB d = true) : IB d := by
  unfold ibB at h
  rw [Bool.and_eq_true] at h
  exact ⟨h.1, bkB_of h.2⟩
def tipL : Dt := .tuple [.str "marked", .str "open"]
def lotL : List Dt := [.tuple [.str "b", .tuple [.tuple [.str "read", .int 7], .tuple [.str "end"]], .tuple [.tuple [.str "copy", .str "b"], .tuple [.str "start", .str "a"]]], .tuple [.str "b", .tuple [.tuple [.str "stay"]], .tuple []]]
theorem lit_vp : VP tipL lotL := by
  refine ⟨by decide +kernel, by decide +kernel, by decide, by decide, ?_⟩
  have ib : ∀ {ps : List Dt}, ps.all ibB = true → ∀ p ∈ ps, IB p := fun h p hp => ibB_of (List.all_eq_true.mp h p hp)
  have as : ∀ {ps : List Dt}, ps.all sAs = true → ∀ p ∈ ps, sAs p = true := fun h p hp => List.all_eq_true.mp h p hp
  exact all_cons ⟨⟨_, _, _, rfl, by decide +kernel, by decide, ib (by decide +kernel), by decide, as (by decide +kernel)⟩, by decide +kernel⟩ (all_cons ⟨⟨_, _, _, rfl, by decide +kernel, by decide, ib (by decide +kernel), by decide, as (by decide +kernel)⟩, by decide +kernel⟩ all_nil)
theorem lit_text : textS tipL lotL = "begin marked open\nrole b\nread 7\nend\naside copy b\naside start a\nrole b\nstay" := by decide +kernel
theorem pt_lit : Can (m_program_text [.dat (.tuple [tipL, .tuple lotL])]) fun r => r = .str "begin marked open\nrole b\nread 7\nend\naside copy b\naside start a\nrole b\nstay" := fun φ => by
  rcases ptext_is lit_vp.bk.c (fun _ => ⟨_, _, rfl, lit_vp.wp⟩) φ with ⟨a, φ', e, _, k⟩ | ⟨_, _, _, q, _⟩
  · exact ⟨_, φ', e, by rw [k _ _ rfl, lit_text]⟩
  · rw [lit_vp.w] at q
    cases q
theorem same_lit {x : Str} (h : (cl x).all okt = true) (hl : x.length ≤ 1000000) : Can (m__law_same [.dat (.str x), .dat (.str x)]) fun r => r = .bool true := by
  obtain ⟨r1, r2⟩ := rep_txt h
  exact same_any rfl (txt_shaped h) (by omega) fun c hc => Nat.lt_trans (r2 c hc) (by decide)
theorem same_eq {a b : Dt} (h : eqP a b = true) (hb : bkB 20 16777216 b = true) : Can (m__law_same [.dat a, .dat b]) fun r => r = .bool true := by
  rw [eqP_eq a b h]
  exact same_is (n := 16777216) (bkB_of hb) (Nat.le_refl _)
theorem law_go : wS1 b_law ((List.replicate 9 .un).set 1 .fd) fun fl => fl = .rt (.bool true) := by
  unfold b_law
  refine ws_seq (ws_for (wi_r1' (wa_cons (we_c (wa_nil ⟨4, rfl, by decide, ?_⟩)))))
  refine forGo_inv (J := JL) (fun x hx ρ hρ => ?_) ⟨_, _, _, _, _, _, _, _, rfl⟩ fun ρ hρ => ?_
  · obtain ⟨a, c, d, e, f, g, h, i, rfl⟩ := hρ
    refine ⟨_, rfl, ?_⟩
    refine ws_seq (ws_set (we_call (wg_f rfl (wg_d (we_c (wg_nil ((program_ok (m := 5) (by decide) (by decide)).mono fun p hp => ?_)))))))
    obtain ⟨t, rs, rfl, G⟩ := hp
    have V := G.vp
    refine ws_seq (roles_go V ⟨_, _, _, _, _, _, _, rfl⟩ fun ρ hρ => ?_)
    obtain ⟨a, c, d, e, f, h, i, rfl⟩ := hρ
    refine ws_seq (ws_if (wt_or (not_pr (we_var rfl ⟨⟨t, rs, rfl, V⟩, fun hq => absurd hq (by decide), fun _ => not_pr (we_call (wg_f rfl (wg_nil (anyprog_ok.mono fun d hd => ⟨hd, fun hq => absurd hq (by decide), fun _ => ws_nx ?_⟩))))⟩))))
    exact turns_go V ⟨_, _, _, _, _, _, _, rfl⟩ fun ρ hρ => by
      obtain ⟨a, c, d, e, f, h, i, rfl⟩ := hρ
      exact ⟨_, _, _, _, _, _, _, _, rfl⟩
  · obtain ⟨a, c, d, e, f, g, h, i, rfl⟩ := hρ
    walk_at "go"
    refine we_map (q := fun d => .str (lineS d)) (wi_v (we_var rfl ⟨_, rfl, Nat.le_of_ble_eq_true rfl, fun x hx => we_call (wg_d (we_var rfl (wg_nil (itext_ok (ibB_of (List.all_eq_true.mp (show List.all _ ibB = true by decide +kernel) x hx)))))), ?_⟩))
    refine wg_d (we_var rfl ?_)
    refine wg_nil ((same_eq (by decide +kernel) (by decide +kernel)).mono fun r hr => ?_)
    subst hr
    refine ⟨_, rfl, fun hq => absurd hq (by decide), fun _ => ?_⟩
    refine ws_nx (ws_seq (ws_set ?_))
    walk_at "go"
    refine pt_lit.mono fun r hr => ?_
    subst hr
    refine wg_d (we_c (wg_nil ((same_lit (by decide +kernel) (by decide +kernel)).mono fun r hr => ?_)))
    rw [hr]
theorem math : Math := fun cells => by
  obtain ⟨a, φ', e, rfl⟩ := law_go (fd0 cells)
  exact ⟨φ', e⟩
end K09

namespace K09
open PySem PySem.Spec PyProof.Rows L2 DL
def Lk (K : PySem.W.Frag) (pp__law_refused_right C_NotUsable : Addr) : Lw := ⟨K, "cells", "next", "left", "drawn", [(pp__law_refused_right, ("_law_refused_right" : Str) ++ ".<locals>." ++ "<lambda>")], fun nm a => (nm = "NotUsable" ∧ a = C_NotUsable)⟩
theorem lk_keys (K : PySem.W.Frag) (pp__law_refused_right C_NotUsable : Addr) : Keys ((Lk K pp__law_refused_right C_NotUsable)) := ⟨rfl, rfl, rfl, rfl⟩
theorem lk_nk (K : PySem.W.Frag) (pp__law_refused_right C_NotUsable : Addr) : ((Lk K pp__law_refused_right C_NotUsable)).Nk := by
  have h : ∀ x y : Str, decide (x = y) = false → x ≠ y := fun x y e => of_decide_eq_false e
  exact ⟨h "cells" "next" (by decide +kernel), h "cells" "left" (by decide +kernel), h "cells" "drawn" (by decide +kernel), h "next" "left" (by decide +kernel), h "next" "drawn" (by decide +kernel), h "left" "drawn" (by decide +kernel)⟩
set_option maxHeartbeats 0 in
theorem all_mk {l : PySem.W.OpenLaw} (hl : l.prog = PySem.Challenge.pw_keptends_k09_texts_written) {w : World} {K : PySem.W.Frag} {h : Heap} {mg : Str → Option Value} {fa : Addr} (X : K.In h) (G : h.Ns mainGlobals mg) (hfa : mg "law" = some (.ref fa)) (math : Math)
    {a0 : Addr} {od0 an0 : Option Addr} {sl0 : Array (Option Value)} {oc0 kV0 dc0 pm0 cd0 ct0 : Value}
    {a1 : Addr} {od1 an1 : Option Addr} {sl1 : Array (Option Value)} {oc1 kV1 dc1 pm1 cd1 ct1 : Value}
    {a2 : Addr} {od2 an2 : Option Addr} {sl2 : Array (Option Value)} {oc2 kV2 dc2 pm2 cd2 ct2 : Value}
    {a3 : Addr} {od3 an3 : Option Addr} {sl3 : Array (Option Value)} {oc3 kV3 dc3 pm3 cd3 ct3 : Value}
    {a4 : Addr} {od4 an4 : Option Addr} {sl4 : Array (Option Value)} {oc4 kV4 dc4 pm4 cd4 ct4 : Value}
    {a5 : Addr} {od5 an5 : Option Addr} {sl5 : Array (Option Value)} {oc5 kV5 dc5 pm5 cd5 ct5 : Value}
    {a6 : Addr} {od6 an6 : Option Addr} {sl6 : Array (Option Value)} {oc6 kV6 dc6 pm6 cd6 ct6 : Value}
    {a7 : Addr} {od7 an7 : Option Addr} {sl7 : Array (Option Value)} {oc7 kV7 dc7 pm7 cd7 ct7 : Value}
    {a8 : Addr} {od8 an8 : Option Addr} {sl8 : Array (Option Value)} {oc8 kV8 dc8 pm8 cd8 ct8 : Value}
    {a9 : Addr} {od9 an9 : Option Addr} {sl9 : Array (Option Value)} {oc9 kV9 dc9 pm9 cd9 ct9 : Value}
    {a10 : Addr} {od10 an10 : Option Addr} {sl10 : Array (Option Value)} {oc10 kV10 dc10 pm10 cd10 ct10 : Value}
    {a11 : Addr} {od11 an11 : Option Addr} {sl11 : Array (Option Value)} {oc11 kV11 dc11 pm11 cd11 ct11 : Value}
    {a12 : Addr} {od12 an12 : Option Addr} {sl12 : Array (Option Value)} {oc12 kV12 dc12 pm12 cd12 ct12 : Value}
    {a13 : Addr} {od13 an13 : Option Addr} {sl13 : Array (Option Value)} {oc13 kV13 dc13 pm13 cd13 ct13 : Value}
    {a14 : Addr} {od14 an14 : Option Addr} {sl14 : Array (Option Value)} {oc14 kV14 dc14 pm14 cd14 ct14 : Value}
    {a15 : Addr} {od15 an15 : Option Addr} {sl15 : Array (Option Value)} {oc15 kV15 dc15 pm15 cd15 ct15 : Value}
    {a16 : Addr} {od16 an16 : Option Addr} {sl16 : Array (Option Value)} {oc16 kV16 dc16 pm16 cd16 ct16 : Value}
    {a17 : Addr} {od17 an17 : Option Addr} {sl17 : Array (Option Value)} {oc17 kV17 dc17 pm17 cd17 ct17 : Value}
    {a18 : Addr} {od18 an18 : Option Addr} {sl18 : Array (Option Value)} {oc18 kV18 dc18 pm18 cd18 ct18 : Value}
    {a19 : Addr} {od19 an19 : Option Addr} {sl19 : Array (Option Value)} {oc19 kV19 dc19 pm19 cd19 ct19 : Value}
    {a20 : Addr} {od20 an20 : Option Addr} {sl20 : Array (Option Value)} {oc20 kV20 dc20 pm20 cd20 ct20 : Value}
    {a21 : Addr} {od21 an21 : Option Addr} {sl21 : Array (Option Value)} {oc21 kV21 dc21 pm21 cd21 ct21 : Value}
    {a22 : Addr} {od22 an22 : Option Addr} {sl22 : Array (Option Value)} {oc22 kV22 dc22 pm22 cd22 ct22 : Value}
    {a23 : Addr} {od23 an23 : Option Addr} {sl23 : Array (Option Value)} {oc23 kV23 dc23 pm23 cd23 ct23 : Value}
    {a24 : Addr} {od24 an24 : Option Addr} {sl24 : Array (Option Value)} {oc24 kV24 dc24 pm24 cd24 ct24 : Value}
    {a25 : Addr} {od25 an25 : Option Addr} {sl25 : Array (Option Value)} {oc25 kV25 dc25 pm25 cd25 ct25 : Value}
    {a26 : Addr} {od26 an26 : Option Addr} {sl26 : Array (Option Value)} {oc26 kV26 dc26 pm26 cd26 ct26 : Value}
    {a27 : Addr} {od27 an27 : Option Addr} {sl27 : Array (Option Value)} {oc27 kV27 dc27 pm27 cd27 ct27 : Value}
    {a28 : Addr} {od28 an28 : Option Addr} {sl28 : Array (Option Value)} {oc28 kV28 dc28 pm28 cd28 ct28 : Value}
    {a29 : Addr} {od29 an29 : Option Addr} {sl29 : Array (Option Value)} {oc29 kV29 dc29 pm29 cd29 ct29 : Value}
    {a30 : Addr} {od30 an30 : Option Addr} {sl30 : Array (Option Value)} {oc30 kV30 dc30 pm30 cd30 ct30 : Value}
    {a31 : Addr} {od31 an31 : Option Addr} {sl31 : Array (Option Value)} {oc31 kV31 dc31 pm31 cd31 ct31 : Value}
    {a32 : Addr} {od32 an32 : Option Addr} {sl32 : Array (Option Value)} {oc32 kV32 dc32 pm32 cd32 ct32 : Value}
    {a33 : Addr} {od33 an33 : Option Addr} {sl33 : Array (Option Value)} {oc33 kV33 dc33 pm33 cd33 ct33 : Value}
    {a34 : Addr} {od34 an34 : Option Addr} {sl34 : Array (Option Value)} {oc34 kV34 dc34 pm34 cd34 ct34 : Value}
    {a35 : Addr} {od35 an35 : Option Addr} {sl35 : Array (Option Value)} {oc35 kV35 dc35 pm35 cd35 ct35 : Value}
    {a36 : Addr} {od36 an36 : Option Addr} {sl36 : Array (Option Value)} {oc36 kV36 dc36 pm36 cd36 ct36 : Value}
    {a37 : Addr} {od37 an37 : Option Addr} {sl37 : Array (Option Value)} {oc37 kV37 dc37 pm37 cd37 ct37 : Value}
    {a38 : Addr} {od38 an38 : Option Addr} {sl38 : Array (Option Value)} {oc38 kV38 dc38 pm38 cd38 ct38 : Value}
    {a39 : Addr} {od39 an39 : Option Addr} {sl39 : Array (Option Value)} {oc39 kV39 dc39 pm39 cd39 ct39 : Value}
    {a40 : Addr} {od40 an40 : Option Addr} {sl40 : Array (Option Value)} {oc40 kV40 dc40 pm40 cd40 ct40 : Value}
    {a41 : Addr} {od41 an41 : Option Addr} {sl41 : Array (Option Value)} {oc41 kV41 dc41 pm41 cd41 ct41 : Value}
    {a42 : Addr} {od42 an42 : Option Addr} {sl42 : Array (Option Value)} {oc42 kV42 dc42 pm42 cd42 ct42 : Value}
    {a43 : Addr} {od43 an43 : Option Addr} {sl43 : Array (Option Value)} {oc43 kV43 dc43 pm43 cd43 ct43 : Value}
    {a44 : Addr} {od44 an44 : Option Addr} {sl44 : Array (Option Value)} {oc44 kV44 dc44 pm44 ct44 : Value} {cc__law_refused_right pp__law_refused_right : Addr} {ccl__law_refused_right : Value} {cdd__law_refused_right : Option Addr} {ccs__law_refused_right : Array (Option Value)} {vs__law_refused_right : Array Value}
    {a45 : Addr} {od45 an45 : Option Addr} {sl45 : Array (Option Value)} {oc45 kV45 dc45 pm45 cd45 ct45 : Value}
    {a46 : Addr} {od46 an46 : Option Addr} {sl46 : Array (Option Value)} {oc46 kV46 dc46 pm46 cd46 ct46 : Value}
    {p_ENDS : Addr} {o_ENDS : Option Addr} {i_ENDS : Nat} {s_ENDS : Array (Option Value)} {t_ENDS0 : Tok} {t_ENDS1 : Tok}
    {p_HOLDS : Addr} {o_HOLDS : Option Addr} {i_HOLDS : Nat} {s_HOLDS : Array (Option Value)} {t_HOLDS0 : Tok} {t_HOLDS1 : Tok} {t_HOLDS2 : Tok}
    {p_BIRTHS : Addr} {o_BIRTHS : Option Addr} {i_BIRTHS : Nat} {s_BIRTHS : Array (Option Value)} {t_BIRTHS0 : Tok} {t_BIRTHS1 : Tok}
    {p_SHUTS : Addr} {o_SHUTS : Option Addr} {i_SHUTS : Nat} {s_SHUTS : Array (Option Value)} {t_SHUTS0 : Tok} {t_SHUTS1 : Tok}
    {p_GOINGS : Addr} {o_GOINGS : Option Addr} {i_GOINGS : Nat} {s_GOINGS : Array (Option Value)} {t_GOINGS0 : Tok} {t_GOINGS1 : Tok} {t_GOINGS2 : Tok}
    {p_WORDS : Addr} {o_WORDS : Option Addr} {i_WORDS : Nat} {s_WORDS : Array (Option Value)} {t_WORDS0 : Tok} {t_WORDS1 : Tok} {t_WORDS2 : Tok} {t_WORDS3 : Tok} {t_WORDS4 : Tok} {t_WORDS5 : Tok} {t_WORDS6 : Tok} {t_WORDS7 : Tok} {t_WORDS8 : Tok} {t_WORDS9 : Tok}
    {t_LETTERS : Tok}
    {t_MOST_LETTERS : Tok}
    {C_HouseError : Addr}
    {C_InvalidPaper : Addr}
    {C_InvalidRow : Addr}
    {C_InvalidStep : Addr}
    {C_InvalidText : Addr}
    {C_NotUsable : Addr}
    {C_PaperError : Addr}
    {C_PipeError : Addr}
    {C_ProgramError : Addr}
    {C_TextError : Addr}
    {I_NotUsable cda_NotUsable ccn_NotUsable N_NotUsable : Addr} {nm_NotUsable qq_NotUsable file_NotUsable : Str} {bs_NotUsable bm_NotUsable sub_NotUsable : List Value} {sn_NotUsable : List Str} {ab_NotUsable : Bool} {col_NotUsable : Option Bool} {dd_NotUsable od_NotUsable an_NotUsable cdd_NotUsable cld_NotUsable : Option Addr} {k0_NotUsable k1_NotUsable k2_NotUsable k3_NotUsable k5_NotUsable : Option Value} {oc_NotUsable kV_NotUsable doc_NotUsable pm_NotUsable ct_NotUsable ccl_NotUsable cl_NotUsable : Value} {osl_NotUsable ccs_NotUsable csl_NotUsable : Array (Option Value)} {vs_NotUsable : Array Value} {tf_NotUsable : Tok}
    (x0 : PySem.W.nsIn K mainGlobals "is_integer" = some (some (.ref a0))) (l0 : K.lookup a0 = some ⟨oc0, od0, .func (PySem.W.fnOf "is_integer" "is_integer" (defArgs s_is_integer) (defBody s_is_integer) (defScope s_is_integer) .none kV0 dc0 pm0 an0 cd0 ct0), sl0⟩) (c0 : PySem.W.codeIn K cd0 "is_integer" = true) (k0 : PySem.W.keepIn K (.ref a0) = true)
    (x1 : PySem.W.nsIn K mainGlobals "is_number" = some (some (.ref a1))) (l1 : K.lookup a1 = some ⟨oc1, od1, .func (PySem.W.fnOf "is_number" "is_number" (defArgs s_is_number) (defBody s_is_number) (defScope s_is_number) .none kV1 dc1 pm1 an1 cd1 ct1), sl1⟩) (c1 : PySem.W.codeIn K cd1 "is_number" = true) (k1 : PySem.W.keepIn K (.ref a1) = true)
    (x2 : PySem.W.nsIn K mainGlobals "is_among" = some (some (.ref a2))) (l2 : K.lookup a2 = some ⟨oc2, od2, .func (PySem.W.fnOf "is_among" "is_among" (defArgs s_is_among) (defBody s_is_among) (defScope s_is_among) .none kV2 dc2 pm2 an2 cd2 ct2), sl2⟩) (c2 : PySem.W.codeIn K cd2 "is_among" = true) (k2 : PySem.W.keepIn K (.ref a2) = true)
    (x3 : PySem.W.nsIn K mainGlobals "is_name" = some (some (.ref a3))) (l3 : K.lookup a3 = some ⟨oc3, od3, .func (PySem.W.fnOf "is_name" "is_name" (defArgs s_is_name) (defBody s_is_name) (defScope s_is_name) .none kV3 dc3 pm3 an3 cd3 ct3), sl3⟩) (c3 : PySem.W.codeIn K cd3 "is_name" = true) (k3 : PySem.W.keepIn K (.ref a3) = true)
    (x4 : PySem.W.nsIn K mainGlobals "is_twofold" = some (some (.ref a4))) (l4 : K.lookup a4 = some ⟨oc4, od4, .func (PySem.W.fnOf "is_twofold" "is_twofold" (defArgs s_is_twofold) (defBody s_is_twofold) (defScope s_is_twofold) .none kV4 dc4 pm4 an4 cd4 ct4), sl4⟩) (c4 : PySem.W.codeIn K cd4 "is_twofold" = true) (k4 : PySem.W.keepIn K (.ref a4) = true)
    (x5 : PySem.W.nsIn K mainGlobals "is_rising" = some (some (.ref a5))) (l5 : K.lookup a5 = some ⟨oc5, od5, .func (PySem.W.fnOf "is_rising" "is_rising" (defArgs s_is_rising) (defBody s_is_rising) (defScope s_is_rising) .none kV5 dc5 pm5 an5 cd5 ct5), sl5⟩) (c5 : PySem.W.codeIn K cd5 "is_rising" = true) (k5 : PySem.W.keepIn K (.ref a5) = true)
    (x6 : PySem.W.nsIn K mainGlobals "is_targets" = some (some (.ref a6))) (l6 : K.lookup a6 = some ⟨oc6, od6, .func (PySem.W.fnOf "is_targets" "is_targets" (defArgs s_is_targets) (defBody s_is_targets) (defScope s_is_targets) .none kV6 dc6 pm6 an6 cd6 ct6), sl6⟩) (c6 : PySem.W.codeIn K cd6 "is_targets" = true) (k6 : PySem.W.keepIn K (.ref a6) = true)
    (x7 : PySem.W.nsIn K mainGlobals "is_pair" = some (some (.ref a7))) (l7 : K.lookup a7 = some ⟨oc7, od7, .func (PySem.W.fnOf "is_pair" "is_pair" (defArgs s_is_pair) (defBody s_is_pair) (defScope s_is_pair) .none kV7 dc7 pm7 an7 cd7 ct7), sl7⟩) (c7 : PySem.W.codeIn K cd7 "is_pair" = true) (k7 : PySem.W.keepIn K (.ref a7) = true)
    (x8 : PySem.W.nsIn K mainGlobals "is_begin" = some (some (.ref a8))) (l8 : K.lookup a8 = some ⟨oc8, od8, .func (PySem.W.fnOf "is_begin" "is_begin" (defArgs s_is_begin) (defBody s_is_begin) (defScope s_is_begin) .none kV8 dc8 pm8 an8 cd8 ct8), sl8⟩) (c8 : PySem.W.codeIn K cd8 "is_begin" = true) (k8 : PySem.W.keepIn K (.ref a8) = true)
    (x9 : PySem.W.nsIn K mainGlobals "is_birth" = some (some (.ref a9))) (l9 : K.lookup a9 = some ⟨oc9, od9, .func (PySem.W.fnOf "is_birth" "is_birth" (defArgs s_is_birth) (defBody s_is_birth) (defScope s_is_birth) .none kV9 dc9 pm9 an9 cd9 ct9), sl9⟩) (c9 : PySem.W.codeIn K cd9 "is_birth" = true) (k9 : PySem.W.keepIn K (.ref a9) = true)
    (x10 : PySem.W.nsIn K mainGlobals "is_asides" = some (some (.ref a10))) (l10 : K.lookup a10 = some ⟨oc10, od10, .func (PySem.W.fnOf "is_asides" "is_asides" (defArgs s_is_asides) (defBody s_is_asides) (defScope s_is_asides) .none kV10 dc10 pm10 an10 cd10 ct10), sl10⟩) (c10 : PySem.W.codeIn K cd10 "is_asides" = true) (k10 : PySem.W.keepIn K (.ref a10) = true)
    (x11 : PySem.W.nsIn K mainGlobals "is_instruction" = some (some (.ref a11))) (l11 : K.lookup a11 = some ⟨oc11, od11, .func (PySem.W.fnOf "is_instruction" "is_instruction" (defArgs s_is_instruction) (defBody s_is_instruction) (defScope s_is_instruction) .none kV11 dc11 pm11 an11 cd11 ct11), sl11⟩) (c11 : PySem.W.codeIn K cd11 "is_instruction" = true) (k11 : PySem.W.keepIn K (.ref a11) = true)
    (x12 : PySem.W.nsIn K mainGlobals "is_role" = some (some (.ref a12))) (l12 : K.lookup a12 = some ⟨oc12, od12, .func (PySem.W.fnOf "is_role" "is_role" (defArgs s_is_role) (defBody s_is_role) (defScope s_is_role) .none kV12 dc12 pm12 an12 cd12 ct12), sl12⟩) (c12 : PySem.W.codeIn K cd12 "is_role" = true) (k12 : PySem.W.keepIn K (.ref a12) = true)
    (x13 : PySem.W.nsIn K mainGlobals "want" = some (some (.ref a13))) (l13 : K.lookup a13 = some ⟨oc13, od13, .func (PySem.W.fnOf "want" "want" (defArgs s_want) (defBody s_want) (defScope s_want) .none kV13 dc13 pm13 an13 cd13 ct13), sl13⟩) (c13 : PySem.W.codeIn K cd13 "want" = true) (k13 : PySem.W.keepIn K (.ref a13) = true)
    (x14 : PySem.W.nsIn K mainGlobals "words_of" = some (some (.ref a14))) (l14 : K.lookup a14 = some ⟨oc14, od14, .func (PySem.W.fnOf "words_of" "words_of" (defArgs s_words_of) (defBody s_words_of) (defScope s_words_of) .none kV14 dc14 pm14 an14 cd14 ct14), sl14⟩) (c14 : PySem.W.codeIn K cd14 "words_of" = true) (k14 : PySem.W.keepIn K (.ref a14) = true)
    (x15 : PySem.W.nsIn K mainGlobals "is_written" = some (some (.ref a15))) (l15 : K.lookup a15 = some ⟨oc15, od15, .func (PySem.W.fnOf "is_written" "is_written" (defArgs s_is_written) (defBody s_is_written) (defScope s_is_written) .none kV15 dc15 pm15 an15 cd15 ct15), sl15⟩) (c15 : PySem.W.codeIn K cd15 "is_written" = true) (k15 : PySem.W.keepIn K (.ref a15) = true)
    (x16 : PySem.W.nsIn K mainGlobals "instruction_text" = some (some (.ref a16))) (l16 : K.lookup a16 = some ⟨oc16, od16, .func (PySem.W.fnOf "instruction_text" "instruction_text" (defArgs s_instruction_text) (defBody s_instruction_text) (defScope s_instruction_text) .none kV16 dc16 pm16 an16 cd16 ct16), sl16⟩) (c16 : PySem.W.codeIn K cd16 "instruction_text" = true) (k16 : PySem.W.keepIn K (.ref a16) = true)
    (x17 : PySem.W.nsIn K mainGlobals "program_text" = some (some (.ref a17))) (l17 : K.lookup a17 = some ⟨oc17, od17, .func (PySem.W.fnOf "program_text" "program_text" (defArgs s_program_text) (defBody s_program_text) (defScope s_program_text) .none kV17 dc17 pm17 an17 cd17 ct17), sl17⟩) (c17 : PySem.W.codeIn K cd17 "program_text" = true) (k17 : PySem.W.keepIn K (.ref a17) = true)
    (x18 : PySem.W.nsIn K mainGlobals "_law_draw" = some (some (.ref a18))) (l18 : K.lookup a18 = some ⟨oc18, od18, .func (PySem.W.fnOf "_law_draw" "_law_draw" (defArgs s__law_draw) (defBody s__law_draw) (defScope s__law_draw) .none kV18 dc18 pm18 an18 cd18 ct18), sl18⟩) (c18 : PySem.W.codeIn K cd18 "_law_draw" = true) (k18 : PySem.W.keepIn K (.ref a18) = true)
    (x19 : PySem.W.nsIn K mainGlobals "_law_pick" = some (some (.ref a19))) (l19 : K.lookup a19 = some ⟨oc19, od19, .func (PySem.W.fnOf "_law_pick" "_law_pick" (defArgs s__law_pick) (defBody s__law_pick) (defScope s__law_pick) .none kV19 dc19 pm19 an19 cd19 ct19), sl19⟩) (c19 : PySem.W.codeIn K cd19 "_law_pick" = true) (k19 : PySem.W.keepIn K (.ref a19) = true)
    (x20 : PySem.W.nsIn K mainGlobals "_law_name" = some (some (.ref a20))) (l20 : K.lookup a20 = some ⟨oc20, od20, .func (PySem.W.fnOf "_law_name" "_law_name" (defArgs s__law_name) (defBody s__law_name) (defScope s__law_name) .none kV20 dc20 pm20 an20 cd20 ct20), sl20⟩) (c20 : PySem.W.codeIn K cd20 "_law_name" = true) (k20 : PySem.W.keepIn K (.ref a20) = true)
    (x21 : PySem.W.nsIn K mainGlobals "_law_fresh" = some (some (.ref a21))) (l21 : K.lookup a21 = some ⟨oc21, od21, .func (PySem.W.fnOf "_law_fresh" "_law_fresh" (defArgs s__law_fresh) (defBody s__law_fresh) (defScope s__law_fresh) .none kV21 dc21 pm21 an21 cd21 ct21), sl21⟩) (c21 : PySem.W.codeIn K cd21 "_law_fresh" = true) (k21 : PySem.W.keepIn K (.ref a21) = true)
    (x22 : PySem.W.nsIn K mainGlobals "_law_names" = some (some (.ref a22))) (l22 : K.lookup a22 = some ⟨oc22, od22, .func (PySem.W.fnOf "_law_names" "_law_names" (defArgs s__law_names) (defBody s__law_names) (defScope s__law_names) .none kV22 dc22 pm22 an22 cd22 ct22), sl22⟩) (c22 : PySem.W.codeIn K cd22 "_law_names" = true) (k22 : PySem.W.keepIn K (.ref a22) = true)
    (x23 : PySem.W.nsIn K mainGlobals "_law_set" = some (some (.ref a23))) (l23 : K.lookup a23 = some ⟨oc23, od23, .func (PySem.W.fnOf "_law_set" "_law_set" (defArgs s__law_set) (defBody s__law_set) (defScope s__law_set) .none kV23 dc23 pm23 an23 cd23 ct23), sl23⟩) (c23 : PySem.W.codeIn K cd23 "_law_set" = true) (k23 : PySem.W.keepIn K (.ref a23) = true)
    (x24 : PySem.W.nsIn K mainGlobals "_law_instruction" = some (some (.ref a24))) (l24 : K.lookup a24 = some ⟨oc24, od24, .func (PySem.W.fnOf "_law_instruction" "_law_instruction" (defArgs s__law_instruction) (defBody s__law_instruction) (defScope s__law_instruction) .none kV24 dc24 pm24 an24 cd24 ct24), sl24⟩) (c24 : PySem.W.codeIn K cd24 "_law_instruction" = true) (k24 : PySem.W.keepIn K (.ref a24) = true)
    (x25 : PySem.W.nsIn K mainGlobals "_law_asides" = some (some (.ref a25))) (l25 : K.lookup a25 = some ⟨oc25, od25, .func (PySem.W.fnOf "_law_asides" "_law_asides" (defArgs s__law_asides) (defBody s__law_asides) (defScope s__law_asides) .none kV25 dc25 pm25 an25 cd25 ct25), sl25⟩) (c25 : PySem.W.codeIn K cd25 "_law_asides" = true) (k25 : PySem.W.keepIn K (.ref a25) = true)
    (x26 : PySem.W.nsIn K mainGlobals "_law_role" = some (some (.ref a26))) (l26 : K.lookup a26 = some ⟨oc26, od26, .func (PySem.W.fnOf "_law_role" "_law_role" (defArgs s__law_role) (defBody s__law_role) (defScope s__law_role) .none kV26 dc26 pm26 an26 cd26 ct26), sl26⟩) (c26 : PySem.W.codeIn K cd26 "_law_role" = true) (k26 : PySem.W.keepIn K (.ref a26) = true)
    (x27 : PySem.W.nsIn K mainGlobals "_law_begin" = some (some (.ref a27))) (l27 : K.lookup a27 = some ⟨oc27, od27, .func (PySem.W.fnOf "_law_begin" "_law_begin" (defArgs s__law_begin) (defBody s__law_begin) (defScope s__law_begin) .none kV27 dc27 pm27 an27 cd27 ct27), sl27⟩) (c27 : PySem.W.codeIn K cd27 "_law_begin" = true) (k27 : PySem.W.keepIn K (.ref a27) = true)
    (x28 : PySem.W.nsIn K mainGlobals "_law_program" = some (some (.ref a28))) (l28 : K.lookup a28 = some ⟨oc28, od28, .func (PySem.W.fnOf "_law_program" "_law_program" (defArgs s__law_program) (defBody s__law_program) (defScope s__law_program) .none kV28 dc28 pm28 an28 cd28 ct28), sl28⟩) (c28 : PySem.W.codeIn K cd28 "_law_program" = true) (k28 : PySem.W.keepIn K (.ref a28) = true)
    (x29 : PySem.W.nsIn K mainGlobals "_law_no" = some (some (.ref a29))) (l29 : K.lookup a29 = some ⟨oc29, od29, .func (PySem.W.fnOf "_law_no" "_law_no" (defArgs s__law_no) (defBody s__law_no) (defScope s__law_no) .none kV29 dc29 pm29 an29 cd29 ct29), sl29⟩) (c29 : PySem.W.codeIn K cd29 "_law_no" = true) (k29 : PySem.W.keepIn K (.ref a29) = true)
    (x30 : PySem.W.nsIn K mainGlobals "_law_same" = some (some (.ref a30))) (l30 : K.lookup a30 = some ⟨oc30, od30, .func (PySem.W.fnOf "_law_same" "_law_same" (defArgs s__law_same) (defBody s__law_same) (defScope s__law_same) .none kV30 dc30 pm30 an30 cd30 ct30), sl30⟩) (c30 : PySem.W.codeIn K cd30 "_law_same" = true) (k30 : PySem.W.keepIn K (.ref a30) = true)
    (x31 : PySem.W.nsIn K mainGlobals "_law_error" = some (some (.ref a31))) (l31 : K.lookup a31 = some ⟨oc31, od31, .func (PySem.W.fnOf "_law_error" "_law_error" (defArgs s__law_error) (defBody s__law_error) (defScope s__law_error) .none kV31 dc31 pm31 an31 cd31 ct31), sl31⟩) (c31 : PySem.W.codeIn K cd31 "_law_error" = true) (k31 : PySem.W.keepIn K (.ref a31) = true)
    (x32 : PySem.W.nsIn K mainGlobals "_law_heard" = some (some (.ref a32))) (l32 : K.lookup a32 = some ⟨oc32, od32, .func (PySem.W.fnOf "_law_heard" "_law_heard" (defArgs s__law_heard) (defBody s__law_heard) (defScope s__law_heard) .none kV32 dc32 pm32 an32 cd32 ct32), sl32⟩) (c32 : PySem.W.codeIn K cd32 "_law_heard" = true) (k32 : PySem.W.keepIn K (.ref a32) = true)
    (x33 : PySem.W.nsIn K mainGlobals "_law_odd_instruction" = some (some (.ref a33))) (l33 : K.lookup a33 = some ⟨oc33, od33, .func (PySem.W.fnOf "_law_odd_instruction" "_law_odd_instruction" (defArgs s__law_odd_instruction) (defBody s__law_odd_instruction) (defScope s__law_odd_instruction) .none kV33 dc33 pm33 an33 cd33 ct33), sl33⟩) (c33 : PySem.W.codeIn K cd33 "_law_odd_instruction" = true) (k33 : PySem.W.keepIn K (.ref a33) = true)
    (x34 : PySem.W.nsIn K mainGlobals "_law_odd_asides" = some (some (.ref a34))) (l34 : K.lookup a34 = some ⟨oc34, od34, .func (PySem.W.fnOf "_law_odd_asides" "_law_odd_asides" (defArgs s__law_odd_asides) (defBody s__law_odd_asides) (defScope s__law_odd_asides) .none kV34 dc34 pm34 an34 cd34 ct34), sl34⟩) (c34 : PySem.W.codeIn K cd34 "_law_odd_asides" = true) (k34 : PySem.W.keepIn K (.ref a34) = true)
    (x35 : PySem.W.nsIn K mainGlobals "_law_odd_begin" = some (some (.ref a35))) (l35 : K.lookup a35 = some ⟨oc35, od35, .func (PySem.W.fnOf "_law_odd_begin" "_law_odd_begin" (defArgs s__law_odd_begin) (defBody s__law_odd_begin) (defScope s__law_odd_begin) .none kV35 dc35 pm35 an35 cd35 ct35), sl35⟩) (c35 : PySem.W.codeIn K cd35 "_law_odd_begin" = true) (k35 : PySem.W.keepIn K (.ref a35) = true)
    (x36 : PySem.W.nsIn K mainGlobals "_law_line" = some (some (.ref a36))) (l36 : K.lookup a36 = some ⟨oc36, od36, .func (PySem.W.fnOf "_law_line" "_law_line" (defArgs s__law_line) (defBody s__law_line) (defScope s__law_line) .none kV36 dc36 pm36 an36 cd36 ct36), sl36⟩) (c36 : PySem.W.codeIn K cd36 "_law_line" = true) (k36 : PySem.W.keepIn K (.ref a36) = true)
    (x37 : PySem.W.nsIn K mainGlobals "_law_text" = some (some (.ref a37))) (l37 : K.lookup a37 = some ⟨oc37, od37, .func (PySem.W.fnOf "_law_text" "_law_text" (defArgs s__law_text) (defBody s__law_text) (defScope s__law_text) .none kV37 dc37 pm37 an37 cd37 ct37), sl37⟩) (c37 : PySem.W.codeIn K cd37 "_law_text" = true) (k37 : PySem.W.keepIn K (.ref a37) = true)
    (x38 : PySem.W.nsIn K mainGlobals "_law_great" = some (some (.ref a38))) (l38 : K.lookup a38 = some ⟨oc38, od38, .func (PySem.W.fnOf "_law_great" "_law_great" (defArgs s__law_great) (defBody s__law_great) (defScope s__law_great) .none kV38 dc38 pm38 an38 cd38 ct38), sl38⟩) (c38 : PySem.W.codeIn K cd38 "_law_great" = true) (k38 : PySem.W.keepIn K (.ref a38) = true)
    (x39 : PySem.W.nsIn K mainGlobals "_law_any_set" = some (some (.ref a39))) (l39 : K.lookup a39 = some ⟨oc39, od39, .func (PySem.W.fnOf "_law_any_set" "_law_any_set" (defArgs s__law_any_set) (defBody s__law_any_set) (defScope s__law_any_set) .none kV39 dc39 pm39 an39 cd39 ct39), sl39⟩) (c39 : PySem.W.codeIn K cd39 "_law_any_set" = true) (k39 : PySem.W.keepIn K (.ref a39) = true)
    (x40 : PySem.W.nsIn K mainGlobals "_law_any_instruction" = some (some (.ref a40))) (l40 : K.lookup a40 = some ⟨oc40, od40, .func (PySem.W.fnOf "_law_any_instruction" "_law_any_instruction" (defArgs s__law_any_instruction) (defBody s__law_any_instruction) (defScope s__law_any_instruction) .none kV40 dc40 pm40 an40 cd40 ct40), sl40⟩) (c40 : PySem.W.codeIn K cd40 "_law_any_instruction" = true) (k40 : PySem.W.keepIn K (.ref a40) = true)
    (x41 : PySem.W.nsIn K mainGlobals "_law_any_program" = some (some (.ref a41))) (l41 : K.lookup a41 = some ⟨oc41, od41, .func (PySem.W.fnOf "_law_any_program" "_law_any_program" (defArgs s__law_any_program) (defBody s__law_any_program) (defScope s__law_any_program) .none kV41 dc41 pm41 an41 cd41 ct41), sl41⟩) (c41 : PySem.W.codeIn K cd41 "_law_any_program" = true) (k41 : PySem.W.keepIn K (.ref a41) = true)
    (x42 : PySem.W.nsIn K mainGlobals "_law_instruction_right" = some (some (.ref a42))) (l42 : K.lookup a42 = some ⟨oc42, od42, .func (PySem.W.fnOf "_law_instruction_right" "_law_instruction_right" (defArgs s__law_instruction_right) (defBody s__law_instruction_right) (defScope s__law_instruction_right) .none kV42 dc42 pm42 an42 cd42 ct42), sl42⟩) (c42 : PySem.W.codeIn K cd42 "_law_instruction_right" = true) (k42 : PySem.W.keepIn K (.ref a42) = true)
    (x43 : PySem.W.nsIn K mainGlobals "_law_program_right" = some (some (.ref a43))) (l43 : K.lookup a43 = some ⟨oc43, od43, .func (PySem.W.fnOf "_law_program_right" "_law_program_right" (defArgs s__law_program_right) (defBody s__law_program_right) (defScope s__law_program_right) .none kV43 dc43 pm43 an43 cd43 ct43), sl43⟩) (c43 : PySem.W.codeIn K cd43 "_law_program_right" = true) (k43 : PySem.W.keepIn K (.ref a43) = true)
    (x44 : PySem.W.nsIn K mainGlobals "_law_refused_right" = some (some (.ref a44))) (l44 : K.lookup a44 = some ⟨oc44, od44, .func (PySem.W.fnOf "_law_refused_right" "_law_refused_right" (defArgs s__law_refused_right) (defBody s__law_refused_right) (defScope s__law_refused_right) .none kV44 dc44 pm44 an44 (.ref cc__law_refused_right) ct44), sl44⟩) (c44 : PySem.W.codeIn K (.ref cc__law_refused_right) "_law_refused_right" = true) (k44 : PySem.W.keepIn K (.ref a44) = true)
    (tb__law_refused_right : K.lookup cc__law_refused_right = some ⟨ccl__law_refused_right, cdd__law_refused_right, .fields vs__law_refused_right, ccs__law_refused_right⟩) (tp__law_refused_right : vs__law_refused_right[11]? = some (.ref pp__law_refused_right))
    (x45 : PySem.W.nsIn K mainGlobals "_law_feed" = some (some (.ref a45))) (l45 : K.lookup a45 = some ⟨oc45, od45, .func (PySem.W.fnOf "_law_feed" "_law_feed" (defArgs s__law_feed) (defBody s__law_feed) (defScope s__law_feed) .none kV45 dc45 pm45 an45 cd45 ct45), sl45⟩) (c45 : PySem.W.codeIn K cd45 "_law_feed" = true) (k45 : PySem.W.keepIn K (.ref a45) = true)
    (x46 : PySem.W.nsIn K mainGlobals "law" = some (some (.ref a46))) (l46 : K.lookup a46 = some ⟨oc46, od46, .func (PySem.W.fnOf "law" "law" (defArgs s_law) (defBody s_law) (defScope s_law) .none kV46 dc46 pm46 an46 cd46 ct46), sl46⟩) (c46 : PySem.W.codeIn K cd46 "law" = true) (k46 : PySem.W.keepIn K (.ref a46) = true)
    (z_ValueError : PySem.W.nsIn K mainGlobals "ValueError" = some none)
    (z_all : PySem.W.nsIn K mainGlobals "all" = some none)
    (z_bool : PySem.W.nsIn K mainGlobals "bool" = some none)
    (z_int : PySem.W.nsIn K mainGlobals "int" = some none)
    (z_isinstance : PySem.W.nsIn K mainGlobals "isinstance" = some none)
    (z_len : PySem.W.nsIn K mainGlobals "len" = some none)
    (z_list : PySem.W.nsIn K mainGlobals "list" = some none)
    (z_range : PySem.W.nsIn K mainGlobals "range" = some none)
    (z_repr : PySem.W.nsIn K mainGlobals "repr" = some none)
    (z_set : PySem.W.nsIn K mainGlobals "set" = some none)
    (z_sorted : PySem.W.nsIn K mainGlobals "sorted" = some none)
    (z_str : PySem.W.nsIn K mainGlobals "str" = some none)
    (z_tuple : PySem.W.nsIn K mainGlobals "tuple" = some none)
    (z_zip : PySem.W.nsIn K mainGlobals "zip" = some none)
    (y_ENDS : PySem.W.nsIn K mainGlobals "ENDS" = some (some (.ref p_ENDS))) (w_ENDS : K.lookup p_ENDS = some ⟨.type "tuple", o_ENDS, .seq #[.str "r" t_ENDS0, .str "w" t_ENDS1] i_ENDS, s_ENDS⟩)
    (y_HOLDS : PySem.W.nsIn K mainGlobals "HOLDS" = some (some (.ref p_HOLDS))) (w_HOLDS : K.lookup p_HOLDS = some ⟨.type "tuple", o_HOLDS, .seq #[.str "none" t_HOLDS0, .str "open" t_HOLDS1, .str "marked" t_HOLDS2] i_HOLDS, s_HOLDS⟩)
    (y_BIRTHS : PySem.W.nsIn K mainGlobals "BIRTHS" = some (some (.ref p_BIRTHS))) (w_BIRTHS : K.lookup p_BIRTHS = some ⟨.type "tuple", o_BIRTHS, .seq #[.str "copy" t_BIRTHS0, .str "start" t_BIRTHS1] i_BIRTHS, s_BIRTHS⟩)
    (y_SHUTS : PySem.W.nsIn K mainGlobals "SHUTS" = some (some (.ref p_SHUTS))) (w_SHUTS : K.lookup p_SHUTS = some ⟨.type "tuple", o_SHUTS, .seq #[.str "mark" t_SHUTS0, .str "close" t_SHUTS1] i_SHUTS, s_SHUTS⟩)
    (y_GOINGS : PySem.W.nsIn K mainGlobals "GOINGS" = some (some (.ref p_GOINGS))) (w_GOINGS : K.lookup p_GOINGS = some ⟨.type "tuple", o_GOINGS, .seq #[.str "read" t_GOINGS0, .str "write" t_GOINGS1, .str "wait" t_GOINGS2] i_GOINGS, s_GOINGS⟩)
    (y_WORDS : PySem.W.nsIn K mainGlobals "WORDS" = some (some (.ref p_WORDS))) (w_WORDS : K.lookup p_WORDS = some ⟨.type "tuple", o_WORDS, .seq #[.str "go" t_WORDS0, .str "copy" t_WORDS1, .str "start" t_WORDS2, .str "mark" t_WORDS3, .str "close" t_WORDS4, .str "read" t_WORDS5, .str "write" t_WORDS6, .str "wait" t_WORDS7, .str "stay" t_WORDS8, .str "end" t_WORDS9] i_WORDS, s_WORDS⟩)
    (y_LETTERS : PySem.W.nsIn K mainGlobals "LETTERS" = some (some (.str "abcdefghijklmnopqrstuvwxyz" t_LETTERS)))
    (y_MOST_LETTERS : PySem.W.nsIn K mainGlobals "MOST_LETTERS" = some (some (.int 8 t_MOST_LETTERS)))
    (mC_HouseError : PySem.W.nsIn K mainGlobals "HouseError" = some (some (.ref C_HouseError)))
    (mC_InvalidPaper : PySem.W.nsIn K mainGlobals "InvalidPaper" = some (some (.ref C_InvalidPaper)))
    (mC_InvalidRow : PySem.W.nsIn K mainGlobals "InvalidRow" = some (some (.ref C_InvalidRow)))
    (mC_InvalidStep : PySem.W.nsIn K mainGlobals "InvalidStep" = some (some (.ref C_InvalidStep)))
    (mC_InvalidText : PySem.W.nsIn K mainGlobals "InvalidText" = some (some (.ref C_InvalidText)))
    (mC_NotUsable : PySem.W.nsIn K mainGlobals "NotUsable" = some (some (.ref C_NotUsable)))
    (mC_PaperError : PySem.W.nsIn K mainGlobals "PaperError" = some (some (.ref C_PaperError)))
    (mC_PipeError : PySem.W.nsIn K mainGlobals "PipeError" = some (some (.ref C_PipeError)))
    (mC_ProgramError : PySem.W.nsIn K mainGlobals "ProgramError" = some (some (.ref C_ProgramError)))
    (mC_TextError : PySem.W.nsIn K mainGlobals "TextError" = some (some (.ref C_TextError)))
    (nsup : PySem.W.nsIn K mainGlobals "super" = some none)
    (third : PySem.W.nsIn K PySem.cStatics "thirdparty.any" = some none)
    (spcl : PySem.W.specialIn K (.builtin "object.__class__") "__get__" = some (some (.builtin "getset_descriptor.__get__")))
    (takg : PySem.W.takesIn K (.builtin "object.__class__") = some true)
    (topn : (l.prog.main.scope.names.lookup ("super" : Str)).isSome = false)
    (h7_NotUsable : PySem.W.findIn K (.ref C_NotUsable) "__init__" = some (some (.ref I_NotUsable)))
    (h1_NotUsable : K.lookup C_NotUsable = some (excClassObj nm_NotUsable qq_NotUsable C_NotUsable N_NotUsable bs_NotUsable bm_NotUsable true sn_NotUsable sub_NotUsable ab_NotUsable col_NotUsable dd_NotUsable k0_NotUsable k1_NotUsable k2_NotUsable k3_NotUsable k5_NotUsable "ValueError.__new__"))
    (h2_NotUsable : PySem.HandSPX.refsVE bm_NotUsable = true)
    (h3_NotUsable : PySem.W.findIn K (.ref C_NotUsable) "__setattr__" = some (some (.builtin "object.__setattr__")))
    (h4_NotUsable : PySem.W.subIn K (.ref C_NotUsable) (.type "BaseException") = some true)
    (h5_NotUsable : PySem.W.typeIn K (.ref C_NotUsable) = some (.type "type"))
    (h6_NotUsable : PySem.W.keepIn K (.ref C_NotUsable) = true)
    (h8_NotUsable : PySem.W.typeIn K (.ref I_NotUsable) = some (.type "function"))
    (h9_NotUsable : K.lookup I_NotUsable = some ⟨oc_NotUsable, od_NotUsable, .func (PySem.W.ksFn "__init__" "NotUsable.__init__" (defArgs (initS (topS 29))) (defBody (initS (topS 29))) (defScope (initS (topS 29))) .none kV_NotUsable doc_NotUsable pm_NotUsable an_NotUsable (.ref cda_NotUsable) ct_NotUsable ccn_NotUsable), osl_NotUsable⟩)
    (h10_NotUsable : PySem.W.codeIn K (.ref cda_NotUsable) "NotUsable.__init__" = true)
    (h11_NotUsable : K.lookup cda_NotUsable = some ⟨ccl_NotUsable, cdd_NotUsable, .fields vs_NotUsable, ccs_NotUsable⟩)
    (h12_NotUsable : vs_NotUsable[2]? = some (.str file_NotUsable tf_NotUsable))
    (h13_NotUsable : ((l.prog.main.file : Str) == file_NotUsable) = true)
    (h14_NotUsable : K.lookup ccn_NotUsable = some ⟨cl_NotUsable, cld_NotUsable, .cell (some (.ref C_NotUsable)), csl_NotUsable⟩)
    (h16_NotUsable : PySem.W.ks_superIn K C_NotUsable C_NotUsable "__init__" = some (some (.builtin "ValueError.__init__")))
    (h17_NotUsable : PySem.W.subIn K (.ref C_NotUsable) (.type "ValueError") = some true)
    (h18_NotUsable : PySem.W.mroIn K C_NotUsable (.ref C_NotUsable) = some true)
    (h22_NotUsable : PySem.W.findIn K (.ref C_NotUsable) "word" = some none)
    (h23_NotUsable : PySem.W.findIn K (.ref C_NotUsable) "at" = some none)
    (g1_NotUsable : PySem.W.hasDictIn K C_NotUsable = true)
    (g2_NotUsable : PySem.W.findIn K (.ref C_NotUsable) "__getattribute__" = some (some (.builtin "BaseException.__getattribute__")))
    (g3_NotUsable : PySem.W.findIn K (.ref C_NotUsable) "__getattr__" = some none)
    (g5_NotUsable : PySem.W.findIn K (.ref C_NotUsable) "__class__" = some (some (.builtin "object.__class__")))
    (g8_NotUsable : PySem.W.mroIn K C_NotUsable (.type "object") = some true)
    (d1_HouseError : PySem.W.hasDictIn K C_HouseError = true)
    (d2_HouseError : PySem.W.typeIn K (.ref C_HouseError) = some (.type "type"))
    (d3_HouseError : PySem.W.subIn K (.ref C_HouseError) (.ref C_HouseError) = some true)
    (d4_HouseError : PySem.W.subIn K (.ref C_HouseError) (.type "BaseException") = some true)
    (u_NotUsable_HouseError : PySem.W.subIn K (.ref C_NotUsable) (.ref C_HouseError) = some false)
    (d1_InvalidPaper : PySem.W.hasDictIn K C_InvalidPaper = true)
    (d2_InvalidPaper : PySem.W.typeIn K (.ref C_InvalidPaper) = some (.type "type"))
    (d3_InvalidPaper : PySem.W.subIn K (.ref C_InvalidPaper) (.ref C_InvalidPaper) = some true)
    (d4_InvalidPaper : PySem.W.subIn K (.ref C_InvalidPaper) (.type "BaseException") = some true)
    (u_NotUsable_InvalidPaper : PySem.W.subIn K (.ref C_NotUsable) (.ref C_InvalidPaper) = some false)
    (d1_InvalidRow : PySem.W.hasDictIn K C_InvalidRow = true)
    (d2_InvalidRow : PySem.W.typeIn K (.ref C_InvalidRow) = some (.type "type"))
    (d3_InvalidRow : PySem.W.subIn K (.ref C_InvalidRow) (.ref C_InvalidRow) = some true)
    (d4_InvalidRow : PySem.W.subIn K (.ref C_InvalidRow) (.type "BaseException") = some true)
    (u_NotUsable_InvalidRow : PySem.W.subIn K (.ref C_NotUsable) (.ref C_InvalidRow) = some false)
    (d1_InvalidStep : PySem.W.hasDictIn K C_InvalidStep = true)
    (d2_InvalidStep : PySem.W.typeIn K (.ref C_InvalidStep) = some (.type "type"))
    (d3_InvalidStep : PySem.W.subIn K (.ref C_InvalidStep) (.ref C_InvalidStep) = some true)
    (d4_InvalidStep : PySem.W.subIn K (.ref C_InvalidStep) (.type "BaseException") = some true)
    (u_NotUsable_InvalidStep : PySem.W.subIn K (.ref C_NotUsable) (.ref C_InvalidStep) = some false)
    (d1_InvalidText : PySem.W.hasDictIn K C_InvalidText = true)
    (d2_InvalidText : PySem.W.typeIn K (.ref C_InvalidText) = some (.type "type"))
    (d3_InvalidText : PySem.W.subIn K (.ref C_InvalidText) (.ref C_InvalidText) = some true)
    (d4_InvalidText : PySem.W.subIn K (.ref C_InvalidText) (.type "BaseException") = some true)
    (u_NotUsable_InvalidText : PySem.W.subIn K (.ref C_NotUsable) (.ref C_InvalidText) = some false)
    (d1_NotUsable : PySem.W.hasDictIn K C_NotUsable = true)
    (d2_NotUsable : PySem.W.typeIn K (.ref C_NotUsable) = some (.type "type"))
    (d3_NotUsable : PySem.W.subIn K (.ref C_NotUsable) (.ref C_NotUsable) = some true)
    (d4_NotUsable : PySem.W.subIn K (.ref C_NotUsable) (.type "BaseException") = some true)
    (u_NotUsable_NotUsable : PySem.W.subIn K (.ref C_NotUsable) (.ref C_NotUsable) = some true)
    (d1_PaperError : PySem.W.hasDictIn K C_PaperError = true)
    (d2_PaperError : PySem.W.typeIn K (.ref C_PaperError) = some (.type "type"))
    (d3_PaperError : PySem.W.subIn K (.ref C_PaperError) (.ref C_PaperError) = some true)
    (d4_PaperError : PySem.W.subIn K (.ref C_PaperError) (.type "BaseException") = some true)
    (u_NotUsable_PaperError : PySem.W.subIn K (.ref C_NotUsable) (.ref C_PaperError) = some false)
    (d1_PipeError : PySem.W.hasDictIn K C_PipeError = true)
    (d2_PipeError : PySem.W.typeIn K (.ref C_PipeError) = some (.type "type"))
    (d3_PipeError : PySem.W.subIn K (.ref C_PipeError) (.ref C_PipeError) = some true)
    (d4_PipeError : PySem.W.subIn K (.ref C_PipeError) (.type "BaseException") = some true)
    (u_NotUsable_PipeError : PySem.W.subIn K (.ref C_NotUsable) (.ref C_PipeError) = some true)
    (d1_ProgramError : PySem.W.hasDictIn K C_ProgramError = true)
    (d2_ProgramError : PySem.W.typeIn K (.ref C_ProgramError) = some (.type "type"))
    (d3_ProgramError : PySem.W.subIn K (.ref C_ProgramError) (.ref C_ProgramError) = some true)
    (d4_ProgramError : PySem.W.subIn K (.ref C_ProgramError) (.type "BaseException") = some true)
    (u_NotUsable_ProgramError : PySem.W.subIn K (.ref C_NotUsable) (.ref C_ProgramError) = some true)
    (d1_TextError : PySem.W.hasDictIn K C_TextError = true)
    (d2_TextError : PySem.W.typeIn K (.ref C_TextError) = some (.type "type"))
    (d3_TextError : PySem.W.subIn K (.ref C_TextError) (.ref C_TextError) = some true)
    (d4_TextError : PySem.W.subIn K (.ref C_TextError) (.type "BaseException") = some true)
    (u_NotUsable_TextError : PySem.W.subIn K (.ref C_NotUsable) (.ref C_TextError) = some false)
    (u_NotUsable_ValueError : PySem.W.subIn K (.ref C_NotUsable) (.type "ValueError") = some true)
    (f_NotUsable_at : PySem.W.findIn K (.ref C_NotUsable) "at" = some none)
    (f_NotUsable_field : PySem.W.findIn K (.ref C_NotUsable) "field" = some none)
    (f_NotUsable_line : PySem.W.findIn K (.ref C_NotUsable) "line" = some none)
    (f_NotUsable_word : PySem.W.findIn K (.ref C_NotUsable) "word" = some none)
    (tnd : [pp__law_refused_right].Nodup) :
    ∃ fd : FuncData, (∀ (s : Shared) (v : Value), BindsTo s fd ⟨[v], []⟩ [("_law_script", v)]) ∧ ∀ base : Heap, K.In base → base.Ns mainGlobals mg → (∀ p ∈ ([(cc__law_refused_right, pp__law_refused_right)] : List (Addr × Addr)), LamX.TabB base mg p.1 p.2) → FnG l.prog w K mg base (L2.CX l.prog w) 11 fa fd ["_law_script"] (spLaw (Lk K pp__law_refused_right C_NotUsable)) := by
  have e := hfa.symm.trans (PySem.W.mg_of X G x46)
  cases e
  let T : Txt K mg := { a_is_integer := a0, d_is_integer := _, f_is_integer := fun_mk l0 c0 k0, g_is_integer := PySem.W.mg_of X G x0, b_is_integer := (fun_mk (st := s_is_integer) l0 c0 k0).binds (ps := ["thing"]) (fun _ _ _ _ _ _ us hl => match us, hl with | [_], _ => rfl), a_is_number := a1, d_is_number := _, f_is_number := fun_mk l1 c1 k1, g_is_number := PySem.W.mg_of X G x1, b_is_number := (fun_mk (st := s_is_number) l1 c1 k1).binds (ps := ["thing"]) (fun _ _ _ _ _ _ us hl => match us, hl with | [_], _ => rfl), a_is_among := a2, d_is_among := _, f_is_among := fun_mk l2 c2 k2, g_is_among := PySem.W.mg_of X G x2, b_is_among := (fun_mk (st := s_is_among) l2 c2 k2).binds (ps := ["thing", "some"]) (fun _ _ _ _ _ _ us hl => match us, hl with | [_, _], _ => rfl), a_is_name := a3, d_is_name := _, f_is_name := fun_mk l3 c3 k3, g_is_name := PySem.W.mg_of X G x3, b_is_name := (fun_mk (st := s_is_name) l3 c3 k3).binds (ps := ["thing"]) (fun _ _ _ _ _ _ us hl => match us, hl with | [_], _ => rfl), a_is_twofold := a4, d_is_twofold := _, f_is_twofold := fun_mk l4 c4 k4, g_is_twofold := PySem.W.mg_of X G x4, b_is_twofold := (fun_mk (st := s_is_twofold) l4 c4 k4).binds (ps := ["thing"]) (fun _ _ _ _ _ _ us hl => match us, hl with | [_], _ => rfl), a_is_rising := a5, d_is_rising := _, f_is_rising := fun_mk l5 c5 k5, g_is_rising := PySem.W.mg_of X G x5, b_is_rising := (fun_mk (st := s_is_rising) l5 c5 k5).binds (ps := ["things"]) (fun _ _ _ _ _ _ us hl => match us, hl with | [_], _ => rfl), a_is_targets := a6, d_is_targets := _, f_is_targets := fun_mk l6 c6 k6, g_is_targets := PySem.W.mg_of X G x6, b_is_targets := (fun_mk (st := s_is_targets) l6 c6 k6).binds (ps := ["thing"]) (fun _ _ _ _ _ _ us hl => match us, hl with | [_], _ => rfl), a_is_pair := a7, d_is_pair := _, f_is_pair := fun_mk l7 c7 k7, g_is_pair := PySem.W.mg_of X G x7, b_is_pair := (fun_mk (st := s_is_pair) l7 c7 k7).binds (ps := ["thing"]) (fun _ _ _ _ _ _ us hl => match us, hl with | [_], _ => rfl), a_is_begin := a8, d_is_begin := _, f_is_begin := fun_mk l8 c8 k8, g_is_begin := PySem.W.mg_of X G x8, b_is_begin := (fun_mk (st := s_is_begin) l8 c8 k8).binds (ps := ["thing"]) (fun _ _ _ _ _ _ us hl => match us, hl with | [_], _ => rfl), a_is_birth := a9, d_is_birth := _, f_is_birth := fun_mk l9 c9 k9, g_is_birth := PySem.W.mg_of X G x9, b_is_birth := (fun_mk (st := s_is_birth) l9 c9 k9).binds (ps := ["thing"]) (fun _ _ _ _ _ _ us hl => match us, hl with | [_], _ => rfl), a_is_asides := a10, d_is_asides := _, f_is_asides := fun_mk l10 c10 k10, g_is_asides := PySem.W.mg_of X G x10, b_is_asides := (fun_mk (st := s_is_asides) l10 c10 k10).binds (ps := ["thing"]) (fun _ _ _ _ _ _ us hl => match us, hl with | [_], _ => rfl), a_is_instruction := a11, d_is_instruction := _, f_is_instruction := fun_mk l11 c11 k11, g_is_instruction := PySem.W.mg_of X G x11, b_is_instruction := (fun_mk (st := s_is_instruction) l11 c11 k11).binds (ps := ["thing"]) (fun _ _ _ _ _ _ us hl => match us, hl with | [_], _ => rfl), a_is_role := a12, d_is_role := _, f_is_role := fun_mk l12 c12 k12, g_is_role := PySem.W.mg_of X G x12, b_is_role := (fun_mk (st := s_is_role) l12 c12 k12).binds (ps := ["thing"]) (fun _ _ _ _ _ _ us hl => match us, hl with | [_], _ => rfl), a_want := a13, d_want := _, f_want := fun_mk l13 c13 k13, g_want := PySem.W.mg_of X G x13, b_want := (fun_mk (st := s_want) l13 c13 k13).binds (ps := ["is_right", "word"]) (fun _ _ _ _ _ _ us hl => match us, hl with | [_, _], _ => rfl), a_words_of := a14, d_words_of := _, f_words_of := fun_mk l14 c14 k14, g_words_of := PySem.W.mg_of X G x14, b_words_of := (fun_mk (st := s_words_of) l14 c14 k14).binds (ps := ["instruction"]) (fun _ _ _ _ _ _ us hl => match us, hl with | [_], _ => rfl), a_is_written := a15, d_is_written := _, f_is_written := fun_mk l15 c15 k15, g_is_written := PySem.W.mg_of X G x15, b_is_written := (fun_mk (st := s_is_written) l15 c15 k15).binds (ps := ["thing"]) (fun _ _ _ _ _ _ us hl => match us, hl with | [_], _ => rfl), a_instruction_text := a16, d_instruction_text := _, f_instruction_text := fun_mk l16 c16 k16, g_instruction_text := PySem.W.mg_of X G x16, b_instruction_text := (fun_mk (st := s_instruction_text) l16 c16 k16).binds (ps := ["instruction"]) (fun _ _ _ _ _ _ us hl => match us, hl with | [_], _ => rfl), kb_instruction_text := kb0_of (st := s_instruction_text) (ps := ["instruction"]) (fun_mk l16 c16 k16) (fun _ _ _ _ _ _ us hl => match us, hl with | [_], _ => rfl), a_program_text := a17, d_program_text := _, f_program_text := fun_mk l17 c17 k17, g_program_text := PySem.W.mg_of X G x17, b_program_text := (fun_mk (st := s_program_text) l17 c17 k17).binds (ps := ["program"]) (fun _ _ _ _ _ _ us hl => match us, hl with | [_], _ => rfl), kb_program_text := kb0_of (st := s_program_text) (ps := ["program"]) (fun_mk l17 c17 k17) (fun _ _ _ _ _ _ us hl => match us, hl with | [_], _ => rfl), a__law_draw := a18, d__law_draw := _, f__law_draw := fun_mk l18 c18 k18, g__law_draw := PySem.W.mg_of X G x18, b__law_draw := (fun_mk (st := s__law_draw) l18 c18 k18).binds (ps := ["_law_feed_here", "_law_many"]) (fun _ _ _ _ _ _ us hl => match us, hl with | [_, _], _ => rfl), a__law_pick := a19, d__law_pick := _, f__law_pick := fun_mk l19 c19 k19, g__law_pick := PySem.W.mg_of X G x19, b__law_pick := (fun_mk (st := s__law_pick) l19 c19 k19).binds (ps := ["_law_feed_here", "_law_some"]) (fun _ _ _ _ _ _ us hl => match us, hl with | [_, _], _ => rfl), a__law_name := a20, d__law_name := _, f__law_name := fun_mk l20 c20 k20, g__law_name := PySem.W.mg_of X G x20, b__law_name := (fun_mk (st := s__law_name) l20 c20 k20).binds (ps := ["_law_feed_here"]) (fun _ _ _ _ _ _ us hl => match us, hl with | [_], _ => rfl), a__law_fresh := a21, d__law_fresh := _, f__law_fresh := fun_mk l21 c21 k21, g__law_fresh := PySem.W.mg_of X G x21, b__law_fresh := (fun_mk (st := s__law_fresh) l21 c21 k21).binds (ps := ["_law_names_here"]) (fun _ _ _ _ _ _ us hl => match us, hl with | [_], _ => rfl), a__law_names := a22, d__law_names := _, f__law_names := fun_mk l22 c22 k22, g__law_names := PySem.W.mg_of X G x22, b__law_names := (fun_mk (st := s__law_names) l22 c22 k22).binds (ps := ["_law_feed_here", "_law_many"]) (fun _ _ _ _ _ _ us hl => match us, hl with | [_, _], _ => rfl), a__law_set := a23, d__law_set := _, f__law_set := fun_mk l23 c23 k23, g__law_set := PySem.W.mg_of X G x23, b__law_set := (fun_mk (st := s__law_set) l23 c23 k23).binds (ps := ["_law_feed_here", "_law_many"]) (fun _ _ _ _ _ _ us hl => match us, hl with | [_, _], _ => rfl), a__law_instruction := a24, d__law_instruction := _, f__law_instruction := fun_mk l24 c24 k24, g__law_instruction := PySem.W.mg_of X G x24, b__law_instruction := (fun_mk (st := s__law_instruction) l24 c24 k24).binds (ps := ["_law_feed_here", "_law_many", "_law_names_here"]) (fun _ _ _ _ _ _ us hl => match us, hl with | [_, _, _], _ => rfl), a__law_asides := a25, d__law_asides := _, f__law_asides := fun_mk l25 c25 k25, g__law_asides := PySem.W.mg_of X G x25, b__law_asides := (fun_mk (st := s__law_asides) l25 c25 k25).binds (ps := ["_law_feed_here", "_law_names_here"]) (fun _ _ _ _ _ _ us hl => match us, hl with | [_, _], _ => rfl), a__law_role := a26, d__law_role := _, f__law_role := fun_mk l26 c26 k26, g__law_role := PySem.W.mg_of X G x26, b__law_role := (fun_mk (st := s__law_role) l26 c26 k26).binds (ps := ["_law_feed_here", "_law_title", "_law_names_here"]) (fun _ _ _ _ _ _ us hl => match us, hl with | [_, _, _], _ => rfl), a__law_begin := a27, d__law_begin := _, f__law_begin := fun_mk l27 c27 k27, g__law_begin := PySem.W.mg_of X G x27, b__law_begin := (fun_mk (st := s__law_begin) l27 c27 k27).binds (ps := ["_law_feed_here"]) (fun _ _ _ _ _ _ us hl => match us, hl with | [_], _ => rfl), a__law_program := a28, d__law_program := _, f__law_program := fun_mk l28 c28 k28, g__law_program := PySem.W.mg_of X G x28, b__law_program := (fun_mk (st := s__law_program) l28 c28 k28).binds (ps := ["_law_feed_here", "_law_most"]) (fun _ _ _ _ _ _ us hl => match us, hl with | [_, _], _ => rfl), a__law_no := a29, d__law_no := _, f__law_no := fun_mk l29 c29 k29, g__law_no := PySem.W.mg_of X G x29, b__law_no := (fun_mk (st := s__law_no) l29 c29 k29).binds (ps := ["_law_verb"]) (fun _ _ _ _ _ _ us hl => match us, hl with | [_], _ => rfl), a__law_same := a30, d__law_same := _, f__law_same := fun_mk l30 c30 k30, g__law_same := PySem.W.mg_of X G x30, b__law_same := (fun_mk (st := s__law_same) l30 c30 k30).binds (ps := ["_law_told", "_law_due"]) (fun _ _ _ _ _ _ us hl => match us, hl with | [_, _], _ => rfl), a__law_error := a31, d__law_error := _, f__law_error := fun_mk l31 c31 k31, g__law_error := PySem.W.mg_of X G x31, b__law_error := (fun_mk (st := s__law_error) l31 c31 k31).binds (ps := ["_law_e"]) (fun _ _ _ _ _ _ us hl => match us, hl with | [_], _ => rfl), a__law_heard := a32, d__law_heard := _, f__law_heard := fun_mk l32 c32 k32, g__law_heard := PySem.W.mg_of X G x32, b__law_heard := (fun_mk (st := s__law_heard) l32 c32 k32).binds (ps := ["_law_ask"]) (fun _ _ _ _ _ _ us hl => match us, hl with | [_], _ => rfl), a__law_odd_instruction := a33, d__law_odd_instruction := _, f__law_odd_instruction := fun_mk l33 c33 k33, g__law_odd_instruction := PySem.W.mg_of X G x33, b__law_odd_instruction := (fun_mk (st := s__law_odd_instruction) l33 c33 k33).binds (ps := ["_law_feed_here", "_law_title"]) (fun _ _ _ _ _ _ us hl => match us, hl with | [_, _], _ => rfl), a__law_odd_asides := a34, d__law_odd_asides := _, f__law_odd_asides := fun_mk l34 c34 k34, g__law_odd_asides := PySem.W.mg_of X G x34, b__law_odd_asides := (fun_mk (st := s__law_odd_asides) l34 c34 k34).binds (ps := ["_law_feed_here", "_law_title"]) (fun _ _ _ _ _ _ us hl => match us, hl with | [_, _], _ => rfl), a__law_odd_begin := a35, d__law_odd_begin := _, f__law_odd_begin := fun_mk l35 c35 k35, g__law_odd_begin := PySem.W.mg_of X G x35, b__law_odd_begin := (fun_mk (st := s__law_odd_begin) l35 c35 k35).binds (ps := ["_law_feed_here"]) (fun _ _ _ _ _ _ us hl => match us, hl with | [_], _ => rfl), a__law_line := a36, d__law_line := _, f__law_line := fun_mk l36 c36 k36, g__law_line := PySem.W.mg_of X G x36, b__law_line := (fun_mk (st := s__law_line) l36 c36 k36).binds (ps := ["_law_deed"]) (fun _ _ _ _ _ _ us hl => match us, hl with | [_], _ => rfl), a__law_text := a37, d__law_text := _, f__law_text := fun_mk l37 c37 k37, g__law_text := PySem.W.mg_of X G x37, b__law_text := (fun_mk (st := s__law_text) l37 c37 k37).binds (ps := ["_law_plan"]) (fun _ _ _ _ _ _ us hl => match us, hl with | [_], _ => rfl), a__law_great := a38, d__law_great := _, f__law_great := fun_mk l38 c38 k38, g__law_great := PySem.W.mg_of X G x38, b__law_great := (fun_mk (st := s__law_great) l38 c38 k38).binds (ps := ["_law_feed_here"]) (fun _ _ _ _ _ _ us hl => match us, hl with | [_], _ => rfl), a__law_any_set := a39, d__law_any_set := _, f__law_any_set := fun_mk l39 c39 k39, g__law_any_set := PySem.W.mg_of X G x39, b__law_any_set := (fun_mk (st := s__law_any_set) l39 c39 k39).binds (ps := ["_law_feed_here"]) (fun _ _ _ _ _ _ us hl => match us, hl with | [_], _ => rfl), a__law_any_instruction := a40, d__law_any_instruction := _, f__law_any_instruction := fun_mk l40 c40 k40, g__law_any_instruction := PySem.W.mg_of X G x40, b__law_any_instruction := (fun_mk (st := s__law_any_instruction) l40 c40 k40).binds (ps := ["_law_feed_here"]) (fun _ _ _ _ _ _ us hl => match us, hl with | [_], _ => rfl), a__law_any_program := a41, d__law_any_program := _, f__law_any_program := fun_mk l41 c41 k41, g__law_any_program := PySem.W.mg_of X G x41, b__law_any_program := (fun_mk (st := s__law_any_program) l41 c41 k41).binds (ps := ["_law_feed_here"]) (fun _ _ _ _ _ _ us hl => match us, hl with | [_], _ => rfl), a__law_instruction_right := a42, d__law_instruction_right := _, f__law_instruction_right := fun_mk l42 c42 k42, g__law_instruction_right := PySem.W.mg_of X G x42, b__law_instruction_right := (fun_mk (st := s__law_instruction_right) l42 c42 k42).binds (ps := ["_law_one"]) (fun _ _ _ _ _ _ us hl => match us, hl with | [_], _ => rfl), a__law_program_right := a43, d__law_program_right := _, f__law_program_right := fun_mk l43 c43 k43, g__law_program_right := PySem.W.mg_of X G x43, b__law_program_right := (fun_mk (st := s__law_program_right) l43 c43 k43).binds (ps := ["_law_plan"]) (fun _ _ _ _ _ _ us hl => match us, hl with | [_], _ => rfl), a__law_refused_right := a44, d__law_refused_right := _, f__law_refused_right := fun_mk l44 c44 k44, g__law_refused_right := PySem.W.mg_of X G x44, b__law_refused_right := (fun_mk (st := s__law_refused_right) l44 c44 k44).binds (ps := ["_law_feed_here", "_law_plan"]) (fun _ _ _ _ _ _ us hl => match us, hl with | [_, _], _ => rfl), a__law_feed := a45, d__law_feed := _, f__law_feed := fun_mk l45 c45 k45, g__law_feed := PySem.W.mg_of X G x45, b__law_feed := (fun_mk (st := s__law_feed) l45 c45 k45).binds (ps := ["_law_script"]) (fun _ _ _ _ _ _ us hl => match us, hl with | [_], _ => rfl), n_ValueError := PySem.W.mg_none_of X G z_ValueError, n_all := PySem.W.mg_none_of X G z_all, n_bool := PySem.W.mg_none_of X G z_bool, n_int := PySem.W.mg_none_of X G z_int, n_isinstance := PySem.W.mg_none_of X G z_isinstance, n_len := PySem.W.mg_none_of X G z_len, n_list := PySem.W.mg_none_of X G z_list, n_range := PySem.W.mg_none_of X G z_range, n_repr := PySem.W.mg_none_of X G z_repr, n_set := PySem.W.mg_none_of X G z_set, n_sorted := PySem.W.mg_none_of X G z_sorted, n_str := PySem.W.mg_none_of X G z_str, n_tuple := PySem.W.mg_none_of X G z_tuple, n_zip := PySem.W.mg_none_of X G z_zip, c_ENDS := gc_strs ["r", "w"] X G y_ENDS w_ENDS (.cons ⟨_, rfl⟩ (.cons ⟨_, rfl⟩ .nil)) (by show 2 ≤ sizeLine; decide), c_HOLDS := gc_strs ["none", "open", "marked"] X G y_HOLDS w_HOLDS (.cons ⟨_, rfl⟩ (.cons ⟨_, rfl⟩ (.cons ⟨_, rfl⟩ .nil))) (by show 3 ≤ sizeLine; decide), c_BIRTHS := gc_strs ["copy", "start"] X G y_BIRTHS w_BIRTHS (.cons ⟨_, rfl⟩ (.cons ⟨_, rfl⟩ .nil)) (by show 2 ≤ sizeLine; decide), c_SHUTS := gc_strs ["mark", "close"] X G y_SHUTS w_SHUTS (.cons ⟨_, rfl⟩ (.cons ⟨_, rfl⟩ .nil)) (by show 2 ≤ sizeLine; decide), c_GOINGS := gc_strs ["read", "write", "wait"] X G y_GOINGS w_GOINGS (.cons ⟨_, rfl⟩ (.cons ⟨_, rfl⟩ (.cons ⟨_, rfl⟩ .nil))) (by show 3 ≤ sizeLine; decide), c_WORDS := gc_strs ["go", "copy", "start", "mark", "close", "read", "write", "wait", "stay", "end"] X G y_WORDS w_WORDS (.cons ⟨_, rfl⟩ (.cons ⟨_, rfl⟩ (.cons ⟨_, rfl⟩ (.cons ⟨_, rfl⟩ (.cons ⟨_, rfl⟩ (.cons ⟨_, rfl⟩ (.cons ⟨_, rfl⟩ (.cons ⟨_, rfl⟩ (.cons ⟨_, rfl⟩ (.cons ⟨_, rfl⟩ .nil)))))))))) (by show 10 ≤ sizeLine; decide), c_LETTERS := gc_str X G y_LETTERS, c_MOST_LETTERS := gc_int X G y_MOST_LETTERS }
  let EX : Exs l.prog (Lk K pp__law_refused_right C_NotUsable) mg T := {
    C_HouseError := C_HouseError,
    m_HouseError := PySem.W.mg_of X G mC_HouseError,
    C_InvalidPaper := C_InvalidPaper,
    m_InvalidPaper := PySem.W.mg_of X G mC_InvalidPaper,
    C_InvalidRow := C_InvalidRow,
    m_InvalidRow := PySem.W.mg_of X G mC_InvalidRow,
    C_InvalidStep := C_InvalidStep,
    m_InvalidStep := PySem.W.mg_of X G mC_InvalidStep,
    C_InvalidText := C_InvalidText,
    m_InvalidText := PySem.W.mg_of X G mC_InvalidText,
    C_NotUsable := C_NotUsable,
    m_NotUsable := PySem.W.mg_of X G mC_NotUsable,
    C_PaperError := C_PaperError,
    m_PaperError := PySem.W.mg_of X G mC_PaperError,
    C_PipeError := C_PipeError,
    m_PipeError := PySem.W.mg_of X G mC_PipeError,
    C_ProgramError := C_ProgramError,
    m_ProgramError := PySem.W.mg_of X G mC_ProgramError,
    C_TextError := C_TextError,
    m_TextError := PySem.W.mg_of X G mC_TextError,
    I_NotUsable := I_NotUsable,
    i_NotUsable := initC_mk h1_NotUsable h2_NotUsable h3_NotUsable h4_NotUsable h5_NotUsable h6_NotUsable h7_NotUsable h8_NotUsable h9_NotUsable h10_NotUsable h11_NotUsable h12_NotUsable h13_NotUsable h14_NotUsable (fun _ _ _ _ _ _ _ e => by cases e; exact .of_eq rfl) h16_NotUsable h17_NotUsable h18_NotUsable nsup third topn h22_NotUsable h23_NotUsable,
    c_NotUsable := ⟨rfl, rfl⟩,
    nsup := PySem.W.mg_none_of X G nsup,
    exk := fun nm a h => by
      obtain ⟨rfl, rfl⟩ := h
      exact exck_mk g1_NotUsable g2_NotUsable g3_NotUsable h4_NotUsable g5_NotUsable spcl takg g8_NotUsable,
    is_HouseError := fun nm a h => by
      obtain ⟨rfl, rfl⟩ := h
      exact (kit_own d1_HouseError d2_HouseError d3_HouseError u_NotUsable_HouseError).trans (by decide),
    is_InvalidPaper := fun nm a h => by
      obtain ⟨rfl, rfl⟩ := h
      exact (kit_own d1_InvalidPaper d2_InvalidPaper d3_InvalidPaper u_NotUsable_InvalidPaper).trans (by decide),
    is_InvalidRow := fun nm a h => by
      obtain ⟨rfl, rfl⟩ := h
      exact (kit_own d1_InvalidRow d2_InvalidRow d3_InvalidRow u_NotUsable_InvalidRow).trans (by decide),
    is_InvalidStep := fun nm a h => by
      obtain ⟨rfl, rfl⟩ := h
      exact (kit_own d1_InvalidStep d2_InvalidStep d3_InvalidStep u_NotUsable_InvalidStep).trans (by decide),
    is_InvalidText := fun nm a h => by
      obtain ⟨rfl, rfl⟩ := h
      exact (kit_own d1_InvalidText d2_InvalidText d3_InvalidText u_NotUsable_InvalidText).trans (by decide),
    is_NotUsable := fun nm a h => by
      obtain ⟨rfl, rfl⟩ := h
      exact (kit_own d1_NotUsable d2_NotUsable d3_NotUsable u_NotUsable_NotUsable).trans (by decide),
    is_PaperError := fun nm a h => by
      obtain ⟨rfl, rfl⟩ := h
      exact (kit_own d1_PaperError d2_PaperError d3_PaperError u_NotUsable_PaperError).trans (by decide),
    is_ProgramError := fun nm a h => by
      obtain ⟨rfl, rfl⟩ := h
      exact (kit_own d1_ProgramError d2_ProgramError d3_ProgramError u_NotUsable_ProgramError).trans (by decide),
    is_TextError := fun nm a h => by
      obtain ⟨rfl, rfl⟩ := h
      exact (kit_own d1_TextError d2_TextError d3_TextError u_NotUsable_TextError).trans (by decide),
    is_ValueError := fun nm a h => by
      obtain ⟨rfl, rfl⟩ := h
      exact (kit_blt (by decide +kernel) u_NotUsable_ValueError).trans (by decide),
    is_InvalidStep_InvalidRow := fun nm a h => by
      obtain ⟨rfl, rfl⟩ := h
      exact (kit_two (kit_own d1_InvalidStep d2_InvalidStep d3_InvalidStep u_NotUsable_InvalidStep) (kit_own d1_InvalidRow d2_InvalidRow d3_InvalidRow u_NotUsable_InvalidRow)).trans (by decide),
    fl_at := fun nm a h => by
      obtain ⟨rfl, rfl⟩ := h
      exact f_NotUsable_at,
    fl_field := fun nm a h => by
      obtain ⟨rfl, rfl⟩ := h
      exact f_NotUsable_field,
    fl_line := fun nm a h => by
      obtain ⟨rfl, rfl⟩ := h
      exact f_NotUsable_line,
    fl_word := fun nm a h => by
      obtain ⟨rfl, rfl⟩ := h
      exact f_NotUsable_word,
    hcd := cd32,
    hears := ⟨PySem.W.mg_of X G x32, k32, ⟨_, _, _, _, _, _, _, _, rfl, l32, c32⟩, T.b__law_heard, sc__law_heard, by first | exact Or.inl rfl | exact Or.inr (Or.inl rfl), ⟨_, _, _, _, _, _, _, _, _, _, _, _, _, _, rfl⟩, rfl, rfl, rfl, PySem.W.mg_of X G mC_PipeError, PySem.W.mg_of X G x31, k31, T.b__law_error, fun nm a h => by
      obtain ⟨rfl, rfl⟩ := h
      exact PySem.W.exm_ref d4_PipeError d1_PipeError d2_PipeError u_NotUsable_PipeError⟩,
    cc__law_refused_right := cc__law_refused_right,
    pp__law_refused_right := pp__law_refused_right,
    tm__law_refused_right := .head _,
    tu__law_refused_right := tu_of (by exact tnd) (.head _),
    fc__law_refused_right := ⟨⟨_, _, _, _, _, _, _, _, rfl, l44, c44⟩, k44⟩ }
  exact ⟨_, fun s v => .of_eq rfl, fun base _ _ tb => ok_law (L := (Lk K pp__law_refused_right C_NotUsable)) T (lk_keys K pp__law_refused_right C_NotUsable) (lk_nk K pp__law_refused_right C_NotUsable) EX ⟨tb _ (.head _)⟩ (fun_mk l46 c46 k46) math⟩
end K09
open PySem PySem.W PyProof.Rows
set_option maxHeartbeats 0 in
theorem PySem.Challenge.cw_keptends_k09_texts_written_holds : PySem.Challenge.rw_keptends_k09_texts_written.Holds := by
  w_on; o_law; k_head; (case hw => w_witness2)
  k_fill
  refine DL.walkT (l := PySem.Challenge.rw_keptends_k09_texts_written) (n := 63) (k := 11) (x := "_law_script") (CX := fun w => L2.CX PySem.Challenge.rw_keptends_k09_texts_written.prog w) (sp := fun w => DL.spLaw (K09.Lk _ 463 200)) (cs := [(467, 463)]) rfl (by decide) rfl ⟨rfl, by decide, by decide⟩ (fun w h Y => PySem.W.km_in_of Y) ?hT ?nT ?hC ?F (fun _ _ a ns hl hT hS => ⟨a, ns, rfl, hS, hl, DL.tabs_of rfl hT, fun _ => rfl⟩) (fun _ _ _ _ _ h => DL.no_cx h)
  case F =>
    intro w mg fa h KX G hmg
    refine' K09.all_mk (l := PySem.Challenge.rw_keptends_k09_texts_written) rfl KX G hmg K09.math ?x0 ?l0 ?c0 ?k0 ?x1 ?l1 ?c1 ?k1 ?x2 ?l2 ?c2 ?k2 ?x3 ?l3 ?c3 ?k3 ?x4 ?l4 ?c4 ?k4 ?x5 ?l5 ?c5 ?k5 ?x6 ?l6 ?c6 ?k6 ?x7 ?l7 ?c7 ?k7 ?x8 ?l8 ?c8 ?k8 ?x9 ?l9 ?c9 ?k9 ?x10 ?l10 ?c10 ?k10 ?x11 ?l11 ?c11 ?k11 ?x12 ?l12 ?c12 ?k12 ?x13 ?l13 ?c13 ?k13 ?x14 ?l14 ?c14 ?k14 ?x15 ?l15 ?c15 ?k15 ?x16 ?l16 ?c16 ?k16 ?x17 ?l17 ?c17 ?k17 ?x18 ?l18 ?c18 ?k18 ?x19 ?l19 ?c19 ?k19 ?x20 ?l20 ?c20 ?k20 ?x21 ?l21 ?c21 ?k21 ?x22 ?l22 ?c22 ?k22 ?x23 ?l23 ?c23 ?k23 ?x24 ?l24 ?c24 ?k24 ?x25 ?l25 ?c25 ?k25 ?x26 ?l26 ?c26 ?k26 ?x27 ?l27 ?c27 ?k27 ?x28 ?l28 ?c28 ?k28 ?x29 ?l29 ?c29 ?k29 ?x30 ?l30 ?c30 ?k30 ?x31 ?l31 ?c31 ?k31 ?x32 ?l32 ?c32 ?k32 ?x33 ?l33 ?c33 ?k33 ?x34 ?l34 ?c34 ?k34 ?x35 ?l35 ?c35 ?k35 ?x36 ?l36 ?c36 ?k36 ?x37 ?l37 ?c37 ?k37 ?x38 ?l38 ?c38 ?k38 ?x39 ?l39 ?c39 ?k39 ?x40 ?l40 ?c40 ?k40 ?x41 ?l41 ?c41 ?k41 ?x42 ?l42 ?c42 ?k42 ?x43 ?l43 ?c43 ?k43 ?x44 ?l44 ?c44 ?k44 ?tb__law_refused_right ?tp__law_refused_right ?x45 ?l45 ?c45 ?k45 ?x46 ?l46 ?c46 ?k46 ?z_ValueError ?z_all ?z_bool ?z_int ?z_isinstance ?z_len ?z_list ?z_range ?z_repr ?z_set ?z_sorted ?z_str ?z_tuple ?z_zip ?y_ENDS ?w_ENDS ?y_HOLDS ?w_HOLDS ?y_BIRTHS ?w_BIRTHS ?y_SHUTS ?w_SHUTS ?y_GOINGS ?w_GOINGS ?y_WORDS ?w_WORDS ?y_LETTERS ?y_MOST_LETTERS ?mC_HouseError ?mC_InvalidPaper ?mC_InvalidRow ?mC_InvalidStep ?mC_InvalidText ?mC_NotUsable ?mC_PaperError ?mC_PipeError ?mC_ProgramError ?mC_TextError ?nsup ?third ?spcl ?takg ?topn ?h7_NotUsable ?h1_NotUsable ?h2_NotUsable ?h3_NotUsable ?h4_NotUsable ?h5_NotUsable ?h6_NotUsable ?h8_NotUsable ?h9_NotUsable ?h10_NotUsable ?h11_NotUsable ?h12_NotUsable ?h13_NotUsable ?h14_NotUsable ?h16_NotUsable ?h17_NotUsable ?h18_NotUsable ?h22_NotUsable ?h23_NotUsable ?g1_NotUsable ?g2_NotUsable ?g3_NotUsable ?g5_NotUsable ?g8_NotUsable ?d1_HouseError ?d2_HouseError ?d3_HouseError ?d4_HouseError ?u_NotUsable_HouseError ?d1_InvalidPaper ?d2_InvalidPaper ?d3_InvalidPaper ?d4_InvalidPaper ?u_NotUsable_InvalidPaper ?d1_InvalidRow ?d2_InvalidRow ?d3_InvalidRow ?d4_InvalidRow ?u_NotUsable_InvalidRow ?d1_InvalidStep ?d2_InvalidStep ?d3_InvalidStep ?d4_InvalidStep ?u_NotUsable_InvalidStep ?d1_InvalidText ?d2_InvalidText ?d3_InvalidText ?d4_InvalidText ?u_NotUsable_InvalidText ?d1_NotUsable ?d2_NotUsable ?d3_NotUsable ?d4_NotUsable ?u_NotUsable_NotUsable ?d1_PaperError ?d2_PaperError ?d3_PaperError ?d4_PaperError ?u_NotUsable_PaperError ?d1_PipeError ?d2_PipeError ?d3_PipeError ?d4_PipeError ?u_NotUsable_PipeError ?d1_ProgramError ?d2_ProgramError ?d3_ProgramError ?d4_ProgramError ?u_NotUsable_ProgramError ?d1_TextError ?d2_TextError ?d3_TextError ?d4_TextError ?u_NotUsable_TextError ?u_NotUsable_ValueError ?f_NotUsable_at ?f_NotUsable_field ?f_NotUsable_line ?f_NotUsable_word ?tnd
    (case x0 => k_is); (case l0 => k_is); (case c0 => k_is); (case k0 => k_is); (case x1 => k_is); (case l1 => k_is); (case c1 => k_is); (case k1 => k_is)
    (case x2 => k_is); (case l2 => k_is); (case c2 => k_is); (case k2 => k_is); (case x3 => k_is); (case l3 => k_is); (case c3 => k_is); (case k3 => k_is)
    (case x4 => k_is); (case l4 => k_is); (case c4 => k_is); (case k4 => k_is); (case x5 => k_is); (case l5 => k_is); (case c5 => k_is); (case k5 => k_is)
    (case x6 => k_is); (case l6 => k_is); (case c6 => k_is); (case k6 => k_is); (case x7 => k_is); (case l7 => k_is); (case c7 => k_is); (case k7 => k_is)
    (case x8 => k_is); (case l8 => k_is); (case c8 => k_is); (case k8 => k_is); (case x9 => k_is); (case l9 => k_is); (case c9 => k_is); (case k9 => k_is)
    (case x10 => k_is); (case l10 => k_is); (case c10 => k_is); (case k10 => k_is); (case x11 => k_is); (case l11 => k_is); (case c11 => k_is); (case k11 => k_is)
    (case x12 => k_is); (case l12 => k_is); (case c12 => k_is); (case k12 => k_is); (case x13 => k_is); (case l13 => k_is); (case c13 => k_is); (case k13 => k_is)
    (case x14 => k_is); (case l14 => k_is); (case c14 => k_is); (case k14 => k_is); (case x15 => k_is); (case l15 => k_is); (case c15 => k_is); (case k15 => k_is)
    (case x16 => k_is); (case l16 => k_is); (case c16 => k_is); (case k16 => k_is); (case x17 => k_is); (case l17 => k_is); (case c17 => k_is); (case k17 => k_is)
    (case x18 => k_is); (case l18 => k_is); (case c18 => k_is); (case k18 => k_is); (case x19 => k_is); (case l19 => k_is); (case c19 => k_is); (case k19 => k_is)
    (case x20 => k_is); (case l20 => k_is); (case c20 => k_is); (case k20 => k_is); (case x21 => k_is); (case l21 => k_is); (case c21 => k_is); (case k21 => k_is)
    (case x22 => k_is); (case l22 => k_is); (case c22 => k_is); (case k22 => k_is); (case x23 => k_is); (case l23 => k_is); (case c23 => k_is); (case k23 => k_is)
    (case x24 => k_is); (case l24 => k_is); (case c24 => k_is); (case k24 => k_is); (case x25 => k_is); (case l25 => k_is); (case c25 => k_is); (case k25 => k_is)
    (case x26 => k_is); (case l26 => k_is); (case c26 => k_is); (case k26 => k_is); (case x27 => k_is); (case l27 => k_is); (case c27 => k_is); (case k27 => k_is)
    (case x28 => k_is); (case l28 => k_is); (case c28 => k_is); (case k28 => k_is); (case x29 => k_is); (case l29 => k_is); (case c29 => k_is); (case k29 => k_is)
    (case x30 => k_is); (case l30 => k_is); (case c30 => k_is); (case k30 => k_is); (case x31 => k_is); (case l31 => k_is); (case c31 => k_is); (case k31 => k_is)
    (case x32 => k_is); (case l32 => k_is); (case c32 => k_is); (case k32 => k_is); (case x33 => k_is); (case l33 => k_is); (case c33 => k_is); (case k33 => k_is)
    (case x34 => k_is); (case l34 => k_is); (case c34 => k_is); (case k34 => k_is); (case x35 => k_is); (case l35 => k_is); (case c35 => k_is); (case k35 => k_is)
    (case x36 => k_is); (case l36 => k_is); (case c36 => k_is); (case k36 => k_is); (case x37 => k_is); (case l37 => k_is); (case c37 => k_is); (case k37 => k_is)
    (case x38 => k_is); (case l38 => k_is); (case c38 => k_is); (case k38 => k_is); (case x39 => k_is); (case l39 => k_is); (case c39 => k_is); (case k39 => k_is)
    (case x40 => k_is); (case l40 => k_is); (case c40 => k_is); (case k40 => k_is); (case x41 => k_is); (case l41 => k_is); (case c41 => k_is); (case k41 => k_is)
    (case x42 => k_is); (case l42 => k_is); (case c42 => k_is); (case k42 => k_is); (case x43 => k_is); (case l43 => k_is); (case c43 => k_is); (case k43 => k_is)
    (case x44 => k_is); (case l44 => k_is); (case c44 => k_is); (case k44 => k_is); (case tb__law_refused_right => k_is); (case tp__law_refused_right => first | rfl | decide +kernel | kernel_rfl); (case x45 => k_is); (case l45 => k_is)
    (case c45 => k_is); (case k45 => k_is); (case x46 => k_is); (case l46 => k_is); (case c46 => k_is); (case k46 => k_is); (case z_ValueError => k_is); (case z_all => k_is)
    (case z_bool => k_is); (case z_int => k_is); (case z_isinstance => k_is); (case z_len => k_is); (case z_list => k_is); (case z_range => k_is); (case z_repr => k_is); (case z_set => k_is)
    (case z_sorted => k_is); (case z_str => k_is); (case z_tuple => k_is); (case z_zip => k_is); (case y_ENDS => k_is); (case w_ENDS => k_is); (case y_HOLDS => k_is); (case w_HOLDS => k_is)
    (case y_BIRTHS => k_is); (case w_BIRTHS => k_is); (case y_SHUTS => k_is); (case w_SHUTS => k_is); (case y_GOINGS => k_is); (case w_GOINGS => k_is); (case y_WORDS => k_is); (case w_WORDS => k_is)
    (case y_LETTERS => k_is); (case y_MOST_LETTERS => k_is); (case mC_HouseError => k_is); (case mC_InvalidPaper => k_is); (case mC_InvalidRow => k_is); (case mC_InvalidStep => k_is); (case mC_InvalidText => k_is); (case mC_NotUsable => k_is)
    (case mC_PaperError => k_is); (case mC_PipeError => k_is); (case mC_ProgramError => k_is); (case mC_TextError => k_is); (case nsup => k_is); (case third => k_is); (case spcl => k_is); (case takg => k_is)
    (case topn => first | rfl | decide +kernel | kernel_rfl); (case h7_NotUsable => k_is); (case h1_NotUsable => k_is); (case h2_NotUsable => first | rfl | decide +kernel | kernel_rfl); (case h3_NotUsable => k_is); (case h4_NotUsable => k_is); (case h5_NotUsable => k_is); (case h6_NotUsable => k_is)
    (case h8_NotUsable => k_is); (case h9_NotUsable => k_is); (case h10_NotUsable => k_is); (case h11_NotUsable => k_is); (case h12_NotUsable => first | rfl | decide +kernel | kernel_rfl); (case h13_NotUsable => first | rfl | decide +kernel | kernel_rfl); (case h14_NotUsable => k_is); (case h16_NotUsable => ks_is)
    (case h17_NotUsable => k_is); (case h18_NotUsable => k_is); (case h22_NotUsable => k_is); (case h23_NotUsable => k_is); (case g1_NotUsable => k_is); (case g2_NotUsable => k_is); (case g3_NotUsable => k_is); (case g5_NotUsable => k_is)
    (case g8_NotUsable => k_is); (case d1_HouseError => k_is); (case d2_HouseError => k_is); (case d3_HouseError => k_is); (case d4_HouseError => k_is); (case u_NotUsable_HouseError => k_is); (case d1_InvalidPaper => k_is); (case d2_InvalidPaper => k_is)
    (case d3_InvalidPaper => k_is); (case d4_InvalidPaper => k_is); (case u_NotUsable_InvalidPaper => k_is); (case d1_InvalidRow => k_is); (case d2_InvalidRow => k_is); (case d3_InvalidRow => k_is); (case d4_InvalidRow => k_is); (case u_NotUsable_InvalidRow => k_is)
    (case d1_InvalidStep => k_is); (case d2_InvalidStep => k_is); (case d3_InvalidStep => k_is); (case d4_InvalidStep => k_is); (case u_NotUsable_InvalidStep => k_is); (case d1_InvalidText => k_is); (case d2_InvalidText => k_is); (case d3_InvalidText => k_is)
    (case d4_InvalidText => k_is); (case u_NotUsable_InvalidText => k_is); (case d1_NotUsable => k_is); (case d2_NotUsable => k_is); (case d3_NotUsable => k_is); (case d4_NotUsable => k_is); (case u_NotUsable_NotUsable => k_is); (case d1_PaperError => k_is)
    (case d2_PaperError => k_is); (case d3_PaperError => k_is); (case d4_PaperError => k_is); (case u_NotUsable_PaperError => k_is); (case d1_PipeError => k_is); (case d2_PipeError => k_is); (case d3_PipeError => k_is); (case d4_PipeError => k_is)
    (case u_NotUsable_PipeError => k_is); (case d1_ProgramError => k_is); (case d2_ProgramError => k_is); (case d3_ProgramError => k_is); (case d4_ProgramError => k_is); (case u_NotUsable_ProgramError => k_is); (case d1_TextError => k_is); (case d2_TextError => k_is)
    (case d3_TextError => k_is); (case d4_TextError => k_is); (case u_NotUsable_TextError => k_is); (case u_NotUsable_ValueError => k_is); (case f_NotUsable_at => k_is); (case f_NotUsable_field => k_is); (case f_NotUsable_line => k_is); (case f_NotUsable_word => k_is)
    (case tnd => first | rfl | decide +kernel | kernel_rfl)
  case hT => (intro w h Y p hp; simp only [List.mem_cons, List.not_mem_nil, or_false] at hp; rcases hp with rfl <;> exact PySem.W.km_tabs_of Y _ (by decide))
  case nT => (intro w p hp; simp only [List.mem_cons, List.not_mem_nil, or_false] at hp; rcases hp with rfl <;> kernel_rfl)
  case hC => (intro w p hp; simp only [List.mem_cons, List.not_mem_nil, or_false] at hp; rcases hp with rfl <;> kernel_rfl)

