import PyProof.Rows.All
import HandS.ForMost
import HandS.IsInst
import HandS.TupAny
import HandS.Flow
import HandS.Deep
import HandS.Exc
import HandS.ExcOwn
import HandS.Lambda
import HandS.Zip
import PyProof.ReprRoads
import HandS.Style
import PyProof.Rows.ReprOcc
import PyProof.FitsInt
import PySem.Challenge.RW_keptends_k31_fates_by_form
set_option Elab.async false
set_option linter.all false
set_option maxRecDepth 100000
set_option maxHeartbeats 1000000
/-! DL: a data layer over HandS, by this seat. Part a: defs whose caller stands in no guard (so that repr of containers is known) -/
namespace DL
open PySem PySem.Spec PyProof.Rows L2

/-- like the layer's FnOk, for callers of whom it is known that no repr is under way -/
structure FnG (P : Program) (w : World) (K : PySem.W.Frag) (mg : Str → Option Value) (base : Heap) (CX : CXT) (k : Nat)
    (f : Addr) (fd : FuncData) (ps : List Str) (sp : Sp) : Prop where
  len : ∀ vs H Q E, sp vs H Q E → vs.length = ps.length
  run : ∀ (A : Around) (outer : List Env) (s : Shared) (H : Hp) (args : Args) (us : List Value) (vs : List V) (Q : VK) (E : XK),
    A.guards = some [] → Room k A → Env0 P w K mg base A outer s H → BindsTo s fd args (ps.zip us) → Vals vs us →
    sp vs H Q E → codeAny (model P w) A (.call (.ref f) args) (CR CX outer P w H s Q E) s

section
variable {P : Program} {w : World} {K : PySem.W.Frag} {mg : Str → Option Value} {base : Heap} {CX : CXT}
theorem FnG.of {k : Nat} {f : Addr} {fd : FuncData} {ps : List Str} {sp : Sp} (F : FnOk P w K mg base CX k f fd ps sp) :
    FnG P w K mg base CX k f fd ps sp :=
  ⟨F.len, fun A outer s H args us vs Q E _ => F.run A outer s H args us vs Q E⟩
theorem FnG.mono {j k : Nat} {f : Addr} {fd : FuncData} {ps : List Str} {sp : Sp} (F : FnG P w K mg base CX j f fd ps sp)
    (h : j ≤ k) : FnG P w K mg base CX k f fd ps sp :=
  ⟨F.len, fun A outer s H args us vs Q E g hr => F.run A outer s H args us vs Q E g (hr.mono h)⟩
theorem FnG.imp {k : Nat} {f : Addr} {fd : FuncData} {ps : List Str} {sp sp' : Sp} (F : FnG P w K mg base CX k f fd ps sp)
    (h : ∀ vs H Q E, sp' vs H Q E → sp vs H Q E) : FnG P w K mg base CX k f fd ps sp' :=
  ⟨fun vs H Q E q => F.len _ _ _ _ (h vs H Q E q),
    fun A outer s H args us vs Q E g hr e0 hb hv q => F.run A outer s H args us vs Q E g hr e0 hb hv (h vs H Q E q)⟩

/-- a def of the text: its body's walk, where no repr is under way -/
theorem fng_of {k : Nat} {f : Addr} {x qual : Str} {st : Stmt} {fd : FuncData} {N ps : List Str} {sp : Sp}
    (F : Fun K x qual st f fd) (S : FnScope N ps (defScope st)) (len : ∀ vs H Q E, sp vs H Q E → vs.length = ps.length)
    (hbody : ∀ (cdv : Value) (A : Around) (outer : List Env) (s : Shared) (H : Hp) (vs : List V) (Q : VK) (E : XK),
      (A.deeper (envOfC qual (defScope st) s.heap.objs.size f cdv)).guards = some [] →
      Room k (A.deeper (envOfC qual (defScope st) s.heap.objs.size f cdv)) → sp vs H Q E →
      ∃ t, PSs (cxOf CX P w K mg base N qual (defScope st) f cdv A outer s H E) (defBody st) t ∧
        t { nx := fun _ H' => Q .non H', rt := Q } (start N vs) H) :
    FnG P w K mg base CX (k + 1) f fd ps sp := by
  obtain ⟨oc, od, kV, doc, pm, an, cdv, ct, osl, rfl, lk, hcd⟩ := F.ex
  refine ⟨len, fun A outer s H args us vs Q E gd room e0 bnd rel want => ?_⟩
  -- the def run for this one A, by the layer's own rule over a promise that knows it
  have lv := len _ _ _ _ want
  have kin : K.In s.heap := e0.mod.kin.keeps (fun b o e => (e0.bs b o e).1)
  have nl : s.heap.NoLimit := e0.mod.nolimit.keeps (fun b o e => (e0.bs b o e).1)
  have kinds : ∀ y ∈ ps.zip us, (defScope st).names.lookup y.1 = some .local ∨
      ((defScope st).names.lookup y.1 = some .cell ∧
        ((cellsFrom (s.heap.objs.size + 1) (defScope st).names []).lookup y.1).isSome = true) := by
    rintro ⟨n, v⟩ hy
    rcases S.par n (List.of_mem_zip hy).1 with q | q
    · exact Or.inl q
    · exact Or.inr ⟨q, PySem.W.cellsFrom_some _ _ _ (Or.inl q)⟩
  refine codeAny_call_function room.depth (kin _ _ lk) rfl S.co S.gen rfl
    (PySem.W.codeRec_of kin hcd) (bnd _ _ _ _ ?_)
  refine wpAny_newFunctionEnv_cells S.kind kinds fun env he s1 into => ?_
  subst he
  refine ⟨nl.keeps into.toInCall.keep, codeAny_func ?_⟩
  obtain ⟨t, walk, reads⟩ := hbody cdv A outer s H vs Q E gd (room.deeper _) want
  have I : Inv (cxOf CX P w K mg base N qual (defScope st) f cdv A outer s H E) [] (start N vs) H s1 :=
    inv_start S room.hd e0 lv rel into
  refine wpAny_mono (walk.run [] s1 (start N vs) H _ I reads) (fun fl s' last => ?_) fun _ _ h => h
  match fl, last with
  | .ret u, ⟨v, σ', H', J, rv, q⟩ => exact ⟨v, H', J.os, J.bare, J.base, J.hok, rv, q⟩
  | .next, ⟨σ', H', J, q⟩ => exact ⟨V.non, H', J.os, J.bare, J.base, J.hok, rfl, q⟩
  | .brk, ⟨_, _, _, q⟩ => exact q.elim
  | .cont, ⟨_, _, _, q⟩ => exact q.elim
end

section
variable {X : Cx} {CX : CXT} {k : Nat} {f : Addr} {fd : FuncData} {ps ks : List Str} {sp : Sp} {E : L2.St → XK} {x : Str} {p pos : Pos} {e : Expr}
  {es : List Expr} {t tk : TA} {kws : List Keyword} {g : List Value → List Value → List Value} {gV : List V → List V → List V}
theorem after_of {pins : List (Addr × Obj)} {σ : L2.St} {H : Hp} {s s' : Shared} {Q : VK} {r : Result} (hx : PassesAt CX X σ (E σ))
    (I : Inv X pins σ H s) (q : CR CX X.stack X.prog X.w H s Q (E σ) r s') :
    match r with
    | .error e => X.xe e s'
    | .ok (.ret u) => EP X pins σ Q u s'
    | .ok _ => False := by
  match r, q with
  | .error e, q => exact hx pins H s e s' I q
  | .ok (.ret u), q => exact I.after q
  | .ok .next, q => exact q
  | .ok .brk, q => exact q
  | .ok .cont, q => exact q
theorem run_g {pins : List (Addr × Obj)} {σ : L2.St} {H : Hp} {s : Shared} {Q : VK} {us : List Value} {vs : List V}
    (F : FnG X.prog X.w X.K X.mg X.base CX k f fd ps sp) (gd : X.A.guards = some []) (hr : Room k X.A) (hb : Binds X.K fd ps [])
    (hx : PassesAt CX X σ (E σ)) (I : Inv X pins σ H s) (r : Vals vs us) (h : sp vs H Q (E σ)) :
    wpAny (model X.prog X.w) X.A (call (.ref f) us) (EP X pins σ Q) X.xe s := by
  have hl : us.length = ps.length := r.length.symm.trans (F.len _ _ _ _ h)
  have hb2 := hb s us I.kIn (by rw [List.append_nil]; exact hl)
  rw [List.append_nil] at hb2
  refine wpAny_call (codeAny_mono (F.run X.A X.stack s H ⟨us, []⟩ us vs Q (E σ) gd hr I.env0 hb2 r h) fun r s' q => ?_)
  have q2 := after_of hx I q
  cases r with
  | error e => exact q2
  | ok fl =>
    cases fl with
    | ret u => exact q2
    | _ => exact q2.elim
theorem peg_call (F : FnG X.prog X.w X.K X.mg X.base CX k f fd ps sp) (gd : X.A.guards = some []) (hr : Room k X.A) (hg : Gl X x)
    (hm : X.mg x = some (.ref f)) (hk : PySem.W.keepIn X.K (.ref f) = true) (hb : Binds X.K fd ps []) (hx : ∀ σ, PassesAt CX X σ (E σ))
    (ha : PA X (e :: es) t) (hdb : (x == ("__debug__" : Str)) = false := by decide)
    (he : starEach (e :: es) X.env = (false, eval e X.env) :: starEach es X.env := by rfl)
    (hpl : (backTo pos (starEach es X.env)).any (·.1) = false := by rfl) :
    PE X (.Call (.Name x p) (e :: es) [] pos) (fun σ H Q => t σ H fun vs H1 => sp vs H1 Q (E σ)) := by
  refine ⟨fun pins s σ H Q I h => wpAny_Call_Name_kw (ld_glob I hg hm ?_ hdb)⟩
  refine PySem.W.callWith_K (h₀ := X.base) I.ok.mod.kin hk
    (thn (ha.run pos pins s σ H _ I h) fun us s1 ⟨vs, H1, I1, r, q⟩ => ⟨I1.kIn, run_g F gd hr hb (hx σ) I1 r q⟩) he hpl
theorem peg_call0 (F : FnG X.prog X.w X.K X.mg X.base CX k f fd ps sp) (gd : X.A.guards = some []) (hr : Room k X.A) (hg : Gl X x)
    (hm : X.mg x = some (.ref f)) (hk : PySem.W.keepIn X.K (.ref f) = true) (hb : Binds X.K fd ps []) (hx : ∀ σ, PassesAt CX X σ (E σ))
    (hdb : (x == ("__debug__" : Str)) = false := by decide) :
    PE X (.Call (.Name x p) [] [] pos) (fun σ H Q => sp [] H Q (E σ)) := by
  refine ⟨fun pins s σ H Q I h => wpAny_Call_Name_kw (ld_glob I hg hm ?_ hdb)⟩
  exact PySem.W.callWith_K0 I.kIn hk (run_g (us := []) F gd hr hb (hx σ) I .nil h)
theorem run_gk {pins : List (Addr × Obj)} {σ : L2.St} {H : Hp} {s : Shared} {Q : VK} {us ws : List Value} {vs zs : List V}
    (F : FnG X.prog X.w X.K X.mg X.base CX k f fd ps sp) (gd : X.A.guards = some []) (hr : Room k X.A)
    (hb : KBinds X.K fd ps ks g gV) (hx : PassesAt CX X σ (E σ)) (I : Inv X pins σ H s) (r : Vals vs us) (rz : Vals zs ws)
    (h : sp (gV vs zs) H Q (E σ)) : wpAny (model X.prog X.w) X.A (call (.ref f) us (ks.zip ws)) (EP X pins σ Q) X.xe s := by
  have r2 := hb.rel r rz
  have hl : (g us ws).length = ps.length := r2.length.symm.trans (F.len _ _ _ _ h)
  refine wpAny_call (codeAny_mono
    (F.run X.A X.stack s H ⟨us, ks.zip ws⟩ (g us ws) (gV vs zs) Q (E σ) gd hr I.env0 (hb.to s us ws I.kIn hl) r2 h) fun r s' q => ?_)
  have q2 := after_of hx I q
  cases r with
  | error e => exact q2
  | ok fl =>
    cases fl with
    | ret u => exact q2
    | _ => exact q2.elim
theorem peg_callK (F : FnG X.prog X.w X.K X.mg X.base CX k f fd ps sp) (gd : X.A.guards = some []) (hr : Room k X.A) (hg : Gl X x)
    (hm : X.mg x = some (.ref f)) (hk : PySem.W.keepIn X.K (.ref f) = true) (hb : KBinds X.K fd ps ks g gV) (hx : ∀ σ, PassesAt CX X σ (E σ))
    (ha : PA X (e :: es) t) (hkw : PK X kws tk)
    (hall : (backToKw pos (keywordEach kws X.env)).all (·.1.isSome) = true := by rfl)
    (hks : (backToKw pos (keywordEach kws X.env)).filterMap (·.1) = ks := by rfl) (hdb : (x == ("__debug__" : Str)) = false := by decide)
    (he : starEach (e :: es) X.env = (false, eval e X.env) :: starEach es X.env := by rfl)
    (hpl : ((backTo pos (starEach (e :: es) X.env)).any (·.1) || (backToKw pos (keywordEach kws X.env)).any (·.1.isNone)) = false := by rfl) :
    PE X (.Call (.Name x p) (e :: es) kws pos) (fun σ H Q => t σ H fun vs H1 => tk σ H1 fun zs H2 => sp (gV vs zs) H2 Q (E σ)) := by
  refine ⟨fun pins s σ H Q I h => wpAny_Call_Name_kw (ld_glob I hg hm ?_ hdb)⟩
  refine PySem.W.callWith_KW (h₀ := X.base) I.ok.mod.kin hk hall
    (thn (ha.run pos pins s σ H _ I h) fun us s1 ⟨vs, H1, I1, r, q⟩ => ?_) hpl he
  refine thn (hkw.run pos pins s1 σ H1 _ I1 q) fun ws s2 ⟨zs, H2, I2, rz, q2⟩ => ⟨I2.kIn, ?_⟩
  rw [hks]
  exact run_gk F gd hr hb (hx σ) I2 r rz q2
/-- all arguments by keywords, in the parameters' order -/
def KB0 (K : PySem.W.Frag) (fd : FuncData) (ps : List Str) : Prop := ∀ (s : Shared) (ws : List Value), K.In s.heap → ws.length = ps.length → BindsTo s fd ⟨[], ps.zip ws⟩ (ps.zip ws)
theorem kb0_of {K : PySem.W.Frag} {y qual : Str} {st : Stmt} {f : Addr} {fd : FuncData} {ps : List Str} (F : Fun K y qual st f fd)
    (h : ∀ (kV doc pm : Value) (an : Option Addr) (cdv ct : Value) (ws : List Value), ws.length = ps.length → bindArgs (PySem.W.fnOf y qual (defArgs st) (defBody st) (defScope st) .none kV doc pm an cdv ct) ⟨[], ps.zip ws⟩ = pure (ps.zip ws)) : KB0 K fd ps := by
  obtain ⟨oc, od, kV, doc, pm, an, cdv, ct, osl, rfl, lk, hcd⟩ := F.ex
  exact fun s ws _ hl => .of_eq (h kV doc pm an cdv ct ws hl)
theorem peg_callK0 (F : FnG X.prog X.w X.K X.mg X.base CX k f fd ps sp) (gd : X.A.guards = some []) (hr : Room k X.A) (hg : Gl X x)
    (hm : X.mg x = some (.ref f)) (hk : PySem.W.keepIn X.K (.ref f) = true) (hb : KB0 X.K fd ps) (hx : ∀ σ, PassesAt CX X σ (E σ))
    (hkw : PK X kws tk)
    (hall : (backToKw pos (keywordEach kws X.env)).all (·.1.isSome) = true := by rfl)
    (hks : (backToKw pos (keywordEach kws X.env)).filterMap (·.1) = ps := by rfl) (hdb : (x == ("__debug__" : Str)) = false := by decide)
    (hpl : ((backTo pos (starEach [] X.env)).any (·.1) || (backToKw pos (keywordEach kws X.env)).any (·.1.isNone)) = false := by rfl) :
    PE X (.Call (.Name x p) [] kws pos) (fun σ H Q => tk σ H fun zs H2 => sp zs H2 Q (E σ)) := by
  refine ⟨fun pins s σ H Q I h => wpAny_Call_Name_kw (ld_glob I hg hm ?_ hdb)⟩
  refine PySem.W.callWith_KW0 (h₀ := X.base) I.ok.mod.kin hk hall
    (thn (hkw.run pos pins s σ H _ I h) fun ws s2 ⟨zs, H2, I2, rz, q2⟩ => ⟨I2.kIn, ?_⟩) hpl
  rw [hks]
  have hl : ws.length = ps.length := rz.length.symm.trans (F.len _ _ _ _ q2)
  refine wpAny_call (codeAny_mono (F.run X.A X.stack s2 H2 ⟨[], ps.zip ws⟩ ws zs Q (E σ) gd hr I2.env0 (hb s2 ws I2.kIn hl) rz q2) fun r s' q => ?_)
  have q2 := after_of (hx σ) I2 q
  cases r with
  | error e => exact q2
  | ok fl =>
    cases fl with
    | ret u => exact q2
    | _ => exact q2.elim
end
end DL

set_option maxHeartbeats 1000000
/-! DL, part b: data, slots, the relation of a mirrored state to the abstract heap -/
namespace DL
open PySem PySem.Spec PyProof.Rows L2

abbrev Dt := PyData

/-! ### repr of data -/
def rRepr (K : PySem.W.Frag) : List V → Hp → VK → Prop := fun xs H Q => ∃ x d, xs = [x] ∧ Dp K H x d ∧ d.showable = true ∧
  SeqAt.shaped d = true ∧ d.shown.length ≤ sizeLine ∧ Q (.str d.shown) H
theorem call_repr_d {X : Cx} (gd : X.A.guards = some []) (hu : X.A.units + 65 < cLine) : CallR X (.builtin "repr") (rRepr X.K) := by
  intro pins s σ H xs us Q I r h
  obtain ⟨x, d, rfl, hd, hs, sh, hz, q⟩ := h
  cases r with
  | cons r0 rr =>
    cases rr
    rename_i u
    obtain ⟨as, rd⟩ := Dp.reads I d x u hd r0
    have hd2 : d.depth ≤ 64 := by
      have h2 : (d.canLay0 && decide (d.depth ≤ 64)) = true := sh
      rw [Bool.and_eq_true] at h2
      exact of_decide_eq_true h2.2
    have hnd : d.hasDict = false := by
      have h2 : (d.canLay0 && decide (d.depth ≤ 64)) = true := sh
      rw [Bool.and_eq_true] at h2
      exact PyData.hasDict_of_canLay d h2.1
    cases hd with
    | non => cases (show u = Value.none from r0); exact P.repr_of_none ⟨.str _, H, I.tok _, ⟨_, rfl⟩, q⟩
    | bl b => cases (show u = Value.bool b from r0); exact P.repr_of_bool ⟨.str _, H, I.tok _, ⟨_, rfl⟩, q⟩
    | int i =>
      obtain ⟨t, rfl⟩ := r0
      have hs2 : decide (i.natAbs.log2 < 1920) = true := by simpa [PyData.showable] using hs
      exact P.repr_of_int (of_decide_eq_true hs2) ⟨.str _, H, I.tok _, ⟨_, rfl⟩, q⟩
    | str y =>
      obtain ⟨t, rfl⟩ := r0
      exact P.repr_of_str ⟨.str _, H, I.tok _, ⟨_, rfl⟩, q⟩ (by simpa [PyData.shown] using hz)
    | lst hS hA =>
      cases (show u = Value.ref _ from r0)
      exact repr_of_reads' rd hs (PyData.noDict_hsm hnd) gd (by omega) (fun _ _ e => e)
        (fun h' u tk k => ⟨.str _, H, I.kept (t' := tk) k, ⟨_, rfl⟩, q⟩) hz
    | tup hS hA =>
      cases (show u = Value.ref _ from r0)
      exact repr_of_reads' rd hs (PyData.noDict_hsm hnd) gd (by omega) (fun _ _ e => e)
        (fun h' u tk k => ⟨.str _, H, I.kept (t' := tk) k, ⟨_, rfl⟩, q⟩) hz

/-! ### growth -/
/-- all that is tracked stays -/
def Gro (H H' : Hp) : Prop := ∀ b o, H b = some o → H' b = some o
theorem Gro.refl (H : Hp) : Gro H H := fun _ _ h => h
theorem Gro.trans {H H1 H2 : Hp} (a : Gro H H1) (b : Gro H1 H2) : Gro H H2 := fun x o h => b x o (a x o h)
theorem Gro.upd {H : Hp} {p : Addr} {o : HO} (h : H p = none) : Gro H (upd H p o) := fun b u e => by
  rw [upd_ne (ne_of_none e h)]
  exact e
theorem sqL_gro {K : PySem.W.Frag} {H H' : Hp} {a : Addr} {xs : List V} (g : Gro H H') (h : SqL K H a xs) : SqL K H' a xs := by
  rcases h with (h | ⟨o, h⟩) | h
  · exact .inl (.inl (g _ _ h))
  · exact .inl (.inr ⟨o, g _ _ h⟩)
  · exact .inr h
theorem sqT_gro {K : PySem.W.Frag} {H H' : Hp} {a : Addr} {xs : List V} (g : Gro H H') (h : SqT K H a xs) : SqT K H' a xs := by
  rcases h with (h | ⟨o, h⟩) | h
  · exact .inl (.inl (g _ _ h))
  · exact .inl (.inr ⟨o, g _ _ h⟩)
  · exact .inr h
/-! data as it lies: lists are tracked lists, tuples are read -/
mutual
inductive Dq (K : PySem.W.Frag) (H : Hp) : V → Dt → Prop where
  | non : Dq K H .non .none
  | bl (b : Bool) : Dq K H (.bl b) (.bool b)
  | int (i : Int) : Dq K H (.int i) (.int i)
  | str (x : Str) : Dq K H (.str x) (.str x)
  | lst {a : Addr} {xs : List V} {ds : List Dt} : H a = some (.lst xs) → DqAll K H xs ds → Dq K H (.ref a) (.list ds)
  | tup {a : Addr} {xs : List V} {ds : List Dt} : SqT K H a xs → DqAll K H xs ds → Dq K H (.ref a) (.tuple ds)
inductive DqAll (K : PySem.W.Frag) (H : Hp) : List V → List Dt → Prop where
  | nil : DqAll K H [] []
  | cons {v : V} {vs : List V} {d : Dt} {ds : List Dt} : Dq K H v d → DqAll K H vs ds → DqAll K H (v :: vs) (d :: ds)
end
mutual
theorem Dq.dp {K : PySem.W.Frag} {H : Hp} : ∀ {v : V} {d : Dt}, Dq K H v d → Dp K H v d
  | _, _, .non => .non
  | _, _, .bl b => .bl b
  | _, _, .int i => .int i
  | _, _, .str x => .str x
  | _, _, .lst h a => .lst (SqL.of h) (DqAll.dp a)
  | _, _, .tup h a => .tup h (DqAll.dp a)
theorem DqAll.dp {K : PySem.W.Frag} {H : Hp} : ∀ {vs : List V} {ds : List Dt}, DqAll K H vs ds → DpAll K H vs ds
  | _, _, .nil => .nil
  | _, _, .cons h a => .cons h.dp a.dp
end
mutual
theorem dq_gro {K : PySem.W.Frag} {H H' : Hp} (g : Gro H H') : ∀ {v : V} {d : Dt}, Dq K H v d → Dq K H' v d
  | _, _, .non => .non
  | _, _, .bl b => .bl b
  | _, _, .int i => .int i
  | _, _, .str x => .str x
  | _, _, .lst h a => .lst (g _ _ h) (dqA_gro g a)
  | _, _, .tup h a => .tup (sqT_gro g h) (dqA_gro g a)
theorem dqA_gro {K : PySem.W.Frag} {H H' : Hp} (g : Gro H H') : ∀ {vs : List V} {ds : List Dt}, DqAll K H vs ds → DqAll K H' vs ds
  | _, _, .nil => .nil
  | _, _, .cons h a => .cons (dq_gro g h) (dqA_gro g a)
end
theorem dqA_len {K : PySem.W.Frag} {H : Hp} : ∀ {vs : List V} {ds : List Dt}, DqAll K H vs ds → vs.length = ds.length
  | _, _, .nil => rfl
  | _, _, .cons _ a => congrArg (· + 1) (dqA_len a)
theorem dqA_get {K : PySem.W.Frag} {H : Hp} : ∀ {vs : List V} {ds : List Dt} {i : Nat} {d : Dt}, DqAll K H vs ds → ds[i]? = some d → ∃ v, vs[i]? = some v ∧ Dq K H v d
  | _, _, _, _, .nil, e => by simp at e
  | _, _, 0, _, .cons h _, e => by
    simp at e
    subst e
    exact ⟨_, rfl, h⟩
  | _, _, i + 1, _, .cons _ a, e => by
    obtain ⟨v, h1, h2⟩ := dqA_get a (show _ = _ from (by simpa using e))
    exact ⟨v, by simpa using h1, h2⟩
theorem dqA_getV {K : PySem.W.Frag} {H : Hp} : ∀ {vs : List V} {ds : List Dt} {i : Nat} {v : V}, DqAll K H vs ds → vs[i]? = some v → ∃ d, ds[i]? = some d ∧ Dq K H v d
  | _, _, _, _, .nil, e => by simp at e
  | _, _, 0, _, .cons h _, e => by
    simp at e
    subst e
    exact ⟨_, rfl, h⟩
  | _, _, i + 1, _, .cons _ a, e => by
    obtain ⟨v, h1, h2⟩ := dqA_getV a (show _ = _ from (by simpa using e))
    exact ⟨v, by simpa using h1, h2⟩
theorem dqA_app {K : PySem.W.Frag} {H : Hp} : ∀ {vs us : List V} {ds es : List Dt}, DqAll K H vs ds → DqAll K H us es → DqAll K H (vs ++ us) (ds ++ es)
  | _, _, _, _, .nil, b => b
  | _, _, _, _, .cons h a, b => .cons h (dqA_app a b)
theorem dqA_drop {K : PySem.W.Frag} {H : Hp} : ∀ {vs : List V} {ds : List Dt} (n : Nat), DqAll K H vs ds → DqAll K H (vs.drop n) (ds.drop n)
  | _, _, 0, a => a
  | _, _, _ + 1, .nil => .nil
  | _, _, n + 1, .cons _ a => dqA_drop n a
theorem dqA_take {K : PySem.W.Frag} {H : Hp} : ∀ {vs : List V} {ds : List Dt} (n : Nat), DqAll K H vs ds → DqAll K H (vs.take n) (ds.take n)
  | _, _, 0, _ => .nil
  | _, _, _ + 1, .nil => .nil
  | _, _, n + 1, .cons h a => .cons h (dqA_take n a)
theorem dqA_rev {K : PySem.W.Frag} {H : Hp} : ∀ {vs : List V} {ds : List Dt}, DqAll K H vs ds → DqAll K H vs.reverse ds.reverse
  | _, _, .nil => .nil
  | _, _, .cons h a => by
    rw [List.reverse_cons, List.reverse_cons]
    exact dqA_app (dqA_rev a) (.cons h .nil)
theorem dqA_ints {K : PySem.W.Frag} {H : Hp} : ∀ ns : List Int, DqAll K H (ns.map V.int) (ns.map PyData.int)
  | [] => .nil
  | n :: ns => .cons (.int n) (dqA_ints ns)
theorem dqA_bools {K : PySem.W.Frag} {H : Hp} : ∀ {vs : List V} {bs : List Bool}, DqAll K H vs (bs.map PyData.bool) → vs = bs.map V.bl
  | _, [], .nil => rfl
  | _, b :: bs, .cons h a => by
    cases h
    rw [dqA_bools a]
    rfl

/-! ### the mirrored state -/
/-- the feed of a law: its cells and three counters -/
structure Fd where
  cells : List Int
  spot : Int
  left : Int
  count : Int
/-- a slot of a mirrored frame: not assigned; data; a list of the frame's own that nobody else knows; the feed -/
inductive Sl where
  | un | dat (d : Dt) | own (ds : List Dt) | fd
abbrev Rho := List Sl
/-- an error: its class, its fields -/
structure Er where
  cls : Str
  fields : List (Str × Dt)
inductive Res (α : Type) where
  | ok (a : α) (φ : Fd) | err (e : Er) (φ : Fd) | no
def Res.bind {α β : Type} (r : Res α) (f : α → Fd → Res β) : Res β :=
  match r with
  | .ok a φ => f a φ
  | .err e φ => .err e φ
  | .no => .no
def opt {α : Type} : Option α → Fd → Res α
  | some a, φ => .ok a φ
  | none, _ => .no
abbrev ME := Rho → Fd → Res Dt
abbrev MT := Rho → Fd → Res Bool
abbrev MA := Rho → Fd → Res (List Dt)
inductive Fl where
  | nx (ρ : Rho) | rt (d : Dt) | bk (ρ : Rho) | ct (ρ : Rho) | ex (e : Er) (ρ : Rho)
abbrev MS := Rho → Fd → Res Fl

/-- of a law: the written part, its feed's keys, how an error lies; of a def's run: the feed's address, the feed's address, that of its cells, its keys, the addresses hidden from data, the heap at the entry, how an error lies -/
structure Lw where
  K : PySem.W.Frag
  k1 : Str
  k2 : Str
  k3 : Str
  k4 : Str
  er : Er → Value → Option Addr → Hp → Prop
structure Cn where
  L : Lw
  fa : Addr
  ca : Addr
  Z : Addr → Prop
  H0 : Hp
abbrev Cn.K (c : Cn) : PySem.W.Frag := c.L.K
abbrev Cn.er (c : Cn) := c.L.er
structure Cn.Ok (c : Cn) : Prop where
  zf : c.Z c.fa
  z0 : ∀ b, c.Z b → ∃ o, c.H0 b = some o
  cne : c.ca ≠ c.fa
  zc : ¬ c.Z c.ca
  c0 : ∃ o, c.H0 c.ca = some o
def fkv (c : Cn) (φ : Fd) : List (Key × V) := [(.inr c.L.k1, .ref c.ca), (.inr c.L.k2, .int φ.spot), (.inr c.L.k3, .int φ.left), (.inr c.L.k4, .int φ.count)]
/-- the heap as data may see it: without what is hidden and the lists of the frame's own -/
noncomputable def Fr (c : Cn) (O : Nat → Option Addr) (H : Hp) : Hp := open Classical in fun b => if c.Z b ∨ ∃ i, O i = some b then none else H b
theorem fr_some {c : Cn} {O : Nat → Option Addr} {H : Hp} {b : Addr} {o : HO} (h : Fr c O H b = some o) : H b = some o ∧ ¬ c.Z b ∧ ∀ i, O i ≠ some b := by
  unfold Fr at h
  split at h
  · cases h
  · rename_i hn
    exact ⟨h, fun z => hn (.inl z), fun i z => hn (.inr ⟨i, z⟩)⟩
theorem fr_of {c : Cn} {O : Nat → Option Addr} {H : Hp} {b : Addr} {o : HO} (h : H b = some o) (hz : ¬ c.Z b) (ho : ∀ i, O i ≠ some b) : Fr c O H b = some o := by
  unfold Fr
  rw [if_neg]
  · exact h
  · rintro (z | ⟨i, z⟩)
    · exact hz z
    · exact ho i z
/-- a slot as it lies -/
def SlotOk (c : Cn) (O : Nat → Option Addr) (H : Hp) (i : Nat) (v : Option (Option V)) : Sl → Prop
  | .un => True
  | .dat d => ∃ x, v = some (some x) ∧ Dq c.K (Fr c O H) x d
  | .own ds => ∃ a vs, O i = some a ∧ v = some (some (.ref a)) ∧ H a = some (.lst vs) ∧ DqAll c.K (Fr c O H) vs ds
  | .fd => v = some (some (.ref c.fa))
structure Rel (c : Cn) (O : Nat → Option Addr) (H : Hp) (σ : L2.St) (ρ : Rho) (φ : Fd) : Prop where
  ok : c.Ok
  slot : ∀ i s, ρ[i]? = some s → SlotOk c O H i σ[i]? s
  len : σ.length = ρ.length
  inj : ∀ i j a, O i = some a → O j = some a → i = j
  fin : ∃ B, ∀ i, B ≤ i → O i = none
  own : ∀ i a, O i = some a → (∃ o, H a = some o) ∧ c.H0 a = none
  feed : H c.fa = some (.dK (fkv c φ))
  cells : H c.ca = some (.lst (φ.cells.map V.int))
  entry : ∀ b o, c.H0 b = some o → b ≠ c.fa → H b = some o
/-- what an expression may do to the heap: make new things, move the feed -/
def Step (c : Cn) (H H' : Hp) : Prop := ∀ b o, H b = some o → b ≠ c.fa → H' b = some o
theorem Step.refl {c : Cn} (H : Hp) : Step c H H := fun _ _ h _ => h
theorem Step.trans {c : Cn} {H H1 H2 : Hp} (a : Step c H H1) (b : Step c H1 H2) : Step c H H2 := fun x o h n => b x o (a x o h n) n
theorem Step.of {c : Cn} {H H' : Hp} (g : Gro H H') : Step c H H' := fun b o h _ => g b o h
theorem Step.fr {c : Cn} {O : Nat → Option Addr} {H H' : Hp} (ok : c.Ok) (s : Step c H H') : Gro (Fr c O H) (Fr c O H') := fun b o h => by
  obtain ⟨h1, h2, h3⟩ := fr_some h
  exact fr_of (s b o h1 fun e => h2 (e ▸ ok.zf)) h2 h3
theorem Rel.fresh {c : Cn} {O : Nat → Option Addr} {H : Hp} {σ : L2.St} {ρ : Rho} {φ : Fd} (R : Rel c O H σ ρ φ) {p : Addr} (hp : H p = none) : ¬ c.Z p ∧ (∀ i, O i ≠ some p) ∧ p ≠ c.fa ∧ c.H0 p = none := by
  have pf : p ≠ c.fa := fun e => by rw [e, R.feed] at hp; cases hp
  refine ⟨fun z => ?_, fun i e => ?_, pf, ?_⟩
  · obtain ⟨o, h⟩ := R.ok.z0 p z
    rw [R.entry p o h pf] at hp
    cases hp
  · obtain ⟨⟨o, h⟩, _⟩ := R.own i p e
    rw [h] at hp
    cases hp
  · cases h : c.H0 p with
    | none => rfl
    | some o =>
      rw [R.entry p o h pf] at hp
      cases hp
theorem SlotOk.gro {c : Cn} {O : Nat → Option Addr} {H H' : Hp} {i : Nat} {v : Option (Option V)} {s : Sl} (ok : c.Ok) (st : Step c H H') (hf : O i ≠ some c.fa) (h : SlotOk c O H i v s) : SlotOk c O H' i v s := by
  cases s with
  | un => trivial
  | dat d => obtain ⟨x, e, p⟩ := h; exact ⟨x, e, dq_gro (st.fr ok) p⟩
  | own ds => obtain ⟨a, vs, e1, e2, e3, p⟩ := h; exact ⟨a, vs, e1, e2, st a _ e3 (fun e => hf (e ▸ e1)), dqA_gro (st.fr ok) p⟩
  | fd => exact h
theorem Rel.ownfa {c : Cn} {O : Nat → Option Addr} {H : Hp} {σ : L2.St} {ρ : Rho} {φ : Fd} (R : Rel c O H σ ρ φ) (i : Nat) : O i ≠ some c.fa := fun e => by
  obtain ⟨_, h⟩ := R.own i _ e
  obtain ⟨o, h2⟩ := R.ok.z0 _ R.ok.zf
  rw [h] at h2
  cases h2
theorem Rel.gro {c : Cn} {O : Nat → Option Addr} {H H' : Hp} {σ : L2.St} {ρ : Rho} {φ : Fd} (R : Rel c O H σ ρ φ) (g : Gro H H') : Rel c O H' σ ρ φ :=
  ⟨R.ok, fun i s e => (R.slot i s e).gro R.ok (.of g) (R.ownfa i), R.len, R.inj, R.fin, fun i a e => let ⟨⟨o, h⟩, n⟩ := R.own i a e; ⟨⟨o, g a o h⟩, n⟩, g _ _ R.feed, g _ _ R.cells, fun b o h n => g b o (R.entry b o h n)⟩
/-- the feed moves, new things are made -/
theorem Rel.step {c : Cn} {O : Nat → Option Addr} {H H' : Hp} {σ : L2.St} {ρ : Rho} {φ φ' : Fd} (R : Rel c O H σ ρ φ) (s : Step c H H') (hf : H' c.fa = some (.dK (fkv c φ'))) (hc : H' c.ca = some (.lst (φ'.cells.map V.int))) : Rel c O H' σ ρ φ' :=
  ⟨R.ok, fun i sl e => (R.slot i sl e).gro R.ok s (R.ownfa i), R.len, R.inj, R.fin, fun i a e => let ⟨⟨o, h⟩, n⟩ := R.own i a e; ⟨⟨o, s a o h (fun z => R.ownfa i (z ▸ e))⟩, n⟩, hf, hc, fun b o h n => s b o (R.entry b o h n) n⟩

/-! ### what readings of mirrored code ask -/
/-- the wish about errors, at the slots -/
abbrev WX' := L2.WX
abbrev W0 : WX' := fun _ _ _ _ => False
def GE (c : Cn) (W : WX') (O : Nat → Option Addr) (σ : L2.St) (ρ : Rho) (H : Hp) (Q : VK) : Res Dt → Prop
  | .ok d φ' => ∀ v H', Rel c O H' σ ρ φ' → Step c H H' → Dq c.K (Fr c O H') v d → Q v H'
  | .err e φ' => ∀ C x H', Rel c O H' σ ρ φ' → c.er e C x H' → W C x σ H'
  | .no => False
def tD (c : Cn) (W : WX') (f : ME) : TE := fun σ H Q => ∃ O ρ φ, Rel c O H σ ρ φ ∧ GE c W O σ ρ H Q (f ρ φ)
def GT (c : Cn) (W : WX') (O : Nat → Option Addr) (σ : L2.St) (ρ : Rho) (H : Hp) (Q : Bool → Hp → Prop) : Res Bool → Prop
  | .ok b φ' => ∀ H', Rel c O H' σ ρ φ' → Step c H H' → Q b H'
  | .err e φ' => ∀ C x H', Rel c O H' σ ρ φ' → c.er e C x H' → W C x σ H'
  | .no => False
def tDT (c : Cn) (W : WX') (f : MT) : TT := fun σ H Q => ∃ O ρ φ, Rel c O H σ ρ φ ∧ GT c W O σ ρ H Q (f ρ φ)
def GA (c : Cn) (W : WX') (O : Nat → Option Addr) (σ : L2.St) (ρ : Rho) (H : Hp) (Q : List V → Hp → Prop) : Res (List Dt) → Prop
  | .ok ds φ' => ∀ vs H', Rel c O H' σ ρ φ' → Step c H H' → DqAll c.K (Fr c O H') vs ds → Q vs H'
  | .err e φ' => ∀ C x H', Rel c O H' σ ρ φ' → c.er e C x H' → W C x σ H'
  | .no => False
def tDA (c : Cn) (W : WX') (f : MA) : TA := fun σ H Q => ∃ O ρ φ, Rel c O H σ ρ φ ∧ GA c W O σ ρ H Q (f ρ φ)
/-- F0: what data could see ahead of the statement -/
def GS (c : Cn) (W : WX') (F0 : Hp) (D : Ends) : Res Fl → Prop
  | .ok (.nx ρ') φ' => ∀ O' σ' H', Rel c O' H' σ' ρ' φ' → Gro F0 (Fr c O' H') → D.nx σ' H'
  | .ok (.bk ρ') φ' => ∀ O' σ' H', Rel c O' H' σ' ρ' φ' → Gro F0 (Fr c O' H') → D.bk σ' H'
  | .ok (.ct ρ') φ' => ∀ O' σ' H', Rel c O' H' σ' ρ' φ' → Gro F0 (Fr c O' H') → D.ct σ' H'
  | .ok (.rt d) φ' => ∀ O' σ' ρ' v H', Rel c O' H' σ' ρ' φ' → Dq c.K (Fr c O' H') v d → D.rt v H'
  | .ok (.ex e ρ') φ' => ∀ O' σ' C x H', Rel c O' H' σ' ρ' φ' → c.er e C x H' → W C x σ' H'
  | .err _ _ => False
  | .no => False
def tS (c : Cn) (W : WX') (f : MS) : TS := fun D σ H => ∃ O ρ φ, Rel c O H σ ρ φ ∧ GS c W (Fr c O H) D (f ρ φ)
theorem GS.gro {c : Cn} {W : WX'} {F0 F1 : Hp} {D : Ends} {r : Res Fl} (g : Gro F0 F1) (h : GS c W F0 D r) : GS c W F1 D r := by
  cases r with
  | ok f φ =>
    cases f with
    | nx ρ' => exact fun O' σ' H' R g' => h O' σ' H' R (g.trans g')
    | bk ρ' => exact fun O' σ' H' R g' => h O' σ' H' R (g.trans g')
    | ct ρ' => exact fun O' σ' H' R g' => h O' σ' H' R (g.trans g')
    | rt d => exact h
    | ex e ρ' => exact h
  | err e φ => exact h
  | no => exact h
theorem GE.step {c : Cn} {W : WX'} {O : Nat → Option Addr} {σ : L2.St} {ρ : Rho} {H H1 : Hp} {Q : VK} {r : Res Dt} (s : Step c H H1) (h : GE c W O σ ρ H Q r) : GE c W O σ ρ H1 Q r := by
  cases r with
  | ok d φ => exact fun v H' R t p => h v H' R (s.trans t) p
  | err e φ => exact h
  | no => exact h
theorem GT.step {c : Cn} {W : WX'} {O : Nat → Option Addr} {σ : L2.St} {ρ : Rho} {H H1 : Hp} {Q : Bool → Hp → Prop} {r : Res Bool} (s : Step c H H1) (h : GT c W O σ ρ H Q r) : GT c W O σ ρ H1 Q r := by
  cases r with
  | ok d φ => exact fun H' R t => h H' R (s.trans t)
  | err e φ => exact h
  | no => exact h
theorem GA.step {c : Cn} {W : WX'} {O : Nat → Option Addr} {σ : L2.St} {ρ : Rho} {H H1 : Hp} {Q : List V → Hp → Prop} {r : Res (List Dt)} (s : Step c H H1) (h : GA c W O σ ρ H Q r) : GA c W O σ ρ H1 Q r := by
  cases r with
  | ok d φ => exact fun v H' R t p => h v H' R (s.trans t) p
  | err e φ => exact h
  | no => exact h
section
variable {X : Cx}
theorem pe_imp {e : Expr} {t t' : TE} (h : PE X e t) (i : ∀ σ H Q, t' σ H Q → t σ H Q) : PE X e t' := ⟨fun pins s σ H Q I q => h.run pins s σ H Q I (i σ H Q q)⟩
theorem pt_imp {e : Expr} {t t' : TT} (h : PT X e t) (i : ∀ σ H Q, t' σ H Q → t σ H Q) : PT X e t' := ⟨fun pins s σ H Q I q => h.run pins s σ H Q I (i σ H Q q)⟩
theorem pw_imp {e : Expr} {t t' : TT} (h : PW X e t) (i : ∀ σ H Q, t' σ H Q → t σ H Q) : PW X e t' := ⟨fun wh pins s σ H Q I q => h.run wh pins s σ H Q I (i σ H Q q)⟩
theorem pa_imp {es : List Expr} {t t' : TA} (h : PA X es t) (i : ∀ σ H Q, t' σ H Q → t σ H Q) : PA X es t' := ⟨fun pos pins s σ H Q I q => h.run pos pins s σ H Q I (i σ H Q q)⟩
theorem pk_imp {es : List Keyword} {t t' : TA} (h : PK X es t) (i : ∀ σ H Q, t' σ H Q → t σ H Q) : PK X es t' := ⟨fun pos pins s σ H Q I q => h.run pos pins s σ H Q I (i σ H Q q)⟩
theorem ps_imp {st : Stmt} {t t' : TS} (h : PS X st t) (i : ∀ D σ H, t' D σ H → t D σ H) : PS X st t' := ⟨fun pins s σ H D I q => h.run pins s σ H D I (i D σ H q)⟩
theorem pss_imp {st : List Stmt} {t t' : TS} (h : PSs X st t) (i : ∀ D σ H, t' D σ H → t D σ H) : PSs X st t' := ⟨fun pins s σ H D I q => h.run pins s σ H D I (i D σ H q)⟩
end
end DL

set_option maxHeartbeats 1000000
/-! DL, part c: expressions -/
namespace DL
open PySem PySem.Spec PyProof.Rows L2

/-! ### names, constants -/
def mVar (i : Nat) : ME := fun ρ φ => match ρ[i]? with | some (.dat d) => .ok d φ | _ => .no
def mC (d : Dt) : ME := fun _ φ => .ok d φ
def m2 (g : Dt → Dt → Option Dt) (f1 f2 : ME) : ME := fun ρ φ => (f1 ρ φ).bind fun x φ1 => (f2 ρ φ1).bind fun y φ2 => opt (g x y) φ2
def m1 (g : Dt → Option Dt) (f1 : ME) : ME := fun ρ φ => (f1 ρ φ).bind fun x φ1 => opt (g x) φ1

/-- what an operation by values asks: the answer's data at a grown heap -/
def Ans (c : Cn) (O : Nat → Option Addr) (H : Hp) (Q : VK) (z : Dt) : Prop := ∀ v H', Gro H H' → Dq c.K (Fr c O H') v z → Q v H'
/-- new things are seen -/
def Nw (c : Cn) (O : Nat → Option Addr) (H : Hp) : Prop := ∀ p, H p = none → ¬ c.Z p ∧ ∀ i, O i ≠ some p
def OpD (c : Cn) (r : R2) (g : Dt → Dt → Option Dt) : Prop := ∀ (O : Nat → Option Addr) (H : Hp) (x y : V) (d1 d2 z : Dt) (Q : VK), Nw c O H →
  Dq c.K (Fr c O H) x d1 → Dq c.K (Fr c O H) y d2 → g d1 d2 = some z → Ans c O H Q z → r x y H Q
def CaD (c : Cn) (r : List V → Hp → VK → Prop) (g : List Dt → Option Dt) : Prop := ∀ (O : Nat → Option Addr) (H : Hp) (xs : List V) (ds : List Dt) (z : Dt) (Q : VK), Nw c O H →
  DqAll c.K (Fr c O H) xs ds → g ds = some z → Ans c O H Q z → r xs H Q
theorem Rel.nw {c : Cn} {O : Nat → Option Addr} {H : Hp} {σ : L2.St} {ρ : Rho} {φ : Fd} (R : Rel c O H σ ρ φ) : Nw c O H := fun p hp => let ⟨a, b, _, _⟩ := R.fresh hp; ⟨a, b⟩

section
variable {X : Cx} {c : Cn} {W : WX'} {pos : Pos} {a b : Expr} {f f1 f2 : ME}
theorem fr_gro {O : Nat → Option Addr} {H H' : Hp} (g : Gro H H') : Gro (Fr c O H) (Fr c O H') := fun b o h => by
  obtain ⟨h1, h2, h3⟩ := fr_some h
  exact fr_of (g b o h1) h2 h3
/-- a sequence of two: the first one's end -/
theorem ge_bind {O : Nat → Option Addr} {σ : L2.St} {ρ : Rho} {H : Hp} {Q : VK} {r : Res Dt} {k : Dt → Fd → Res Dt} {R : VK} (h : GE c W O σ ρ H Q (r.bind k))
    (go : ∀ d φ' v H', r = .ok d φ' → Rel c O H' σ ρ φ' → Step c H H' → Dq c.K (Fr c O H') v d → GE c W O σ ρ H' Q (k d φ') → R v H') : GE c W O σ ρ H R r := by
  cases r with
  | ok d φ' => exact fun v H' R' st p => go d φ' v H' rfl R' st p (GE.step st h)
  | err e φ' => exact h
  | no => exact h
theorem ge_opt {O : Nat → Option Addr} {σ : L2.St} {ρ : Rho} {φ : Fd} {H : Hp} {Q : VK} {o : Option Dt} (R : Rel c O H σ ρ φ) (h : GE c W O σ ρ H Q (opt o φ)) : ∃ z, o = some z ∧ Ans c O H Q z := by
  cases o with
  | none => exact h.elim
  | some z => exact ⟨z, rfl, fun v H' g p => h v H' (R.gro g) (.of g) p⟩
theorem ge_ok {O : Nat → Option Addr} {σ : L2.St} {ρ : Rho} {φ : Fd} {H : Hp} {Q : VK} {z : Dt} (R : Rel c O H σ ρ φ) (h : GE c W O σ ρ H Q (.ok z φ)) : Ans c O H Q z := fun v H' g p => h v H' (R.gro g) (.of g) p

theorem qe_var {i : Nat} {x : Str} (hN : X.N[i]? = some x := by rfl) (hv : Vis X.env.scope x := by first | exact Or.inl rfl | exact Or.inr (Or.inl rfl) | exact Or.inr (Or.inr rfl))
    (hd : (x == ("__debug__" : Str)) = false := by decide) (hcd : (x == ("__classdict__" : Str)) = false := by decide) : PE X (.Name x pos) (tD c W (mVar i)) :=
  pe_imp (pe_var hN hv hd hcd) fun σ H Q ⟨O, ρ, φ, R, h⟩ => by
    unfold mVar at h
    split at h
    · rename_i d e
      obtain ⟨x, e1, p⟩ := R.slot i _ e
      exact ⟨x, e1, h x H R (.refl H) p⟩
    · exact h.elim
theorem qe_c {e : Expr} {v : V} {d : Dt} (h : PE X e (tC v)) (hd : ∀ H, Dq c.K H v d) : PE X e (tD c W (mC d)) :=
  pe_imp h fun σ H Q ⟨O, ρ, φ, R, h⟩ => h v H R (.refl H) (hd _)
theorem qe_int {i : Int} {j : Nat} : PE X (.Constant (.int i) j pos) (tD c W (mC (.int i))) := qe_c pe_int fun _ => .int i
theorem qe_bl {i : Bool} {j : Nat} : PE X (.Constant (.bool i) j pos) (tD c W (mC (.bool i))) := qe_c pe_bl fun _ => .bl i
theorem qe_non {j : Nat} : PE X (.Constant .none j pos) (tD c W (mC .none)) := qe_c pe_non fun _ => .non
theorem qe_str {i : Str} {j : Nat} : PE X (.Constant (.str i) j pos) (tD c W (mC (.str i))) := qe_c pe_str fun _ => .str i
/-- a module's constant -/
theorem qe_glob {x : Str} {v : V} {u : Value} {d : Dt} (hg : Gl X x) (hm : X.mg x = some u) (r : RelV v u) (hd : ∀ H, Dq c.K H v d) (hdb : (x == ("__debug__" : Str)) = false := by decide) : PE X (.Name x pos) (tD c W (mC d)) :=
  qe_c (pe_glob hg hm r hdb) hd

/-! ### two-place operations -/
theorem t_op {r : R2} {g : Dt → Dt → Option Dt} (hr : OpD c r g) {σ : L2.St} {H : Hp} {Q : VK} (h : tD c W (m2 g f1 f2) σ H Q) : tOp r (tD c W f1) (tD c W f2) σ H Q := by
  obtain ⟨O, ρ, φ, R, h⟩ := h
  refine ⟨O, ρ, φ, R, ge_bind h fun x φ1 v H1 _ R1 s1 p1 h1 => ?_⟩
  refine ⟨O, ρ, φ1, R1, ge_bind h1 fun y φ2 u H2 _ R2 s2 p2 h2 => ?_⟩
  obtain ⟨z, e, k⟩ := ge_opt R2 h2
  exact hr O H2 v u x y z Q R2.nw (dq_gro (s2.fr R.ok) p1) p2 e k
theorem qe_bin {op : Operator} {r : R2} {g : Dt → Dt → Option Dt} (ho : OpR X (binaryOp op) r) (hr : OpD c r g) (ha : PE X a (tD c W f1)) (hb : PE X b (tD c W f2)) : PE X (.BinOp a op b pos) (tD c W (m2 g f1 f2)) :=
  pe_imp (pe_op ho ha hb) fun _ _ _ h => t_op hr h
theorem qe_cmp {op : CmpOp} {r : R2} {g : Dt → Dt → Option Dt} (ho : OpR X (compareOp op) r) (hr : OpD c r g) (ha : PE X a (tD c W f1)) (hb : PE X b (tD c W f2))
    (hm : behindInMarks op b = false := by first | exact nobehind _ (by decide) (by decide) | rfl) : PE X (.Compare a [op] [b] pos) (tD c W (m2 g f1 f2)) :=
  pe_imp (pe_cmpR ho ha hb hm) fun _ _ _ h => t_op hr h
theorem qe_ix {r : R2} {g : Dt → Dt → Option Dt} (ho : IxR X r) (hr : OpD c r g) (ha : PE X a (tD c W f1)) (hb : PE X b (tD c W f2)) (hs : PlainIx b := by exact fun _ _ => rfl) : PE X (.Subscript a b pos) (tD c W (m2 g f1 f2)) :=
  pe_imp (pe_ix ho ha hb hs) fun _ _ _ h => t_op hr h

/-! ### tests -/
def mtE (f : ME) (t : Dt → Option Bool) : MT := fun ρ φ => (f ρ φ).bind fun x φ1 => opt (t x) φ1
def mtNot (t : MT) : MT := fun ρ φ => (t ρ φ).bind fun x φ1 => .ok (!x) φ1
def mtAnd (t u : MT) : MT := fun ρ φ => (t ρ φ).bind fun x φ1 => if x = true then u ρ φ1 else .ok false φ1
def mtOr (t u : MT) : MT := fun ρ φ => (t ρ φ).bind fun x φ1 => if x = true then .ok true φ1 else u ρ φ1
/-- a value's truth (texts, as they go, are short) -/
def truth : Dt → Option Bool
  | .none => some false
  | .bool b => some b
  | .int i => some (i != 0)
  | .str x => if x.length ≤ sizeLine then some ((x.length : Int) != 0) else none
  | .list xs => some (!xs.isEmpty)
  | .tuple xs => some (!xs.isEmpty)
  | .dict _ => none
def asBool : Dt → Option Bool
  | .bool b => some b
  | _ => none
theorem isEmpty_eq {α β : Type} {xs : List α} {ys : List β} (h : xs.length = ys.length) : xs.isEmpty = ys.isEmpty := by
  cases xs <;> cases ys <;> simp_all
theorem truth_ok {K : PySem.W.Frag} {F H : Hp} {v : V} {d : Dt} {b : Bool} (g : Gro F H) (h : Dq K F v d) (e : truth d = some b) : TruV K v H b := by
  cases h with
  | non => exact (Option.some.inj e).symm
  | bl x => exact (Option.some.inj e).symm
  | int i => exact (Option.some.inj e).symm
  | str x =>
    have e' : (if x.length ≤ sizeLine then some ((x.length : Int) != 0) else none) = some b := e
    by_cases hz : x.length ≤ sizeLine
    · rw [if_pos hz] at e'
      exact ⟨hz, (Option.some.inj e').symm⟩
    · rw [if_neg hz] at e'
      cases e'
  | lst h1 h2 => exact Or.inl ⟨_, SqL.of (g _ _ h1), by rw [isEmpty_eq (dqA_len h2)]; exact (Option.some.inj e).symm⟩
  | tup h1 h2 => exact Or.inr (Or.inl ⟨_, sqT_gro g h1, by rw [isEmpty_eq (dqA_len h2)]; exact (Option.some.inj e).symm⟩)
theorem fr_in {O : Nat → Option Addr} {H : Hp} : Gro (Fr c O H) H := fun b o h => (fr_some h).1
theorem gt_bind {β : Type} {O : Nat → Option Addr} {σ : L2.St} {ρ : Rho} {H : Hp} {Q : Bool → Hp → Prop} {r : Res Dt} {k : Dt → Fd → Res Bool} {R : VK} (h : GT c W O σ ρ H Q (r.bind k))
    (go : ∀ d φ' v H', r = .ok d φ' → Rel c O H' σ ρ φ' → Step c H H' → Dq c.K (Fr c O H') v d → GT c W O σ ρ H' Q (k d φ') → R v H') : GE c W O σ ρ H R r := by
  cases r with
  | ok d φ' => exact fun v H' R' st p => go d φ' v H' rfl R' st p (GT.step st h)
  | err e φ' => exact h
  | no => exact h
theorem qt_val (hK : X.K = c.K) (ha : PE X a (tD c W f)) (he : ∀ whole, isTrue a X.env whole = (do let v ← whole; standAt a.pos; holding [v] (truthy v)) := by intro _; rfl) : PT X a (tDT c W (mtE f truth)) :=
  pt_imp (pt_truth ha he) fun σ H Q ⟨O, ρ, φ, R, h⟩ => ⟨O, ρ, φ, R, gt_bind (β := Unit) h fun d φ1 v H1 _ R1 s1 p h1 => by
    cases e : truth d with
    | none => rw [e] at h1; exact h1.elim
    | some k =>
      rw [e] at h1
      exact ⟨k, truth_ok fr_in (hK ▸ p) e, h1 H1 R1 (.refl _)⟩⟩
theorem qt_cmp {op : CmpOp} {r : R2} {g : Dt → Dt → Option Dt} (ho : OpR X (compareOp op) r) (hr : OpD c r g) (ha : PE X a (tD c W f1)) (hb : PE X b (tD c W f2))
    (hm : behindInMarks op b = false := by first | exact nobehind _ (by decide) (by decide) | rfl) : PT X (.Compare a [op] [b] pos) (tDT c W (mtE (m2 g f1 f2) asBool)) :=
  pt_imp (pt_cmpR ho ha hb hm) fun σ H Q ⟨O, ρ, φ, R, h⟩ => by
    refine t_op (c := c) (W := W) hr ⟨O, ρ, φ, R, gt_bind (β := Unit) h fun d φ1 v H1 _ R1 s1 p h1 => ?_⟩
    cases p with
    | bl k => exact ⟨k, rfl, h1 H1 R1 (.refl _)⟩
    | _ => exact h1.elim
variable {t u : MT} {rest : List Expr}
theorem gtt_bind {O : Nat → Option Addr} {σ : L2.St} {ρ : Rho} {H : Hp} {Q R : Bool → Hp → Prop} {r : Res Bool} {k : Bool → Fd → Res Bool} (h : GT c W O σ ρ H Q (r.bind k))
    (go : ∀ d φ' H', r = .ok d φ' → Rel c O H' σ ρ φ' → Step c H H' → GT c W O σ ρ H' Q (k d φ') → R d H') : GT c W O σ ρ H R r := by
  cases r with
  | ok d φ' => exact fun H' R' st => go d φ' H' rfl R' st (GT.step st h)
  | err e φ' => exact h
  | no => exact h
theorem qt_not (ha : PT X a (tDT c W t)) : PT X (.UnaryOp .Not a pos) (tDT c W (mtNot t)) :=
  pt_imp (pt_not ha) fun σ H Q ⟨O, ρ, φ, R, h⟩ => ⟨O, ρ, φ, R, gtt_bind h fun d φ1 H1 _ R1 s1 h1 => h1 H1 R1 (.refl _)⟩
theorem qw_and1 (ha : PT X a (tDT c W t)) : PW X (.BoolOp .And [a] pos) (tDT c W t) := pw_and1 ha
theorem qw_or1 (ha : PT X a (tDT c W t)) : PW X (.BoolOp .Or [a] pos) (tDT c W t) := pw_or1 ha
theorem qw_and (ha : PT X a (tDT c W t)) (hb : PW X (.BoolOp .And (b :: rest) pos) (tDT c W u)) : PW X (.BoolOp .And (a :: b :: rest) pos) (tDT c W (mtAnd t u)) :=
  pw_imp (pw_and ha hb) fun σ H Q ⟨O, ρ, φ, R, h⟩ => ⟨O, ρ, φ, R, gtt_bind h fun d φ1 H1 _ R1 s1 h1 => by
    cases d with
    | true => rw [if_pos rfl] at h1 ⊢; exact ⟨O, ρ, φ1, R1, h1⟩
    | false => rw [if_neg Bool.false_ne_true] at h1 ⊢; exact h1 H1 R1 (.refl _)⟩
theorem qw_or (ha : PT X a (tDT c W t)) (hb : PW X (.BoolOp .Or (b :: rest) pos) (tDT c W u)) : PW X (.BoolOp .Or (a :: b :: rest) pos) (tDT c W (mtOr t u)) :=
  pw_imp (pw_or ha hb) fun σ H Q ⟨O, ρ, φ, R, h⟩ => ⟨O, ρ, φ, R, gtt_bind h fun d φ1 H1 _ R1 s1 h1 => by
    cases d with
    | true => rw [if_pos rfl] at h1 ⊢; exact h1 H1 R1 (.refl _)
    | false => rw [if_neg Bool.false_ne_true] at h1 ⊢; exact ⟨O, ρ, φ1, R1, h1⟩⟩

/-! ### and, or, not as values; a if t else b -/
def mNot (f : ME) : ME := m1 (fun d => (truth d).map fun b => .bool (!b)) f
def mAnd (f1 f2 : ME) : ME := fun ρ φ => (f1 ρ φ).bind fun x φ1 => (opt (truth x) φ1).bind fun b φ2 => if b = true then f2 ρ φ2 else .ok x φ2
def mOr (f1 f2 : ME) : ME := fun ρ φ => (f1 ρ φ).bind fun x φ1 => (opt (truth x) φ1).bind fun b φ2 => if b = true then .ok x φ2 else f2 ρ φ2
def mIf (t : MT) (f1 f2 : ME) : ME := fun ρ φ => (t ρ φ).bind fun b φ1 => if b = true then f1 ρ φ1 else f2 ρ φ1
theorem qe_not (hK : X.K = c.K) (ha : PE X a (tD c W f)) : PE X (.UnaryOp .Not a pos) (tD c W (mNot f)) :=
  pe_imp (pe_notT ha) fun σ H Q ⟨O, ρ, φ, R, h⟩ => ⟨O, ρ, φ, R, ge_bind h fun d φ1 v H1 _ R1 s1 p h1 => by
    cases e : truth d with
    | none => simp only [e] at h1; exact h1.elim
    | some k =>
      simp only [e] at h1
      exact ⟨k, truth_ok fr_in (hK ▸ p) e, h1 _ H1 R1 (.refl _) (.bl _)⟩⟩
theorem qe_one {op : BoolOp} (ha : PE X a (tD c W f)) : PE X (.BoolOp op [a] pos) (tD c W f) := pe_one ha
theorem qe_and (hK : X.K = c.K) (ha : PE X a (tD c W f1)) (hb : PE X (.BoolOp .And (b :: rest) pos) (tD c W f2)) : PE X (.BoolOp .And (a :: b :: rest) pos) (tD c W (mAnd f1 f2)) :=
  pe_imp (pe_andT ha hb) fun σ H Q ⟨O, ρ, φ, R, h⟩ => ⟨O, ρ, φ, R, ge_bind h fun d φ1 v H1 _ R1 s1 p h1 => by
    cases e : truth d with
    | none => rw [e] at h1; exact h1.elim
    | some k =>
      rw [e] at h1
      refine ⟨k, truth_ok fr_in (hK ▸ p) e, ?_⟩
      cases k with
      | true => exact ⟨O, ρ, φ1, R1, h1⟩
      | false => exact h1 v H1 R1 (.refl _) p⟩
theorem qe_or (hK : X.K = c.K) (ha : PE X a (tD c W f1)) (hb : PE X (.BoolOp .Or (b :: rest) pos) (tD c W f2)) : PE X (.BoolOp .Or (a :: b :: rest) pos) (tD c W (mOr f1 f2)) :=
  pe_imp (pe_orT ha hb) fun σ H Q ⟨O, ρ, φ, R, h⟩ => ⟨O, ρ, φ, R, ge_bind h fun d φ1 v H1 _ R1 s1 p h1 => by
    cases e : truth d with
    | none => rw [e] at h1; exact h1.elim
    | some k =>
      rw [e] at h1
      refine ⟨k, truth_ok fr_in (hK ▸ p) e, ?_⟩
      cases k with
      | true => exact h1 v H1 R1 (.refl _) p
      | false => exact ⟨O, ρ, φ1, R1, h1⟩⟩
theorem getT_bind {O : Nat → Option Addr} {σ : L2.St} {ρ : Rho} {H : Hp} {Q : VK} {R : Bool → Hp → Prop} {r : Res Bool} {k : Bool → Fd → Res Dt} (h : GE c W O σ ρ H Q (r.bind k))
    (go : ∀ d φ' H', r = .ok d φ' → Rel c O H' σ ρ φ' → Step c H H' → GE c W O σ ρ H' Q (k d φ') → R d H') : GT c W O σ ρ H R r := by
  cases r with
  | ok d φ' => exact fun H' R' st => go d φ' H' rfl R' st (GE.step st h)
  | err e φ' => exact h
  | no => exact h
theorem qe_if {q : Expr} (hq : PT X q (tDT c W t)) (ha : PE X a (tD c W f1)) (hb : PE X b (tD c W f2)) : PE X (.IfExp q a b pos) (tD c W (mIf t f1 f2)) :=
  pe_imp (pe_ifExp hq ha hb) fun σ H Q ⟨O, ρ, φ, R, h⟩ => ⟨O, ρ, φ, R, getT_bind h fun d φ1 H1 _ R1 s1 h1 => by
    cases d with
    | true => exact ⟨O, ρ, φ1, R1, h1⟩
    | false => exact ⟨O, ρ, φ1, R1, h1⟩⟩

def negD : Dt → Option Dt
  | .int i => some (.int (-i))
  | _ => none
theorem qe_neg (ha : PE X a (tD c W f)) : PE X (.UnaryOp .USub a pos) (tD c W (m1 negD f)) :=
  pe_imp (pe_un un_neg ha) fun σ H Q ⟨O, ρ, φ, R, h⟩ => ⟨O, ρ, φ, R, ge_bind h fun d φ1 v H1 _ R1 s1 p h1 => by
    cases p with
    | int i => exact ⟨i, rfl, h1 _ H1 R1 (.refl _) (.int _)⟩
    | _ => exact h1.elim⟩

/-! ### argument lists, displays, calls of built-ins -/
def maNil : MA := fun _ φ => .ok [] φ
def maCons (f : ME) (g : MA) : MA := fun ρ φ => (f ρ φ).bind fun x φ1 => (g ρ φ1).bind fun xs φ2 => .ok (x :: xs) φ2
variable {fa : MA} {e : Expr} {es : List Expr}
theorem qa_nil : PA X [] (tDA c W maNil) := pa_imp pa_nil fun σ H Q ⟨O, ρ, φ, R, h⟩ => h [] H R (.refl _) .nil
theorem gae_bind {O : Nat → Option Addr} {σ : L2.St} {ρ : Rho} {H : Hp} {Q : List V → Hp → Prop} {r : Res Dt} {k : Dt → Fd → Res (List Dt)} {R : VK} (h : GA c W O σ ρ H Q (r.bind k))
    (go : ∀ d φ' v H', r = .ok d φ' → Rel c O H' σ ρ φ' → Step c H H' → Dq c.K (Fr c O H') v d → GA c W O σ ρ H' Q (k d φ') → R v H') : GE c W O σ ρ H R r := by
  cases r with
  | ok d φ' => exact fun v H' R' st p => go d φ' v H' rfl R' st p (GA.step st h)
  | err e φ' => exact h
  | no => exact h
theorem gaa_bind {O : Nat → Option Addr} {σ : L2.St} {ρ : Rho} {H : Hp} {Q R : List V → Hp → Prop} {r : Res (List Dt)} {k : List Dt → Fd → Res (List Dt)} (h : GA c W O σ ρ H Q (r.bind k))
    (go : ∀ d φ' v H', r = .ok d φ' → Rel c O H' σ ρ φ' → Step c H H' → DqAll c.K (Fr c O H') v d → GA c W O σ ρ H' Q (k d φ') → R v H') : GA c W O σ ρ H R r := by
  cases r with
  | ok d φ' => exact fun v H' R' st p => go d φ' v H' rfl R' st p (GA.step st h)
  | err e φ' => exact h
  | no => exact h
theorem gea_bind {O : Nat → Option Addr} {σ : L2.St} {ρ : Rho} {H : Hp} {Q : VK} {R : List V → Hp → Prop} {r : Res (List Dt)} {k : List Dt → Fd → Res Dt} (h : GE c W O σ ρ H Q (r.bind k))
    (go : ∀ d φ' v H', r = .ok d φ' → Rel c O H' σ ρ φ' → Step c H H' → DqAll c.K (Fr c O H') v d → GE c W O σ ρ H' Q (k d φ') → R v H') : GA c W O σ ρ H R r := by
  cases r with
  | ok d φ' => exact fun v H' R' st p => go d φ' v H' rfl R' st p (GE.step st h)
  | err e φ' => exact h
  | no => exact h
theorem ta_cons {σ : L2.St} {H : Hp} {Q : List V → Hp → Prop} (h : tDA c W (maCons f fa) σ H Q) : tCons (tD c W f) (tDA c W fa) σ H Q := by
  obtain ⟨O, ρ, φ, R, h⟩ := h
  refine ⟨O, ρ, φ, R, gae_bind h fun x φ1 v H1 _ R1 s1 p1 h1 => ?_⟩
  refine ⟨O, ρ, φ1, R1, gaa_bind h1 fun xs φ2 vs H2 _ R2 s2 p2 h2 => ?_⟩
  exact h2 (v :: vs) H2 R2 (.refl _) (.cons (dq_gro (s2.fr R.ok) p1) p2)
theorem qa_cons (ha : PE X e (tD c W f)) (hr : PA X es (tDA c W fa)) (hs : starEach (e :: es) X.env = (false, eval e X.env) :: starEach es X.env := by rfl) : PA X (e :: es) (tDA c W (maCons f fa)) :=
  pa_imp (pa_cons ha hr hs) fun _ _ _ h => ta_cons h
def mTup (g : MA) : ME := fun ρ φ => (g ρ φ).bind fun xs φ1 => if xs.length ≤ sizeLine then .ok (.tuple xs) φ1 else .no
def mLst (g : MA) : ME := fun ρ φ => (g ρ φ).bind fun xs φ1 => if xs.length ≤ sizeLine then .ok (.list xs) φ1 else .no
theorem new_tup {O : Nat → Option Addr} {H : Hp} {vs : List V} {ds : List Dt} {Q : VK} (n : Nw c O H) (p : DqAll c.K (Fr c O H) vs ds) (k : Ans c O H Q (.tuple ds)) {a : Addr} (ha : H a = none) : Q (.ref a) (upd H a (.tup vs)) :=
  k _ _ (Gro.upd ha) (.tup (.inl (.inl (fr_of upd_same (n a ha).1 (n a ha).2))) (dqA_gro (fr_gro (Gro.upd ha)) p))
theorem new_lst {O : Nat → Option Addr} {H : Hp} {vs : List V} {ds : List Dt} {Q : VK} (n : Nw c O H) (p : DqAll c.K (Fr c O H) vs ds) (k : Ans c O H Q (.list ds)) {a : Addr} (ha : H a = none) : Q (.ref a) (upd H a (.lst vs)) :=
  k _ _ (Gro.upd ha) (.lst (fr_of upd_same (n a ha).1 (n a ha).2) (dqA_gro (fr_gro (Gro.upd ha)) p))
theorem qe_tup {k : Nat} (h : PA X es (tDA c W fa)) : PE X (.Tuple es k pos) (tD c W (mTup fa)) :=
  pe_imp (pe_tup h) fun σ H Q ⟨O, ρ, φ, R, h⟩ => ⟨O, ρ, φ, R, gea_bind h fun ds φ1 vs H1 _ R1 s1 p h1 => by
    by_cases z : ds.length ≤ sizeLine
    · rw [if_pos z] at h1
      exact ⟨by rw [dqA_len p]; exact z, fun a ha => new_tup R1.nw p (ge_ok R1 h1) ha⟩
    · rw [if_neg z] at h1
      exact h1.elim⟩
theorem qe_lst (h : PA X es (tDA c W fa)) : PE X (.List es pos) (tD c W (mLst fa)) :=
  pe_imp (pe_lst h) fun σ H Q ⟨O, ρ, φ, R, h⟩ => ⟨O, ρ, φ, R, gea_bind h fun ds φ1 vs H1 _ R1 s1 p h1 => by
    by_cases z : ds.length ≤ sizeLine
    · rw [if_pos z] at h1
      exact ⟨by rw [dqA_len p]; exact z, fun a ha => new_lst R1.nw p (ge_ok R1 h1) ha⟩
    · rw [if_neg z] at h1
      exact h1.elim⟩
def mCa (g : List Dt → Option Dt) (f : MA) : ME := fun ρ φ => (f ρ φ).bind fun xs φ1 => opt (g xs) φ1
theorem t_ca {r : List V → Hp → VK → Prop} {g : List Dt → Option Dt} (hr : CaD c r g) {σ : L2.St} {H : Hp} {Q : VK} (h : tD c W (mCa g fa) σ H Q) : tCB r (tDA c W fa) σ H Q := by
  obtain ⟨O, ρ, φ, R, h⟩ := h
  refine ⟨O, ρ, φ, R, gea_bind h fun ds φ1 vs H1 _ R1 s1 p h1 => ?_⟩
  obtain ⟨z, e, k⟩ := ge_opt R1 h1
  exact hr O H1 vs ds z Q R1.nw p e k
theorem qe_callB {x : Str} {id : String} {r : List V → Hp → VK → Prop} {g : List Dt → Option Dt} {p : Pos} (hc : CallR X (.builtin id) r) (hr : CaD c r g) (hm : X.mg x = none) (ha : PA X (e :: es) (tDA c W fa)) (hg : Gl X x := by rfl) (hv : bootBuiltins x = some (.builtin id) := by decide +kernel)
    (hn : x ≠ "__name__" := by decide) (hdb : (x == ("__debug__" : Str)) = false := by decide)
    (he : starEach (e :: es) X.env = (false, eval e X.env) :: starEach es X.env := by rfl) (hpl : (backTo pos (starEach es X.env)).any (·.1) = false := by rfl) : PE X (.Call (.Name x p) (e :: es) [] pos) (tD c W (mCa g fa)) :=
  pe_imp (pe_callB hc hg hm hv ha hn hdb he hpl) fun _ _ _ h => t_ca hr h
theorem qe_callTy {x : Str} {T : String} {r : List V → Hp → VK → Prop} {g : List Dt → Option Dt} {p : Pos} (hc : CallR X (.type T) r) (hr : CaD c r g) (hm : X.mg x = none) (ha : PA X (e :: es) (tDA c W fa)) (hg : Gl X x := by rfl) (hv : bootBuiltins x = some (.type T) := by decide +kernel)
    (hn : x ≠ "__name__" := by decide) (hdb : (x == ("__debug__" : Str)) = false := by decide)
    (he : starEach (e :: es) X.env = (false, eval e X.env) :: starEach es X.env := by rfl) (hpl : (backTo pos (starEach es X.env)).any (·.1) = false := by rfl) : PE X (.Call (.Name x p) (e :: es) [] pos) (tD c W (mCa g fa)) :=
  pe_imp (pe_callTy hc hg hm hv ha hn hdb he hpl) fun _ _ _ h => t_ca hr h
end
end DL

set_option maxHeartbeats 1000000
/-! DL, part d: operations by values -/
namespace DL
open PySem PySem.Spec PyProof.Rows L2

theorem opr_or {X : Cx} {f : Value → Value → Sem Value} {r r' : R2} (h : OpR X f r) (h' : OpR X f r') : OpR X f (fun x y H Q => r x y H Q ∨ r' x y H Q) := by
  intro pins s σ H x y v u Q I rx ry q
  rcases q with q | q
  · exact h pins s σ H x y v u Q I rx ry q
  · exact h' pins s σ H x y v u Q I rx ry q
theorem slr_or {X : Cx} {r r' : V → Option Int → Option Int → Hp → VK → Prop} (h : SlR X r) (h' : SlR X r') : SlR X (fun x lo hi H Q => r x lo hi H Q ∨ r' x lo hi H Q) := by
  intro pins s σ H x v vl vu lo hi sl Q I rx hs pl pu q
  rcases q with q | q
  · exact h pins s σ H x v vl vu lo hi sl Q I rx hs pl pu q
  · exact h' pins s σ H x v vl vu lo hi sl Q I rx hs pl pu q

section
variable {X : Cx} {c : Cn}
theorem ans_here {O : Nat → Option Addr} {H : Hp} {Q : VK} {z : Dt} {v : V} (k : Ans c O H Q z) (p : Dq c.K (Fr c O H) v z) : Q v H := k v H (Gro.refl H) p

/-! ### arithmetic -/
def subD : Dt → Dt → Option Dt
  | .int i, .int j => some (.int (i - j))
  | _, _ => none
def fdivD : Dt → Dt → Option Dt
  | .int i, .int j => if 0 < j ∧ j < 1073741824 then some (.int (i / j)) else none
  | _, _ => none
def modD : Dt → Dt → Option Dt
  | .int i, .int j => if 0 < j then some (.int (i % j)) else none
  | _, _ => none
def powD : Dt → Dt → Option Dt
  | .int i, .int j => if 0 ≤ j ∧ j ≤ 1000000 ∧ i.natAbs < 2 ^ 64 then some (.int (i ^ j.toNat)) else none
  | _, _ => none
def mulD : Dt → Dt → Option Dt
  | .int i, .int j => if (-(2 ^ 64) < i ∧ i < 2 ^ 64) ∨ (-(2 ^ 64) < j ∧ j < 2 ^ 64) then some (.int (i * j)) else none
  | _, _ => none
def addD : Dt → Dt → Option Dt
  | .int i, .int j => some (.int (i + j))
  | .str x, .str y => if x.length + y.length ≤ sizeLine then some (.str (x ++ y)) else none
  | .tuple xs, .tuple ys => if xs.length + ys.length ≤ sizeLine then some (.tuple (xs ++ ys)) else none
  | .list xs, .list ys => if xs.length + ys.length ≤ sizeLine then some (.list (xs ++ ys)) else none
  | _, _ => none
theorem sub_d : OpD c (rI0 fun i j => .int (i - j)) subD := fun O H x y d1 d2 z Q _ h1 h2 e k => by
  cases h1 <;> cases h2 <;> first | cases e | skip
  exact ⟨_, _, rfl, rfl, ans_here k (.int _)⟩
theorem fdiv_d : OpD c (rI CDiv fun i j => .int (i / j)) fdivD := fun O H x y d1 d2 z Q _ h1 h2 e k => by
  cases h1 <;> cases h2 <;> first | cases e | skip
  rename_i i j
  have e' : (if 0 < j ∧ j < 1073741824 then some (PyData.int (i / j)) else none) = some z := e
  by_cases hc : 0 < j ∧ j < 1073741824
  · rw [if_pos hc] at e'
    cases e'
    exact ⟨_, _, rfl, rfl, hc, ans_here k (.int _)⟩
  · rw [if_neg hc] at e'
    cases e'
theorem mod_d : OpD c (rI (fun _ j => 0 < j) fun i j => .int (i % j)) modD := fun O H x y d1 d2 z Q _ h1 h2 e k => by
  cases h1 <;> cases h2 <;> first | cases e | skip
  rename_i i j
  have e' : (if 0 < j then some (PyData.int (i % j)) else none) = some z := e
  by_cases hc : 0 < j
  · rw [if_pos hc] at e'
    cases e'
    exact ⟨_, _, rfl, rfl, hc, ans_here k (.int _)⟩
  · rw [if_neg hc] at e'
    cases e'
theorem pow_d : OpD c (rI CPow fun i j => .int (i ^ j.toNat)) powD := fun O H x y d1 d2 z Q _ h1 h2 e k => by
  cases h1 <;> cases h2 <;> first | cases e | skip
  rename_i i j
  have e' : (if 0 ≤ j ∧ j ≤ 1000000 ∧ i.natAbs < 2 ^ 64 then some (PyData.int (i ^ j.toNat)) else none) = some z := e
  by_cases hc : 0 ≤ j ∧ j ≤ 1000000 ∧ i.natAbs < 2 ^ 64
  · rw [if_pos hc] at e'
    cases e'
    exact ⟨_, _, rfl, rfl, hc, ans_here k (.int _)⟩
  · rw [if_neg hc] at e'
    cases e'
theorem mul_d : OpD c (rI CMul fun i j => .int (i * j)) mulD := fun O H x y d1 d2 z Q _ h1 h2 e k => by
  cases h1 <;> cases h2 <;> first | cases e | skip
  rename_i i j
  have e' : (if (-(2 ^ 64) < i ∧ i < 2 ^ 64) ∨ (-(2 ^ 64) < j ∧ j < 2 ^ 64) then some (PyData.int (i * j)) else none) = some z := e
  by_cases hc : (-(2 ^ 64) < i ∧ i < 2 ^ 64) ∨ (-(2 ^ 64) < j ∧ j < 2 ^ 64)
  · rw [if_pos hc] at e'
    cases e'
    exact ⟨_, _, rfl, rfl, hc, ans_here k (.int _)⟩
  · rw [if_neg hc] at e'
    cases e'
def rAddS : R2 := fun x y H Q => ∃ i j, x = .str i ∧ y = .str j ∧ i.length + j.length ≤ sizeLine ∧ Q (.str (i ++ j)) H
def rAddD (K : PySem.W.Frag) : R2 := fun x y H Q => ((rI0 (fun i j => V.int (i + j)) x y H Q ∨ rAddS x y H Q) ∨ rCatA K x y H Q) ∨ rCat x y H Q
theorem op_addD : OpR X (binaryOp .Add) (rAddD X.K) := opr_or (opr_or (opr_or op_add op_add_str) op_catA) op_cat
theorem add_d {K : PySem.W.Frag} (hK : K = c.K) : OpD c (rAddD K) addD := fun O H x y d1 d2 z Q n h1 h2 e k => by
  subst hK
  cases h1 with
  | int i =>
    cases h2 <;> first | cases e | skip
    exact .inl (.inl (.inl ⟨_, _, rfl, rfl, ans_here k (.int _)⟩))
  | str x =>
    cases h2 <;> first | cases e | skip
    rename_i y
    have e' : (if x.length + y.length ≤ sizeLine then some (PyData.str (x ++ y)) else none) = some z := e
    by_cases hz : x.length + y.length ≤ sizeLine
    · rw [if_pos hz] at e'
      cases e'
      exact .inl (.inl (.inr ⟨_, _, rfl, rfl, hz, ans_here k (.str _)⟩))
    · rw [if_neg hz] at e'
      cases e'
  | @tup a xs ds g1 p1 =>
    cases h2 <;> first | cases e | skip
    rename_i b ys es g2 p2
    have e' : (if ds.length + es.length ≤ sizeLine then some (PyData.tuple (ds ++ es)) else none) = some z := e
    by_cases hz : ds.length + es.length ≤ sizeLine
    · rw [if_pos hz] at e'
      cases e'
      refine .inl (.inr ⟨_, _, _, _, rfl, rfl, sqT_gro fr_in g1, sqT_gro fr_in g2, by rw [dqA_len p1, dqA_len p2]; exact hz, fun h => ?_, fun h h' => ?_, fun h h' p hp => ?_⟩)
      · refine ans_here k ?_
        have : ds = [] := by
          have := dqA_len p1
          rw [h] at this
          exact List.eq_nil_of_length_eq_zero this.symm
        rw [this]
        exact .tup g2 p2
      · refine ans_here k ?_
        have : es = [] := by
          have := dqA_len p2
          rw [h'] at this
          exact List.eq_nil_of_length_eq_zero this.symm
        rw [this, List.append_nil]
        exact .tup g1 p1
      · exact new_tup n (dqA_app p1 p2) k hp
    · rw [if_neg hz] at e'
      cases e'
  | @lst a xs ds g1 p1 =>
    cases h2 <;> first | cases e | skip
    rename_i b ys es g2 p2
    have e' : (if ds.length + es.length ≤ sizeLine then some (PyData.list (ds ++ es)) else none) = some z := e
    by_cases hz : ds.length + es.length ≤ sizeLine
    · rw [if_pos hz] at e'
      cases e'
      exact .inr ⟨_, _, _, _, rfl, rfl, fr_in _ _ g1, fr_in _ _ g2, by rw [dqA_len p1, dqA_len p2]; exact hz, fun p hp => new_lst n (dqA_app p1 p2) k hp⟩
    · rw [if_neg hz] at e'
      cases e'
  | _ => cases h2 <;> cases e

/-! ### comparisons -/
def eqD : Dt → Dt → Option Dt := fun x y => if SeqAt.shaped x = true ∧ SeqAt.shaped y = true then some (.bool (PyData.eqv x y)) else none
def neD : Dt → Dt → Option Dt := fun x y => if SeqAt.shaped x = true ∧ SeqAt.shaped y = true then some (.bool (!PyData.eqv x y)) else none
theorem eq_d {K : PySem.W.Frag} (hK : K = c.K) : OpD c (rEqD K) eqD := fun O H x y d1 d2 z Q _ h1 h2 e k => by
  subst hK
  unfold eqD at e
  by_cases hs : SeqAt.shaped d1 = true ∧ SeqAt.shaped d2 = true
  · rw [if_pos hs] at e
    cases e
    exact ⟨d1, d2, (dq_gro fr_in h1).dp, (dq_gro fr_in h2).dp, hs.1, hs.2, ans_here k (.bl _)⟩
  · rw [if_neg hs] at e
    cases e
theorem ne_d {K : PySem.W.Frag} (hK : K = c.K) : OpD c (rNeD K) neD := fun O H x y d1 d2 z Q _ h1 h2 e k => by
  subst hK
  unfold neD at e
  by_cases hs : SeqAt.shaped d1 = true ∧ SeqAt.shaped d2 = true
  · rw [if_pos hs] at e
    cases e
    exact ⟨d1, d2, (dq_gro fr_in h1).dp, (dq_gro fr_in h2).dp, hs.1, hs.2, ans_here k (.bl _)⟩
  · rw [if_neg hs] at e
    cases e
def cmpD (p : Int → Int → Bool) : Dt → Dt → Option Dt
  | .int i, .int j => some (.bool (p i j))
  | _, _ => none
theorem cmp_d {p : Int → Int → Bool} : OpD c (rI0 fun i j => .bl (p i j)) (cmpD p) := fun O H x y d1 d2 z Q _ h1 h2 e k => by
  cases h1 <;> cases h2 <;> first | cases e | skip
  exact ⟨_, _, rfl, rfl, ans_here k (.bl _)⟩
abbrev ltD := cmpD fun i j => decide (i < j)
abbrev leD := cmpD fun i j => decide (i ≤ j)
abbrev gtD := cmpD fun i j => decide (j < i)
abbrev geD := cmpD fun i j => decide (j ≤ i)
/-- flat data -/
def flatD : Dt → Bool
  | .none => true
  | .bool _ => true
  | .int _ => true
  | .str _ => true
  | _ => false
theorem flat_ok {K : PySem.W.Frag} {H : Hp} {v : V} {d : Dt} (h : Dq K H v d) (e : flatD d = true) : flatV v = true := by
  cases h <;> first | rfl | cases e
theorem eqV_ok {K : PySem.W.Frag} {H : Hp} {v u : V} {d e : Dt} (h : Dq K H v d) (g : Dq K H u e) (f1 : flatD d = true) (f2 : flatD e = true) : eqV v u = PyData.eqv d e := by
  cases h <;> cases g <;> first | (cases f1; done) | (cases f2; done) | rfl | (simp only [eqV, PyData.eqv])
theorem flats_ok {K : PySem.W.Frag} {H : Hp} : ∀ {vs : List V} {ds : List Dt}, DqAll K H vs ds → ds.all flatD = true → vs.all flatV = true
  | _, _, .nil, _ => rfl
  | _, _, .cons h a, e => by
    rw [List.all_cons, Bool.and_eq_true] at e ⊢
    exact ⟨flat_ok h e.1, flats_ok a e.2⟩
theorem inV_ok {K : PySem.W.Frag} {H : Hp} {x : V} {dx : Dt} (hx : Dq K H x dx) (fx : flatD dx = true) : ∀ {vs : List V} {ds : List Dt}, DqAll K H vs ds → ds.all flatD = true → inV x vs = ds.any fun y => PyData.eqv y dx
  | _, _, .nil, _ => rfl
  | _, _, .cons h a, e => by
    rw [List.all_cons, Bool.and_eq_true] at e
    have ih := inV_ok hx fx a e.2
    unfold inV at ih ⊢
    rw [List.any_cons, List.any_cons, ih, eqV_ok h hx e.1 fx]
/-- x in y: y a text and x one sign or more; y flat items; y a list of data -/
def isInB (x y : Dt) : Option Bool :=
  match x, y with
  | .str a, .str b => some (!(Builtin.Str.occurrences b a 0 b.length 1).isEmpty)
  | x, .tuple ys => if flatD x = true ∧ ys.all flatD = true then some (ys.any fun y => PyData.eqv y x) else none
  | x, .list ys => if SeqAt.shaped x = true ∧ SeqAt.shaped (.list ys) = true then some (ys.any fun y => PyData.eqv y x) else none
  | _, _ => none
def inD (x y : Dt) : Option Dt := (isInB x y).map .bool
def ninD (x y : Dt) : Option Dt := (isInB x y).map fun b => .bool (!b)
def rInDt (K : PySem.W.Frag) : R2 := fun x y H Q => ((fun x y H Q => ∃ i j, x = V.str i ∧ y = V.str j ∧ Q (.bl (!(Builtin.Str.occurrences j i 0 j.length 1).isEmpty)) H) x y H Q ∨ rIn K false x y H Q) ∨ L2.rInD K x y H Q
def rNInDt (K : PySem.W.Frag) : R2 := fun x y H Q => ((fun x y H Q => ∃ i j, x = V.str i ∧ y = V.str j ∧ Q (.bl (!(!(Builtin.Str.occurrences j i 0 j.length 1).isEmpty))) H) x y H Q ∨ rIn K true x y H Q) ∨ L2.rNotInD K x y H Q
theorem op_inDt (hu : X.A.units + 65 < cLine) : OpR X (compareOp .In) (rInDt X.K) := opr_or (opr_or op_in_str op_in_seq) (op_inD hu)
theorem op_ninDt (hu : X.A.units + 65 < cLine) : OpR X (compareOp .NotIn) (rNInDt X.K) := opr_or (opr_or op_notin_str op_notIn_seq) (op_notInD hu)
theorem map_some_eq {α β : Type} {f : α → β} {o : Option α} {z : β} (h : o.map f = some z) : ∃ a, o = some a ∧ f a = z := by
  cases o with
  | none => cases h
  | some a => exact ⟨a, rfl, Option.some.inj h⟩
theorem in_d {K : PySem.W.Frag} (hK : K = c.K) : OpD c (rInDt K) inD := fun O H x y d1 d2 z Q _ h1 h2 e k => by
  subst hK
  obtain ⟨b, q, rfl⟩ := map_some_eq e
  clear e
  have kk := ans_here k (.bl b)
  cases h2 with
  | str j =>
    cases h1 with
    | str i => cases q; exact .inl (.inl ⟨i, j, rfl, rfl, kk⟩)
    | _ => cases q
  | @tup a xs ds g2 p2 =>
    have e' : (if flatD d1 = true ∧ ds.all flatD = true then some (ds.any fun y => PyData.eqv y d1) else none) = some b := by
      cases h1 <;> exact q
    by_cases hf : flatD d1 = true ∧ ds.all flatD = true
    · rw [if_pos hf] at e'
      cases e'
      exact .inl (.inr ⟨_, _, rfl, .inr (sqT_gro fr_in g2), flat_ok h1 hf.1, flats_ok p2 hf.2, by rw [if_neg Bool.false_ne_true, inV_ok h1 hf.1 p2 hf.2]; exact kk⟩)
    · rw [if_neg hf] at e'
      cases e'
  | @lst a xs ds g2 p2 =>
    have e' : (if SeqAt.shaped d1 = true ∧ SeqAt.shaped (.list ds) = true then some (ds.any fun y => PyData.eqv y d1) else none) = some b := by
      cases h1 <;> exact q
    by_cases hf : SeqAt.shaped d1 = true ∧ SeqAt.shaped (.list ds) = true
    · rw [if_pos hf] at e'
      cases e'
      exact .inr ⟨d1, ds, (dq_gro fr_in h1).dp, (dq_gro fr_in (.lst g2 p2)).dp, hf.1, hf.2, kk⟩
    · rw [if_neg hf] at e'
      cases e'
  | _ => cases h1 <;> cases q
theorem nin_d {K : PySem.W.Frag} (hK : K = c.K) : OpD c (rNInDt K) ninD := fun O H x y d1 d2 z Q _ h1 h2 e k => by
  subst hK
  obtain ⟨b, q, rfl⟩ := map_some_eq e
  clear e
  have kk := ans_here k (.bl (!b))
  cases h2 with
  | str j =>
    cases h1 with
    | str i => cases q; exact .inl (.inl ⟨i, j, rfl, rfl, kk⟩)
    | _ => cases q
  | @tup a xs ds g2 p2 =>
    have e' : (if flatD d1 = true ∧ ds.all flatD = true then some (ds.any fun y => PyData.eqv y d1) else none) = some b := by
      cases h1 <;> exact q
    by_cases hf : flatD d1 = true ∧ ds.all flatD = true
    · rw [if_pos hf] at e'
      cases e'
      exact .inl (.inr ⟨_, _, rfl, .inr (sqT_gro fr_in g2), flat_ok h1 hf.1, flats_ok p2 hf.2, by rw [if_pos rfl, inV_ok h1 hf.1 p2 hf.2]; exact kk⟩)
    · rw [if_neg hf] at e'
      cases e'
  | @lst a xs ds g2 p2 =>
    have e' : (if SeqAt.shaped d1 = true ∧ SeqAt.shaped (.list ds) = true then some (ds.any fun y => PyData.eqv y d1) else none) = some b := by
      cases h1 <;> exact q
    by_cases hf : SeqAt.shaped d1 = true ∧ SeqAt.shaped (.list ds) = true
    · rw [if_pos hf] at e'
      cases e'
      exact .inr ⟨d1, ds, (dq_gro fr_in h1).dp, (dq_gro fr_in (.lst g2 p2)).dp, hf.1, hf.2, kk⟩
    · rw [if_neg hf] at e'
      cases e'
  | _ => cases h1 <;> cases q

/-! ### subscripts -/
def ixD : Dt → Dt → Option Dt
  | .list xs, .int i => atI xs i
  | .tuple xs, .int i => atI xs i
  | .str x, .int i => if x.length ≤ sizeLine then (atI x.cps.toList i).map fun n => .str ⟨#[n]⟩ else none
  | _, _ => none
theorem atI_dq {K : PySem.W.Frag} {H : Hp} {vs : List V} {ds : List Dt} {i : Int} {d : Dt} (h : DqAll K H vs ds) (e : atI ds i = some d) : ∃ v, atI vs i = some v ∧ Dq K H v d := by
  unfold atI at e ⊢
  rw [dqA_len h]
  cases q : ixN ds.length i with
  | none => rw [q] at e; cases e
  | some j =>
    rw [q] at e
    exact dqA_get h e
theorem ix_d {K : PySem.W.Frag} (hK : K = c.K) : OpD c (rIx K) ixD := fun O H x y d1 d2 z Q _ h1 h2 e k => by
  subst hK
  cases h1 with
  | lst g1 p1 =>
    cases h2 with
    | int i =>
      obtain ⟨v, ev, pv⟩ := atI_dq p1 e
      exact .inl ⟨_, _, i, v, rfl, rfl, SqL.of (fr_in _ _ g1), ev, ans_here k pv⟩
    | _ => cases e
  | tup g1 p1 =>
    cases h2 with
    | int i =>
      obtain ⟨v, ev, pv⟩ := atI_dq p1 e
      exact .inr (.inl ⟨_, _, i, v, rfl, rfl, sqT_gro fr_in g1, ev, ans_here k pv⟩)
    | _ => cases e
  | str x =>
    cases h2 with
    | int i =>
      have e' : (if x.length ≤ sizeLine then (atI x.cps.toList i).map fun n => PyData.str ⟨#[n]⟩ else none) = some z := e
      by_cases hz : x.length ≤ sizeLine
      · rw [if_pos hz] at e'
        obtain ⟨n, en, rfl⟩ := map_some_eq e'
        exact .inr (.inr ⟨x, i, n, rfl, rfl, hz, en, ans_here k (.str _)⟩)
      · rw [if_neg hz] at e'
        cases e'
    | _ => cases e
  | _ => cases h2 <;> cases e

/-! ### slices -/
def cutL {α : Type} (xs : List α) (lo hi : Option Int) : List α := (xs.drop (HT.sIx xs.length 0 lo)).take (HT.sIx xs.length xs.length hi - HT.sIx xs.length 0 lo)
def slD (x : Dt) (lo hi : Option Int) : Option Dt :=
  match x with
  | .list xs => some (.list (cutL xs lo hi))
  | .tuple xs => some (.tuple (cutL xs lo hi))
  | .str z => if z.length ≤ sizeLine then some (.str (cutS z lo hi)) else none
  | _ => none
theorem cut_dq {K : PySem.W.Frag} {H : Hp} {vs : List V} {ds : List Dt} {lo hi : Option Int} (h : DqAll K H vs ds) : DqAll K H (cutV vs lo hi) (cutL ds lo hi) := by
  unfold cutV cutL
  rw [dqA_len h]
  exact dqA_take _ (dqA_drop _ h)
theorem cut_whole {α : Type} {xs : List α} {lo hi : Option Int} (h : HT.sIx xs.length 0 lo = 0 ∧ HT.sIx xs.length xs.length hi = xs.length) : cutL xs lo hi = xs := by
  unfold cutL
  rw [h.1, h.2, List.drop_zero, Nat.sub_zero, List.take_length]
def rSlD (K : PySem.W.Frag) : V → Option Int → Option Int → Hp → VK → Prop := fun x lo hi H Q => (rSlL K x lo hi H Q ∨ rSlA K x lo hi H Q) ∨ rSlS x lo hi H Q
theorem sl_D : SlR X (rSlD X.K) := slr_or (slr_or sl_list sl_tupA) sl_str
theorem sl_d {K : PySem.W.Frag} (hK : K = c.K) {O : Nat → Option Addr} {H : Hp} {x : V} {d z : Dt} {lo hi : Option Int} {Q : VK} (n : Nw c O H) (h : Dq c.K (Fr c O H) x d) (e : slD d lo hi = some z) (k : Ans c O H Q z) : rSlD K x lo hi H Q := by
  subst hK
  cases h with
  | lst g p =>
    cases e
    exact .inl (.inl ⟨_, _, rfl, SqL.of (fr_in _ _ g), fun q hq => new_lst n (cut_dq p) k hq⟩)
  | tup g p =>
    cases e
    refine .inl (.inr ⟨_, _, rfl, sqT_gro fr_in g, fun hw => ans_here k ?_, fun hw q hq => new_tup n (cut_dq p) k hq⟩)
    rw [dqA_len p] at hw
    rw [cut_whole hw]
    exact .tup g p
  | str y =>
    have e' : (if y.length ≤ sizeLine then some (PyData.str (cutS y lo hi)) else none) = some z := e
    by_cases hz : y.length ≤ sizeLine
    · rw [if_pos hz] at e'
      cases e'
      exact .inr ⟨y, rfl, hz, ans_here k (.str _)⟩
    · rw [if_neg hz] at e'
      cases e'
  | _ => cases e
/-- a part of a slice: left out, or an int -/
abbrev MO := Rho → Fd → Res (Option Int)
def moNone : MO := fun _ φ => .ok none φ
def asInt : Dt → Option Int
  | .int i => some i
  | _ => none
def moSome (f : ME) : MO := fun ρ φ => (f ρ φ).bind fun x φ1 => (opt (asInt x) φ1).bind fun i φ2 => .ok (some i) φ2
def mSl (f : ME) (l h : MO) : ME := fun ρ φ => (f ρ φ).bind fun x φ1 => (l ρ φ1).bind fun a φ2 => (h ρ φ2).bind fun b φ3 => opt (slD x a b) φ3
def GO (c : Cn) (W : WX') (O : Nat → Option Addr) (σ : L2.St) (ρ : Rho) (H : Hp) (Q : Option Int → Hp → Prop) : Res (Option Int) → Prop
  | .ok o φ' => ∀ H', Rel c O H' σ ρ φ' → Step c H H' → Q o H'
  | .err e φ' => ∀ C x H', Rel c O H' σ ρ φ' → c.er e C x H' → W C x σ H'
  | .no => False
def tDO (c : Cn) (W : WX') (f : MO) : TO := fun σ H Q => ∃ O ρ φ, Rel c O H σ ρ φ ∧ GO c W O σ ρ H Q (f ρ φ)
variable {W : WX'} {pos : Pos} {a : Expr} {f : ME} {l h : MO}
theorem po_imp {e : Option Expr} {t t' : TO} (h : PO X e t) (i : ∀ σ H Q, t' σ H Q → t σ H Q) : PO X e t' := ⟨fun pins s σ H Q I q => h.run pins s σ H Q I (i σ H Q q)⟩
theorem qo_none : PO X none (tDO c W moNone) := po_imp po_none fun σ H Q ⟨O, ρ, φ, R, h⟩ => h H R (.refl _)
theorem goe_bind {O : Nat → Option Addr} {σ : L2.St} {ρ : Rho} {H : Hp} {Q : Option Int → Hp → Prop} {r : Res Dt} {k : Dt → Fd → Res (Option Int)} {R : VK} (h : GO c W O σ ρ H Q (r.bind k))
    (go : ∀ d φ' v H', r = .ok d φ' → Rel c O H' σ ρ φ' → Step c H H' → Dq c.K (Fr c O H') v d → GO c W O σ ρ H' Q (k d φ') → R v H') : GE c W O σ ρ H R r := by
  cases r with
  | ok d φ' => exact fun v H' R' st p => go d φ' v H' rfl R' st p (by
      have h' : GO c W O σ ρ H Q (k d φ') := h
      revert h'
      cases k d φ' with
      | ok o φ2 => exact fun h' H2 R2 s2 => h' H2 R2 (st.trans s2)
      | err e φ2 => exact fun h' => h'
      | no => exact fun h' => h')
  | err e φ' => exact h
  | no => exact h
theorem geo_bind {O : Nat → Option Addr} {σ : L2.St} {ρ : Rho} {H : Hp} {Q : VK} {R : Option Int → Hp → Prop} {r : Res (Option Int)} {k : Option Int → Fd → Res Dt} (h : GE c W O σ ρ H Q (r.bind k))
    (go : ∀ d φ' H', r = .ok d φ' → Rel c O H' σ ρ φ' → Step c H H' → GE c W O σ ρ H' Q (k d φ') → R d H') : GO c W O σ ρ H R r := by
  cases r with
  | ok d φ' => exact fun H' R' st => go d φ' H' rfl R' st (GE.step st h)
  | err e φ' => exact h
  | no => exact h
theorem qo_some (ha : PE X a (tD c W f)) : PO X (some a) (tDO c W (moSome f)) :=
  po_imp (po_some ha) fun σ H Q ⟨O, ρ, φ, R, h⟩ => ⟨O, ρ, φ, R, goe_bind h fun d φ1 v H1 _ R1 s1 p h1 => by
    cases p with
    | int i => exact ⟨i, rfl, h1 H1 R1 (.refl _)⟩
    | _ => exact h1.elim⟩
theorem qe_sl {lo hi : Option Expr} {p2 : Pos} (hK : X.K = c.K) (ha : PE X a (tD c W f)) (hl : PO X lo (tDO c W l)) (hh : PO X hi (tDO c W h)) : PE X (.Subscript a (.Slice lo hi none p2) pos) (tD c W (mSl f l h)) :=
  pe_imp (pe_slice sl_D ha hl hh) fun σ H Q ⟨O, ρ, φ, R, h⟩ => ⟨O, ρ, φ, R, ge_bind h fun d φ1 v H1 _ R1 s1 p1 h1 =>
    ⟨O, ρ, φ1, R1, geo_bind h1 fun a φ2 H2 _ R2 s2 h2 => ⟨O, ρ, φ2, R2, geo_bind h2 fun b φ3 H3 _ R3 s3 h3 => by
      obtain ⟨z, e, k⟩ := ge_opt R3 h3
      exact sl_d hK R3.nw (dq_gro ((s2.trans s3).fr R.ok) p1) e k⟩⟩⟩

/-! ### built-ins -/
def lenD : List Dt → Option Dt
  | [.list xs] => some (.int xs.length)
  | [.tuple xs] => some (.int xs.length)
  | [.str x] => if x.length ≤ sizeLine then some (.int x.length) else none
  | _ => none
def rLen (K : PySem.W.Frag) : List V → Hp → VK → Prop := fun xs H Q => (fun xs H Q => ∃ p ys, xs = [V.ref p] ∧ (SqL K H p ys ∨ SqT K H p ys) ∧ Q (.int ys.length) H) xs H Q ∨ (fun xs H Q => ∃ z, xs = [V.str z] ∧ z.length ≤ sizeLine ∧ Q (.int z.length) H) xs H Q
theorem call_lenDt : CallR X (.builtin "len") (rLen X.K) := CallR.or call_len_seq call_len_str
theorem len_d {K : PySem.W.Frag} (hK : K = c.K) : CaD c (rLen K) lenD := fun O H xs ds z Q _ p e k => by
  subst hK
  cases p with
  | nil => cases e
  | cons h t =>
    cases t with
    | cons _ _ => cases h <;> cases e
    | nil =>
      cases h with
      | lst g a => cases e; exact .inl ⟨_, _, rfl, .inl (SqL.of (fr_in _ _ g)), by rw [dqA_len a]; exact ans_here k (.int _)⟩
      | tup g a => cases e; exact .inl ⟨_, _, rfl, .inr (sqT_gro fr_in g), by rw [dqA_len a]; exact ans_here k (.int _)⟩
      | str x =>
        have e' : (if x.length ≤ sizeLine then some (PyData.int x.length) else none) = some z := e
        by_cases hz : x.length ≤ sizeLine
        · rw [if_pos hz] at e'
          cases e'
          exact .inr ⟨x, rfl, hz, ans_here k (.int _)⟩
        · rw [if_neg hz] at e'
          cases e'
      | _ => cases e
def intD : List Dt → Option Dt
  | [.int i] => some (.int i)
  | [.bool b] => some (.int (if b then 1 else 0))
  | _ => none
theorem int_d : CaD c (fun xs H Q => (∃ i, xs = [.int i] ∧ Q (.int i) H) ∨ ∃ k, xs = [.bl k] ∧ Q (.int (if k then 1 else 0)) H) intD := fun O H xs ds z Q _ p e k => by
  cases p with
  | nil => cases e
  | cons h t =>
    cases t with
    | cons _ _ => cases h <;> cases e
    | nil =>
      cases h with
      | int i => cases e; exact .inl ⟨i, rfl, ans_here k (.int _)⟩
      | bl b => cases e; exact .inr ⟨b, rfl, ans_here k (.int _)⟩
      | _ => cases e
def strD : List Dt → Option Dt
  | [.int i] => if i.natAbs.log2 < 1920 then some (.str (toString i)) else none
  | _ => none
theorem str_d : CaD c (fun xs H Q => ∃ i, xs = [V.int i] ∧ i.natAbs.log2 < 1920 ∧ Q (.str (toString i)) H) strD := fun O H xs ds z Q _ p e k => by
  cases p with
  | nil => cases e
  | cons h t =>
    cases t with
    | cons _ _ => cases h <;> cases e
    | nil =>
      cases h with
      | int i =>
        have e' : (if i.natAbs.log2 < 1920 then some (PyData.str (toString i)) else none) = some z := e
        by_cases hz : i.natAbs.log2 < 1920
        · rw [if_pos hz] at e'
          cases e'
          exact ⟨i, rfl, hz, ans_here k (.str _)⟩
        · rw [if_neg hz] at e'
          cases e'
      | _ => cases e
def listD : List Dt → Option Dt
  | [.list xs] => some (.list xs)
  | [.tuple xs] => some (.list xs)
  | _ => none
theorem list_d {K : PySem.W.Frag} (hK : K = c.K) : CaD c (fun xs H Q => ∃ p ys, xs = [V.ref p] ∧ (SqL K H p ys ∨ SqT K H p ys) ∧ ∀ l, H l = none → Q (.ref l) (upd H l (.lst ys))) listD := fun O H xs ds z Q n p e k => by
  subst hK
  cases p with
  | nil => cases e
  | cons h t =>
    cases t with
    | cons _ _ => cases h <;> cases e
    | nil =>
      cases h with
      | lst g a => cases e; exact ⟨_, _, rfl, .inl (SqL.of (fr_in _ _ g)), fun q hq => new_lst n a k hq⟩
      | tup g a => cases e; exact ⟨_, _, rfl, .inr (sqT_gro fr_in g), fun q hq => new_lst n a k hq⟩
      | _ => cases e
def tupleD : List Dt → Option Dt
  | [.list xs] => some (.tuple xs)
  | [.tuple xs] => some (.tuple xs)
  | _ => none
theorem tuple_d {K : PySem.W.Frag} (hK : K = c.K) : CaD c (fun xs H Q => ∃ p ys, xs = [V.ref p] ∧ ((SqL K H p ys ∧ ∀ l, H l = none → Q (.ref l) (upd H l (.tup ys))) ∨ (SqT K H p ys ∧ Q (.ref p) H))) tupleD := fun O H xs ds z Q n p e k => by
  subst hK
  cases p with
  | nil => cases e
  | cons h t =>
    cases t with
    | cons _ _ => cases h <;> cases e
    | nil =>
      cases h with
      | lst g a => cases e; exact ⟨_, _, rfl, .inl ⟨SqL.of (fr_in _ _ g), fun q hq => new_tup n a k hq⟩⟩
      | tup g a => cases e; exact ⟨_, _, rfl, .inr ⟨sqT_gro fr_in g, ans_here k (.tup g a)⟩⟩
      | _ => cases e
def boolsOf : List Dt → Option (List Bool)
  | [] => some []
  | .bool b :: r => (boolsOf r).map (b :: ·)
  | _ :: _ => none
theorem boolsOf_eq : ∀ {ds : List Dt} {bs : List Bool}, boolsOf ds = some bs → ds = bs.map PyData.bool
  | [], bs, h => by cases h; rfl
  | d :: r, bs, h => by
    cases d with
    | bool b =>
      obtain ⟨a, e, rfl⟩ := map_some_eq (show (boolsOf r).map (b :: ·) = some bs from h)
      rw [boolsOf_eq e]
      rfl
    | _ => cases h
def allD : List Dt → Option Dt
  | [.list xs] => (boolsOf xs).map fun bs => .bool (bs.all id)
  | _ => none
theorem all_d {K : PySem.W.Frag} (hK : K = c.K) : CaD c (rAll K) allD := fun O H xs ds z Q n p e k => by
  subst hK
  cases p with
  | nil => cases e
  | cons h t =>
    cases t with
    | cons _ _ => cases h <;> cases e
    | nil =>
      cases h with
      | lst g a =>
        obtain ⟨bs, e1, rfl⟩ := map_some_eq e
        have e2 := boolsOf_eq e1
        subst e2
        have e3 := dqA_bools a
        subst e3
        exact ⟨_, bs, rfl, SqL.of (fr_in _ _ g), ans_here k (.bl _)⟩
      | _ => cases e
def reprD : List Dt → Option Dt
  | [d] => if d.showable = true ∧ SeqAt.shaped d = true ∧ d.shown.length ≤ sizeLine then some (.str d.shown) else none
  | _ => none
theorem repr_d {K : PySem.W.Frag} (hK : K = c.K) : CaD c (rRepr K) reprD := fun O H xs ds z Q n p e k => by
  subst hK
  cases p with
  | nil => cases e
  | @cons x _ d _ h t =>
    cases t with
    | cons _ _ => cases e
    | nil =>
      have e' : (if d.showable = true ∧ SeqAt.shaped d = true ∧ d.shown.length ≤ sizeLine then some (PyData.str d.shown) else none) = some z := e
      by_cases hz : d.showable = true ∧ SeqAt.shaped d = true ∧ d.shown.length ≤ sizeLine
      · rw [if_pos hz] at e'
        cases e'
        exact ⟨x, d, rfl, (dq_gro fr_in h).dp, hz.1, hz.2.1, hz.2.2, ans_here k (.str _)⟩
      · rw [if_neg hz] at e'
        cases e'

/-! ### isinstance of a built-in class -/
def tyN : Dt → String
  | .none => "NoneType"
  | .bool _ => "bool"
  | .int _ => "int"
  | .str _ => "str"
  | .list _ => "list"
  | .tuple _ => "tuple"
  | .dict _ => "dict"
theorem tyX_ok {K : PySem.W.Frag} {F H : Hp} {v : V} {d : Dt} (g : Gro F H) (h : Dq K F v d) : TyX K H v (.type (tyN d)) := by
  cases h with
  | non => exact .base .non
  | bl b => exact .base (.bl b)
  | int i => exact .base (.int i)
  | str x => exact .base (.str x)
  | lst h1 h2 => exact .base (.lst (g _ _ h1))
  | tup h1 h2 =>
    rcases h1 with (h1 | ⟨o, h1⟩) | ⟨o, its, n, hk, hc, _⟩
    · exact .base (.tup (g _ _ h1))
    · exact .fTuple (g _ _ h1)
    · exact .kTuple hk hc
/-- isinstance(x, T), T the built-in class of this name -/
def isiD (T : String) (d : Dt) : Bool := tyN d == T || (T == "int" && tyN d == "bool")
def IsiT (T : String) : Prop := ∀ t ∈ ["NoneType", "bool", "int", "str", "list", "tuple", "dict"], kitB t T = some (t == T || (T == "int" && t == "bool"))
theorem isi_tuple : IsiT "tuple" := by unfold IsiT; decide +kernel
theorem isi_list : IsiT "list" := by unfold IsiT; decide +kernel
theorem isi_str : IsiT "str" := by unfold IsiT; decide +kernel
theorem isi_int : IsiT "int" := by unfold IsiT; decide +kernel
theorem isi_bool : IsiT "bool" := by unfold IsiT; decide +kernel
theorem isi_dict : IsiT "dict" := by unfold IsiT; decide +kernel
theorem tyN_mem (d : Dt) : tyN d ∈ ["NoneType", "bool", "int", "str", "list", "tuple", "dict"] := by
  cases d <;> simp [tyN]
def mIsi (T : String) (f : ME) : ME := m1 (fun d => some (.bool (isiD T d))) f
theorem qe_isi {T : String} {x : Str} {e : Expr} {p p2 : Pos} (hT : IsiT T) (hm : X.mg "isinstance" = none) (hmx : X.mg x = none) (hK : X.K = c.K) (ha : PE X e (tD c W f)) (hgx : Gl X x := by rfl) (hbx : bootBuiltins x = some (.type T) := by decide +kernel)
    (hg : Gl X "isinstance" := by rfl) (hdb : (x == ("__debug__" : Str)) = false := by decide) (hnx : x ≠ "__name__" := by decide)
    (he : starEach [e, .Name x p2] X.env = (false, eval e X.env) :: starEach [.Name x p2] X.env := by rfl) (hpl : (backTo pos (starEach [.Name x p2] X.env)).any (·.1) = false := by rfl)
    (hs2 : starEach [.Name x p2] X.env = (false, eval (.Name x p2) X.env) :: starEach [] X.env := by rfl) :
    PE X (.Call (.Name "isinstance" p) [e, .Name x p2] [] pos) (tD c W (mIsi T f)) := by
  have h1 : PE X (.Name x p2) (tC (.ty T)) := pe_bltn hgx hmx hbx rfl hnx hdb
  refine pe_imp (pe_callB call_isi hg hm (by decide +kernel) (pa_cons ha (pa_cons h1 pa_nil hs2) he) (by decide) (by decide) he hpl) fun σ H Q ⟨O, ρ, φ, R, h⟩ => ?_
  refine ⟨O, ρ, φ, R, ge_bind h fun d φ1 v H1 _ R1 s1 p1 h1 => ?_⟩
  refine ⟨v, .ty T, .type (tyN d), .type T, isiD T d, rfl, .ty T, tyX_ok fr_in (hK ▸ p1), kit_ty (hT _ (tyN_mem d)), h1 _ H1 R1 (.refl _) (.bl _)⟩
end
end DL

set_option maxHeartbeats 1000000
/-! DL, part e: promises of defs and their calls, the feed, what is walked, comprehensions -/
namespace DL
open PySem PySem.Spec PyProof.Rows L2

/-! ### arguments -/
def ArgOk (c : Cn) (O : Nat → Option Addr) (H : Hp) (v : V) : Sl → Prop
  | .dat d => Dq c.K (Fr c O H) v d
  | .fd => v = .ref c.fa
  | _ => False
abbrev MG := Rho → Fd → Res (List Sl)
def GG (c : Cn) (W : WX') (O : Nat → Option Addr) (σ : L2.St) (ρ : Rho) (H : Hp) (Q : List V → Hp → Prop) : Res (List Sl) → Prop
  | .ok as φ' => ∀ vs H', Rel c O H' σ ρ φ' → Step c H H' → Paired (ArgOk c O H') vs as → Q vs H'
  | .err e φ' => ∀ C x H', Rel c O H' σ ρ φ' → c.er e C x H' → W C x σ H'
  | .no => False
def tDG (c : Cn) (W : WX') (f : MG) : TA := fun σ H Q => ∃ O ρ φ, Rel c O H σ ρ φ ∧ GG c W O σ ρ H Q (f ρ φ)
theorem GG.step {c : Cn} {W : WX'} {O : Nat → Option Addr} {σ : L2.St} {ρ : Rho} {H H1 : Hp} {Q : List V → Hp → Prop} {r : Res (List Sl)} (s : Step c H H1) (h : GG c W O σ ρ H Q r) : GG c W O σ ρ H1 Q r := by
  cases r with
  | ok d φ => exact fun v H' R t p => h v H' R (s.trans t) p
  | err e φ => exact h
  | no => exact h
theorem ArgOk.gro {c : Cn} {O : Nat → Option Addr} {H H' : Hp} {v : V} {s : Sl} (g : Gro (Fr c O H) (Fr c O H')) (h : ArgOk c O H v s) : ArgOk c O H' v s := by
  cases s with
  | dat d => exact dq_gro g h
  | fd => exact h
  | _ => exact h.elim
def mgNil : MG := fun _ φ => .ok [] φ
def mgD (f : ME) (g : MG) : MG := fun ρ φ => (f ρ φ).bind fun x φ1 => (g ρ φ1).bind fun xs φ2 => .ok (.dat x :: xs) φ2
def mgF (i : Nat) (g : MG) : MG := fun ρ φ => match ρ[i]? with | some .fd => (g ρ φ).bind fun xs φ2 => .ok (.fd :: xs) φ2 | _ => .no

section
variable {X : Cx} {c : Cn} {W : WX'} {pos : Pos} {a b e : Expr} {es : List Expr} {f f1 f2 : ME} {g : MG}
theorem gge_bind {O : Nat → Option Addr} {σ : L2.St} {ρ : Rho} {H : Hp} {Q : List V → Hp → Prop} {r : Res Dt} {k : Dt → Fd → Res (List Sl)} {R : VK} (h : GG c W O σ ρ H Q (r.bind k))
    (go : ∀ d φ' v H', r = .ok d φ' → Rel c O H' σ ρ φ' → Step c H H' → Dq c.K (Fr c O H') v d → GG c W O σ ρ H' Q (k d φ') → R v H') : GE c W O σ ρ H R r := by
  cases r with
  | ok d φ' => exact fun v H' R' st p => go d φ' v H' rfl R' st p (GG.step st h)
  | err e φ' => exact h
  | no => exact h
theorem ggg_bind {O : Nat → Option Addr} {σ : L2.St} {ρ : Rho} {H : Hp} {Q R : List V → Hp → Prop} {r : Res (List Sl)} {k : List Sl → Fd → Res (List Sl)} (h : GG c W O σ ρ H Q (r.bind k))
    (go : ∀ d φ' v H', r = .ok d φ' → Rel c O H' σ ρ φ' → Step c H H' → Paired (ArgOk c O H') v d → GG c W O σ ρ H' Q (k d φ') → R v H') : GG c W O σ ρ H R r := by
  cases r with
  | ok d φ' => exact fun v H' R' st p => go d φ' v H' rfl R' st p (GG.step st h)
  | err e φ' => exact h
  | no => exact h
theorem geg_bind {O : Nat → Option Addr} {σ : L2.St} {ρ : Rho} {H : Hp} {Q : VK} {R : List V → Hp → Prop} {r : Res (List Sl)} {k : List Sl → Fd → Res Dt} (h : GE c W O σ ρ H Q (r.bind k))
    (go : ∀ d φ' v H', r = .ok d φ' → Rel c O H' σ ρ φ' → Step c H H' → Paired (ArgOk c O H') v d → GE c W O σ ρ H' Q (k d φ') → R v H') : GG c W O σ ρ H R r := by
  cases r with
  | ok d φ' => exact fun v H' R' st p => go d φ' v H' rfl R' st p (GE.step st h)
  | err e φ' => exact h
  | no => exact h
theorem qg_nil : PA X [] (tDG c W mgNil) := pa_imp pa_nil fun σ H Q ⟨O, ρ, φ, R, h⟩ => h [] H R (.refl _) .nil
theorem qg_d (ha : PE X e (tD c W f)) (hr : PA X es (tDG c W g)) (hs : starEach (e :: es) X.env = (false, eval e X.env) :: starEach es X.env := by rfl) : PA X (e :: es) (tDG c W (mgD f g)) :=
  pa_imp (pa_cons ha hr hs) fun σ H Q ⟨O, ρ, φ, R, h⟩ => ⟨O, ρ, φ, R, gge_bind h fun x φ1 v H1 _ R1 s1 p1 h1 =>
    ⟨O, ρ, φ1, R1, ggg_bind h1 fun xs φ2 vs H2 _ R2 s2 p2 h2 => h2 (v :: vs) H2 R2 (.refl _) (.cons (dq_gro (s2.fr R.ok) p1) p2)⟩⟩
theorem qg_f {i : Nat} {x : Str} (hr : PA X es (tDG c W g)) (hN : X.N[i]? = some x := by rfl) (hv : Vis X.env.scope x := by first | exact Or.inl rfl | exact Or.inr (Or.inl rfl) | exact Or.inr (Or.inr rfl))
    (hd : (x == ("__debug__" : Str)) = false := by decide) (hcd : (x == ("__classdict__" : Str)) = false := by decide) (hs : starEach (.Name x pos :: es) X.env = (false, eval (.Name x pos) X.env) :: starEach es X.env := by rfl) : PA X (.Name x pos :: es) (tDG c W (mgF i g)) :=
  pa_imp (pa_cons (pe_var hN hv hd hcd) hr hs) fun σ H Q ⟨O, ρ, φ, R, h⟩ => by
    unfold mgF at h
    split at h
    · rename_i e
      exact ⟨_, R.slot i _ e, O, ρ, φ, R, ggg_bind h fun xs φ2 vs H2 _ R2 s2 p2 h2 => h2 (_ :: vs) H2 R2 (.refl _) (.cons rfl p2)⟩
    · exact h.elim
/-- the arguments by keywords -/
theorem qk_nil : PK X [] (tDG c W mgNil) := pk_imp pk_nil fun σ H Q ⟨O, ρ, φ, R, h⟩ => h [] H R (.refl _) .nil
theorem qk_d {kws : List Keyword} {nm : Option Str} {kpos : Pos} (ha : PE X e (tD c W f)) (hr : PK X kws (tDG c W g)) : PK X (⟨nm, e, kpos⟩ :: kws) (tDG c W (mgD f g)) :=
  pk_imp (pk_cons ha hr) fun σ H Q ⟨O, ρ, φ, R, h⟩ => ⟨O, ρ, φ, R, gge_bind h fun x φ1 v H1 _ R1 s1 p1 h1 =>
    ⟨O, ρ, φ1, R1, ggg_bind h1 fun xs φ2 vs H2 _ R2 s2 p2 h2 => h2 (v :: vs) H2 R2 (.refl _) (.cons (dq_gro (s2.fr R.ok) p1) p2)⟩⟩

/-! ### a def's promise: it hands back what its mirror says -/
abbrev MF := List Sl → Fd → Res Dt
def nO : Nat → Option Addr := fun _ => none
def GF (c : Cn) (H : Hp) (Q : VK) (E : XK) : Res Dt → Prop
  | .ok d φ' => ∀ v H', Step c H H' → H' c.fa = some (.dK (fkv c φ')) → H' c.ca = some (.lst (φ'.cells.map V.int)) → Dq c.K (Fr c nO H') v d → Q v H'
  | .err e φ' => ∀ C x H', Step c H H' → H' c.fa = some (.dK (fkv c φ')) → H' c.ca = some (.lst (φ'.cells.map V.int)) → c.er e C x H' → E C x H'
  | .no => False
def spD (L : Lw) (n : Nat) (m : MF) : Sp := fun vs H Q E => ∃ c φ as, c.L = L ∧ c.Ok ∧ c.H0 = H ∧ H c.fa = some (.dK (fkv c φ)) ∧ H c.ca = some (.lst (φ.cells.map V.int)) ∧ vs.length = n ∧
  Paired (ArgOk c nO H) vs as ∧ GF c H Q E (m as φ)
theorem spD_len {L : Lw} {n : Nat} {m : MF} : ∀ vs H Q E, spD L n m vs H Q E → vs.length = n := fun _ _ _ _ ⟨_, _, _, _, _, _, _, _, h, _⟩ => h
/-- a body, run from its arguments -/
def mFn (N : Nat) (body : MS) : MF := fun as φ => match body (as ++ List.replicate (N - as.length) .un) φ with
  | .ok (.rt d) φ' => .ok d φ'
  | .ok (.nx _) φ' => .ok .none φ'
  | .ok (.ex e _) φ' => .err e φ'
  | _ => .no
theorem start_rel {c : Cn} {H : Hp} {φ : Fd} {N : List Str} {vs : List V} {as : List Sl} (ok : c.Ok) (h0 : c.H0 = H) (hf : H c.fa = some (.dK (fkv c φ))) (hc : H c.ca = some (.lst (φ.cells.map V.int)))
    (p : Paired (ArgOk c nO H) vs as) (hl : vs.length ≤ N.length) : Rel c nO H (L2.start N vs) (as ++ List.replicate (N.length - as.length) .un) φ := by
  have pl : vs.length = as.length := Paired.length p
  refine ⟨ok, fun i s e => ?_, ?_, fun _ _ _ h => (nomatch h), ⟨0, fun _ _ => rfl⟩, fun _ _ h => (nomatch h), hf, hc, fun b o h _ => h0 ▸ h⟩
  · by_cases hi : i < as.length
    · rw [List.getElem?_append_left hi] at e
      have get : ∀ (vs : List V) (as : List Sl) (i : Nat) (s : Sl), Paired (ArgOk c nO H) vs as → as[i]? = some s → ∃ v, vs[i]? = some v ∧ ArgOk c nO H v s := by
        intro vs as i s p e
        induction p generalizing i with
        | nil => simp at e
        | cons h t ih =>
          cases i with
          | zero => simp at e; subst e; exact ⟨_, rfl, h⟩
          | succ i =>
            obtain ⟨v, h1, h2⟩ := ih i (by simpa using e)
            exact ⟨v, by simpa using h1, h2⟩
      obtain ⟨v, h1, h2⟩ := get vs as i s p e
      have es : (L2.start N vs)[i]? = some (some v) := by
        unfold L2.start
        rw [List.getElem?_append_left (by rw [List.length_map]; omega), List.getElem?_map, h1]
        rfl
      rw [es]
      cases s with
      | dat d => exact ⟨v, rfl, h2⟩
      | fd => cases h2; exact rfl
      | un => trivial
      | own ds => exact h2.elim
    · rw [List.getElem?_append_right (by omega), List.getElem?_replicate] at e
      split at e
      · cases e; trivial
      · cases e
  · unfold L2.start
    simp only [List.length_append, List.length_map, List.length_replicate]
    omega
/-- the context of a def's run -/
abbrev dX (P : Program) (w : World) (L : Lw) (mg : Str → Option Value) (base : Heap) (N : List Str) (qual : Str) (st : Stmt) (f0 : Addr) (cdv : Value) (A : Around) (outer : List Env) (s : Shared) (H : Hp) (E : XK) : Cx :=
  cxOf (L2.CX P w) P w L.K mg base N qual (defScope st) f0 cdv A outer s H E
abbrev wE (E : XK) : WX' := fun C x _ H' => E C x H'
/-- THE RULE of a def: from the judgement of its body -/
theorem def_ok {P : Program} {w : World} {L : Lw} {mg : Str → Option Value} {base : Heap} {k : Nat} {f0 : Addr} {x qual : Str} {st : Stmt} {fd : FuncData} {N ps : List Str} {body : MS}
    (F : Fun L.K x qual st f0 fd) (S : FnScope N ps (defScope st)) (hb : ps.length ≤ N.length)
    (walk : ∀ (c : Cn), c.L = L → ∀ (cdv : Value) (A : Around) (outer : List Env) (s : Shared) (H : Hp) (E : XK), (dX P w L mg base N qual st f0 cdv A outer s H E).A.guards = some [] →
      Room k (dX P w L mg base N qual st f0 cdv A outer s H E).A → PSs (dX P w L mg base N qual st f0 cdv A outer s H E) (defBody st) (tS c (wE E) body)) :
    FnG P w L.K mg base (L2.CX P w) (k + 1) f0 fd ps (spD L ps.length (mFn N.length body)) := by
  refine fng_of F S spD_len fun cdv A outer s H vs Q E gd room want => ?_
  obtain ⟨c, φ, as, hL, ok, h0, hf, hc, hl, p, G⟩ := want
  refine ⟨_, walk c hL cdv A outer s H E gd room, ?_⟩
  refine ⟨nO, _, φ, start_rel ok h0 hf hc p (by rw [hl]; exact hb), ?_⟩
  have ent : ∀ {O' : Nat → Option Addr} {σ' : L2.St} {ρ' : Rho} {φ' : Fd} {H' : Hp}, Rel c O' H' σ' ρ' φ' → Step c H H' := fun R b o h n => R.entry b o (h0.symm ▸ h) n
  have fr : ∀ {O' : Nat → Option Addr} {H' : Hp}, Gro (Fr c O' H') (Fr c nO H') := fun b o h => let ⟨h1, h2, _⟩ := fr_some h; fr_of h1 h2 fun _ z => nomatch z
  unfold mFn at G
  revert G
  cases body (as ++ List.replicate (N.length - as.length) .un) φ with
  | ok fl φ' =>
    cases fl with
    | rt d => exact fun G O' σ' ρ' v H' R q => G v H' (ent R) R.feed R.cells (dq_gro fr q)
    | nx ρ' => exact fun G O' σ' H' R _ => G _ H' (ent R) R.feed R.cells .non
    | ex e ρ' => exact fun G O' σ' C x H' R q => G C x H' (ent R) R.feed R.cells q
    | bk ρ' => exact fun G => G.elim
    | ct ρ' => exact fun G => G.elim
  | err e φ' => exact fun G => G.elim
  | no => exact fun G => G.elim
/-- nothing is promised of a mirror that is stuck -/
theorem fng_no {P : Program} {w : World} {L : Lw} {mg : Str → Option Value} {base : Heap} {k : Nat} {f0 : Addr} {fd : FuncData} {ps : List Str} : FnG P w L.K mg base (L2.CX P w) k f0 fd ps (spD L ps.length fun _ _ => .no) :=
  ⟨spD_len, fun _ _ _ _ _ _ _ _ _ _ _ _ _ _ h => let ⟨_, _, _, _, _, _, _, _, _, _, z⟩ := h; z.elim⟩

/-! ### a call -/
def Cn.inner (c : Cn) (O : Nat → Option Addr) (H : Hp) : Cn := { c with Z := fun b => c.Z b ∨ ∃ i, O i = some b, H0 := H }
theorem inner_fr {c : Cn} {O : Nat → Option Addr} {H H1 : Hp} : Fr (c.inner O H) nO H1 = Fr c O H1 := by
  funext b
  unfold Fr
  have : ((c.inner O H).Z b ∨ ∃ i, nO i = some b) ↔ (c.Z b ∨ ∃ i, O i = some b) := ⟨fun z => z.elim id fun ⟨_, z⟩ => (nomatch z), .inl⟩
  by_cases h : c.Z b ∨ ∃ i, O i = some b
  · rw [if_pos h, if_pos (this.mpr h)]
  · rw [if_neg h, if_neg fun z => h (this.mp z)]
theorem inner_ok {c : Cn} {O : Nat → Option Addr} {H : Hp} {σ : L2.St} {ρ : Rho} {φ : Fd} (R : Rel c O H σ ρ φ) : (c.inner O H).Ok where
  zf := .inl R.ok.zf
  z0 := fun b h => by
    rcases h with h | ⟨i, h⟩
    · obtain ⟨o, e⟩ := R.ok.z0 b h
      by_cases hb : b = c.fa
      · exact ⟨_, hb ▸ R.feed⟩
      · exact ⟨o, R.entry b o e hb⟩
    · exact (R.own i b h).1
  cne := R.ok.cne
  zc := fun h => by
    rcases h with h | ⟨i, h⟩
    · exact R.ok.zc h
    · obtain ⟨_, n⟩ := R.own i _ h
      obtain ⟨o, e⟩ := R.ok.c0
      have n' : c.H0 c.ca = none := n
      rw [e] at n'
      cases n'
  c0 := ⟨_, R.cells⟩
theorem Paired.imp' {α β : Type} {F G : α → β → Prop} (h : ∀ a b, F a b → G a b) : ∀ {xs : List α} {ys : List β}, Paired F xs ys → Paired G xs ys
  | _, _, .nil => .nil
  | _, _, .cons a t => .cons (h _ _ a) (Paired.imp' h t)
def mCall (m : MF) (g : MG) : ME := fun ρ φ => (g ρ φ).bind m
theorem call_fits {n : Nat} {m : MF} {O : Nat → Option Addr} {σ : L2.St} {ρ : Rho} {φ : Fd} {H : Hp} {Q : VK} {vs : List V} {as : List Sl} (R : Rel c O H σ ρ φ) (p : Paired (ArgOk c O H) vs as) (hl : as.length = n)
    (h : GE c W O σ ρ H Q (m as φ)) : spD c.L n m vs H Q (WE W σ) := by
  refine ⟨c.inner O H, φ, as, rfl, inner_ok R, rfl, R.feed, R.cells, (Paired.length p).trans hl, Paired.imp' (fun v s q => ?_) p, ?_⟩
  · cases s with
    | dat d => show Dq c.K (Fr (c.inner O H) nO H) v d; rw [inner_fr]; exact q
    | fd => exact q
    | _ => exact q.elim
  · revert h
    cases m as φ with
    | ok d φ' => exact fun h v H' st hf hc q => h v H' (R.step st hf hc) st (by rw [inner_fr] at q; exact q)
    | err e φ' => exact fun h C x H' st hf hc q => h C x H' (R.step st hf hc) q
    | no => exact fun h => h.elim
theorem mg_len {n : Nat} {O : Nat → Option Addr} {ρ : Rho} {φ φ' : Fd} {as : List Sl} (hn : ∀ ρ φ as φ', g ρ φ = .ok as φ' → as.length = n) (e : g ρ φ = .ok as φ') : as.length = n := hn ρ φ as φ' e
/-- how many arguments a row has -/
def GLen (g : MG) (n : Nat) : Prop := ∀ ρ φ as φ', g ρ φ = .ok as φ' → as.length = n
theorem glen_nil : GLen mgNil 0 := fun _ _ _ _ e => by cases e; rfl
theorem glen_d {n : Nat} (h : GLen g n) : GLen (mgD f g) (n + 1) := fun ρ φ as φ' e => by
  unfold mgD at e
  cases e1 : f ρ φ with
  | ok x φ1 =>
    rw [e1] at e
    have e : (g ρ φ1).bind (fun xs φ2 => Res.ok (Sl.dat x :: xs) φ2) = .ok as φ' := e
    cases e2 : g ρ φ1 with
    | ok xs φ2 => rw [e2] at e; cases e; exact congrArg (· + 1) (h _ _ _ _ e2)
    | err _ _ => rw [e2] at e; cases e
    | no => rw [e2] at e; cases e
  | err _ _ => rw [e1] at e; cases e
  | no => rw [e1] at e; cases e
theorem glen_f {i n : Nat} (h : GLen g n) : GLen (mgF i g) (n + 1) := fun ρ φ as φ' e => by
  unfold mgF at e
  split at e
  · cases e2 : g ρ φ with
    | ok xs φ2 => rw [e2] at e; cases e; exact congrArg (· + 1) (h _ _ _ _ e2)
    | err _ _ => rw [e2] at e; cases e
    | no => rw [e2] at e; cases e
  · cases e
theorem qe_call {L : Lw} {k : Nat} {f0 : Addr} {fd : FuncData} {ps : List Str} {m : MF} {x : Str} {p : Pos} (hL : c.L = L) (F : FnG X.prog X.w X.K X.mg X.base (L2.CX X.prog X.w) k f0 fd ps (spD L ps.length m)) (gd : X.A.guards = some []) (hr : Room k X.A)
    (hm : X.mg x = some (.ref f0)) (hk : PySem.W.keepIn X.K (.ref f0) = true) (hb : Binds X.K fd ps []) (tk : Takes X W) (ha : PA X (e :: es) (tDG c W g)) (hn : GLen g ps.length) (hg : Gl X x := by rfl) (hdb : (x == ("__debug__" : Str)) = false := by decide)
    (he : starEach (e :: es) X.env = (false, eval e X.env) :: starEach es X.env := by rfl) (hpl : (backTo pos (starEach es X.env)).any (·.1) = false := by rfl) :
    PE X (.Call (.Name x p) (e :: es) [] pos) (tD c W (mCall m g)) :=
  pe_imp (peg_call F gd hr hg hm hk hb (passAt tk) ha hdb he hpl) fun σ H Q ⟨O, ρ, φ, R, h⟩ => ⟨O, ρ, φ, R, geg_bind h fun as φ1 vs H1 e1 R1 s1 p1 h1 => hL ▸ call_fits R1 p1 (hn _ _ _ _ e1) h1⟩
theorem qe_call0 {L : Lw} {k : Nat} {f0 : Addr} {fd : FuncData} {ps : List Str} {m : MF} {x : Str} {p : Pos} (hL : c.L = L) (F : FnG X.prog X.w X.K X.mg X.base (L2.CX X.prog X.w) k f0 fd ps (spD L ps.length m)) (gd : X.A.guards = some []) (hr : Room k X.A)
    (hm : X.mg x = some (.ref f0)) (hk : PySem.W.keepIn X.K (.ref f0) = true) (hb : Binds X.K fd ps []) (tk : Takes X W) (hn : ps.length = 0) (hg : Gl X x := by rfl) (hdb : (x == ("__debug__" : Str)) = false := by decide) :
    PE X (.Call (.Name x p) [] [] pos) (tD c W (mCall m mgNil)) :=
  pe_imp (peg_call0 F gd hr hg hm hk hb (passAt tk) hdb) fun σ H Q ⟨O, ρ, φ, R, h⟩ => hL ▸ call_fits R .nil hn.symm h
theorem qe_callK0 {L : Lw} {k : Nat} {f0 : Addr} {fd : FuncData} {ps : List Str} {m : MF} {x : Str} {p : Pos} {kws : List Keyword} (hL : c.L = L) (F : FnG X.prog X.w X.K X.mg X.base (L2.CX X.prog X.w) k f0 fd ps (spD L ps.length m)) (gd : X.A.guards = some []) (hr : Room k X.A)
    (hm : X.mg x = some (.ref f0)) (hk : PySem.W.keepIn X.K (.ref f0) = true) (hb : KB0 X.K fd ps) (tk : Takes X W) (ha : PK X kws (tDG c W g)) (hn : GLen g ps.length) (hg : Gl X x := by rfl) (hdb : (x == ("__debug__" : Str)) = false := by decide)
    (hall : (backToKw pos (keywordEach kws X.env)).all (·.1.isSome) = true := by rfl)
    (hks : (backToKw pos (keywordEach kws X.env)).filterMap (·.1) = ps := by rfl)
    (hpl : ((backTo pos (starEach [] X.env)).any (·.1) || (backToKw pos (keywordEach kws X.env)).any (·.1.isNone)) = false := by rfl) :
    PE X (.Call (.Name x p) [] kws pos) (tD c W (mCall m g)) :=
  pe_imp (peg_callK0 F gd hr hg hm hk hb (passAt tk) ha hall hks hdb hpl) fun σ H Q ⟨O, ρ, φ, R, h⟩ => ⟨O, ρ, φ, R, geg_bind h fun as φ1 vs H1 e1 R1 s1 p1 h1 => hL ▸ call_fits R1 p1 (hn _ _ _ _ e1) h1⟩

/-! ### the feed's items -/
inductive Fk | c | s | l | n
def Lw.key (L : Lw) : Fk → Str
  | .c => L.k1
  | .s => L.k2
  | .l => L.k3
  | .n => L.k4
def Lw.Nk (L : Lw) : Prop := L.k1 ≠ L.k2 ∧ L.k1 ≠ L.k3 ∧ L.k1 ≠ L.k4 ∧ L.k2 ≠ L.k3 ∧ L.k2 ≠ L.k4 ∧ L.k3 ≠ L.k4
def fdGet (φ : Fd) : Fk → Dt
  | .c => .list (φ.cells.map .int)
  | .s => .int φ.spot
  | .l => .int φ.left
  | .n => .int φ.count
def mFg (i : Nat) (k : Fk) : ME := fun ρ φ => match ρ[i]? with | some .fd => .ok (fdGet φ k) φ | _ => .no
theorem fkv_get (c : Cn) (nk : c.L.Nk) (φ : Fd) (k : Fk) : valV (fkv c φ) (.inr (c.L.key k)) = some (match k with | .c => .ref c.ca | .s => .int φ.spot | .l => .int φ.left | .n => .int φ.count) := by
  obtain ⟨h12, h13, h14, h23, h24, h34⟩ := nk
  have ne : ∀ {a b : Str}, a ≠ b → ¬ ((Sum.inr a : Key) = Sum.inr b) := fun h z => h (Sum.inr.inj z)
  cases k with
  | c => exact valV_pos rfl
  | s => exact (valV_neg (ne h12)).trans (valV_pos rfl)
  | l => exact (valV_neg (ne h13)).trans ((valV_neg (ne h23)).trans (valV_pos rfl))
  | n => exact (valV_neg (ne h14)).trans ((valV_neg (ne h24)).trans ((valV_neg (ne h34)).trans (valV_pos rfl)))
theorem qe_fg {i j : Nat} {k : Fk} {x y : Str} {p1 p2 : Pos} (hk : c.L.key k = y) (nk : c.L.Nk) (hu : X.A.units + 1 < cLine) (hN : X.N[i]? = some x := by rfl) (hv : Vis X.env.scope x := by first | exact Or.inl rfl | exact Or.inr (Or.inl rfl) | exact Or.inr (Or.inr rfl))
    (hd : (x == ("__debug__" : Str)) = false := by decide) (hcd : (x == ("__classdict__" : Str)) = false := by decide) : PE X (.Subscript (.Name x p1) (.Constant (.str y) j p2) pos) (tD c W (mFg i k)) :=
  pe_imp (pe_dget hu (pe_var hN hv hd hcd) pe_str (fun _ _ => rfl)) fun σ H Q ⟨O, ρ, φ, R, h⟩ => by
    unfold mFg at h
    split at h
    · rename_i e
      refine ⟨_, R.slot i _ e, ?_⟩
      subst hk
      refine ⟨c.fa, _, rfl, by have q := DGet.k (k := Sum.inr (c.L.key k)) R.feed; rw [fkv_get c nk φ k] at q; exact q, ?_⟩
      have k' := ge_ok R h
      cases k with
      | c => exact ans_here k' (.lst (fr_of R.cells R.ok.zc fun i z => by
          obtain ⟨_, n⟩ := R.own i _ z
          obtain ⟨o, e⟩ := R.ok.c0
          have n' : c.H0 c.ca = none := n
          rw [e] at n'
          cases n') (dqA_ints _))
      | _ => exact ans_here k' (.int _)
    · exact h.elim

/-! ### what is walked -/
abbrev MI := Rho → Fd → Res (List Dt)
/-- J yields these data, from H on, whatever of new things comes -/
def Walks (c : Cn) (O : Nat → Option Addr) (H : Hp) (J : It) (ds : List Dt) : Prop := ∀ O' H1 i, Gro (Fr c O H) (Fr c O' H1) → Nw c O' H1 →
  (i < ds.length → J.go i H1 ∧ ∀ x H2, J.yld i H1 x H2 → Gro H1 H2 ∧ ∃ d, ds[i]? = some d ∧ Dq c.K (Fr c O' H2) x d) ∧ (i = ds.length → J.stop i H1)
def GI (c : Cn) (W : WX') (O : Nat → Option Addr) (σ : L2.St) (ρ : Rho) (H : Hp) (Q : It → Hp → Prop) : Res (List Dt) → Prop
  | .ok ds φ' => ∀ J H', Rel c O H' σ ρ φ' → Step c H H' → Walks c O H' J ds → Q J H'
  | .err e φ' => ∀ C x H', Rel c O H' σ ρ φ' → c.er e C x H' → W C x σ H'
  | .no => False
def tDI (c : Cn) (W : WX') (f : MI) : TI := fun σ H Q => ∃ O ρ φ, Rel c O H σ ρ φ ∧ GI c W O σ ρ H Q (f ρ φ)
theorem GI.step {O : Nat → Option Addr} {σ : L2.St} {ρ : Rho} {H H1 : Hp} {Q : It → Hp → Prop} {r : Res (List Dt)} (s : Step c H H1) (h : GI c W O σ ρ H Q r) : GI c W O σ ρ H1 Q r := by
  cases r with
  | ok d φ => exact fun v H' R t p => h v H' R (s.trans t) p
  | err e φ => exact h
  | no => exact h
theorem gie_bind {O : Nat → Option Addr} {σ : L2.St} {ρ : Rho} {H : Hp} {Q : It → Hp → Prop} {r : Res Dt} {k : Dt → Fd → Res (List Dt)} {R : VK} (h : GI c W O σ ρ H Q (r.bind k))
    (go : ∀ d φ' v H', r = .ok d φ' → Rel c O H' σ ρ φ' → Step c H H' → Dq c.K (Fr c O H') v d → GI c W O σ ρ H' Q (k d φ') → R v H') : GE c W O σ ρ H R r := by
  cases r with
  | ok d φ' => exact fun v H' R' st p => go d φ' v H' rfl R' st p (GI.step st h)
  | err e φ' => exact h
  | no => exact h
theorem gia_bind {O : Nat → Option Addr} {σ : L2.St} {ρ : Rho} {H : Hp} {Q : It → Hp → Prop} {R : List V → Hp → Prop} {r : Res (List Dt)} {k : List Dt → Fd → Res (List Dt)} (h : GI c W O σ ρ H Q (r.bind k))
    (go : ∀ d φ' v H', r = .ok d φ' → Rel c O H' σ ρ φ' → Step c H H' → DqAll c.K (Fr c O H') v d → GI c W O σ ρ H' Q (k d φ') → R v H') : GA c W O σ ρ H R r := by
  cases r with
  | ok d φ' => exact fun v H' R' st p => go d φ' v H' rfl R' st p (GI.step st h)
  | err e φ' => exact h
  | no => exact h
theorem pi_imp {tg : Expr} {t t' : TI} (h : PI X tg e t) (i : ∀ σ H Q, t' σ H Q → t σ H Q) : PI X tg e t' := ⟨fun pins s σ H Q I q => h.run pins s σ H Q I (i σ H Q q)⟩
/-- a list, a tuple or a text -/
def iAny (K : PySem.W.Frag) (te : TE) : TI := fun σ H R => te σ H fun v H1 => ((∃ a, v = .ref a ∧ (∃ xs, SqL K H1 a xs) ∧ R (Itl K a) H1) ∨ ∃ a, v = .ref a ∧ (∃ xs, SqT K H1 a xs) ∧ R (Itt K a) H1) ∨ ∃ x, v = .str x ∧ R (Its x) H1
theorem pi_any {tg : Expr} {te : TE} (he : PE X e te) : PI X tg e (iAny X.K te) := by
  refine ⟨fun pins s σ H R I h => thn (he.run pins s σ H _ I h) fun v s1 ⟨y, H1, I1, r1, q1⟩ => ?_⟩
  rcases q1 with (⟨a, ey, ⟨xs, hq⟩, q⟩ | ⟨a, ey, ⟨xs, hq⟩, q⟩) | ⟨x, ey, q⟩
  · subst ey
    cases (show v = Value.ref a from r1)
    obtain ⟨its, rv, pl, hz⟩ := I1.list hq
    exact wpAny_pyIter_list pl.isList (pi_one (tk := s1.toks) I1 _ (turn_list a _) ⟨_, Heap.get?_push_size _ rfl, rfl, rfl⟩ q)
  · subst ey
    cases (show v = Value.ref a from r1)
    obtain ⟨its, rv, pl, hz⟩ := I1.tuple hq
    exact wpAny_pyIter_tuple (show s1.heap.IsTuple a its.toArray from pl) (pi_one (tk := s1.toks) I1 _ (turn_tuple a _) ⟨_, Heap.get?_push_size _ rfl, rfl, rfl⟩ q)
  · subst ey
    obtain ⟨t, rfl⟩ := r1
    cases ha : x.cps.all (· < 128)
    · exact wpAny_pyIter_wide ha (pi_one (tk := s1.toks) I1 _ (turn_str _ x t "str_iterator" (.inr rfl)) ⟨_, Heap.get?_push_size _ rfl, rfl, rfl⟩ q)
    · exact wpAny_pyIter_ascii ha (pi_one (tk := s1.toks) I1 _ (turn_str _ x t "str_ascii_iterator" (.inl rfl)) ⟨_, Heap.get?_push_size _ rfl, rfl, rfl⟩ q)
def itemsD : Dt → Option (List Dt)
  | .list xs => some xs
  | .tuple xs => some xs
  | .str x => some (x.cps.toList.map fun n => .str ⟨#[n]⟩)
  | _ => none
def miV (f : ME) : MI := fun ρ φ => (f ρ φ).bind fun x φ1 => opt (itemsD x) φ1
theorem qi_v {tg : Expr} (hK : X.K = c.K) (he : PE X e (tD c W f)) : PI X tg e (tDI c W (miV f)) :=
  pi_imp (pi_any he) fun σ H Q ⟨O, ρ, φ, R, h⟩ => ⟨O, ρ, φ, R, gie_bind h fun d φ1 v H1 _ R1 s1 p1 h1 => by
    rw [hK]
    cases p1 with
    | lst g a =>
      refine .inl (.inl ⟨_, rfl, ⟨_, SqL.of (fr_in _ _ g)⟩, h1 _ _ R1 (.refl _) fun O' H2 i gr nw => ⟨fun hi => ?_, fun hi => ?_⟩⟩)
      · have l2 : SqL c.K H2 _ _ := SqL.of (fr_in _ _ (gr _ _ g))
        have lt : i < _ := (dqA_len a).symm ▸ hi
        refine ⟨⟨_, _, l2, List.getElem?_eq_getElem lt⟩, fun x H3 y => ?_⟩
        obtain ⟨rfl, y⟩ := y
        obtain ⟨d, ed, pd⟩ := dqA_getV a (y _ l2)
        exact ⟨.refl _, d, ed, dq_gro gr pd⟩
      · exact ⟨_, SqL.of (fr_in _ _ (gr _ _ g)), by rw [dqA_len a]; omega⟩
    | tup g a =>
      refine .inl (.inr ⟨_, rfl, ⟨_, sqT_gro fr_in g⟩, h1 _ _ R1 (.refl _) fun O' H2 i gr nw => ⟨fun hi => ?_, fun hi => ?_⟩⟩)
      · have l2 : SqT c.K H2 _ _ := sqT_gro fr_in (sqT_gro gr g)
        have lt : i < _ := (dqA_len a).symm ▸ hi
        refine ⟨⟨_, _, l2, List.getElem?_eq_getElem lt⟩, fun x H3 y => ?_⟩
        obtain ⟨rfl, y⟩ := y
        obtain ⟨d, ed, pd⟩ := dqA_getV a (y _ l2)
        exact ⟨.refl _, d, ed, dq_gro gr pd⟩
      · exact ⟨_, sqT_gro fr_in (sqT_gro gr g), by rw [dqA_len a]; omega⟩
    | str x =>
      refine .inr ⟨x, rfl, h1 _ _ R1 (.refl _) fun O' H2 i gr nw => ⟨fun hi => ?_, fun hi => ?_⟩⟩
      · have lt : i < x.cps.size := by simpa using hi
        refine ⟨lt, fun v H3 y => ?_⟩
        obtain ⟨rfl, n, en, rfl⟩ := y
        refine ⟨.refl _, .str ⟨#[n]⟩, ?_, .str _⟩
        have : x.cps.toList[i]? = some n := by rw [Array.getElem?_toList]; exact en
        rw [List.getElem?_map, this]
        rfl
      · have : x.cps.size ≤ i := by rw [hi]; simp
        exact this
    | _ => exact h1.elim⟩
def miR1 (g : MA) : MI := fun ρ φ => (g ρ φ).bind fun xs φ1 => match xs with
  | [.int n] => if n < 4611686018427387904 ∧ -4611686018427387904 ≤ n then .ok ((List.range n.toNat).map fun i => .int (i : Nat)) φ1 else .no
  | _ => .no
variable {fa : MA}
theorem qi_r1 {tg : Expr} {p : Pos} (hm : X.mg "range" = none) (ha : PA X [a] (tDA c W fa)) (hg : Gl X "range" := by rfl) (hs : starEach [a] X.env = [(false, eval a X.env)] := by rfl) : PI X tg (.Call (.Name "range" p) [a] [] pos) (tDI c W (miR1 fa)) :=
  pi_imp (pi_range1 hg hm ha hs) fun σ H Q ⟨O, ρ, φ, R, h⟩ => ⟨O, ρ, φ, R, gia_bind h fun ds φ1 vs H1 _ R1 s1 p1 h1 => by
    split at h1
    · rename_i n _
      cases p1 with
      | cons q1 q2 =>
        cases q1
        cases q2
        by_cases hz : n < 4611686018427387904 ∧ -4611686018427387904 ≤ n
        · rw [if_pos hz] at h1
          refine ⟨n, rfl, by omega, by omega, h1 _ _ R1 (.refl _) fun O' H2 i gr nw => ⟨fun hi => ?_, fun hi => ?_⟩⟩
          · have lt : i < n.toNat := by simpa using hi
            refine ⟨lt, fun v H3 y => ?_⟩
            obtain ⟨rfl, rfl⟩ := y
            refine ⟨.refl _, .int (i : Nat), ?_, ?_⟩
            · rw [List.getElem?_map, List.getElem?_range lt]; rfl
            · rw [show (0 : Int) + (i : Int) = ((i : Nat) : Int) from Int.zero_add _]; exact .int _
          · have : n.toNat ≤ i := by rw [hi]; simp
            exact this
        · rw [if_neg hz] at h1
          exact h1.elim
    · exact h1.elim⟩

/-! ### targets -/
inductive Tg | nm (j : Nat) | tp (js : List Nat)
def Tg.js : Tg → List Nat
  | .nm j => [j]
  | .tp js => js
def setV (σ : L2.St) : List Nat → List V → L2.St
  | j :: js, x :: xs => setV (σ.set j (some x)) js xs
  | _, _ => σ
def gNames : List Nat → TGs
  | [] => gNil
  | j :: js => gCons (gName j) (gNames js)
def gTg (K : PySem.W.Frag) : Tg → TG
  | .nm j => gName j
  | .tp js => gTup K js.length (gNames js)
theorem gNames_ok : ∀ (js : List Nat) (xs : List V) (σ : L2.St) (H : Hp) (Q : L2.St → Hp → Prop), xs.length = js.length → Q (setV σ js xs) H → gNames js xs σ H Q
  | [], [], _, _, _, _, q => ⟨rfl, q⟩
  | j :: js, x :: xs, σ, H, Q, h, q => ⟨x, xs, rfl, gNames_ok js xs (σ.set j (some x)) H Q (by simpa using h) q⟩
  | [], _ :: _, _, _, _, h, _ => by simp at h
  | _ :: _, [], _, _, _, h, _ => by simp at h
def setR (ρ : Rho) : List Nat → List Dt → Rho
  | j :: js, x :: xs => setR (ρ.set j (.dat x)) js xs
  | _, _ => ρ
/-- a target takes data -/
def bindT (t : Tg) (d : Dt) (ρ : Rho) : Option Rho :=
  match t with
  | .nm j => some (ρ.set j (.dat d))
  | .tp js => match d with
    | .tuple xs => if xs.length = js.length then some (setR ρ js xs) else none
    | _ => none
theorem Rel.set {O : Nat → Option Addr} {H : Hp} {σ : L2.St} {ρ : Rho} {φ : Fd} (R : Rel c O H σ ρ φ) (j : Nat) {x : V} {d : Dt} (p : Dq c.K (Fr c O H) x d) : Rel c O H (σ.set j (some x)) (ρ.set j (.dat d)) φ := by
  refine ⟨R.ok, fun i s e => ?_, by rw [List.length_set, List.length_set]; exact R.len, R.inj, R.fin, R.own, R.feed, R.cells, R.entry⟩
  by_cases h : j = i
  · subst h
    have lt : j < ρ.length := by
      have := (List.getElem?_eq_some_iff.mp e).1
      rwa [List.length_set] at this
    rw [List.getElem?_set_self lt] at e
    cases e
    exact ⟨x, List.getElem?_set_self (by rw [R.len]; exact lt), p⟩
  · rw [List.getElem?_set_ne h] at e
    rw [List.getElem?_set_ne h]
    exact R.slot i s e
theorem Rel.setAll {O : Nat → Option Addr} {H : Hp} {φ : Fd} : ∀ (js : List Nat) {σ : L2.St} {ρ : Rho} {xs : List V} {ds : List Dt}, Rel c O H σ ρ φ → DqAll c.K (Fr c O H) xs ds → Rel c O H (setV σ js xs) (setR ρ js ds) φ
  | [], _, _, _, _, R, p => by cases p <;> exact R
  | _ :: _, _, _, _, _, R, .nil => R
  | j :: js, _, _, _, _, R, .cons h t => Rel.setAll js (R.set j h) t
/-- what a target's reading asks, for data -/
theorem gTg_ok {K : PySem.W.Frag} (hK : K = c.K) {O : Nat → Option Addr} {H : Hp} {σ : L2.St} {ρ ρ' : Rho} {φ : Fd} {t : Tg} {x : V} {d : Dt} {Q : L2.St → Hp → Prop} (R : Rel c O H σ ρ φ) (p : Dq c.K (Fr c O H) x d) (e : bindT t d ρ = some ρ')
    (k : ∀ σ', (∃ js xs, σ' = setV σ js xs ∧ js = t.js) → Rel c O H σ' ρ' φ → Q σ' H) : gTg K t x σ H Q := by
  subst hK
  cases t with
  | nm j =>
    cases e
    exact k _ ⟨[j], [x], rfl, rfl⟩ (R.set j p)
  | tp js =>
    cases p with
    | tup g a =>
      rename_i ad xs ds
      have e' : (if ds.length = js.length then some (setR ρ js ds) else none) = some ρ' := e
      by_cases hl : ds.length = js.length
      · rw [if_pos hl] at e'
        cases e'
        have hl2 : xs.length = js.length := (dqA_len a).trans hl
        exact ⟨_, _, rfl, sqT_gro fr_in g, hl2, gNames_ok js xs σ H Q hl2 (k _ ⟨js, xs, rfl, rfl⟩ (R.setAll js a))⟩
      · rw [if_neg hl] at e'
        cases e'
    | _ => cases e

/-! ### comprehensions -/
def wipeR (ρ : Rho) : List Nat → Rho
  | [] => ρ
  | v :: vs => (wipeR ρ vs).set v .un
theorem Rel.wipe {O : Nat → Option Addr} {H : Hp} {σ : L2.St} {ρ : Rho} {φ : Fd} (R : Rel c O H σ ρ φ) : ∀ vs : List Nat, Rel c O H (L2.wipe σ vs) (wipeR ρ vs) φ
  | [] => R
  | v :: vs => by
    have R' := Rel.wipe R vs
    refine ⟨R'.ok, fun i s e => ?_, by unfold L2.wipe wipeR; rw [List.length_set, List.length_set]; exact R'.len, R'.inj, R'.fin, R'.own, R'.feed, R'.cells, R'.entry⟩
    unfold wipeR at e
    unfold L2.wipe
    by_cases h : v = i
    · subst h
      have lt : v < (wipeR ρ vs).length := by
        have := (List.getElem?_eq_some_iff.mp e).1
        rwa [List.length_set] at this
      rw [List.getElem?_set_self lt] at e
      cases e
      trivial
    · rw [List.getElem?_set_ne h] at e
      rw [List.getElem?_set_ne h]
      exact R'.slot i s e
theorem wipe_at (σ : L2.St) (vs : List Nat) (i : Nat) : (L2.wipe σ vs)[i]? = if i ∈ vs then (σ[i]?).map (fun _ => none) else σ[i]? := by
  induction vs with
  | nil => simp [L2.wipe]
  | cons v vs ih =>
    show ((L2.wipe σ vs).set v none)[i]? = _
    rw [List.getElem?_set]
    by_cases h : v = i
    · subst h
      rw [if_pos rfl, if_pos List.mem_cons_self, wipe_length]
      by_cases hl : v < σ.length
      · rw [if_pos hl, List.getElem?_eq_getElem hl]; rfl
      · rw [if_neg hl, List.getElem?_eq_none (by omega)]; rfl
    · rw [if_neg h, ih]
      have hm : (i ∈ v :: vs) ↔ i ∈ vs := ⟨fun z => (List.mem_cons.mp z).elim (fun z => absurd z.symm h) id, List.mem_cons_of_mem _⟩
      by_cases hi : i ∈ vs
      · rw [if_pos hi, if_pos (hm.mpr hi)]
      · rw [if_neg hi, if_neg fun z => hi (hm.mp z)]
theorem setV_at : ∀ (js : List Nat) (xs : List V) (σ : L2.St) (i : Nat), i ∉ js → (setV σ js xs)[i]? = σ[i]?
  | [], _, _, _, _ => by cases ‹List V› <;> rfl
  | _ :: _, [], _, _, _ => rfl
  | j :: js, x :: xs, σ, i, h => by
    have h1 : j ≠ i := fun z => h (z ▸ List.mem_cons_self)
    show (setV (σ.set j (some x)) js xs)[i]? = _
    rw [setV_at js xs _ i (fun z => h (List.mem_cons_of_mem _ z)), List.getElem?_set_ne h1]
theorem setV_len : ∀ (js : List Nat) (xs : List V) (σ : L2.St), (setV σ js xs).length = σ.length
  | [], xs, _ => by cases xs <;> rfl
  | _ :: _, [], _ => rfl
  | j :: js, x :: xs, σ => (setV_len js xs (σ.set j (some x))).trans List.length_set
theorem wipe_setV {σ : L2.St} {vs js : List Nat} {xs : List V} (h : ∀ j ∈ js, j ∈ vs) : L2.wipe (setV (L2.wipe σ vs) js xs) vs = L2.wipe σ vs := by
  apply List.ext_getElem?
  intro i
  rw [wipe_at, wipe_at]
  by_cases hi : i ∈ vs
  · rw [if_pos hi, if_pos hi]
    by_cases hl : i < σ.length
    · have h1 : i < (setV (L2.wipe σ vs) js xs).length := by rw [setV_len, wipe_length]; exact hl
      rw [List.getElem?_eq_getElem h1, List.getElem?_eq_getElem hl]
      rfl
    · have h1 : (setV (L2.wipe σ vs) js xs).length ≤ i := by rw [setV_len, wipe_length]; omega
      rw [List.getElem?_eq_none h1, List.getElem?_eq_none (by omega)]
  · rw [if_neg hi, if_neg hi, setV_at js xs _ i (fun z => hi (h i z)), wipe_at, if_neg hi]
def noErr {α : Type} : Res α → Res α
  | .ok a φ => .ok a φ
  | _ => .no
/-- [elt for t in ds if test] from the slots ρ (wiped) -/
def lcGo (t : Tg) (test : MT) (elt : ME) (ρ : Rho) : List Dt → Fd → Res (List Dt)
  | [], φ => .ok [] φ
  | x :: xs, φ => match bindT t x ρ with
    | none => .no
    | some ρ1 => (test ρ1 φ).bind fun b φ1 => if b = true then (elt ρ1 φ1).bind fun y φ2 => (lcGo t test elt ρ xs φ2).bind fun ys φ3 => .ok (y :: ys) φ3 else lcGo t test elt ρ xs φ1
def mLc (it : MI) (t : Tg) (test : MT) (elt : ME) (vs : List Nat) : ME := fun ρ φ => (it ρ φ).bind fun xs φ1 => if xs.length ≤ sizeLine then
    noErr ((lcGo t test elt (wipeR ρ vs) xs φ1).bind fun ys φ2 => .ok (.list ys) φ2) else .no
def mtYes : MT := fun _ φ => .ok true φ
theorem gei_bind {O : Nat → Option Addr} {σ : L2.St} {ρ : Rho} {H : Hp} {Q : VK} {R : It → Hp → Prop} {r : Res (List Dt)} {k : List Dt → Fd → Res Dt} (h : GE c W O σ ρ H Q (r.bind k))
    (go : ∀ d φ' J H', r = .ok d φ' → Rel c O H' σ ρ φ' → Step c H H' → Walks c O H' J d → GE c W O σ ρ H' Q (k d φ') → R J H') : GI c W O σ ρ H R r := by
  cases r with
  | ok d φ' => exact fun J H' R' st p => go d φ' J H' rfl R' st p (GE.step st h)
  | err e φ' => exact h
  | no => exact h
/-- one more own list, at a far slot -/
theorem Rel.moreAt {O : Nat → Option Addr} {H : Hp} {σ : L2.St} {ρ : Rho} {φ : Fd} (R : Rel c O H σ ρ φ) {D : Addr} {vs : List V} {m : Nat} (hD : H D = none) (om : O m = none) (far : ρ.length ≤ m) :
    Rel c (fun i => if i = m then some D else O i) (upd H D (.lst vs)) σ ρ φ ∧ Fr c (fun i => if i = m then some D else O i) (upd H D (.lst vs)) = Fr c O H := by
  obtain ⟨B, hB⟩ := R.fin
  obtain ⟨f1, f2, f3, f4⟩ := R.fresh hD
  have fe : Fr c (fun i => if i = m then some D else O i) (upd H D (.lst vs)) = Fr c O H := by
    funext b
    unfold Fr
    by_cases hb : b = D
    · subst hb
      rw [if_pos (.inr ⟨m, if_pos rfl⟩), if_neg, hD]
      rintro (z | ⟨i, z⟩)
      · exact f1 z
      · exact f2 i z
    · have : (c.Z b ∨ ∃ i, (if i = m then some D else O i) = some b) ↔ (c.Z b ∨ ∃ i, O i = some b) := by
        constructor
        · rintro (z | ⟨i, z⟩)
          · exact .inl z
          · by_cases hi : i = m
            · rw [if_pos hi] at z
              exact absurd (Option.some.inj z).symm hb
            · rw [if_neg hi] at z
              exact .inr ⟨i, z⟩
        · rintro (z | ⟨i, z⟩)
          · exact .inl z
          · have hi : i ≠ m := fun h => by rw [h, om] at z; cases z
            exact .inr ⟨i, by rw [if_neg hi]; exact z⟩
      by_cases hz : c.Z b ∨ ∃ i, O i = some b
      · rw [if_pos hz, if_pos (this.mpr hz)]
      · rw [if_neg hz, if_neg fun z => hz (this.mp z), upd_ne hb]
  refine ⟨⟨R.ok, fun i s e => ?_, R.len, fun i j a h1 h2 => ?_, ⟨max B (m + 1), fun i hi => ?_⟩, fun i a h => ?_, ?_, ?_, fun b o h n => ?_⟩, fe⟩
  · have lt : i < ρ.length := (List.getElem?_eq_some_iff.mp e).1
    have im : i ≠ m := by omega
    have q := R.slot i s e
    cases s with
    | un => trivial
    | dat d => obtain ⟨x, e1, p⟩ := q; exact ⟨x, e1, by rw [fe]; exact p⟩
    | own ds =>
      obtain ⟨a, us, e1, e2, e3, p⟩ := q
      refine ⟨a, us, (if_neg im).trans e1, e2, ?_, by rw [fe]; exact p⟩
      have an : a ≠ D := fun z => f2 i (by rw [← z]; exact e1)
      rw [upd_ne an]
      exact e3
    | fd => exact q
  · by_cases hi : i = m <;> by_cases hj : j = m
    · rw [hi, hj]
    · rw [if_pos hi] at h1
      rw [if_neg hj] at h2
      exact absurd (h1 ▸ h2) (f2 j)
    · rw [if_neg hi] at h1
      rw [if_pos hj] at h2
      exact absurd (h2 ▸ h1) (f2 i)
    · rw [if_neg hi] at h1
      rw [if_neg hj] at h2
      exact R.inj i j a h1 h2
  · have h1 : B ≤ i := Nat.le_trans (Nat.le_max_left _ _) hi
    have h2 : m + 1 ≤ i := Nat.le_trans (Nat.le_max_right _ _) hi
    rw [if_neg (by omega)]
    exact hB i h1
  · by_cases hi : i = m
    · rw [if_pos hi] at h
      cases h
      exact ⟨⟨_, upd_same⟩, f4⟩
    · rw [if_neg hi] at h
      obtain ⟨⟨o, ho⟩, n⟩ := R.own i a h
      have an : a ≠ D := fun z => f2 i (by rw [← z]; exact h)
      exact ⟨⟨o, by rw [upd_ne an]; exact ho⟩, n⟩
  · rw [upd_ne (Ne.symm f3)]
    exact R.feed
  · have cn : c.ca ≠ D := fun z => by
      have q := R.cells
      rw [z, hD] at q
      cases q
    rw [upd_ne cn]
    exact R.cells
  · have bn : b ≠ D := fun z => by
      rw [z, f4] at h
      cases h
    rw [upd_ne bn]
    exact R.entry b o h n
end
end DL

set_option maxHeartbeats 1000000
/-! DL, part f: list comprehensions -/
namespace DL
open PySem PySem.Spec PyProof.Rows L2
section
variable {X : Cx} {c : Cn} {W : WX'} {pos : Pos}

theorem Rel.less {O : Nat → Option Addr} {H : Hp} {σ : L2.St} {ρ : Rho} {φ : Fd} {m : Nat} {D : Addr} (om : O m = none) (hm : ρ.length ≤ m) (R : Rel c (fun i => if i = m then some D else O i) H σ ρ φ) : Rel c O H σ ρ φ := by
  have sub : ∀ i b, O i = some b → (if i = m then some D else O i) = some b := fun i b h => by
    have : i ≠ m := fun z => by rw [z, om] at h; cases h
    rw [if_neg this]
    exact h
  have fg : Gro (Fr c (fun i => if i = m then some D else O i) H) (Fr c O H) := fun b o h => by
    obtain ⟨h1, h2, h3⟩ := fr_some h
    exact fr_of h1 h2 fun i z => h3 i (sub i b z)
  obtain ⟨B, hB⟩ := R.fin
  refine ⟨R.ok, fun i s e => ?_, R.len, fun i j a h1 h2 => R.inj i j a (sub _ _ h1) (sub _ _ h2), ⟨B, fun i hi => ?_⟩, fun i a h => R.own i a (sub _ _ h), R.feed, R.cells, R.entry⟩
  · have lt : i < ρ.length := (List.getElem?_eq_some_iff.mp e).1
    have im : i ≠ m := by omega
    have q := R.slot i s e
    cases s with
    | un => trivial
    | dat d => obtain ⟨x, e1, p⟩ := q; exact ⟨x, e1, dq_gro fg p⟩
    | own ds => obtain ⟨a, us, e1, e2, e3, p⟩ := q; exact ⟨a, us, (if_neg im).symm.trans e1, e2, e3, dqA_gro fg p⟩
    | fd => exact q
  · by_cases im : i = m
    · rw [im]; exact om
    · exact (if_neg im).symm.trans (hB i hi)
/-- an own thing that no slot holds changes -/
theorem fr_upd {O : Nat → Option Addr} {H : Hp} {m : Nat} {D : Addr} {o : HO} (hm : O m = some D) : Fr c O (upd H D o) = Fr c O H := by
  funext b
  unfold Fr
  by_cases hz : c.Z b ∨ ∃ i, O i = some b
  · rw [if_pos hz, if_pos hz]
  · rw [if_neg hz, if_neg hz, upd_ne fun z => hz (.inr ⟨m, by rw [z]; exact hm⟩)]
theorem Rel.updFar {O : Nat → Option Addr} {H : Hp} {σ : L2.St} {ρ : Rho} {φ : Fd} {m : Nat} {D : Addr} {o : HO} (R : Rel c O H σ ρ φ) (hm : O m = some D) (far : ρ.length ≤ m) : Rel c O (upd H D o) σ ρ φ := by
  have fe := fr_upd (c := c) (H := H) (o := o) hm
  have nD : ∀ i a, O i = some a → i ≠ m → a ≠ D := fun i a h hi z => hi (R.inj i m D (z ▸ h) hm)
  have h0 : c.H0 D = none := (R.own m D hm).2
  refine ⟨R.ok, fun i s e => ?_, R.len, R.inj, R.fin, fun i a h => ?_, ?_, ?_, fun b u h n => ?_⟩
  · have lt : i < ρ.length := (List.getElem?_eq_some_iff.mp e).1
    have q := R.slot i s e
    cases s with
    | un => trivial
    | dat d => obtain ⟨x, e1, p⟩ := q; exact ⟨x, e1, by rw [fe]; exact p⟩
    | own ds => obtain ⟨a, us, e1, e2, e3, p⟩ := q; exact ⟨a, us, e1, e2, by rw [upd_ne (nD i a e1 (by omega))]; exact e3, by rw [fe]; exact p⟩
    | fd => exact q
  · obtain ⟨⟨u, hu⟩, n⟩ := R.own i a h
    by_cases ha : a = D
    · exact ⟨⟨o, by rw [ha]; exact upd_same⟩, n⟩
    · exact ⟨⟨u, by rw [upd_ne ha]; exact hu⟩, n⟩
  · have fn : c.fa ≠ D := fun z => R.ownfa m (by rw [z]; exact hm)
    rw [upd_ne fn]
    exact R.feed
  · have cn : c.ca ≠ D := fun z => by
      obtain ⟨o, e⟩ := R.ok.c0
      rw [z, h0] at e
      cases e
    rw [upd_ne cn]
    exact R.cells
  · have bn : b ≠ D := fun z => by
      rw [z, h0] at h
      cases h
    rw [upd_ne bn]
    exact R.entry b u h n
theorem noErr_bind {α β : Type} {r : Res α} {k : α → Fd → Res β} : noErr (r.bind k) = match r with | .ok a φ => noErr (k a φ) | _ => .no := by
  cases r <;> rfl
theorem pts_imp {ifs : List Expr} {t t' : TT} (h : PTs X ifs t) (i : ∀ σ H Q, t' σ H Q → t σ H Q) : PTs X ifs t' := ⟨fun pins s σ H Q I q => h.run pins s σ H Q I (i σ H Q q)⟩
theorem qts_nil : PTs X [] (tDT c W mtYes) := pts_imp pts_nil fun σ H Q ⟨O, ρ, φ, R, h⟩ => h H R (.refl _)
theorem qts_one {a : Expr} {t : MT} (h : PT X a (tDT c W t)) : PTs X [a] (tDT c W t) := pts_one h
theorem bindR_len {t : Tg} {d : Dt} {ρ ρ' : Rho} (e : bindT t d ρ = some ρ') : ρ'.length = ρ.length := by
  have sl : ∀ (js : List Nat) (ds : List Dt) (ρ : Rho), (setR ρ js ds).length = ρ.length := by
    intro js
    induction js with
    | nil => intro ds ρ; cases ds <;> rfl
    | cons j js ih =>
      intro ds ρ
      cases ds with
      | nil => rfl
      | cons d ds => exact (ih ds _).trans List.length_set
  cases t with
  | nm j => cases e; exact List.length_set
  | tp js =>
    cases d with
    | tuple xs =>
      have e' : (if xs.length = js.length then some (setR ρ js xs) else none) = some ρ' := e
      by_cases hl : xs.length = js.length
      · rw [if_pos hl] at e'; cases e'; exact sl _ _ _
      · rw [if_neg hl] at e'; cases e'
    | _ => cases e
theorem wipeR_len (ρ : Rho) : ∀ vs : List Nat, (wipeR ρ vs).length = ρ.length
  | [] => rfl
  | v :: vs => by unfold wipeR; rw [List.length_set, wipeR_len ρ vs]
/-- the reading of a comprehension -/
theorem t_lc {K : PySem.W.Frag} (hK : K = c.K) {it : MI} {t : Tg} {test : MT} {elt : ME} {vs : List Nat} (hj : ∀ j ∈ t.js, j ∈ vs) {σ : L2.St} {H : Hp} {Q : VK} (h : tD c W (mLc it t test elt vs) σ H Q) :
    tLc (tDI c W it) (gTg K t) (tDT c W0 test) (tD c W0 elt) vs σ H Q := by
  obtain ⟨O, ρ, φ, R, h⟩ := h
  refine ⟨O, ρ, φ, R, gei_bind h fun xs φ1 J H1 _ R1 s1 wk h1 => ?_⟩
  by_cases hz : xs.length ≤ sizeLine
  rotate_left
  · rw [if_neg hz] at h1
    exact h1.elim
  rw [if_pos hz] at h1
  intro D hD
  obtain ⟨B, hB⟩ := R1.fin
  obtain ⟨f1, f2, f3, f4⟩ := R1.fresh hD
  obtain ⟨m, om, R2, fe, far⟩ : ∃ m, O m = none ∧ Rel c (fun i => if i = m then some D else O i) (upd H1 D (.lst [])) σ ρ φ1 ∧ Fr c (fun i => if i = m then some D else O i) (upd H1 D (.lst [])) = Fr c O H1 ∧ ρ.length ≤ m := by
    obtain ⟨q1, q2⟩ := R1.moreAt (m := max B ρ.length) (vs := []) hD (hB _ (Nat.le_max_left _ _)) (Nat.le_max_right _ _)
    exact ⟨max B ρ.length, hB _ (Nat.le_max_left _ _), q1, q2, Nat.le_max_right _ _⟩
  generalize hO : (fun i => if i = m then some D else O i) = O' at R2 fe
  have oD : O' m = some D := by rw [← hO]; exact if_pos rfl
  refine ⟨fun i mm H2 => mm = xs.length - i ∧ i ≤ xs.length ∧ ∃ φ2 acc accD, Rel c O' H2 σ ρ φ2 ∧ Step c H1 H2 ∧ H2 D = some (.lst acc) ∧ DqAll c.K (Fr c O' H2) acc accD ∧ acc.length ≤ i ∧
      GE c W O σ ρ H1 Q (noErr ((lcGo t test elt (wipeR ρ vs) (xs.drop i) φ2).bind fun ys φ3 => .ok (.list (accD ++ ys)) φ3)), ⟨xs.length, rfl, Nat.zero_le _, φ1, [], [], R2, .of (.upd hD), upd_same, .nil, Nat.le_refl _, h1⟩, ?_⟩
  rintro i mm H2 ⟨rfl, hi, φ2, acc, accD, R3, s2, eD, pa, la, G⟩
  have gr2 : Gro (Fr c O H1) (Fr c O' H2) := fun b o hb => by
    obtain ⟨b1, b2, b3⟩ := fr_some hb
    refine fr_of (s2 b o b1 fun z => b2 (z ▸ R.ok.zf)) b2 fun j z => ?_
    rw [← hO] at z
    have z : (if j = m then some D else O j) = some b := z
    by_cases hj : j = m
    · rw [if_pos hj] at z
      cases z
      rw [hD] at b1
      cases b1
    · rw [if_neg hj] at z
      exact b3 j z
  have WK := wk O' H2 i gr2 R3.nw
  by_cases hlt : i < xs.length
  rotate_left
  · have e : i = xs.length := by omega
    refine .inl ⟨WK.2 e, ?_⟩
    rw [e, List.drop_length] at G
    have G' : GE c W O σ ρ H1 Q (.ok (.list (accD ++ [])) φ2) := G
    rw [List.append_nil] at G'
    have R4 : Rel c O H2 σ ρ φ2 := Rel.less om far (by rw [hO]; exact R3)
    refine G' (.ref D) H2 R4 s2 (.lst (fr_of eD f1 f2) (dqA_gro (fun b o hb => ?_) pa))
    obtain ⟨b1, b2, b3⟩ := fr_some hb
    refine fr_of b1 b2 fun j z => b3 j ?_
    rw [← hO]
    have : j ≠ m := fun y => by rw [y, om] at z; cases z
    show (if j = m then some D else O j) = some b
    rw [if_neg this]
    exact z
  · obtain ⟨go, item⟩ := WK.1 hlt
    refine .inr ⟨go, fun H' => ∃ φ2 acc accD, Rel c O' H' σ ρ φ2 ∧ Step c H1 H' ∧ H' D = some (.lst acc) ∧ DqAll c.K (Fr c O' H') acc accD ∧ acc.length ≤ i + 1 ∧
      GE c W O σ ρ H1 Q (noErr ((lcGo t test elt (wipeR ρ vs) (xs.drop (i + 1)) φ2).bind fun ys φ3 => .ok (.list (accD ++ ys)) φ3)), fun H' n => ⟨xs.length - (i + 1), by omega, rfl, hlt, n⟩, fun x H3 y => ?_⟩
    obtain ⟨g3, d, ed, pd⟩ := item x H3 y
    have edd : xs.drop i = d :: xs.drop (i + 1) := by
      obtain ⟨lt, e⟩ := List.getElem?_eq_some_iff.mp ed
      rw [← e]
      exact List.drop_eq_getElem_cons lt
    rw [edd] at G
    have R4 : Rel c O' H3 σ ρ φ2 := R3.gro g3
    have G1 : GE c W O σ ρ H1 Q (noErr ((match bindT t d (wipeR ρ vs) with
      | none => .no
      | some ρ1 => (test ρ1 φ2).bind fun b φ1 => if b = true then (elt ρ1 φ1).bind fun y φ2 => (lcGo t test elt (wipeR ρ vs) (xs.drop (i + 1)) φ2).bind fun ys φ3 => .ok (y :: ys) φ3 else lcGo t test elt (wipeR ρ vs) (xs.drop (i + 1)) φ1 : Res (List Dt)).bind fun ys φ3 => .ok (.list (accD ++ ys)) φ3)) := G
    cases eb : bindT t d (wipeR ρ vs) with
    | none => rw [eb] at G1; exact G1.elim
    | some ρ1 =>
      rw [eb] at G1
      refine gTg_ok hK (R4.wipe vs) pd eb fun σ2 ⟨js, us, e2, ejs⟩ R5 => ⟨by rw [e2]; exact wipe_setV (fun j hj' => hj j (ejs ▸ hj')), O', ρ1, φ2, R5, ?_⟩
      have G1 : GE c W O σ ρ H1 Q (noErr (((test ρ1 φ2).bind fun b φ1 => if b = true then (elt ρ1 φ1).bind fun y φ2 => (lcGo t test elt (wipeR ρ vs) (xs.drop (i + 1)) φ2).bind fun ys φ3 => .ok (y :: ys) φ3 else lcGo t test elt (wipeR ρ vs) (xs.drop (i + 1)) φ1).bind fun ys φ3 => .ok (.list (accD ++ ys)) φ3)) := G1
      have G2 : GE c W O σ ρ H1 Q (noErr ((test ρ1 φ2).bind fun b φ1 => (if b = true then (elt ρ1 φ1).bind fun y φ2 => (lcGo t test elt (wipeR ρ vs) (xs.drop (i + 1)) φ2).bind fun ys φ3 => .ok (y :: ys) φ3 else lcGo t test elt (wipeR ρ vs) (xs.drop (i + 1)) φ1).bind fun ys φ3 => .ok (.list (accD ++ ys)) φ3)) := by
        revert G1
        cases test ρ1 φ2 <;> exact fun h => h
      clear G1
      rw [noErr_bind] at G2
      cases et : test ρ1 φ2 with
      | err e φ' => rw [et] at G2; exact G2.elim
      | no => rw [et] at G2; exact G2.elim
      | ok b φ3 =>
        rw [et] at G2
        intro H4 R6 s4
        have sAll : Step c H1 H4 := (s2.trans (.of g3)).trans s4
        have eD4 : H4 D = some (.lst acc) := s4 _ _ (g3 _ _ eD) f3
        have pa4 : DqAll c.K (Fr c O' H4) acc accD := dqA_gro ((Step.trans (.of g3) s4).fr R.ok) pa
        cases b with
        | false =>
          rw [if_neg Bool.false_ne_true]
          exact ⟨φ3, acc, accD, R4.step s4 R6.feed R6.cells, sAll, eD4, pa4, by omega, G2⟩
        | true =>
          rw [if_pos rfl]
          refine ⟨O', ρ1, φ3, R6, ?_⟩
          have G3 : GE c W O σ ρ H1 Q (noErr ((elt ρ1 φ3).bind fun y φ2 => ((lcGo t test elt (wipeR ρ vs) (xs.drop (i + 1)) φ2).bind fun ys φ3 => .ok (.list ((accD ++ [y]) ++ ys)) φ3))) := by
            revert G2
            show GE c W O σ ρ H1 Q (noErr (((elt ρ1 φ3).bind fun y φ2 => (lcGo t test elt (wipeR ρ vs) (xs.drop (i + 1)) φ2).bind fun ys φ3 => .ok (y :: ys) φ3).bind fun ys φ3 => .ok (.list (accD ++ ys)) φ3)) → _
            cases elt ρ1 φ3 with
            | ok y φ4 =>
              show GE c W O σ ρ H1 Q (noErr (((lcGo t test elt (wipeR ρ vs) (xs.drop (i + 1)) φ4).bind fun ys φ3 => .ok (y :: ys) φ3).bind fun ys φ3 => .ok (.list (accD ++ ys)) φ3)) → GE c W O σ ρ H1 Q (noErr ((lcGo t test elt (wipeR ρ vs) (xs.drop (i + 1)) φ4).bind fun ys φ3 => .ok (.list ((accD ++ [y]) ++ ys)) φ3))
              cases lcGo t test elt (wipeR ρ vs) (xs.drop (i + 1)) φ4 with
              | ok ys φ5 =>
                show GE c W O σ ρ H1 Q (noErr (.ok (.list (accD ++ (y :: ys))) φ5)) → GE c W O σ ρ H1 Q (noErr (.ok (.list ((accD ++ [y]) ++ ys)) φ5))
                rw [List.append_assoc]
                exact fun h => h
              | err e φ5 => exact fun h => h
              | no => exact fun h => h
            | err e φ4 => exact fun h => h
            | no => exact fun h => h
          clear G2
          rw [noErr_bind] at G3
          cases ee : elt ρ1 φ3 with
          | err e φ' => rw [ee] at G3; exact G3.elim
          | no => rw [ee] at G3; exact G3.elim
          | ok yd φ4 =>
            rw [ee] at G3
            intro v H5 R7 s5 pv
            have eD5 : H5 D = some (.lst acc) := s5 _ _ eD4 f3
            refine ⟨acc, eD5, by omega, φ4, acc ++ [v], accD ++ [yd], ?_, ?_, upd_same, ?_, by rw [List.length_append]; show acc.length + 1 ≤ i + 1; omega, G3⟩
            · exact (R4.step (s4.trans s5) R7.feed R7.cells).updFar oD far
            · intro b o hb n
              have bn : b ≠ D := fun z => by rw [z, hD] at hb; cases hb
              rw [upd_ne bn]
              exact (sAll.trans s5) b o hb n
            · rw [fr_upd oD]
              exact dqA_app (dqA_gro (s5.fr R.ok) pa4) (.cons pv .nil)
/-- [elt for tg in iter if ..] -/
theorem qe_lc {elt tg iter : Expr} {ifs : List Expr} {scope : Scope} {own : List (Str × Nat)} {it : MI} {t : Tg} {test : MT} {melt : ME} (hK : X.K = c.K) (hc : X.calm = true) (hN : X.N.Nodup) (hi : PI X tg iter (tDI c W it)) (ok : BlkOk X.N X.env.scope scope own)
    (hj : ∀ j ∈ t.js, j ∈ own.map (·.2))
    (hg : ∀ (s : Shared) (H : Hp) (C : Addr) (cl : List (Str × Addr)) (fp : List Addr), PG (X.blk s H scope (compEnvC scope cl C X.env) fp) tg (gTg X.K t))
    (ht : ∀ (s : Shared) (H : Hp) (C : Addr) (cl : List (Str × Addr)) (fp : List Addr), PTs (X.blk s H scope (compEnvC scope cl C X.env) fp) ifs (tDT c W0 test))
    (he : ∀ (s : Shared) (H : Hp) (C : Addr) (cl : List (Str × Addr)) (fp : List Addr), PE (X.blk s H scope (compEnvC scope cl C X.env) fp) elt (tD c W0 melt))
    (hs : ∀ x, foldedSetIterable iter X.env x = pure x := by intro _; rfl) : PE X (.ListComp elt [⟨tg, iter, ifs, 0⟩] scope pos) (tD c W (mLc it t test melt (own.map (·.2)))) :=
  pe_imp (pe_lc hc hN hi ok hg ht he hs) fun σ H Q h => t_lc hK hj h
end
end DL

set_option maxHeartbeats 1000000
/-! DL, part g: statements -/
namespace DL
open PySem PySem.Spec PyProof.Rows L2

def sNx : MS := fun ρ φ => .ok (.nx ρ) φ
def sSeq (f g : MS) : MS := fun ρ φ => match f ρ φ with
  | .ok (.nx ρ') φ' => g ρ' φ'
  | r => r
/-- an expression's end within a statement -/
def eS (r : Res Dt) (ρ : Rho) (k : Dt → Fd → Res Fl) : Res Fl := match r with
  | .ok d φ' => k d φ'
  | .err e φ' => .ok (.ex e ρ) φ'
  | .no => .no
def tSt (r : Res Bool) (ρ : Rho) (k : Bool → Fd → Res Fl) : Res Fl := match r with
  | .ok d φ' => k d φ'
  | .err e φ' => .ok (.ex e ρ) φ'
  | .no => .no
def aS (r : Res (List Dt)) (ρ : Rho) (k : List Dt → Fd → Res Fl) : Res Fl := match r with
  | .ok d φ' => k d φ'
  | .err e φ' => .ok (.ex e ρ) φ'
  | .no => .no
def sSet (j : Nat) (f : ME) : MS := fun ρ φ => eS (f ρ φ) ρ fun d φ' => .ok (.nx (ρ.set j (.dat d))) φ'
def sExpr (f : ME) : MS := fun ρ φ => eS (f ρ φ) ρ fun _ φ' => .ok (.nx ρ) φ'
def sRet (f : ME) : MS := fun ρ φ => eS (f ρ φ) ρ fun d φ' => .ok (.rt d) φ'
def sRetN : MS := fun _ φ => .ok (.rt .none) φ
def sBrk : MS := fun ρ φ => .ok (.bk ρ) φ
def sCnt : MS := fun ρ φ => .ok (.ct ρ) φ
def sIf (t : MT) (f g : MS) : MS := fun ρ φ => tSt (t ρ φ) ρ fun b φ' => if b = true then f ρ φ' else g ρ φ'
def sUnp (t : Tg) (f : ME) : MS := fun ρ φ => eS (f ρ φ) ρ fun d φ' => match bindT t d ρ with
  | some ρ' => .ok (.nx ρ') φ'
  | none => .no
def sPar (i j : Nat) (g : MA) : MS := fun ρ φ => aS (g ρ φ) ρ fun ds φ' => match ds with
  | [a, b] => .ok (.nx ((ρ.set i (.dat a)).set j (.dat b))) φ'
  | _ => .no
def sPar3 (i j l : Nat) (g : MA) : MS := fun ρ φ => aS (g ρ φ) ρ fun ds φ' => match ds with
  | [a, b, d] => .ok (.nx (((ρ.set i (.dat a)).set j (.dat b)).set l (.dat d))) φ'
  | _ => .no
def sOwn (j : Nat) (g : MA) : MS := fun ρ φ => aS (g ρ φ) ρ fun ds φ' => if ds.length ≤ sizeLine then .ok (.nx (ρ.set j (.own ds))) φ' else .no
def sApp (j : Nat) (f : ME) : MS := fun ρ φ => match ρ[j]? with
  | some (.own ds) => eS (f ρ φ) ρ fun d φ' => if ds.length < sizeLine then .ok (.nx (ρ.set j (.own (ds ++ [d])))) φ' else .no
  | _ => .no
/-- an own list is handed over: from here on it is data -/
def sFrz (j : Nat) : MS := fun ρ φ => match ρ[j]? with
  | some (.own ds) => .ok (.nx (ρ.set j (.dat (.list ds)))) φ
  | _ => .no
def fdSet (φ : Fd) : Fk → Dt → Option Fd
  | .s, .int i => some { φ with spot := i }
  | .l, .int i => some { φ with left := i }
  | .n, .int i => some { φ with count := i }
  | _, _ => none
def sFd (i : Nat) (k : Fk) (f : ME) : MS := fun ρ φ => match ρ[i]? with
  | some .fd => eS (f ρ φ) ρ fun d φ' => match fdSet φ' k d with
    | some φ2 => .ok (.nx ρ) φ2
    | none => .no
  | _ => .no
def forGo (t : Tg) (body : MS) : List Dt → Rho → Fd → Res Fl
  | [], ρ, φ => .ok (.nx ρ) φ
  | x :: xs, ρ, φ => match bindT t x ρ with
    | none => .no
    | some ρ1 => match body ρ1 φ with
      | .ok (.nx ρ2) φ2 => forGo t body xs ρ2 φ2
      | .ok (.ct ρ2) φ2 => forGo t body xs ρ2 φ2
      | .ok (.bk ρ2) φ2 => .ok (.nx ρ2) φ2
      | r => r
def sFor (it : MI) (t : Tg) (body : MS) : MS := fun ρ φ => aS (it ρ φ) ρ fun xs φ' => forGo t body xs ρ φ'
def whGo (t : MT) (body : MS) : Nat → Rho → Fd → Res Fl
  | 0, _, _ => .no
  | n + 1, ρ, φ => tSt (t ρ φ) ρ fun b φ1 => if b = true then match body ρ φ1 with
      | .ok (.nx ρ2) φ2 => whGo t body n ρ2 φ2
      | .ok (.ct ρ2) φ2 => whGo t body n ρ2 φ2
      | .ok (.bk ρ2) φ2 => .ok (.nx ρ2) φ2
      | r => r
    else .ok (.nx ρ) φ1

section
variable {X : Cx} {c : Cn} {W : WX'} {pos : Pos} {st : Stmt} {rest : List Stmt} {e : Expr} {f g : MS} {me : ME} {D : Ends}

theorem gs_e {O : Nat → Option Addr} {σ : L2.St} {ρ : Rho} {H F0 : Hp} {r : Res Dt} {k : Dt → Fd → Res Fl} {R : VK} (h : GS c W F0 D (eS r ρ k))
    (go : ∀ d φ' v H', r = .ok d φ' → Rel c O H' σ ρ φ' → Step c H H' → Dq c.K (Fr c O H') v d → GS c W F0 D (k d φ') → R v H') : GE c W O σ ρ H R r := by
  cases r with
  | ok d φ' => exact fun v H' R' st p => go d φ' v H' rfl R' st p h
  | err e φ' => exact fun C x H' R' q => h O σ C x H' R' q
  | no => exact h
theorem gs_t {O : Nat → Option Addr} {σ : L2.St} {ρ : Rho} {H F0 : Hp} {r : Res Bool} {k : Bool → Fd → Res Fl} {R : Bool → Hp → Prop} (h : GS c W F0 D (tSt r ρ k))
    (go : ∀ d φ' H', r = .ok d φ' → Rel c O H' σ ρ φ' → Step c H H' → GS c W F0 D (k d φ') → R d H') : GT c W O σ ρ H R r := by
  cases r with
  | ok d φ' => exact fun H' R' st => go d φ' H' rfl R' st h
  | err e φ' => exact fun C x H' R' q => h O σ C x H' R' q
  | no => exact h
theorem gs_a {O : Nat → Option Addr} {σ : L2.St} {ρ : Rho} {H F0 : Hp} {r : Res (List Dt)} {k : List Dt → Fd → Res Fl} {R : List V → Hp → Prop} (h : GS c W F0 D (aS r ρ k))
    (go : ∀ d φ' v H', r = .ok d φ' → Rel c O H' σ ρ φ' → Step c H H' → DqAll c.K (Fr c O H') v d → GS c W F0 D (k d φ') → R v H') : GA c W O σ ρ H R r := by
  cases r with
  | ok d φ' => exact fun v H' R' st p => go d φ' v H' rfl R' st p h
  | err e φ' => exact fun C x H' R' q => h O σ C x H' R' q
  | no => exact h
theorem gs_i {O : Nat → Option Addr} {σ : L2.St} {ρ : Rho} {H F0 : Hp} {r : Res (List Dt)} {k : List Dt → Fd → Res Fl} {R : It → Hp → Prop} (h : GS c W F0 D (aS r ρ k))
    (go : ∀ d φ' J H', r = .ok d φ' → Rel c O H' σ ρ φ' → Step c H H' → Walks c O H' J d → GS c W F0 D (k d φ') → R J H') : GI c W O σ ρ H R r := by
  cases r with
  | ok d φ' => exact fun J H' R' st p => go d φ' J H' rfl R' st p h
  | err e φ' => exact fun C x H' R' q => h O σ C x H' R' q
  | no => exact h

theorem qs_nil : PSs X [] (tS c W sNx) := pss_imp pss_nil fun D σ H ⟨O, ρ, φ, R, h⟩ => h O σ H R (.refl _)
theorem t_seq {σ : L2.St} {H : Hp} (h : tS c W (sSeq f g) D σ H) : tSeq (tS c W f) (tS c W g) D σ H := by
  obtain ⟨O, ρ, φ, R, h⟩ := h
  refine ⟨O, ρ, φ, R, ?_⟩
  unfold sSeq at h
  revert h
  cases f ρ φ with
  | ok fl φ' =>
    cases fl with
    | nx ρ' => exact fun h O' σ' H' R' gr => ⟨O', ρ', φ', R', h.gro gr⟩
    | _ => exact fun h => h
  | err e φ' => exact fun h => h
  | no => exact fun h => h
theorem qs_cons (h1 : PS X st (tS c W f)) (h2 : PSs X rest (tS c W g)) : PSs X (st :: rest) (tS c W (sSeq f g)) := pss_imp (pss_cons h1 h2) fun _ _ _ h => t_seq h
theorem qs_one (h1 : PS X st (tS c W f)) : PSs X [st] (tS c W f) := pss_one h1
theorem qs_pass : PS X (.Pass pos) (tS c W sNx) := ps_imp ps_pass fun D σ H ⟨O, ρ, φ, R, h⟩ => h O σ H R (.refl _)
theorem qs_break : PS X (.Break pos) (tS c W sBrk) := ps_imp ps_break fun D σ H ⟨O, ρ, φ, R, h⟩ => h O σ H R (.refl _)
theorem qs_continue : PS X (.Continue pos) (tS c W sCnt) := ps_imp ps_continue fun D σ H ⟨O, ρ, φ, R, h⟩ => h O σ H R (.refl _)
theorem qs_set {j : Nat} {x : Str} {pos' : Pos} (he : PE X e (tD c W me)) (hN : X.N.Nodup) (hi : X.N[j]? = some x := by rfl) (hx : Loc X.env.scope x := by first | exact Or.inl rfl | exact Or.inr rfl)
    (hs : swapsWith e (some (.Name x pos')) pos.line X.env = pure false := by rfl) (hf : X.fn x = true ∨ X.env.scope.names.lookup x = some .local := by first | exact .inl rfl | exact .inr rfl | assumption) : PS X (.Assign [.Name x pos'] e pos) (tS c W (sSet j me)) :=
  ps_imp (ps_set hN hi hx he hs hf) fun D σ H ⟨O, ρ, φ, R, h⟩ => ⟨O, ρ, φ, R, gs_e h fun d φ1 v H1 _ R1 s1 p1 h1 => h1 O _ _ (R1.set j p1) (s1.fr R.ok)⟩
theorem qs_expr (he : PE X e (tD c W me)) (hs : swapsWith e none pos.line X.env = pure false := by rfl) : PS X (.Expr e pos) (tS c W (sExpr me)) :=
  ps_imp (ps_expr he hs) fun D σ H ⟨O, ρ, φ, R, h⟩ => ⟨O, ρ, φ, R, gs_e h fun d φ1 v H1 _ R1 s1 p1 h1 => h1 O _ _ R1 (s1.fr R.ok)⟩
theorem qs_ret (he : PE X e (tD c W me)) : PS X (.Return (some e) pos) (tS c W (sRet me)) :=
  ps_imp (ps_ret he) fun D σ H ⟨O, ρ, φ, R, h⟩ => ⟨O, ρ, φ, R, gs_e h fun d φ1 v H1 _ R1 s1 p1 h1 => h1 O σ ρ v H1 R1 p1⟩
theorem qs_retN : PS X (.Return none pos) (tS c W sRetN) := ps_imp ps_retN fun D σ H ⟨O, ρ, φ, R, h⟩ => h O σ ρ .non H R .non
theorem qs_if {t : MT} {a b : List Stmt} (hc : PT X e (tDT c W t)) (ha : PSs X a (tS c W f)) (hb : PSs X b (tS c W g)) : PS X (.If e a b pos) (tS c W (sIf t f g)) :=
  ps_imp (ps_if hc ha hb) fun D σ H ⟨O, ρ, φ, R, h⟩ => ⟨O, ρ, φ, R, gs_t h fun d φ1 H1 _ R1 s1 h1 => by
    cases d with
    | true => exact ⟨O, ρ, φ1, R1, h1.gro (s1.fr R.ok)⟩
    | false => exact ⟨O, ρ, φ1, R1, h1.gro (s1.fr R.ok)⟩⟩
/-- (a, b, ..) = e -/
theorem qs_unp {tg : Expr} {t : Tg} (hK : X.K = c.K) (he : PE X e (tD c W me)) (hg : PG X tg (gTg X.K t)) (hs : swapsWithSole [tg] e pos.line X.env = pure false := by rfl) (hw : swappedStores [tg] e X.env = pure none := by rfl)
    (h1 : (assignEach [tg] X.env).map (·.2) = [assign tg X.env] := by rfl) : PS X (.Assign [tg] e pos) (tS c W (sUnp t me)) :=
  ps_imp (ps_asg he hg hs hw h1) fun D σ H ⟨O, ρ, φ, R, h⟩ => ⟨O, ρ, φ, R, gs_e h fun d φ1 v H1 _ R1 s1 p1 h1 => by
    cases eb : bindT t d ρ with
    | none => rw [eb] at h1; exact h1.elim
    | some ρ' =>
      rw [eb] at h1
      exact gTg_ok hK R1 p1 eb fun σ' _ R2 => h1 O σ' H1 R2 (s1.fr R.ok)⟩
theorem qs_par {i j : Nat} {x y : Str} {a b : Expr} {ga : MA} {px py pt : Pos} {kt k2 : Nat} {pt2 : Pos} (hc : X.calm = true) (hN : X.N.Nodup) (ha : PA X [a, b] (tDA c W ga)) (hi : X.N[i]? = some x := by rfl) (hj : X.N[j]? = some y := by rfl) (hij : i ≠ j := by decide)
    (hx : X.env.scope.names.lookup x = some .local := by rfl) (hy : X.env.scope.names.lookup y = some .local := by rfl)
    (hw : swappedStores [.Tuple [.Name x px, .Name y py] kt pt] (.Tuple [a, b] k2 pt2) X.env = pure (some [x, y]) := by rfl)
    (hs : swapsWithSole [.Tuple [.Name x px, .Name y py] kt pt] (.Tuple [a, b] k2 pt2) pos.line X.env = pure false := by rfl) :
    PS X (.Assign [.Tuple [.Name x px, .Name y py] kt pt] (.Tuple [a, b] k2 pt2) pos) (tS c W (sPar i j ga)) :=
  ps_imp (ps_par hc hN hi hj hij hx hy ha hw hs) fun D σ H ⟨O, ρ, φ, R, h⟩ => ⟨O, ρ, φ, R, gs_a h fun ds φ1 vs H1 _ R1 s1 p1 h1 => by
    split at h1
    · cases p1 with
      | cons q1 t1 =>
        cases t1 with
        | cons q2 t2 =>
          cases t2
          exact ⟨_, _, rfl, h1 O _ H1 ((R1.set i q1).set j q2) (s1.fr R.ok)⟩
    · exact h1.elim⟩
theorem qs_par3 {i j l : Nat} {x y z : Str} {a b d : Expr} {ga : MA} {px py pz pt : Pos} {kt k2 : Nat} {pt2 : Pos} (hc : X.calm = true) (hN : X.N.Nodup) (ha : PA X [a, b, d] (tDA c W ga)) (hi : X.N[i]? = some x := by rfl) (hj : X.N[j]? = some y := by rfl) (hl : X.N[l]? = some z := by rfl)
    (hij : i ≠ j := by decide) (hil : i ≠ l := by decide) (hjl : j ≠ l := by decide)
    (hx : X.env.scope.names.lookup x = some .local := by rfl) (hy : X.env.scope.names.lookup y = some .local := by rfl) (hz : X.env.scope.names.lookup z = some .local := by rfl)
    (hw : swappedStores [.Tuple [.Name x px, .Name y py, .Name z pz] kt pt] (.Tuple [a, b, d] k2 pt2) X.env = pure (some [x, y, z]) := by rfl)
    (hs : swapsWithSole [.Tuple [.Name x px, .Name y py, .Name z pz] kt pt] (.Tuple [a, b, d] k2 pt2) pos.line X.env = pure false := by rfl) :
    PS X (.Assign [.Tuple [.Name x px, .Name y py, .Name z pz] kt pt] (.Tuple [a, b, d] k2 pt2) pos) (tS c W (sPar3 i j l ga)) :=
  ps_imp (ps_par3 hc hN hi hj hl hij hil hjl hx hy hz ha hw hs) fun D σ H ⟨O, ρ, φ, R, h⟩ => ⟨O, ρ, φ, R, gs_a h fun ds φ1 vs H1 _ R1 s1 p1 h1 => by
    split at h1
    · cases p1 with
      | cons q1 t1 =>
        cases t1 with
        | cons q2 t2 =>
          cases t2 with
          | cons q3 t3 =>
            cases t3
            exact ⟨_, _, _, rfl, h1 O _ H1 (((R1.set i q1).set j q2).set l q3) (s1.fr R.ok)⟩
    · exact h1.elim⟩
/-- name = [..], on one line -/
theorem qs_setLc {i : Nat} {y : Str} {py : Pos} {elt tg iter : Expr} {ifs : List Expr} {scope : Scope} {own : List (Str × Nat)} {spos : Pos} {it : MI} {t : Tg} {test : MT} {melt : ME} (hK : X.K = c.K) (hc : X.calm = true) (hN : X.N.Nodup)
    (hi : PI X tg iter (tDI c W it)) (ok : BlkOk X.N X.env.scope scope own) (hj : ∀ j ∈ t.js, j ∈ own.map (·.2))
    (hg : ∀ (s : Shared) (H : Hp) (C : Addr) (cl : List (Str × Addr)) (fp : List Addr), PG (X.blk s H scope (compEnvC scope cl C X.env) fp) tg (gTg X.K t))
    (ht : ∀ (s : Shared) (H : Hp) (C : Addr) (cl : List (Str × Addr)) (fp : List Addr), PTs (X.blk s H scope (compEnvC scope cl C X.env) fp) ifs (tDT c W0 test))
    (he : ∀ (s : Shared) (H : Hp) (C : Addr) (cl : List (Str × Addr)) (fp : List Addr), PE (X.blk s H scope (compEnvC scope cl C X.env) fp) elt (tD c W0 melt))
    (hy : X.N[i]? = some y := by rfl) (hyl : X.env.scope.names.lookup y = some .local := by rfl)
    (hsw : swapsWith (.ListComp elt [⟨tg, iter, ifs, 0⟩] scope pos) (some (.Name y py)) spos.line X.env = pure true := by exact sw_true rfl rfl rfl (by decide +kernel))
    (hs : ∀ x, foldedSetIterable iter X.env x = pure x := by intro _; rfl) : PS X (.Assign [.Name y py] (.ListComp elt [⟨tg, iter, ifs, 0⟩] scope pos) spos) (tS c W (sSet i (mLc it t test melt (own.map (·.2))))) :=
  ps_imp (ps_setLc hc hN hy hyl hsw hi ok hg ht he hs) fun D σ H ⟨O, ρ, φ, R, h⟩ =>
    t_lc (c := c) (W := W) hK hj ⟨O, ρ, φ, R, gs_e h fun d φ1 v H1 _ R1 s1 p1 h1 => h1 O _ _ (R1.set i p1) (s1.fr R.ok)⟩

/-! ### lists of the frame's own -/
/-- slot j takes the new list p -/
theorem Rel.setOwn {O : Nat → Option Addr} {H : Hp} {σ : L2.St} {ρ : Rho} {φ : Fd} (R : Rel c O H σ ρ φ) {p : Addr} {vs : List V} {ds : List Dt} {j : Nat} (hp : H p = none) (pa : DqAll c.K (Fr c O H) vs ds) :
    ∃ O', Rel c O' (upd H p (.lst vs)) (σ.set j (some (.ref p))) (ρ.set j (.own ds)) φ ∧ Gro (Fr c O H) (Fr c O' (upd H p (.lst vs))) := by
  obtain ⟨f1, f2, f3, f4⟩ := R.fresh hp
  let O' : Nat → Option Addr := fun i => if i = j then some p else O i
  have oj : O' j = some p := if_pos rfl
  have oi : ∀ i, i ≠ j → O' i = O i := fun i h => if_neg h
  have gr : Gro (Fr c O H) (Fr c O' (upd H p (.lst vs))) := fun b o hb => by
    obtain ⟨b1, b2, b3⟩ := fr_some hb
    have bp : b ≠ p := fun z => by rw [z, hp] at b1; cases b1
    refine fr_of (by rw [upd_ne bp]; exact b1) b2 fun i z => ?_
    by_cases hi : i = j
    · rw [hi, oj] at z
      exact bp (Option.some.inj z).symm
    · rw [oi i hi] at z
      exact b3 i z
  obtain ⟨B, hB⟩ := R.fin
  refine ⟨O', ⟨R.ok, fun i s e => ?_, by rw [List.length_set, List.length_set]; exact R.len, fun i k a h1 h2 => ?_, ⟨max B (j + 1), fun i hi => ?_⟩, fun i a h => ?_, ?_, ?_, fun b o h n => ?_⟩, gr⟩
  · by_cases h : j = i
    · subst h
      have lt : j < ρ.length := by
        have := (List.getElem?_eq_some_iff.mp e).1
        rwa [List.length_set] at this
      rw [List.getElem?_set_self lt] at e
      cases e
      exact ⟨p, vs, oj, List.getElem?_set_self (by rw [R.len]; exact lt), upd_same, dqA_gro gr pa⟩
    · rw [List.getElem?_set_ne h] at e
      rw [List.getElem?_set_ne h]
      have q := R.slot i s e
      cases s with
      | un => trivial
      | dat d => obtain ⟨x, e1, p1⟩ := q; exact ⟨x, e1, dq_gro gr p1⟩
      | own es =>
        obtain ⟨a, us, e1, e2, e3, p1⟩ := q
        have an : a ≠ p := fun z => f2 i (by rw [← z]; exact e1)
        exact ⟨a, us, (oi i (Ne.symm h)).trans e1, e2, by rw [upd_ne an]; exact e3, dqA_gro gr p1⟩
      | fd => exact q
  · by_cases hi : i = j <;> by_cases hk : k = j
    · rw [hi, hk]
    · rw [hi, oj] at h1
      rw [oi k hk] at h2
      exact absurd (h1 ▸ h2) (f2 k)
    · rw [oi i hi] at h1
      rw [hk, oj] at h2
      exact absurd (h2 ▸ h1) (f2 i)
    · rw [oi i hi] at h1
      rw [oi k hk] at h2
      exact R.inj i k a h1 h2
  · have h1 : B ≤ i := Nat.le_trans (Nat.le_max_left _ _) hi
    have h2 : j + 1 ≤ i := Nat.le_trans (Nat.le_max_right _ _) hi
    rw [oi i (by omega)]
    exact hB i h1
  · by_cases hi : i = j
    · rw [hi, oj] at h
      cases h
      exact ⟨⟨_, upd_same⟩, f4⟩
    · rw [oi i hi] at h
      obtain ⟨⟨o, ho⟩, n⟩ := R.own i a h
      have an : a ≠ p := fun z => f2 i (by rw [← z]; exact h)
      exact ⟨⟨o, by rw [upd_ne an]; exact ho⟩, n⟩
  · rw [upd_ne (Ne.symm f3)]
    exact R.feed
  · have cn : c.ca ≠ p := fun z => by
      have q := R.cells
      rw [z, hp] at q
      cases q
    rw [upd_ne cn]
    exact R.cells
  · have bn : b ≠ p := fun z => by
      rw [z, f4] at h
      cases h
    rw [upd_ne bn]
    exact R.entry b o h n
theorem qs_own {j : Nat} {x : Str} {pos' lp : Pos} {es : List Expr} {ga : MA} (ha : PA X es (tDA c W ga)) (hN : X.N.Nodup) (hi : X.N[j]? = some x := by rfl) (hx : Loc X.env.scope x := by first | exact Or.inl rfl | exact Or.inr rfl)
    (hs : swapsWith (.List es lp) (some (.Name x pos')) pos.line X.env = pure false := by rfl) (hf : X.fn x = true ∨ X.env.scope.names.lookup x = some .local := by first | exact .inl rfl | exact .inr rfl | assumption) : PS X (.Assign [.Name x pos'] (.List es lp) pos) (tS c W (sOwn j ga)) :=
  ps_imp (ps_set hN hi hx (pe_lst ha) hs hf) fun D σ H ⟨O, ρ, φ, R, h⟩ => ⟨O, ρ, φ, R, gs_a h fun ds φ1 vs H1 _ R1 s1 p1 h1 => by
    by_cases z : ds.length ≤ sizeLine
    · rw [if_pos z] at h1
      refine ⟨by rw [dqA_len p1]; exact z, fun p hp => ?_⟩
      obtain ⟨O', R2, gr⟩ := R1.setOwn (j := j) hp p1
      exact h1 O' _ _ R2 ((s1.fr R.ok).trans gr)
    · rw [if_neg z] at h1
      exact h1.elim⟩
/-- what an own list held grows -/
theorem Rel.updOwn {O : Nat → Option Addr} {H : Hp} {σ : L2.St} {ρ : Rho} {φ : Fd} (R : Rel c O H σ ρ φ) {a : Addr} {vs : List V} {ds : List Dt} {j : Nat} (oj : O j = some a) (hs : σ[j]? = some (some (.ref a))) (pa : DqAll c.K (Fr c O H) vs ds) :
    Rel c O (upd H a (.lst vs)) σ (ρ.set j (.own ds)) φ := by
  have fe := fr_upd (c := c) (H := H) (o := .lst vs) oj
  have h0 : c.H0 a = none := (R.own j a oj).2
  refine ⟨R.ok, fun i s e => ?_, by rw [List.length_set]; exact R.len, R.inj, R.fin, fun i b h => ?_, ?_, ?_, fun b u h n => ?_⟩
  · by_cases h : j = i
    · subst h
      have lt : j < ρ.length := by
        have := (List.getElem?_eq_some_iff.mp e).1
        rwa [List.length_set] at this
      rw [List.getElem?_set_self lt] at e
      cases e
      exact ⟨a, vs, oj, hs, upd_same, by rw [fe]; exact pa⟩
    · rw [List.getElem?_set_ne h] at e
      have q := R.slot i s e
      cases s with
      | un => trivial
      | dat d => obtain ⟨x, e1, p1⟩ := q; exact ⟨x, e1, by rw [fe]; exact p1⟩
      | own es =>
        obtain ⟨b, us, e1, e2, e3, p1⟩ := q
        have bn : b ≠ a := fun z => h (R.inj j i a oj (z ▸ e1))
        exact ⟨b, us, e1, e2, by rw [upd_ne bn]; exact e3, by rw [fe]; exact p1⟩
      | fd => exact q
  · obtain ⟨⟨u, hu⟩, n⟩ := R.own i b h
    by_cases hb : b = a
    · exact ⟨⟨_, by rw [hb]; exact upd_same⟩, n⟩
    · exact ⟨⟨u, by rw [upd_ne hb]; exact hu⟩, n⟩
  · have fn : c.fa ≠ a := fun z => R.ownfa j (by rw [z]; exact oj)
    rw [upd_ne fn]
    exact R.feed
  · have cn : c.ca ≠ a := fun z => by
      obtain ⟨o, e⟩ := R.ok.c0
      rw [z, h0] at e
      cases e
    rw [upd_ne cn]
    exact R.cells
  · have bn : b ≠ a := fun z => by
      rw [z, h0] at h
      cases h
    rw [upd_ne bn]
    exact R.entry b u h n
theorem qs_app {j : Nat} {x : Str} {np ap cpos : Pos} (he : PE X e (tD c W me)) (hN : X.N[j]? = some x := by rfl) (hv : Vis X.env.scope x := by first | exact Or.inl rfl | exact Or.inr (Or.inl rfl) | exact Or.inr (Or.inr rfl))
    (hd : (x == ("__debug__" : Str)) = false := by decide) (hcd : (x == ("__classdict__" : Str)) = false := by decide)
    (hbase : attributeBase (.Name x np) "append" X.env (eval (.Name x np) X.env) = eval (.Name x np) X.env := by rfl)
    (hfew : ((backTo cpos (starEach [e] X.env)).all (fun x => !x.1) && (backToKw cpos (keywordEach [] X.env)).all (fun x => x.1.isSome)
      && decide (([e] : List Expr).length + ([] : List Keyword).length + (if ([] : List Keyword).isEmpty then 0 else 1) < 30)) = true := by rfl)
    (hline : (ap.endLine == cpos.line) = true := by rfl) (hst : starEach [e] X.env = (false, eval e X.env) :: starEach [] X.env := by rfl) (hplain : (backTo cpos (starEach [] X.env)).any (·.1) = false := by rfl)
    (hs : swapsWith (.Call (.Attribute (.Name x np) "append" ap) [e] [] cpos) none pos.line X.env = pure false := by rfl) :
    PS X (.Expr (.Call (.Attribute (.Name x np) "append" ap) [e] [] cpos) pos) (tS c W (sApp j me)) :=
  ps_imp (ps_expr (pe_bm PySem.F.plainAttrs_list PySem.F.slot_list_append PySem.F.type_list_append mt_append (pe_var hN hv hd hcd) (pa_cons he pa_nil hst) hbase hfew hline hst hplain) hs) fun D σ H ⟨O, ρ, φ, R, h⟩ => by
    unfold sApp at h
    split at h
    · rename_i ds er
      obtain ⟨a, us, e1, e2, e3, p0⟩ := R.slot j _ er
      refine ⟨_, e2, .inl ⟨rfl, _, SqL.of e3⟩, ⟨O, ρ, φ, R, gs_e h fun d φ1 v H1 _ R1 s1 p1 h1 => ?_⟩⟩
      by_cases z : ds.length < sizeLine
      · rw [if_pos z] at h1
        have an : a ≠ c.fa := fun q => R.ownfa j (by rw [← q]; exact e1)
        have e4 : H1 a = some (.lst us) := s1 _ _ e3 an
        refine ⟨a, us, v, rfl, rfl, e4, by rw [dqA_len p0]; exact z, ?_⟩
        have R2 := R1.updOwn (vs := us ++ [v]) (ds := ds ++ [d]) e1 e2 (dqA_app (dqA_gro (s1.fr R.ok) p0) (.cons p1 .nil))
        refine h1 O σ _ R2 ?_
        rw [fr_upd e1]
        exact s1.fr R.ok
      · rw [if_neg z] at h1
        exact h1.elim
    · exact h.elim
/-- no statement: an own list is data from here on -/
theorem qs_frz {j : Nat} (h2 : PSs X rest (tS c W g)) : PSs X rest (tS c W (sSeq (sFrz j) g)) :=
  pss_imp h2 fun D σ H ⟨O, ρ, φ, R, h⟩ => by
    unfold sSeq sFrz at h
    cases er : ρ[j]? with
    | none => rw [er] at h; exact h.elim
    | some s =>
      rw [er] at h
      cases s with
      | own ds =>
        obtain ⟨a, us, e1, e2, e3, p0⟩ := R.slot j _ er
        have h : GS c W (Fr c O H) D (g (ρ.set j (.dat (.list ds))) φ) := h
        let O' : Nat → Option Addr := fun i => if i = j then none else O i
        have oi : ∀ i b, O' i = some b → O i = some b ∧ i ≠ j := fun i b z => by
          have z : (if i = j then none else O i) = some b := z
          by_cases hi : i = j
          · rw [if_pos hi] at z; cases z
          · rw [if_neg hi] at z; exact ⟨z, hi⟩
        have gr : Gro (Fr c O H) (Fr c O' H) := fun b o hb => by
          obtain ⟨b1, b2, b3⟩ := fr_some hb
          exact fr_of b1 b2 fun i z => b3 i (oi i b z).1
        obtain ⟨_, n0⟩ := R.own j a e1
        have az : ¬ c.Z a := fun z => by
          obtain ⟨o, q⟩ := R.ok.z0 a z
          rw [n0] at q
          cases q
        have va : Fr c O' H a = some (.lst us) := fr_of e3 az fun i z => (oi i a z).2 (R.inj i j a (oi i a z).1 e1)
        obtain ⟨B, hB⟩ := R.fin
        refine ⟨O', _, φ, ⟨R.ok, fun i s e => ?_, by rw [List.length_set]; exact R.len, fun i k b h1 h2 => R.inj i k b (oi i b h1).1 (oi k b h2).1, ⟨B, fun i hi => ?_⟩, fun i b q => R.own i b (oi i b q).1, R.feed, R.cells, R.entry⟩, h.gro gr⟩
        · by_cases hh : j = i
          · subst hh
            have lt : j < ρ.length := by
              have := (List.getElem?_eq_some_iff.mp e).1
              rwa [List.length_set] at this
            rw [List.getElem?_set_self lt] at e
            cases e
            exact ⟨.ref a, e2, .lst va (dqA_gro gr p0)⟩
          · rw [List.getElem?_set_ne hh] at e
            have q := R.slot i s e
            cases s with
            | un => trivial
            | dat d => obtain ⟨x, q1, q2⟩ := q; exact ⟨x, q1, dq_gro gr q2⟩
            | own es => obtain ⟨b, vs, q1, q2, q3, q4⟩ := q; exact ⟨b, vs, (if_neg (Ne.symm hh)).trans q1, q2, q3, dqA_gro gr q4⟩
            | fd => exact q
        · show (if i = j then none else O i) = none
          by_cases hi' : i = j
          · rw [if_pos hi']
          · rw [if_neg hi']; exact hB i hi
      | _ => exact h.elim

/-! ### the feed is written -/
theorem fkv_len (c : Cn) (φ : Fd) : (fkv c φ).length = 4 := rfl
theorem fkv_put (c : Cn) (nk : c.L.Nk) (φ φ2 : Fd) (k : Fk) (d : Dt) (v : V) {H : Hp} (p : Dq c.K H v d) (e : fdSet φ k d = some φ2) : putK (fkv c φ) (.inr (c.L.key k)) v = fkv c φ2 ∧ φ2.cells = φ.cells := by
  obtain ⟨h12, h13, h14, h23, h24, h34⟩ := nk
  have ne : ∀ {a b : Str}, a ≠ b → ¬ ((Sum.inr a : Key) = Sum.inr b) := fun h z => h (Sum.inr.inj z)
  have n12 := ne h12
  have n13 := ne h13
  have n14 := ne h14
  have n23 := ne h23
  have n24 := ne h24
  have n34 := ne h34
  have n21 := ne (Ne.symm h12)
  have n31 := ne (Ne.symm h13)
  have n41 := ne (Ne.symm h14)
  have n32 := ne (Ne.symm h23)
  have n42 := ne (Ne.symm h24)
  have n43 := ne (Ne.symm h34)
  cases k with
  | c => cases d <;> cases e
  | s =>
    cases p <;> cases e
    refine ⟨?_, rfl⟩
    have a : ((fkv c φ).any fun kv => decide (kv.1 = Sum.inr (c.L.key .s))) = true := by rw [valV_any, fkv_get c ⟨h12, h13, h14, h23, h24, h34⟩ φ .s]; rfl
    unfold putK
    rw [if_pos a]
    simp only [fkv, Lw.key, List.map_cons, List.map_nil, n12, n32, n42, if_false, if_true]
  | l =>
    cases p <;> cases e
    refine ⟨?_, rfl⟩
    have a : ((fkv c φ).any fun kv => decide (kv.1 = Sum.inr (c.L.key .l))) = true := by rw [valV_any, fkv_get c ⟨h12, h13, h14, h23, h24, h34⟩ φ .l]; rfl
    unfold putK
    rw [if_pos a]
    simp only [fkv, Lw.key, List.map_cons, List.map_nil, n13, n23, n43, if_false, if_true]
  | n =>
    cases p <;> cases e
    refine ⟨?_, rfl⟩
    have a : ((fkv c φ).any fun kv => decide (kv.1 = Sum.inr (c.L.key .n))) = true := by rw [valV_any, fkv_get c ⟨h12, h13, h14, h23, h24, h34⟩ φ .n]; rfl
    unfold putK
    rw [if_pos a]
    simp only [fkv, Lw.key, List.map_cons, List.map_nil, n14, n24, n34, if_false, if_true]
theorem qs_fd {i j : Nat} {k : Fk} {x y : Str} {p1 p2 p3 : Pos} (hk : c.L.key k = y) (nk : c.L.Nk) (hu : X.A.units + 1 < cLine) (he : PE X e (tD c W me)) (hN : X.N[i]? = some x := by rfl) (hv : Vis X.env.scope x := by first | exact Or.inl rfl | exact Or.inr (Or.inl rfl) | exact Or.inr (Or.inr rfl))
    (hd : (x == ("__debug__" : Str)) = false := by decide) (hcd : (x == ("__classdict__" : Str)) = false := by decide)
    (hs : swapsWith e (some (.Subscript (.Name x p1) (.Constant (.str y) j p2) p3)) pos.line X.env = pure false := by rfl) : PS X (.Assign [.Subscript (.Name x p1) (.Constant (.str y) j p2) p3] e pos) (tS c W (sFd i k me)) :=
  ps_imp (ps_dput hu (pe_var hN hv hd hcd) pe_str he hs) fun D σ H ⟨O, ρ, φ, R, h⟩ => by
    unfold sFd at h
    split at h
    · rename_i e0
      refine ⟨O, ρ, φ, R, gs_e h fun d φ1 v H1 _ R1 s1 p1 h1 => ⟨_, R1.slot i _ e0, ?_⟩⟩
      cases e1 : fdSet φ1 k d with
      | none => rw [e1] at h1; exact h1.elim
      | some φ2 =>
        rw [e1] at h1
        obtain ⟨q1, q2⟩ := fkv_put c nk φ1 φ2 k d v p1 e1
        subst hk
        refine ⟨c.fa, _, rfl, DPut.k (k := Sum.inr (c.L.key k)) R1.feed (by rw [fkv_len]; decide), ?_⟩
        rw [q1]
        have st : Step c H1 (upd H1 c.fa (.dK (fkv c φ2))) := fun b o hb n => by rw [upd_ne n]; exact hb
        have R2 := R1.step st (φ' := φ2) upd_same (by rw [upd_ne R.ok.cne, q2]; exact R1.cells)
        exact h1 O σ _ R2 ((s1.trans st).fr R.ok)
    · exact h.elim

/-! ### loops -/
theorem qs_for {tg iter : Expr} {body : List Stmt} {it : MI} {t : Tg} (hK : X.K = c.K) (hp : PassesOwn (model X.prog X.w) X.A X.env X.xe) (hc : X.calm = true) (hi : PI X tg iter (tDI c W it)) (hg : PG X tg (gTg X.K t)) (hb : PSs X body (tS c W f))
    (hs : ∀ x, foldedSetIterable iter X.env x = pure x := by intro _; rfl) : PS X (.For tg iter body [] pos) (tS c W (sFor it t f)) :=
  ps_imp (ps_for hp hc hi hg hb hs) fun D σ H ⟨O, ρ, φ, R, h⟩ => ⟨O, ρ, φ, R, gs_i h fun xs φ1 J H1 _ R1 s1 wk h1 => by
    have g0 := s1.fr R.ok (O := O)
    refine ⟨fun i m σ2 H2 => m = xs.length - i ∧ i ≤ xs.length ∧ ∃ O2 ρ2 φ2, Rel c O2 H2 σ2 ρ2 φ2 ∧ Gro (Fr c O H1) (Fr c O2 H2) ∧ GS c W (Fr c O H) D (forGo t f (xs.drop i) ρ2 φ2),
      ⟨xs.length, rfl, Nat.zero_le _, O, ρ, φ1, R1, .refl _, h1⟩, ?_⟩
    rintro i m σ2 H2 ⟨rfl, hi, O2, ρ2, φ2, R2, g2, G⟩
    have WK := wk O2 H2 i g2 R2.nw
    by_cases hlt : i < xs.length
    rotate_left
    · have e : i = xs.length := by omega
      refine .inl ⟨WK.2 e, ?_⟩
      rw [e, List.drop_length] at G
      exact G O2 σ2 H2 R2 (g0.trans g2)
    · obtain ⟨go, item⟩ := WK.1 hlt
      refine .inr ⟨go, fun σ' H' => ∃ O2 ρ2 φ2, Rel c O2 H' σ' ρ2 φ2 ∧ Gro (Fr c O H1) (Fr c O2 H') ∧ GS c W (Fr c O H) D (forGo t f (xs.drop (i + 1)) ρ2 φ2), fun σ' H' n => ⟨xs.length - (i + 1), by omega, rfl, hlt, n⟩, fun x H3 y => ?_⟩
      obtain ⟨g3, d, ed, pd⟩ := item x H3 y
      have edd : xs.drop i = d :: xs.drop (i + 1) := by
        obtain ⟨lt, e⟩ := List.getElem?_eq_some_iff.mp ed
        rw [← e]
        exact List.drop_eq_getElem_cons lt
      rw [edd] at G
      have R3 := R2.gro g3
      have gg : Gro (Fr c O H1) (Fr c O2 H3) := g2.trans (fr_gro g3)
      unfold forGo at G
      cases eb : bindT t d ρ2 with
      | none => rw [eb] at G; exact G.elim
      | some ρ3 =>
        simp only [eb] at G
        refine gTg_ok hK R3 pd eb fun σ4 _ R4 => ⟨O2, ρ3, φ2, R4, ?_⟩
        revert G
        cases f ρ3 φ2 with
        | ok fl φ4 =>
          cases fl with
          | nx ρ5 => exact fun G O5 σ5 H5 R5 g5 => ⟨O5, ρ5, φ4, R5, gg.trans g5, G⟩
          | ct ρ5 => exact fun G O5 σ5 H5 R5 g5 => ⟨O5, ρ5, φ4, R5, gg.trans g5, G⟩
          | bk ρ5 => exact fun G O5 σ5 H5 R5 g5 => G O5 σ5 H5 R5 ((g0.trans gg).trans g5)
          | rt d => exact fun G => G
          | ex e ρ5 => exact fun G => G
        | err e φ4 => exact fun G => G
        | no => exact fun G => G⟩
theorem qs_while {body : List Stmt} {t : MT} (n : Nat) (hp : PassesOwn (model X.prog X.w) X.A X.env X.xe) (hc : PT X e (tDT c W t)) (hb : PSs X body (tS c W f)) : PS X (.While e body [] pos) (tS c W (whGo t f n)) :=
  ps_imp (ps_while hp hc hb) fun D σ H ⟨O, ρ, φ, R, h⟩ => by
    refine ⟨fun m σ2 H2 => ∃ O2 ρ2 φ2, Rel c O2 H2 σ2 ρ2 φ2 ∧ Gro (Fr c O H) (Fr c O2 H2) ∧ GS c W (Fr c O H) D (whGo t f m ρ2 φ2), ⟨n, O, ρ, φ, R, .refl _, h⟩, ?_⟩
    rintro m σ2 H2 ⟨O2, ρ2, φ2, R2, g2, G⟩
    cases m with
    | zero => exact G.elim
    | succ m =>
      refine ⟨O2, ρ2, φ2, R2, gs_t G fun b φ3 H3 _ R3 s3 h3 => ?_⟩
      have g3 : Gro (Fr c O H) (Fr c O2 H3) := g2.trans (s3.fr R.ok)
      cases b with
      | false => exact h3 O2 σ2 H3 R3 g3
      | true =>
        rw [if_pos rfl] at h3 ⊢
        refine ⟨fun σ' H' => ∃ O2 ρ2 φ2, Rel c O2 H' σ' ρ2 φ2 ∧ Gro (Fr c O H) (Fr c O2 H') ∧ GS c W (Fr c O H) D (whGo t f m ρ2 φ2), fun σ' H' n => ⟨m, Nat.lt_succ_self m, n⟩, O2, ρ2, φ3, R3, ?_⟩
        revert h3
        cases f ρ2 φ3 with
        | ok fl φ4 =>
          cases fl with
          | nx ρ5 => exact fun G O5 σ5 H5 R5 g5 => ⟨O5, ρ5, φ4, R5, g3.trans g5, G⟩
          | ct ρ5 => exact fun G O5 σ5 H5 R5 g5 => ⟨O5, ρ5, φ4, R5, g3.trans g5, G⟩
          | bk ρ5 => exact fun G O5 σ5 H5 R5 g5 => G O5 σ5 H5 R5 (g3.trans g5)
          | rt d => exact fun G => G
          | ex e ρ5 => exact fun G => G
        | err e φ4 => exact fun G => G
        | no => exact fun G => G
end
end DL

set_option maxHeartbeats 1000000
/-! DL, part h: t[::-1] of a tuple -/
namespace DL
open PySem PySem.Spec PyProof.Rows L2 HT
theorem rev_places (n : Nat) : Builtin.Slice.slicePlaces ((n : Int) - 1) (-1) (-1) = n := by
  unfold Builtin.Slice.slicePlaces
  first
    | omega
    | (simp; omega)
    | (split <;> omega)
    | (simp only []; split <;> simp_all <;> omega)
theorem rev_adjust (n : Nat) : Builtin.Slice.sliceAdjust none none (-1) (n : Int) = ((n : Int) - 1, -1) := by
  unfold Builtin.Slice.sliceAdjust
  first | rfl | simp
section
variable {prog : Program} {w : World} {A : Around} {E : Value → Shared → Prop} {s : Shared}
theorem rev_applied {sl : Addr} {n : Nat} {t : Tok} {Q : Int × Int × Nat → Shared → Prop} (hs : s.heap.IsSliceOf sl .none .none (.int (-1) t)) (h : Q ((n : Int) - 1, -1, n) s) :
    wpAny (model prog w) A (Builtin.Slice.sliceApplied (.ref sl) (pure (n : Int))) Q E s := by
  obtain ⟨os, at0, cl, dat⟩ := id hs
  unfold Builtin.Slice.sliceApplied Builtin.Slice.sliceFields
  refine wpAny_bind (wpAny_bind (wpAny_field at0 dat (x := .none) rfl (wpAny_bind (wpAny_field at0 dat (x := .none) rfl (wpAny_bind (wpAny_field at0 dat (x := .int (-1) t) rfl (wpAny_pure ?_)))))))
  refine wpAny_bind (slicePart_ (.int (-1) t) ?_)
  show wpAny _ _ (if ((-1 : Int) == 0) = true then _ else _) _ _ s
  rw [if_neg (by decide)]
  refine wpAny_bind (slicePart_none (wpAny_bind (slicePart_none (wpAny_bind (wpAny_pure ?_)))))
  show wpAny _ _ (match Builtin.Slice.sliceAdjust none none (-1) (n : Int) with | (lo, hi) => pure (lo, (-1 : Int), Builtin.Slice.slicePlaces lo hi (-1))) _ _ s
  rw [rev_adjust]
  show wpAny _ _ (pure ((n : Int) - 1, (-1 : Int), Builtin.Slice.slicePlaces ((n : Int) - 1) (-1) (-1))) _ _ s
  rw [rev_places]
  exact wpAny_pure h
theorem rev_pick (xs : Array Value) : ((List.range xs.size).filterMap fun (k : Nat) => xs[((xs.size : Int) - 1 + (k : Int) * (-1)).toNat]?) = xs.toList.reverse := by
  have e : (fun (k : Nat) => xs[((xs.size : Int) - 1 + (k : Int) * (-1)).toNat]?) = (xs[·]?) ∘ fun (k : Nat) => (((xs.size : Int) - 1 + (k : Int) * (-1)).toNat) := rfl
  rw [e, ← List.filterMap_map]
  have e2 : (List.range xs.size).map (fun (k : Nat) => (((xs.size : Int) - 1 + (k : Int) * (-1)).toNat)) = (List.range xs.size).reverse := by
    rw [← PySem.W.krv_range]
    apply List.map_congr_left
    intro k hk
    have := List.mem_range.mp hk
    omega
  rw [e2, List.filterMap_reverse, PySem.W.krv_all]
theorem rev_getItem {t sl : Addr} {tk : Tok} {items : Array Value} {Q : Value → Shared → Prop} (ht : IsTup s.heap t items) (hs : s.heap.IsSliceOf sl .none .none (.int (-1) tk))
    (h : Q (.ref s.heap.objs.size) { s with heap := s.heap.push { cls := .type "tuple", data := .seq items.toList.reverse.toArray } }) (hsz : items.size ≤ sizeLine) : wpAny (model prog w) A (getItem (.ref t) (.ref sl)) Q E s := by
  have hz : sizeOk (.seq items.toList.reverse.toArray) := by
    show items.toList.reverse.toArray.size ≤ sizeLine
    simpa using hsz
  obtain ⟨os, at0, cl, dat⟩ := id hs
  have ty : s.TypeIs (.ref sl) "slice" := ⟨os, at0, cl⟩
  unfold getItem
  try with_reducible refine wpAny_holding ?_
  first | refine wpAny_bind (wpAny_pure ?_) | skip
  refine wpAny_bind (wpAny_sequenceKey ht.typeIs (by decide) ?_)
  refine wpAny_bind (wpAny_callSpecial?_slot (name := Str.ofString "__getitem__") ht.typeIs PyProof.Rows.slot_tuple_getitem (wpAny_call_entry PyProof.Rows.slot_tuple_getitem ht.typeIs
    entry_tuple_getitem ?_ (args_tuple_getitem _ _)))
  show wpAny _ _ (Builtin.Tuple.tupleItemsOf (.ref t) >>= _) _ _ s
  refine wpAny_bind (tupleItemsOf_ ht (wpAny_bind (wpAny_typeOf ty ?_)))
  rw [if_pos (by decide)]
  refine wpAny_bind (rev_applied hs ?_)
  have hno : ¬ ((((items.size : Int) - 1) == 0 && (-1 : Int) == 1 && items.size == items.size) = true) := by
    rw [show ((-1 : Int) == 1) = false from rfl, Bool.and_false, Bool.false_and]
    exact Bool.false_ne_true
  show wpAny _ _ (if (((items.size : Int) - 1) == 0 && (-1 : Int) == 1 && items.size == items.size) = true then _ else _) _ _ s
  rw [if_neg hno, rev_pick]
  first
    | exact wpAny_bind (m := Builtin.Tuple.tupleExact _) (wpAny_newObj_type (wpAny_pure ⟨_, rfl, wpAny_pure h⟩) hz)
    | exact wpAny_bind (m := Builtin.Tuple.tupleExact _) (wpAny_newObj_type (wpAny_bind (wpAny_pure (wpAny_pure ⟨_, rfl, wpAny_pure h⟩))) hz)
    | exact wpAny_bind (wpAny_bind (m := Builtin.Tuple.tupleExact _) (wpAny_newObj_type (wpAny_pure (wpAny_pure ⟨_, rfl, wpAny_pure h⟩)) hz))
    | exact wpAny_bind (wpAny_bind (m := Builtin.Tuple.tupleExact _) (wpAny_newObj_type (wpAny_pure ⟨_, rfl, wpAny_pure h⟩) hz))
end
section
variable {X : Cx} {c : Cn} {W : WX'} {e : Expr} {te : TE} {k : Nat} {p1 p2 p3 pos : Pos} {f : ME}
theorem pe_revT (he : PE X e te) : PE X (.Subscript e (.Slice none none (some (.UnaryOp .USub (.Constant (.int 1) k p1) p2)) p3) pos)
    (fun σ H Q => te σ H fun x H1 => ∃ a xs, x = .ref a ∧ SqT X.K H1 a xs ∧ ∀ p, H1 p = none → Q (.ref p) (upd H1 p (.tup xs.reverse))) := by
  refine ⟨fun pins s σ H Q I h => Subscript_ (thn (he.run pins s σ H _ I h) fun v s1 ⟨x, H1, I1, r1, q1⟩ => ?_)⟩
  obtain ⟨a, xs, ex, hx, q⟩ := q1
  subst ex
  cases r1
  have step : PO X (some (.UnaryOp .USub (.Constant (.int 1) k p1) p2)) (tPart (tUn (rU fun i => .int (-i)) (tC (.int 1)))) := po_some (pe_un un_neg pe_int)
  refine wpAny_Slice (thn (po_none.run pins s1 σ H1 (fun o H2 => o = none ∧ H2 = H1) I1 ⟨rfl, rfl⟩) fun vl s2 ⟨l, H2, I2, pl, el, e2⟩ => ?_)
  subst el e2
  refine thn (po_none.run pins s2 σ H2 (fun o H3 => o = none ∧ H3 = H2) I2 ⟨rfl, rfl⟩) fun vu s3 ⟨u, H3, I3, pu, eu, e3⟩ => ?_
  subst eu e3
  refine thn (step.run pins s3 σ H3 (fun o H4 => o = some (-1) ∧ H4 = H3) I3 ⟨1, rfl, -1, rfl, rfl, rfl⟩) fun vs s4 ⟨o, H4, I4, ps, eo, e4⟩ => ?_
  subst eo e4
  cases pl
  cases pu
  obtain ⟨tk, rfl⟩ : ∃ tk, vs = Value.int (-1) tk := by cases ps with | int i t => exact ⟨t, rfl⟩
  have I5 : Inv X pins σ H4 { s4 with heap := s4.heap.push { cls := .type "slice", data := .fields #[.none, .none, .int (-1) tk] } } := I4.kept (t' := s4.toks) fun b ob q => Heap.get?_push_of_some _ q
  obtain ⟨its, r, ht, hz⟩ := I5.tuple hx
  have len := r.length
  show wpAny (model X.prog X.w) X.A (subscriptTail e (.Slice none none (some (.UnaryOp .USub (.Constant (.int 1) k p1) p2)) p3) (.ref a) (.ref s4.heap.objs.size)) (EP X pins σ Q) X.xe
    { s4 with heap := s4.heap.push { cls := .type "slice", data := .fields #[.none, .none, .int (-1) tk] } }
  refine tail_any (ops := [.ref a, .ref s4.heap.objs.size]) ht.typeIs PyProof.Rows.slot_tuple_getitem.lookup ?_ (by with_unfolding_all rfl)
  refine rev_getItem ht (Heap.IsSliceOf.new _ .none .none (.int (-1) tk)) ?_ (by rw [List.size_toArray]; omega)
  refine ⟨.ref _, _, I5.laid (t' := s4.toks) (o := .tup xs.reverse) (fun b ob q => Heap.get?_push_of_some _ q) (Nat.le_refl _) ?_, rfl, q _ (I5.hok.fresh (Nat.le_refl _))⟩
  exact ⟨by rw [List.length_reverse]; exact hz, _, r.reverse, IsTup.new _ _⟩
def revD : Dt → Option Dt
  | .tuple xs => some (.tuple xs.reverse)
  | _ => none
theorem qe_revT (hK : X.K = c.K) (he : PE X e (tD c W f)) : PE X (.Subscript e (.Slice none none (some (.UnaryOp .USub (.Constant (.int 1) k p1) p2)) p3) pos) (tD c W (m1 revD f)) :=
  pe_imp (pe_revT he) fun σ H Q ⟨O, ρ, φ, R, h⟩ => ⟨O, ρ, φ, R, ge_bind h fun d φ1 v H1 _ R1 s1 p1 h1 => by
    cases p1 with
    | tup g a => exact ⟨_, _, rfl, by rw [hK]; exact sqT_gro fr_in g, fun p hp => new_tup R1.nw (dqA_rev a) (ge_ok R1 h1) hp⟩
    | _ => exact h1.elim⟩
end
theorem room65 {k : Nat} {A : Around} (r : Room k A) : A.units + 65 < cLine := by have := r.un; omega
/-- a module's constant is data -/
def GC (K : PySem.W.Frag) (mg : Str → Option Value) (x : Str) (d : Dt) : Prop := ∃ u v, mg x = some u ∧ RelV v u ∧ ∀ H, Dq K H v d
theorem qe_gc {X : Cx} {c : Cn} {W : WX'} {x : Str} {d : Dt} {pos : Pos} (h : GC X.K X.mg x d) (hK : X.K = c.K := by rfl) (hg : Gl X x := by rfl) (hdb : (x == ("__debug__" : Str)) = false := by decide) : PE X (.Name x pos) (tD c W (mC d)) := by
  obtain ⟨u, v, hm, r, hd⟩ := h
  exact qe_glob hg hm r (fun H => hK ▸ hd H) hdb
end DL

set_option maxHeartbeats 1000000
/-! DL, part i: how a feed comes to be, the law's own def, the row's end -/
namespace DL
open PySem PySem.Spec PyProof.Rows L2

/-! ### the end of a row, for a law's def whose callers are told to stand in no guard -/
theorem lawG {P : Program} {w : World} {K : PySem.W.Frag} {mg mb : Str → Option Value} {CX : CXT} {k : Nat} {fa a : Addr} {fd : FuncData} {x : Str} {sp : Sp} {sh : Shared} {vs : List Value} {ns : List Int}
    (kx : K.In sh.heap) (gl : sh.heap.Ns mainGlobals mg) (bl : sh.heap.Ns builtinsNs mb) (bb : ∀ x : Str, x ≠ "__name__" → mb x = bootBuiltins x) (nl : sh.heap.NoLimit) (ge : sh.gens = #[])
    (at0 : sh.heap.get? a = some { cls := .type "list", data := .seq vs.toArray }) (ia : IntsAre vs ns) (sz : ns.length ≤ sizeLine) (room : Room k callerA)
    (F : ∀ base : Heap, K.In base → base.Ns mainGlobals mg → FnG P w K mg base CX k fa fd [x] sp) (bind : ∀ (s : Shared) (u : Value), BindsTo s fd ⟨[u], []⟩ [(x, u)])
    (want : ∀ H : Hp, Only H → SqL K H a (ns.map V.int) → sp [.ref a] H (fun v _ => v = .bl true) fun _ _ _ => False)
    (noerr : ∀ H e s', CX [] H sh (fun _ _ _ => False) e s' → False) :
    codeAny (model P w) callerA (.call (.ref fa) ⟨[.ref a], []⟩) (fun r s' => r = .ok (.ret (.bool true)) ∧ OldK sh.heap s'.heap ∧ s'.os = sh.os ∧ AllBare s'.gens) sh := by
  have rel := vals_ints ia
  have lenV := ia.length
  -- H tracks the script at most
  have main : ∀ H : Hp, Only H → SqL K H a (ns.map V.int) → HOk P w H sh.heap → (∀ b, H b ≠ none → b = a) → (H a ≠ none → K.lookup a = none) →
      codeAny (model P w) callerA (.call (.ref fa) ⟨[.ref a], []⟩) (fun r s' => r = .ok (.ret (.bool true)) ∧ OldK sh.heap s'.heap ∧ s'.os = sh.os ∧ AllBare s'.gens) sh := by
    intro H only sq hok onlyA notK
    have dictFree : ∀ {b : Addr} {o : Obj} {es : Array DictEntry} {ep : Nat}, sh.heap.get? b = some o → o.data = .dict es ep → H b = none := by
      intro b o es ep e d
      cases q : H b with
      | none => rfl
      | some u =>
        obtain rfl : b = a := onlyA b (by rw [q]; simp)
        rw [at0] at e
        cases e
        exact nomatch (show Data.seq vs.toArray _ = Data.dict es ep from d)
    have names : ∀ {b : Addr} {m : Str → Option Value}, sh.heap.Ns b m → (hidT sh.heap H).Ns b m := fun ⟨o, es, ep, e, d, r⟩ => ⟨o, es, ep, hidT_get e (dictFree e d), d, r⟩
    have kin : K.In (hidT sh.heap H) := by
      intro b o e
      refine hidT_get (kx b o e) ?_
      cases q : H b with
      | none => rfl
      | some u =>
        obtain rfl : b = a := onlyA b (by rw [q]; simp)
        rw [notK (by rw [q]; simp)] at e
        cases e
    have md : Mod K mg (hidT sh.heap H) := ⟨kin, names gl, ⟨mb, names bl, bb⟩, by obtain ⟨mc, h1, h2⟩ := nl; exact ⟨mc, names h1, h2⟩⟩
    have e0 : Env0 P w K mg (hidT sh.heap H) callerA [] sh H :=
      ⟨rfl, md, fun b o e => of_hidT e, Nat.le_of_eq (hidT_size _ _), trivial, fun b hb => absurd (show b ∈ ([] : List Addr) from hb) (by simp), hok, .of_eq ge⟩
    have run := (F _ kin (names gl)).run callerA [] sh H ⟨[.ref a], []⟩ [.ref a] [.ref a] _ _ rfl room e0 (bind sh (.ref a)) (.cons rfl .nil) (want H only sq)
    refine codeAny_mono run fun r s' h => ?_
    cases r with
    | error e => exact (noerr H e s' h).elim
    | ok fl =>
      cases fl with
      | ret u =>
        obtain ⟨v, H', os, bare, un, hok', rv, tv⟩ := h
        obtain rfl : v = .bl true := tv
        obtain rfl : u = Value.bool true := rv
        refine ⟨rfl, OldK.of_keep fun b o e => ?_, os, bare⟩
        cases q : H b with
        | none => exact un.keep b o e q (fun z => absurd (show b ∈ ([] : List Addr) from z) (by simp)) (by simp)
        | some u =>
          rcases only b with z | ⟨ob, xs, z⟩
          · rw [q] at z
            cases z
          · obtain ⟨e1, _⟩ := hok b _ z
            obtain ⟨e2, _⟩ := hok' b _ (un.frzs b ob _ z)
            rw [e] at e1
            cases e1
            exact e2
      | next => exact False.elim h
      | brk => exact False.elim h
      | cont => exact False.elim h
  cases hk : K.lookup a with
  | some o =>
    have e := kx a o hk
    rw [at0] at e
    cases e
    exact main (fun _ => none) (fun _ => .inl rfl) (.inr ⟨_, vs.toArray, _, hk, rfl, rfl, rfl, by rw [List.size_toArray, lenV]; exact sz, by simpa using rel⟩)
      (fun b u z => nomatch (show (none : Option HO) = some u from z)) (fun b z => absurd rfl z) fun z => absurd rfl z
  | none =>
    let ob : Obj := { cls := .type "list", data := .seq vs.toArray }
    have yes : ∀ b, b = a → (if b = a then some (HO.frz ob (.lst (ns.map V.int))) else none) = some (.frz ob (.lst (ns.map V.int))) := fun b h => if_pos h
    have no : ∀ b, b ≠ a → (if b = a then some (HO.frz ob (.lst (ns.map V.int))) else none) = none := fun b h => if_neg h
    refine main (fun b => if b = a then some (.frz ob (.lst (ns.map V.int))) else none) (fun b => ?_) (.inl (.inr ⟨ob, yes a rfl⟩)) (fun b u z => ?_) (fun b z => ?_) fun _ => hk
    · by_cases hb : b = a
      · exact .inr ⟨_, _, yes b hb⟩
      · exact .inl (no b hb)
    · by_cases hb : b = a
      · have z' := (yes b hb).symm.trans z
        cases z'
        subst hb
        exact ⟨at0, by rw [List.length_map]; exact sz, vs, _, rel, at0⟩
      · exact nomatch (no b hb).symm.trans z
    · exact Decidable.byContradiction fun hb => z (no b hb)
/-- what k_head leaves, by a law's promise -/
theorem walkG {l : PySem.W.OpenLaw} {n k : Nat} {q : Program} {loose : List Str} {XP : (Str → Option Value) → Heap → Prop} {YP : World → Heap → Prop} {d : DefRec} {K : Params → PySem.W.Frag} {CX : World → CXT} {sp : World → Sp} {x : Str}
    (hn : l.most = some n) (hn2 : n ≤ sizeLine) (hdf : d.params.defaults = []) (room : Room k callerA) (hY : ∀ (w : World) (h : Heap), YP w h → (K w.params).In h)
    (F : ∀ (w : World) (mg : Str → Option Value) (fa : Addr) (h : Heap), (K w.params).In h → h.Ns mainGlobals mg → mg d.name = some (.ref fa) → ∃ fd : FuncData, (∀ (s : Shared) (u : Value), BindsTo s fd ⟨[u], []⟩ [(x, u)]) ∧
      ∀ base : Heap, (K w.params).In base → base.Ns mainGlobals mg → FnG l.prog w (K w.params) mg base (CX w) k fa fd [x] (sp w))
    (want : ∀ (w : World) (H : Hp) (a : Addr) (ns : List Int), ns.length ≤ n → Only H → SqL (K w.params) H a (ns.map V.int) → sp w [.ref a] H (fun v _ => v = .bl true) fun _ _ _ => False)
    (noerr : ∀ (w : World) (H : Hp) (s : Shared) (e : Value) (s' : Shared), CX w [] H s (fun _ _ _ => False) e s' → False) :
    PySem.W.WalkO q loose XP YP l.row.toRowW d [] (fun f vs => PySem.call f vs) := by
  refine Att.attach_call hn hdf fun w s₀ s₁ mg mb fa o pm cd doc a vs ns G Y ho hd hcd hmg hobj hints hlen hg => ?_
  obtain ⟨fd, hb, hF⟩ := F w mg fa _ (hY w _ Y) G.T.g hmg
  exact lawG (hY w _ Y) G.T.g G.T.b G.T.builtins G.T.nolimit hg hobj hints (Nat.le_trans hlen hn2) room hF hb (fun H only sq => want w H a ns hlen only sq) fun H e s' => noerr w H s₁ e s'
theorem no_cx {P : Program} {w : World} {H : Hp} {s : Shared} {e : Value} {s' : Shared} (h : L2.CX P w [] H s (fun _ _ _ => False) e s') : False := by
  obtain ⟨_, _, _, _, _, _, _, _, _, _, _, _, z⟩ := h
  exact z

/-! ### a feed is made -/
def fd0 (cells : List Int) : Fd := ⟨cells, 0, 0, 0⟩
/-- what a law's maker of feeds promises -/
def spFeed (L : Lw) : Sp := fun vs H Q _ => ∃ (a : Addr) (ns : List Int), vs = [.ref a] ∧ SqL L.K H a (ns.map V.int) ∧ ns.length ≤ 63 ∧
  ∀ (H' : Hp) (p q : Addr) (cells : List Int), Gro H H' → p ≠ q → H' p = some (.dK [(.inr L.k1, .ref q), (.inr L.k2, .int 0), (.inr L.k3, .int 0), (.inr L.k4, .int 0)]) → H' q = some (.lst (cells.map V.int)) → Q (.ref p) H'
def cn0 (L : Lw) (p q : Addr) (H : Hp) : Cn := ⟨L, p, q, fun b => b = p, H⟩
theorem rel0 {L : Lw} {H : Hp} {p q : Addr} {cells : List Int} {σ : L2.St} {N : Nat} (hl : σ.length = N) (ne : p ≠ q) (hp : H p = some (.dK [(.inr L.k1, .ref q), (.inr L.k2, .int 0), (.inr L.k3, .int 0), (.inr L.k4, .int 0)]))
    (hq : H q = some (.lst (cells.map V.int))) : Rel (cn0 L p q H) nO H σ (List.replicate N .un) (fd0 cells) := by
  refine ⟨⟨rfl, fun b e => ⟨_, e ▸ hp⟩, Ne.symm ne, fun e => ne e.symm, ⟨_, hq⟩⟩, fun i s e => ?_, by rw [hl, List.length_replicate], fun _ _ _ h => (nomatch h), ⟨0, fun _ _ => rfl⟩, fun _ _ h => (nomatch h), hp, hq, fun b o h _ => h⟩
  rw [List.getElem?_replicate] at e
  split at e
  · cases e
    trivial
  · cases e
theorem Rel.setFd {c : Cn} {O : Nat → Option Addr} {H : Hp} {σ : L2.St} {ρ : Rho} {φ : Fd} (R : Rel c O H σ ρ φ) (j : Nat) : Rel c O H (σ.set j (some (.ref c.fa))) (ρ.set j .fd) φ := by
  refine ⟨R.ok, fun i s e => ?_, by rw [List.length_set, List.length_set]; exact R.len, R.inj, R.fin, R.own, R.feed, R.cells, R.entry⟩
  by_cases h : j = i
  · subst h
    have lt : j < ρ.length := by
      have := (List.getElem?_eq_some_iff.mp e).1
      rwa [List.length_set] at this
    rw [List.getElem?_set_self lt] at e
    cases e
    exact List.getElem?_set_self (by rw [R.len]; exact lt)
  · rw [List.getElem?_set_ne h] at e
    rw [List.getElem?_set_ne h]
    exact R.slot i s e
section
variable {X : Cx} {L : Lw} {W : WX'}
theorem pss_ex {st : List Stmt} {f : MS} (h : ∀ c : Cn, c.L = L → PSs X st (tS c W f)) : PSs X st (fun D σ H => ∃ c : Cn, c.L = L ∧ tS c W f D σ H) :=
  ⟨fun pins s σ H D I ⟨c, hc, q⟩ => (h c hc).run pins s σ H D I q⟩
theorem pe_ex {e : Expr} {f : ME} (h : ∀ c : Cn, c.L = L → PE X e (tD c W f)) : PE X e (fun σ H Q => ∃ c : Cn, c.L = L ∧ tD c W f σ H Q) :=
  ⟨fun pins s σ H Q I ⟨c, hc, q⟩ => (h c hc).run pins s σ H Q I q⟩
end
/-- the cells' expression makes a new list of ints out of the script -/
def Cells (K : PySem.W.Frag) (tc : TE) : Prop := ∀ (a : Addr) (ns : List Int) (σ : L2.St) (H : Hp) (Q : VK), σ[0]? = some (some (.ref a)) → SqL K H a (ns.map V.int) → ns.length ≤ 63 →
  (∀ (H' : Hp) (q : Addr) (cells : List Int), Gro H H' → H q = none → H' q = some (.lst (cells.map V.int)) → Q (.ref q) H') → tc σ H Q
theorem cut_ints (ns : List Int) (lo hi : Option Int) : cutV (ns.map V.int) lo hi = (cutL ns lo hi).map V.int := by
  unfold cutV cutL
  rw [List.length_map, List.map_take, List.map_drop]
/-- list(script[:n]) -/
theorem cells_list {K : PySem.W.Frag} {n : Int} : Cells K (tCB (fun xs H Q => ∃ p ys, xs = [V.ref p] ∧ (SqL K H p ys ∨ SqT K H p ys) ∧ ∀ l, H l = none → Q (.ref l) (upd H l (.lst ys))) (tCons (tSl (rSlL K) (tVar 0) tNoPart (tPart (tC (.int n)))) tNil)) := by
  intro a ns σ H Q h0 sq le fin
  refine ⟨_, h0, n, rfl, a, _, rfl, sq, fun p hp => ⟨p, _, rfl, .inl (SqL.of upd_same), fun l hl => ?_⟩⟩
  have hl0 : H l = none := by
    cases e : H l with
    | none => rfl
    | some o =>
      rw [Gro.upd hp _ _ e] at hl
      cases hl
  refine fin _ l (cutL ns none (some n)) ((Gro.upd hp).trans (Gro.upd hl)) hl0 ?_
  rw [upd_same, cut_ints]
/-- script[:n] -/
theorem cells_cut {K : PySem.W.Frag} {n : Int} : Cells K (tSl (rSlL K) (tVar 0) tNoPart (tPart (tC (.int n)))) := by
  intro a ns σ H Q h0 sq le fin
  refine ⟨_, h0, n, rfl, a, _, rfl, sq, fun p hp => ?_⟩
  refine fin _ p (cutL ns none (some n)) (Gro.upd hp) hp ?_
  rw [upd_same, cut_ints]
theorem feed_read {L : Lw} (nk : L.Nk) {tc : TE} (hc : Cells L.K tc) {vs : List V} {H : Hp} {Q : VK} {E : XK} {N : List Str} (h : spFeed L vs H Q E) :
    tDisp [(tC (.str L.k1), tc), (tC (.str L.k2), tC (.int 0)), (tC (.str L.k3), tC (.int 0)), (tC (.str L.k4), tC (.int 0))] (L2.start N vs) H Q := by
  obtain ⟨a, ns, rfl, sq, le, fin⟩ := h
  intro p hp
  refine hc a ns _ _ _ rfl (sqL_gro (Gro.upd hp) sq) le fun H' q cells gr hq hq' => ?_
  have ne : p ≠ q := fun e => by rw [e, upd_same] at hq; cases hq
  refine ⟨gr _ _ upd_same, [(.inr L.k1, .ref q), (.inr L.k2, .int 0), (.inr L.k3, .int 0), (.inr L.k4, .int 0)], rfl, (by show 4 ≤ 15; decide), ?_⟩
  obtain ⟨h12, h13, h14, h23, h24, h34⟩ := nk
  have n' : ∀ {x y : Str}, x ≠ y → decide ((Sum.inr x : Key) = Sum.inr y) = false := fun h => decide_eq_false fun z => h (Sum.inr.inj z)
  have em : mergeK [] [((.inr L.k1 : Key), V.ref q), (.inr L.k2, .int 0), (.inr L.k3, .int 0), (.inr L.k4, .int 0)] = [(.inr L.k1, .ref q), (.inr L.k2, .int 0), (.inr L.k3, .int 0), (.inr L.k4, .int 0)] := by
    simp only [mergeK, List.foldl_cons, List.foldl_nil, putK, List.any_nil, List.any_cons, n' h12, n' h13, n' h14, n' h23, n' h24, n' h34, Bool.or_false, Bool.false_eq_true, if_false, List.nil_append, List.cons_append]
  rw [em]
  refine fin _ p q cells (fun b o hb => ?_) ne upd_same ?_
  · have bp : b ≠ p := fun e => by rw [e, hp] at hb; cases hb
    rw [upd_ne bp]
    exact gr _ _ (Gro.upd hp _ _ hb)
  · rw [upd_ne (Ne.symm ne)]
    exact hq'
theorem gc_int {K : PySem.W.Frag} {h : Heap} {mg : Str → Option Value} {x : Str} {i : Int} {t : Tok} (X : K.In h) (G : h.Ns mainGlobals mg) (e : PySem.W.nsIn K mainGlobals x = some (some (.int i t))) : GC K mg x (.int i) :=
  ⟨_, .int i, PySem.W.mg_of X G e, ⟨t, rfl⟩, fun _ => .int i⟩
theorem gc_str {K : PySem.W.Frag} {h : Heap} {mg : Str → Option Value} {x y : Str} {t : Tok} (X : K.In h) (G : h.Ns mainGlobals mg) (e : PySem.W.nsIn K mainGlobals x = some (some (.str y t))) : GC K mg x (.str y) :=
  ⟨_, .str y, PySem.W.mg_of X G e, ⟨t, rfl⟩, fun _ => .str y⟩
theorem dq_strs {K : PySem.W.Frag} {H : Hp} : ∀ ys : List Str, DqAll K H (ys.map V.str) (ys.map PyData.str)
  | [] => .nil
  | y :: ys => .cons (.str y) (dq_strs ys)
/-- a module's tuple of texts -/
theorem gc_strs {K : PySem.W.Frag} {h : Heap} {mg : Str → Option Value} {x : Str} {a : Addr} {d : Option Addr} {its : Array Value} {n : Nat} {sl : Array (Option Value)} (ys : List Str) (X : K.In h) (G : h.Ns mainGlobals mg) (e : PySem.W.nsIn K mainGlobals x = some (some (.ref a)))
    (l : K.lookup a = some ⟨.type "tuple", d, .seq its n, sl⟩) (v : Vals (ys.map V.str) its.toList) (z : its.size ≤ sizeLine) : GC K mg x (.tuple (ys.map .str)) :=
  ⟨_, .ref a, PySem.W.mg_of X G e, rfl, fun _ => .tup (.inr ⟨_, its, n, l, rfl, rfl, z, v⟩) (dq_strs ys)⟩
/-- a law's promise -/
def spLaw (L : Lw) : Sp := fun vs H Q _ => ∃ (a : Addr) (ns : List Int), vs = [.ref a] ∧ SqL L.K H a (ns.map V.int) ∧ ns.length ≤ 63 ∧ ∀ H', Q (.bl true) H'
section
variable {P : Program} {w : World} {L : Lw} {mg : Str → Option Value} {base : Heap} {k : Nat} {f0 fF : Addr} {x qual : Str} {st : Stmt} {fd fdF : FuncData} {N : List Str} {px fx : Str} {s1 : Stmt} {rest : List Stmt} {body : MS} {i : Nat} {xi : Str}
/-- the call of the maker of feeds, as it is read -/
def tFeed (L : Lw) (W : WX') : TE := fun σ H Q => tCons (tVar 0) tNil σ H fun vs H1 => spFeed L vs H1 Q (WE W σ)
theorem start_len {N : List Str} {a : Addr} (hN : 1 ≤ N.length) : (L2.start N [V.ref a]).length = N.length := by
  unfold L2.start
  simp only [List.length_append, List.length_map, List.length_replicate, List.length_cons, List.length_nil]
  omega
/-- law(script): feed = make(script); rest -/
theorem law_A (F : Fun L.K x qual st f0 fd) (S : FnScope N [px] (defScope st)) (hN : 1 ≤ N.length) (eb : defBody st = s1 :: rest)
    (first : ∀ (cdv : Value) (A : Around) (outer : List Env) (s : Shared) (H : Hp) (E : XK), (dX P w L mg base N qual st f0 cdv A outer s H E).A.guards = some [] →
      Room k (dX P w L mg base N qual st f0 cdv A outer s H E).A → PS (dX P w L mg base N qual st f0 cdv A outer s H E) s1 (tAsg (tFeed L (wE E)) (gName i)))
    (walk : ∀ (c : Cn), c.L = L → ∀ (cdv : Value) (A : Around) (outer : List Env) (s : Shared) (H : Hp) (E : XK), (dX P w L mg base N qual st f0 cdv A outer s H E).A.guards = some [] →
      Room k (dX P w L mg base N qual st f0 cdv A outer s H E).A → PSs (dX P w L mg base N qual st f0 cdv A outer s H E) rest (tS c (wE E) body))
    (math : ∀ cells : List Int, ∃ φ', body ((List.replicate N.length .un).set i .fd) (fd0 cells) = .ok (.rt (.bool true)) φ') :
    FnG P w L.K mg base (L2.CX P w) (k + 1) f0 fd [px] (spLaw L) := by
  refine fng_of F S (fun vs H Q E h => by obtain ⟨a, ns, rfl, _⟩ := h; rfl) fun cdv A outer s H vs Q E gd room want => ?_
  obtain ⟨a, ns, rfl, sq, le, fin⟩ := want
  refine ⟨_, eb ▸ pss_cons (first cdv A outer s H E gd room) (pss_ex fun c hc => walk c hc cdv A outer s H E gd room), ?_⟩
  refine ⟨_, rfl, a, ns, rfl, sq, le, fun H' p q cells gr ne hp hq => ?_⟩
  have R := (rel0 (L := L) (start_len (a := a) hN) ne hp hq).setFd i
  refine ⟨cn0 L p q H', rfl, nO, _, _, R, ?_⟩
  obtain ⟨φ', e⟩ := math cells
  rw [e]
  intro O' σ' ρ' v H2 R2 d
  cases d
  exact fin _
/-- law(script): feed, more = make(script), e; rest -/
theorem law_B {j : Nat} {f : ME} (F : Fun L.K x qual st f0 fd) (S : FnScope N [px] (defScope st)) (hN : 1 ≤ N.length) (eb : defBody st = s1 :: rest)
    (first : ∀ (cdv : Value) (A : Around) (outer : List Env) (s : Shared) (H : Hp) (E : XK), (dX P w L mg base N qual st f0 cdv A outer s H E).A.guards = some [] →
      Room k (dX P w L mg base N qual st f0 cdv A outer s H E).A → PS (dX P w L mg base N qual st f0 cdv A outer s H E) s1 (tPar i j (tCons (tFeed L (wE E)) (tCons (fun σ H Q => ∃ c : Cn, c.L = L ∧ tD c (wE E) f σ H Q) tNil))))
    (walk : ∀ (c : Cn), c.L = L → ∀ (cdv : Value) (A : Around) (outer : List Env) (s : Shared) (H : Hp) (E : XK), (dX P w L mg base N qual st f0 cdv A outer s H E).A.guards = some [] →
      Room k (dX P w L mg base N qual st f0 cdv A outer s H E).A → PSs (dX P w L mg base N qual st f0 cdv A outer s H E) rest (tS c (wE E) body))
    (math : ∀ cells : List Int, ∃ d φ φ', f (List.replicate N.length .un) (fd0 cells) = .ok d φ ∧ body (((List.replicate N.length .un).set i .fd).set j (.dat d)) φ = .ok (.rt (.bool true)) φ') :
    FnG P w L.K mg base (L2.CX P w) (k + 1) f0 fd [px] (spLaw L) := by
  refine fng_of F S (fun vs H Q E h => by obtain ⟨a, ns, rfl, _⟩ := h; rfl) fun cdv A outer s H vs Q E gd room want => ?_
  obtain ⟨a, ns, rfl, sq, le, fin⟩ := want
  refine ⟨_, eb ▸ pss_cons (first cdv A outer s H E gd room) (pss_ex fun c hc => walk c hc cdv A outer s H E gd room), ?_⟩
  refine ⟨_, rfl, a, ns, rfl, sq, le, fun H' p q cells gr ne hp hq => ?_⟩
  have R := rel0 (L := L) (start_len (a := a) hN) ne hp hq
  obtain ⟨d, φ, φ', e1, e2⟩ := math cells
  refine ⟨cn0 L p q H', rfl, nO, _, _, R, ?_⟩
  rw [e1]
  intro v H2 R2 s2 dv
  refine ⟨_, _, rfl, ?_⟩
  refine ⟨cn0 L p q H', rfl, nO, _, _, (R2.setFd i).set j dv, ?_⟩
  rw [e2]
  intro O' σ' ρ' v H3 R3 d
  cases d
  exact fin _
/-- the same where one of the names is a cell: the pair is made and taken apart -/
theorem law_C {j : Nat} {f : ME} (F : Fun L.K x qual st f0 fd) (S : FnScope N [px] (defScope st)) (hN : 1 ≤ N.length) (eb : defBody st = s1 :: rest)
    (first : ∀ (cdv : Value) (A : Around) (outer : List Env) (s : Shared) (H : Hp) (E : XK), (dX P w L mg base N qual st f0 cdv A outer s H E).A.guards = some [] →
      Room k (dX P w L mg base N qual st f0 cdv A outer s H E).A → PS (dX P w L mg base N qual st f0 cdv A outer s H E) s1 (tAsg (tTup (tCons (tFeed L (wE E)) (tCons (fun σ H Q => ∃ c : Cn, c.L = L ∧ tD c (wE E) f σ H Q) tNil))) (gTup L.K 2 (gNames [i, j]))))
    (walk : ∀ (c : Cn), c.L = L → ∀ (cdv : Value) (A : Around) (outer : List Env) (s : Shared) (H : Hp) (E : XK), (dX P w L mg base N qual st f0 cdv A outer s H E).A.guards = some [] →
      Room k (dX P w L mg base N qual st f0 cdv A outer s H E).A → PSs (dX P w L mg base N qual st f0 cdv A outer s H E) rest (tS c (wE E) body))
    (math : ∀ cells : List Int, ∃ d φ φ', f (List.replicate N.length .un) (fd0 cells) = .ok d φ ∧ body (((List.replicate N.length .un).set i .fd).set j (.dat d)) φ = .ok (.rt (.bool true)) φ') :
    FnG P w L.K mg base (L2.CX P w) (k + 1) f0 fd [px] (spLaw L) := by
  refine fng_of F S (fun vs H Q E h => by obtain ⟨a, ns, rfl, _⟩ := h; rfl) fun cdv A outer s H vs Q E gd room want => ?_
  obtain ⟨a, ns, rfl, sq, le, fin⟩ := want
  refine ⟨_, eb ▸ pss_cons (first cdv A outer s H E gd room) (pss_ex fun c hc => walk c hc cdv A outer s H E gd room), ?_⟩
  refine ⟨_, rfl, a, ns, rfl, sq, le, fun H' p q cells gr ne hp hq => ?_⟩
  have R := rel0 (L := L) (start_len (a := a) hN) ne hp hq
  obtain ⟨d, φ, φ', e1, e2⟩ := math cells
  refine ⟨cn0 L p q H', rfl, nO, _, _, R, ?_⟩
  rw [e1]
  intro v H2 R2 s2 dv
  refine ⟨by show 2 ≤ sizeLine; decide, fun t ht => ?_⟩
  have gt := Gro.upd (o := .tup [V.ref p, v]) ht
  have R3 := (((R2.gro gt).setFd i).set j (dq_gro (fr_gro gt) dv))
  refine ⟨t, _, rfl, .inl (.inl upd_same), rfl, _, _, rfl, _, _, rfl, rfl, ?_⟩
  refine ⟨cn0 L p q H', rfl, nO, _, _, R3, ?_⟩
  rw [e2]
  intro O' σ' ρ' v H3 R3 d
  cases d
  exact fin _
end
end DL

set_option maxHeartbeats 1000000
/-! DL, part j: what a mirror may answer, whatever the feed holds -/
namespace DL
open PySem PySem.Spec PyProof.Rows L2

def Can {α : Type} (f : Fd → Res α) (P : α → Prop) : Prop := ∀ φ, ∃ a φ', f φ = .ok a φ' ∧ P a
abbrev wE1 (f : ME) (ρ : Rho) (P : Dt → Prop) : Prop := Can (f ρ) P
abbrev wT1 (f : MT) (ρ : Rho) (P : Bool → Prop) : Prop := Can (f ρ) P
abbrev wA1 (f : MA) (ρ : Rho) (P : List Dt → Prop) : Prop := Can (f ρ) P
abbrev wG1 (f : MG) (ρ : Rho) (P : List Sl → Prop) : Prop := Can (f ρ) P
abbrev wO1 (f : MO) (ρ : Rho) (P : Option Int → Prop) : Prop := Can (f ρ) P
abbrev wS1 (f : MS) (ρ : Rho) (P : Fl → Prop) : Prop := Can (f ρ) P
theorem Can.mono {α : Type} {f : Fd → Res α} {P Q : α → Prop} (h : Can f P) (k : ∀ a, P a → Q a) : Can f Q := fun φ => let ⟨a, φ', e, p⟩ := h φ; ⟨a, φ', e, k a p⟩
theorem can_bind {α β : Type} {f : Fd → Res α} {g : α → Fd → Res β} {Q : β → Prop} (h : Can f fun a => Can (g a) Q) : Can (fun φ => (f φ).bind g) Q := fun φ => by
  obtain ⟨a, φ', e, k⟩ := h φ
  obtain ⟨b, φ2, e2, q⟩ := k φ'
  exact ⟨b, φ2, by show (f φ).bind g = _; rw [e]; exact e2, q⟩
theorem can_ok {α : Type} {a : α} {P : α → Prop} (h : P a) : Can (fun φ => .ok a φ) P := fun φ => ⟨a, φ, rfl, h⟩
theorem can_opt {α : Type} {o : Option α} {P : α → Prop} (h : ∃ a, o = some a ∧ P a) : Can (opt o) P := fun φ => by
  obtain ⟨a, e, p⟩ := h
  exact ⟨a, φ, by rw [e]; rfl, p⟩
section
variable {ρ : Rho} {P : Dt → Prop} {f f1 f2 : ME} {t u : MT}
theorem we_var {i : Nat} {d : Dt} (e : ρ[i]? = some (.dat d)) (h : P d) : wE1 (mVar i) ρ P := fun φ => ⟨d, φ, by unfold mVar; rw [e], h⟩
theorem we_c {d : Dt} (h : P d) : wE1 (mC d) ρ P := can_ok h
theorem we_2 {g : Dt → Dt → Option Dt} (h : wE1 f1 ρ fun x => wE1 f2 ρ fun y => ∃ z, g x y = some z ∧ P z) : wE1 (m2 g f1 f2) ρ P :=
  can_bind (h.mono fun _ k => can_bind (k.mono fun _ q => can_opt q))
theorem we_1 {g : Dt → Option Dt} (h : wE1 f ρ fun x => ∃ z, g x = some z ∧ P z) : wE1 (m1 g f) ρ P := can_bind (h.mono fun _ q => can_opt q)
theorem we_isi {T : String} (h : wE1 f ρ fun x => P (.bool (isiD T x))) : wE1 (mIsi T f) ρ P := we_1 (h.mono fun _ k => ⟨_, rfl, k⟩)
theorem wt_e {t : Dt → Option Bool} {P : Bool → Prop} (h : wE1 f ρ fun x => ∃ z, t x = some z ∧ P z) : wT1 (mtE f t) ρ P := can_bind (h.mono fun _ q => can_opt q)
theorem wt_yes {P : Bool → Prop} (h : P true) : wT1 mtYes ρ P := can_ok h
theorem wt_not {P : Bool → Prop} (h : wT1 t ρ fun b => P (!b)) : wT1 (mtNot t) ρ P := can_bind (h.mono fun _ k => can_ok k)
theorem wt_and {P : Bool → Prop} (h : wT1 t ρ fun b => (b = true → wT1 u ρ P) ∧ (b = false → P false)) : wT1 (mtAnd t u) ρ P :=
  can_bind (h.mono fun b k => by
    cases b with
    | true => exact k.1 rfl
    | false => exact can_ok (k.2 rfl))
theorem wt_or {P : Bool → Prop} (h : wT1 t ρ fun b => (b = true → P true) ∧ (b = false → wT1 u ρ P)) : wT1 (mtOr t u) ρ P :=
  can_bind (h.mono fun b k => by
    cases b with
    | true => exact can_ok (k.1 rfl)
    | false => exact k.2 rfl)
theorem we_if (h : wT1 t ρ fun b => (b = true → wE1 f1 ρ P) ∧ (b = false → wE1 f2 ρ P)) : wE1 (mIf t f1 f2) ρ P :=
  can_bind (h.mono fun b k => by
    cases b with
    | true => exact k.1 rfl
    | false => exact k.2 rfl)
theorem we_not (h : wE1 f ρ fun x => ∃ b, truth x = some b ∧ P (.bool (!b))) : wE1 (mNot f) ρ P := we_1 (h.mono fun x k => by
  obtain ⟨b, e, p⟩ := k
  exact ⟨_, by rw [e]; rfl, p⟩)
theorem we_and (h : wE1 f1 ρ fun x => ∃ b, truth x = some b ∧ (b = true → wE1 f2 ρ P) ∧ (b = false → P x)) : wE1 (mAnd f1 f2) ρ P :=
  can_bind (h.mono fun x k => by
    obtain ⟨b, e, p, q⟩ := k
    rw [e]
    cases b with
    | true => exact p rfl
    | false => exact can_ok (q rfl))
theorem we_or (h : wE1 f1 ρ fun x => ∃ b, truth x = some b ∧ (b = true → P x) ∧ (b = false → wE1 f2 ρ P)) : wE1 (mOr f1 f2) ρ P :=
  can_bind (h.mono fun x k => by
    obtain ⟨b, e, p, q⟩ := k
    rw [e]
    cases b with
    | true => exact can_ok (p rfl)
    | false => exact q rfl)
variable {A : List Dt → Prop} {g : MA}
theorem wa_nil (h : A []) : wA1 maNil ρ A := can_ok h
theorem wa_cons (h : wE1 f ρ fun x => wA1 g ρ fun xs => A (x :: xs)) : wA1 (maCons f g) ρ A := can_bind (h.mono fun _ k => can_bind (k.mono fun _ q => can_ok q))
theorem we_tup (h : wA1 g ρ fun xs => xs.length ≤ sizeLine ∧ P (.tuple xs)) : wE1 (mTup g) ρ P :=
  can_bind (h.mono fun xs k => by rw [show (fun φ => if xs.length ≤ sizeLine then Res.ok (PyData.tuple xs) φ else .no) = fun φ => .ok (.tuple xs) φ from funext fun _ => if_pos k.1]; exact can_ok k.2)
theorem we_lst (h : wA1 g ρ fun xs => xs.length ≤ sizeLine ∧ P (.list xs)) : wE1 (mLst g) ρ P :=
  can_bind (h.mono fun xs k => by rw [show (fun φ => if xs.length ≤ sizeLine then Res.ok (PyData.list xs) φ else .no) = fun φ => .ok (.list xs) φ from funext fun _ => if_pos k.1]; exact can_ok k.2)
theorem we_ca {c : List Dt → Option Dt} (h : wA1 g ρ fun xs => ∃ z, c xs = some z ∧ P z) : wE1 (mCa c g) ρ P := can_bind (h.mono fun _ q => can_opt q)
variable {O : Option Int → Prop}
theorem wo_none (h : O none) : wO1 moNone ρ O := can_ok h
theorem wo_some (h : wE1 f ρ fun x => ∃ i, x = .int i ∧ O (some i)) : wO1 (moSome f) ρ O := can_bind (h.mono fun x k => by
  obtain ⟨i, rfl, q⟩ := k
  exact can_bind (can_opt ⟨i, rfl, can_ok q⟩))
theorem we_sl {l h : MO} (k : wE1 f ρ fun x => wO1 l ρ fun a => wO1 h ρ fun b => ∃ z, slD x a b = some z ∧ P z) : wE1 (mSl f l h) ρ P :=
  can_bind (k.mono fun _ k => can_bind (k.mono fun _ k => can_bind (k.mono fun _ q => can_opt q)))
variable {G : List Sl → Prop} {gg : MG} {m : MF}
theorem wg_nil (h : G []) : wG1 mgNil ρ G := can_ok h
theorem wg_d (h : wE1 f ρ fun x => wG1 gg ρ fun xs => G (.dat x :: xs)) : wG1 (mgD f gg) ρ G := can_bind (h.mono fun _ k => can_bind (k.mono fun _ q => can_ok q))
theorem wg_f {i : Nat} (e : ρ[i]? = some .fd) (h : wG1 gg ρ fun xs => G (.fd :: xs)) : wG1 (mgF i gg) ρ G := by
  have : (mgF i gg ρ) = fun φ => (gg ρ φ).bind fun xs φ2 => .ok (.fd :: xs) φ2 := funext fun φ => by unfold mgF; rw [e]
  unfold wG1
  rw [this]
  exact can_bind (h.mono fun _ q => can_ok q)
theorem we_call (h : wG1 gg ρ fun as => Can (m as) P) : wE1 (mCall m gg) ρ P := can_bind h
variable {D : Fl → Prop} {s r : MS}
theorem ws_seq (h : wS1 s ρ fun fl => match fl with
    | .nx ρ' => wS1 r ρ' D
    | x => D x) : wS1 (sSeq s r) ρ D := fun φ => by
  obtain ⟨a, φ', e, k⟩ := h φ
  cases a with
  | nx ρ' =>
    obtain ⟨b, φ2, e2, q⟩ := k φ'
    exact ⟨b, φ2, by unfold sSeq; rw [e]; exact e2, q⟩
  | _ => exact ⟨_, φ', by unfold sSeq; rw [e], k⟩
theorem ws_nx (h : D (.nx ρ)) : wS1 sNx ρ D := can_ok h
theorem ws_set {j : Nat} (h : wE1 f ρ fun d => D (.nx (ρ.set j (.dat d)))) : wS1 (sSet j f) ρ D := fun φ => by
  obtain ⟨a, φ', e, k⟩ := h φ
  exact ⟨_, φ', by unfold sSet; rw [e]; rfl, k⟩
theorem ws_expr (h : wE1 f ρ fun d => D (.nx ρ)) : wS1 (sExpr f) ρ D := fun φ => by
  obtain ⟨a, φ', e, k⟩ := h φ
  exact ⟨_, φ', by unfold sExpr; rw [e]; rfl, k⟩
theorem ws_ret (h : wE1 f ρ fun d => D (.rt d)) : wS1 (sRet f) ρ D := fun φ => by
  obtain ⟨a, φ', e, k⟩ := h φ
  exact ⟨_, φ', by unfold sRet; rw [e]; rfl, k⟩
theorem ws_if (h : wT1 t ρ fun b => (b = true → wS1 s ρ D) ∧ (b = false → wS1 r ρ D)) : wS1 (sIf t s r) ρ D := fun φ => by
  obtain ⟨b, φ', e, k⟩ := h φ
  unfold sIf
  rw [e]
  cases b with
  | true => exact k.1 rfl φ'
  | false => exact k.2 rfl φ'
theorem ws_unp {t : Tg} (h : wE1 f ρ fun d => ∃ ρ', bindT t d ρ = some ρ' ∧ D (.nx ρ')) : wS1 (sUnp t f) ρ D := fun φ => by
  obtain ⟨a, φ', e, ρ', e2, k⟩ := h φ
  exact ⟨_, φ', by unfold sUnp; rw [e]; show (match bindT t a ρ with | some ρ' => Res.ok (Fl.nx ρ') φ' | none => .no) = _; rw [e2], k⟩
theorem ws_par {i j : Nat} (h : wA1 g ρ fun ds => ∃ a b, ds = [a, b] ∧ D (.nx ((ρ.set i (.dat a)).set j (.dat b)))) : wS1 (sPar i j g) ρ D := fun φ => by
  obtain ⟨a, φ', e, x, y, rfl, k⟩ := h φ
  exact ⟨_, φ', by unfold sPar; rw [e]; rfl, k⟩
theorem ws_par3 {i j l : Nat} (h : wA1 g ρ fun ds => ∃ a b c, ds = [a, b, c] ∧ D (.nx (((ρ.set i (.dat a)).set j (.dat b)).set l (.dat c)))) : wS1 (sPar3 i j l g) ρ D := fun φ => by
  obtain ⟨a, φ', e, x, y, z, rfl, k⟩ := h φ
  exact ⟨_, φ', by unfold sPar3; rw [e]; rfl, k⟩
theorem ws_own {j : Nat} (h : wA1 g ρ fun ds => ds.length ≤ sizeLine ∧ D (.nx (ρ.set j (.own ds)))) : wS1 (sOwn j g) ρ D := fun φ => by
  obtain ⟨a, φ', e, z, k⟩ := h φ
  exact ⟨_, φ', by unfold sOwn; rw [e]; exact if_pos z, k⟩
theorem ws_app {j : Nat} {ds : List Dt} (e0 : ρ[j]? = some (.own ds)) (h : wE1 f ρ fun d => ds.length < sizeLine ∧ D (.nx (ρ.set j (.own (ds ++ [d]))))) : wS1 (sApp j f) ρ D := fun φ => by
  obtain ⟨a, φ', e, z, k⟩ := h φ
  refine ⟨_, φ', ?_, k⟩
  unfold sApp
  rw [e0]
  show eS (f ρ φ) ρ _ = _
  rw [e]
  exact if_pos z
theorem ws_frz {j : Nat} {ds : List Dt} (e0 : ρ[j]? = some (.own ds)) (h : D (.nx (ρ.set j (.dat (.list ds))))) : wS1 (sFrz j) ρ D := fun φ => ⟨_, φ, by unfold sFrz; rw [e0], h⟩
variable {it : MI} {tg : Tg}
/-- a walk with an invariant -/
theorem forGo_inv {J : Rho → Prop} {xs : List Dt} (hb : ∀ x ∈ xs, ∀ ρ, J ρ → ∃ ρ1, bindT tg x ρ = some ρ1 ∧ wS1 s ρ1 fun fl => match fl with
    | .nx ρ' => J ρ'
    | .ct ρ' => J ρ'
    | _ => False) {ρ : Rho} (h : J ρ) (k : ∀ ρ', J ρ' → D (.nx ρ')) : Can (forGo tg s xs ρ) D := by
  induction xs generalizing ρ with
  | nil => exact can_ok (k ρ h)
  | cons x xs ih =>
    intro φ
    obtain ⟨ρ1, e1, w⟩ := hb x List.mem_cons_self ρ h
    obtain ⟨a, φ', e, q⟩ := w φ
    cases a with
    | nx ρ' =>
      obtain ⟨b, φ2, e2, d⟩ := ih (fun y hy => hb y (List.mem_cons_of_mem _ hy)) q φ'
      exact ⟨b, φ2, by unfold forGo; rw [e1]; simp only [e]; exact e2, d⟩
    | ct ρ' =>
      obtain ⟨b, φ2, e2, d⟩ := ih (fun y hy => hb y (List.mem_cons_of_mem _ hy)) q φ'
      exact ⟨b, φ2, by unfold forGo; rw [e1]; simp only [e]; exact e2, d⟩
    | _ => exact q.elim
theorem ws_for (h : Can (it ρ) fun xs => Can (forGo tg s xs ρ) D) : wS1 (sFor it tg s) ρ D := fun φ => by
  obtain ⟨a, φ', e, k⟩ := h φ
  obtain ⟨b, φ2, e2, d⟩ := k φ'
  exact ⟨b, φ2, by unfold sFor; rw [e]; exact e2, d⟩
theorem wi_v {I : List Dt → Prop} (h : wE1 f ρ fun x => ∃ xs, itemsD x = some xs ∧ I xs) : Can (miV f ρ) I := can_bind (h.mono fun _ q => can_opt q)
theorem wi_r1 {I : List Dt → Prop} {n : Nat} (h : wA1 g ρ fun xs => xs = [.int n] ∧ n < 4611686018427387904 ∧ I ((List.range n).map fun i => .int (i : Nat))) : Can (miR1 g ρ) I := can_bind (h.mono fun xs k => by
  obtain ⟨rfl, hn, q⟩ := k
  intro φ
  exact ⟨_, φ, if_pos ⟨by omega, by omega⟩, by rw [Int.toNat_natCast]; exact q⟩)
/-- what a comprehension keeps: each item's test and answer are known -/
theorem we_lc {vs : List Nat} {elt : ME} {j : Nat} {p : Dt → Bool} {q : Dt → Dt} (h : Can (it ρ) fun xs => xs.length ≤ sizeLine ∧ (∀ x ∈ xs, wT1 t ((wipeR ρ vs).set j (.dat x)) (fun b => b = p x) ∧ (p x = true → wE1 elt ((wipeR ρ vs).set j (.dat x)) fun y => y = q x)) ∧
    P (.list ((xs.filter p).map q))) : wE1 (mLc it (.nm j) t elt vs) ρ P := fun φ => by
  obtain ⟨xs, φ', e, hz, hx, hP⟩ := h φ
  have go : ∀ (xs : List Dt) (φ : Fd), (∀ x ∈ xs, wT1 t ((wipeR ρ vs).set j (.dat x)) (fun b => b = p x) ∧ (p x = true → wE1 elt ((wipeR ρ vs).set j (.dat x)) fun y => y = q x)) → ∃ φ', lcGo (.nm j) t elt (wipeR ρ vs) xs φ = .ok ((xs.filter p).map q) φ' := by
    intro xs
    induction xs with
    | nil => exact fun φ _ => ⟨φ, rfl⟩
    | cons x xs ih =>
      intro φ hx
      obtain ⟨ht, he⟩ := hx x List.mem_cons_self
      obtain ⟨b, φ1, e1, rfl⟩ := ht φ
      unfold lcGo
      show ∃ φ', ((t _ φ).bind _ : Res (List Dt)) = _
      rw [e1]
      cases hp : p x with
      | true =>
        obtain ⟨y, φ2, e2, rfl⟩ := he hp φ1
        obtain ⟨φ3, e3⟩ := ih φ2 fun y hy => hx y (List.mem_cons_of_mem _ hy)
        refine ⟨φ3, ?_⟩
        show (((elt _ φ1).bind _ : Res (List Dt))) = _
        rw [e2]
        show (((lcGo _ _ _ _ _ φ2).bind _ : Res (List Dt))) = _
        rw [e3, List.filter_cons, if_pos hp]
        rfl
      | false =>
        obtain ⟨φ3, e3⟩ := ih φ1 fun y hy => hx y (List.mem_cons_of_mem _ hy)
        refine ⟨φ3, ?_⟩
        show lcGo _ _ _ _ _ φ1 = _
        rw [e3, List.filter_cons, if_neg (by rw [hp]; exact Bool.false_ne_true)]
  obtain ⟨φ2, e2⟩ := go xs φ' hx
  refine ⟨_, φ2, ?_, hP⟩
  unfold mLc
  rw [e]
  show (if xs.length ≤ sizeLine then _ else _) = _
  rw [if_pos hz, e2]
  rfl
/-- a def's answer -/
theorem can_fn {N : Nat} {body : MS} {as : List Sl} (h : wS1 body (as ++ List.replicate (N - as.length) .un) fun fl => match fl with
    | .rt d => P d
    | .nx _ => P .none
    | _ => False) : Can (mFn N body as) P := fun φ => by
  obtain ⟨a, φ', e, k⟩ := h φ
  unfold mFn
  rw [e]
  cases a with
  | rt d => exact ⟨d, φ', rfl, k⟩
  | nx _ => exact ⟨.none, φ', rfl, k⟩
  | _ => exact k.elim
end
end DL

set_option maxHeartbeats 1000000
/-! DL, part k: plain data and how repr shows it -/
namespace DL
open PySem PySem.Spec PyProof.Rows L2

def okc (c : Nat) : Bool := decide (32 ≤ c) && decide (c ≤ 126) && c != 39 && c != 92
def okS (x : Str) : Bool := x.cps.toList.all okc
theorem okc_lt {c : Nat} (h : okc c = true) : 32 ≤ c ∧ c ≤ 126 ∧ c ≠ 39 ∧ c ≠ 92 := by
  unfold okc at h
  simp only [Bool.and_eq_true, decide_eq_true_eq, bne_iff_ne] at h
  exact ⟨h.1.1.1, h.1.1.2, h.1.2, h.2⟩
theorem okc_print : ∀ c : Fin 127, 32 ≤ c.val → Unicode.isPrintable c.val = true := by decide +kernel
theorem okc_repr {c : Nat} (h : okc c = true) : Builtin.Str.reprChar 39 c = [c] := by
  obtain ⟨h1, h2, h3, h4⟩ := okc_lt h
  have hp := okc_print ⟨c, by omega⟩ h1
  unfold Builtin.Str.reprChar
  have e1 : (c == 39) = false := by simpa using h3
  have e2 : (c == 92) = false := by simpa using h4
  have e3 : (c == 10) = false := by simp; omega
  have e4 : (c == 13) = false := by simp; omega
  have e5 : (c == 9) = false := by simp; omega
  simp only [e1, e2, e3, e4, e5, Bool.or_self, Bool.false_eq_true, if_false]
  rw [if_pos hp]
abbrev cl (x : Str) : List Nat := x.cps.toList
theorem okS_repr {x : Str} (h : okS x = true) : cl (reprText x) = 39 :: (cl x ++ [39]) := by
  have hq : reprQuote x = 39 := by
    unfold reprQuote
    have : x.cps.contains 39 = false := by
      cases hc : x.cps.contains 39 with
      | false => rfl
      | true =>
        have hm : (39 : Nat) ∈ x.cps.toList := by simpa using hc
        have := okc_lt (List.all_eq_true.mp h 39 hm)
        omega
    rw [this]
    rfl
  have go : ∀ (l : List Nat) (acc : Array Nat), (∀ c ∈ l, okc c = true) → (l.foldl (fun out c => out ++ (Builtin.Str.reprChar 39 c).toArray) acc).toList = acc.toList ++ l := by
    intro l
    induction l with
    | nil => intro acc _; simp
    | cons c r ih =>
      intro acc hl
      rw [List.foldl_cons, ih _ fun d hd => hl d (List.mem_cons_of_mem _ hd), okc_repr (hl c List.mem_cons_self)]
      simp
  show (Array.push (x.cps.foldl (fun out c => out ++ (Builtin.Str.reprChar (reprQuote x) c).toArray) #[reprQuote x]) (reprQuote x)).toList = _
  rw [hq, Array.toList_push, ← Array.foldl_toList, go _ _ fun c hc => List.all_eq_true.mp h c hc]
  rfl
/-- joined by ", ", closed by e -/
def jn : List (List Nat) → List Nat → List Nat
  | [], e => e
  | [x], e => x ++ e
  | x :: y :: r, e => x ++ 44 :: 32 :: jn (y :: r) e
theorem jn_join : ∀ (ts : List Str) (e : List Nat), cl (Str.join ", " ts) ++ e = jn (ts.map cl) e
  | [], e => rfl
  | [x], e => rfl
  | x :: y :: r, e => by
    have ih := jn_join (y :: r) e
    show ((x.cps ++ (Str.ofString ", ").cps) ++ (Str.join ", " (y :: r)).cps).toList ++ e = x.cps.toList ++ 44 :: 32 :: jn ((y :: r).map cl) e
    rw [← ih]
    have : (Str.ofString ", ").cps.toList = [44, 32] := by decide +kernel
    simp [this]
abbrev sh (d : Dt) : List Nat := cl d.shown
theorem shownAll_map : ∀ ds : List Dt, PyData.shownAll ds = ds.map PyData.shown
  | [] => rfl
  | d :: r => by
    show d.shown :: PyData.shownAll r = _
    rw [shownAll_map r]
    rfl
theorem sh_tuple (ds : List Dt) : sh (.tuple ds) = 40 :: jn (ds.map sh) (if ds.length == 1 then [44, 41] else [41]) := by
  show (((Str.ofString "(").cps ++ (Str.join ", " (PyData.shownAll ds)).cps) ++ (Str.ofString (if (PyData.shownAll ds).length == 1 then ",)" else ")")).cps).toList = _
  rw [shownAll_map, List.length_map]
  have e1 : (Str.ofString "(").cps.toList = [40] := by decide +kernel
  have e2 : (Str.ofString (if ds.length == 1 then ",)" else ")")).cps.toList = if ds.length == 1 then [44, 41] else [41] := by
    cases ds.length == 1 <;> decide +kernel
  rw [Array.toList_append, Array.toList_append, e1, e2, List.append_assoc]
  have := jn_join (ds.map PyData.shown) (if ds.length == 1 then [44, 41] else [41])
  rw [List.map_map] at this
  show 40 :: (cl _ ++ _) = _
  rw [this]
  rfl
theorem text_from : ∀ (ts : List Str) (k : Nat) (acc : Str) (e : List Nat), 0 < k → ts ≠ [] → cl (textFrom k acc ts) ++ e = cl acc ++ 44 :: 32 :: jn (ts.map cl) e
  | [], _, _, _, _, h => absurd rfl h
  | [t], k, acc, e, hk, _ => by
    show ((acc.cps ++ (Str.ofString (if k > 0 then ", " else "")).cps) ++ t.cps).toList ++ e = _
    rw [if_pos hk]
    have : (Str.ofString ", ").cps.toList = [44, 32] := by decide +kernel
    simp [this, jn]
  | t :: u :: r, k, acc, e, hk, _ => by
    have ih := text_from (u :: r) (k + 1) (acc ++ (if k > 0 then ", " else "" : String) ++ t) e (by omega) (by simp)
    show cl (textFrom (k + 1) (acc ++ (if k > 0 then ", " else "" : String) ++ t) (u :: r)) ++ e = _
    rw [ih, if_pos hk]
    have : (Str.ofString ", ").cps.toList = [44, 32] := by decide +kernel
    show ((acc.cps ++ (Str.ofString ", ").cps) ++ t.cps).toList ++ 44 :: 32 :: jn ((u :: r).map cl) e = cl acc ++ 44 :: 32 :: (cl t ++ 44 :: 32 :: jn ((u :: r).map cl) e)
    simp [this]
theorem sh_list (ds : List Dt) : sh (.list ds) = 91 :: jn (ds.map sh) [93] := by
  show ((textFrom 0 "[" (PyData.shownAll ds)).cps ++ (Str.ofString "]").cps).toList = _
  rw [shownAll_map]
  have e1 : (Str.ofString "[").cps.toList = [91] := by decide +kernel
  have e2 : (Str.ofString "]").cps.toList = [93] := by decide +kernel
  have e0 : (Str.ofString "").cps.toList = [] := by decide +kernel
  rw [Array.toList_append, e2]
  cases ds with
  | nil =>
    show cl (Str.ofString "[") ++ [93] = _
    rw [show cl (Str.ofString "[") = _ from e1]
    rfl
  | cons d r =>
    show cl (textFrom 1 ("[" ++ (if 0 > 0 then ", " else "" : String) ++ d.shown) (r.map PyData.shown)) ++ [93] = _
    have ea : cl ("[" ++ (if 0 > 0 then ", " else "" : String) ++ d.shown) = 91 :: sh d := by
      show (((Str.ofString "[").cps ++ (Str.ofString "").cps) ++ d.shown.cps).toList = _
      rw [Array.toList_append, Array.toList_append, e1, e0]
      rfl
    cases r with
    | nil =>
      show cl ("[" ++ (if 0 > 0 then ", " else "" : String) ++ d.shown) ++ [93] = _
      rw [ea]
      rfl
    | cons d2 r2 =>
      rw [text_from _ 1 _ _ (by decide) (by simp), ea]
      show 91 :: sh d ++ 44 :: 32 :: jn (((d2 :: r2).map PyData.shown).map cl) [93] = _
      rw [List.map_map]
      rfl
theorem sh_true : sh (.bool true) = [84, 114, 117, 101] := by decide +kernel
theorem sh_false : sh (.bool false) = [70, 97, 108, 115, 101] := by decide +kernel
theorem sh_none : sh .none = [78, 111, 110, 101] := by decide +kernel
theorem sh_int (i : Int) : ∃ c r, sh (.int i) = c :: r ∧ (c = 45 ∨ (48 ≤ c ∧ c ≤ 57)) := by
  have hf : ∀ k ∈ sh (.int i), k = 45 ∨ (48 ≤ k ∧ k ≤ 57) := fun k hk => by
    by_cases h : k ≠ 45 ∧ (k < 48 ∨ 57 < k)
    · exact absurd hk (shown_int_free' h i)
    · omega
  cases e : sh (.int i) with
  | nil =>
    exfalso
    have : (Str.ofString (toString i)).cps.toList = [] := e
    rw [Str.ofString_eq_toList] at this
    have h2 : (toString i).toList = [] := by simpa using this
    cases i with
    | ofNat m =>
      have h3 : (Nat.repr m).toList = [] := h2
      rw [Nat.toList_repr] at h3
      exact Nat.toDigits_ne_nil h3
    | negSucc m =>
      have h3 : ("-" ++ Nat.repr (m + 1)).toList = [] := h2
      rw [String.toList_append] at h3
      have : "-".toList = [] := (List.append_eq_nil_iff.mp h3).1
      revert this
      decide
  | cons c r => exact ⟨c, r, rfl, hf c (by rw [e]; exact List.mem_cons_self)⟩

/-- a flat item that a law's own data holds: a plain text, a bool -/
def flE : Dt → Bool
  | .str x => okS x
  | .bool _ => true
  | _ => false
mutual
def plain : Dt → Bool
  | .none => true
  | .bool _ => true
  | .int _ => true
  | .str x => okS x
  | .list xs => plainAll xs
  | .tuple xs => plainAll xs
  | .dict _ => false
def plainAll : List Dt → Bool
  | [] => true
  | x :: xs => plain x && plainAll xs
end
theorem plainAll_mem : ∀ {xs : List Dt}, plainAll xs = true → ∀ x ∈ xs, plain x = true
  | [], _, _, h => by cases h
  | y :: r, h, x, hx => by
    have h' : (plain y && plainAll r) = true := h
    rw [Bool.and_eq_true] at h'
    rcases List.mem_cons.mp hx with rfl | hx
    · exact h'.1
    · exact plainAll_mem h'.2 x hx
theorem cut39 : ∀ {y x r s : List Nat}, 39 ∉ y → 39 ∉ x → y ++ 39 :: r = x ++ 39 :: s → y = x ∧ r = s
  | [], [], _, _, _, _, h => ⟨rfl, by simpa using h⟩
  | [], c :: x, _, _, _, hx, h => by
    have : 39 = c := by simpa using (List.cons.inj h).1
    exact absurd (this ▸ List.mem_cons_self) hx
  | c :: y, [], _, _, hy, _, h => by
    have : c = 39 := by simpa using (List.cons.inj h).1
    exact absurd (this ▸ List.mem_cons_self) hy
  | c :: y, d :: x, _, _, hy, hx, h => by
    obtain ⟨h1, h2⟩ := List.cons.inj h
    obtain ⟨h3, h4⟩ := cut39 (fun z => hy (List.mem_cons_of_mem _ z)) (fun z => hx (List.mem_cons_of_mem _ z)) h2
    exact ⟨by rw [h1, h3], h4⟩
theorem okS_39 {x : Str} (h : okS x = true) : 39 ∉ cl x := fun hm => (okc_lt (List.all_eq_true.mp h 39 hm)).2.2.1 rfl
theorem flat_inj {d e : Dt} {r s : List Nat} (hd : plain d = true) (he : flE e = true) (h : sh d ++ r = sh e ++ s) : d = e ∧ r = s := by
  have first : ∃ c q, sh e = c :: q ∧ (c = 39 ∨ c = 84 ∨ c = 70) := by
    cases e with
    | str x => exact ⟨39, _, okS_repr he, .inl rfl⟩
    | bool b =>
      cases b with
      | true => exact ⟨84, _, sh_true, .inr (.inl rfl)⟩
      | false => exact ⟨70, _, sh_false, .inr (.inr rfl)⟩
    | _ => cases he
  obtain ⟨c, q, ec, hc⟩ := first
  have no : ∀ {c' q'}, sh d = c' :: q' → c' ≠ 39 → c' ≠ 84 → c' ≠ 70 → d = e ∧ r = s := fun e1 a1 a2 a3 => by
    rw [e1, ec] at h
    have := (List.cons.inj h).1
    omega
  cases d with
  | none => exact no sh_none (by decide) (by decide) (by decide)
  | int i =>
    obtain ⟨c', q', e1, h1⟩ := sh_int i
    exact no e1 (by omega) (by omega) (by omega)
  | list ds => exact no (sh_list ds) (by decide) (by decide) (by decide)
  | tuple ds => exact no (sh_tuple ds) (by decide) (by decide) (by decide)
  | dict _ => cases hd
  | str y =>
    cases e with
    | str x =>
      rw [show sh (.str y) = _ from okS_repr hd, show sh (.str x) = _ from okS_repr he] at h
      have h1 : cl y ++ 39 :: r = cl x ++ 39 :: s := by simpa using h
      obtain ⟨h2, h3⟩ := cut39 (okS_39 hd) (okS_39 he) h1
      exact ⟨by rw [Str.ext' (Array.toList_inj.mp h2)], h3⟩
    | bool b =>
      rw [show sh (.str y) = _ from okS_repr hd] at h
      cases b with
      | true => rw [sh_true] at h; simp at h
      | false => rw [sh_false] at h; simp at h
    | _ => cases he
  | bool a =>
    cases e with
    | str x =>
      rw [show sh (.str x) = _ from okS_repr he] at h
      cases a with
      | true => rw [sh_true] at h; simp at h
      | false => rw [sh_false] at h; simp at h
    | bool b =>
      cases a <;> cases b
      · rw [sh_false] at h; exact ⟨rfl, by simpa using h⟩
      · rw [sh_false, sh_true] at h; simp at h
      · rw [sh_false, sh_true] at h; simp at h
      · rw [sh_true] at h; exact ⟨rfl, by simpa using h⟩
    | _ => cases he
def endOk (e : List Nat) : Prop := e = [41] ∨ e = [44, 41]
theorem flE_first {e : Dt} (he : flE e = true) : ∃ c q, sh e = c :: q ∧ (c = 39 ∨ c = 84 ∨ c = 70) := by
  cases e with
  | str x => exact ⟨39, _, okS_repr he, .inl rfl⟩
  | bool b =>
    cases b with
    | true => exact ⟨84, _, sh_true, .inr (.inl rfl)⟩
    | false => exact ⟨70, _, sh_false, .inr (.inr rfl)⟩
  | _ => cases he
theorem jn_inj : ∀ {ds es : List Dt} {e1 e2 : List Nat}, (∀ d ∈ ds, plain d = true) → (∀ e ∈ es, flE e = true) → es ≠ [] → endOk e1 → endOk e2 → jn (ds.map sh) e1 = jn (es.map sh) e2 → ds = es
  | _, [], _, _, _, _, h, _, _, _ => absurd rfl h
  | [], e :: es, e1, e2, _, he, _, h1, h2, h => by
    exfalso
    obtain ⟨c, q, ec, hc⟩ := flE_first (he e List.mem_cons_self)
    have h' : e1 = jn (sh e :: es.map sh) e2 := h
    cases es with
    | nil =>
      have h3 : e1 = sh e ++ e2 := h'
      rw [ec] at h3
      rcases h1 with rfl | rfl <;> simp at h3 <;> omega
    | cons f fs =>
      have h3 : e1 = sh e ++ 44 :: 32 :: jn ((f :: fs).map sh) e2 := h'
      rw [ec] at h3
      rcases h1 with rfl | rfl <;> simp at h3 <;> omega
  | [d], [e], _, _, hd, he, _, _, _, h => by
    have h' : sh d ++ _ = sh e ++ _ := h
    rw [(flat_inj (hd d List.mem_cons_self) (he e List.mem_cons_self) h').1]
  | [d], e :: f :: fs, e1, e2, hd, he, _, h1, _, h => by
    have h' : sh d ++ e1 = sh e ++ 44 :: 32 :: jn ((f :: fs).map sh) e2 := h
    have := (flat_inj (hd d List.mem_cons_self) (he e List.mem_cons_self) h').2
    rcases h1 with rfl | rfl <;> simp at this
  | d :: d' :: r, [e], e1, e2, hd, he, _, _, h2, h => by
    have h' : sh d ++ 44 :: 32 :: jn ((d' :: r).map sh) e1 = sh e ++ e2 := h
    have := (flat_inj (hd d List.mem_cons_self) (he e List.mem_cons_self) h').2
    rcases h2 with rfl | rfl <;> simp at this
  | d :: d' :: r, e :: f :: fs, e1, e2, hd, he, _, h1, h2, h => by
    have h' : sh d ++ 44 :: 32 :: jn ((d' :: r).map sh) e1 = sh e ++ 44 :: 32 :: jn ((f :: fs).map sh) e2 := h
    obtain ⟨h3, h4⟩ := flat_inj (hd d List.mem_cons_self) (he e List.mem_cons_self) h'
    have h5 := jn_inj (fun x hx => hd x (List.mem_cons_of_mem _ hx)) (fun x hx => he x (List.mem_cons_of_mem _ hx)) (by simp) h1 h2 (show jn ((d' :: r).map sh) e1 = jn ((f :: fs).map sh) e2 by simpa using h4)
    rw [h3, h5]
theorem shown_inj {d : Dt} {es : List Dt} (hd : plain d = true) (he : ∀ e ∈ es, flE e = true) (hn : es ≠ []) (h : d.shown = PyData.shown (.tuple es)) : d = .tuple es := by
  have h' : sh d = sh (.tuple es) := by show cl d.shown = _; rw [h]
  have ends : ∀ b : Bool, endOk (if b then [44, 41] else [41]) := fun b => by cases b <;> first | exact .inl rfl | exact .inr rfl
  rw [sh_tuple] at h'
  cases d with
  | none => rw [sh_none] at h'; simp at h'
  | int i =>
    obtain ⟨c', q', e1, h1⟩ := sh_int i
    rw [e1] at h'
    have := (List.cons.inj h').1
    omega
  | list ds => rw [sh_list] at h'; simp at h'
  | dict _ => cases hd
  | str y => rw [show sh (.str y) = _ from okS_repr hd] at h'; simp at h'
  | bool a =>
    cases a with
    | true => rw [sh_true] at h'; simp at h'
    | false => rw [sh_false] at h'; simp at h'
  | tuple ds =>
    rw [sh_tuple] at h'
    rw [jn_inj (plainAll_mem hd) he hn (ends _) (ends _) (List.cons.inj h').2]
end DL

set_option maxHeartbeats 1000000
/-! DL, part l: plain data of bounded size -/
namespace DL
open PySem PySem.Spec PyProof.Rows L2

theorem cut_take {α : Type} {xs : List α} {k : Nat} : cutL xs none (some (k : Int)) = xs.take k := by
  unfold cutL
  rw [HT.sIx_none, HT.sIx_nat, List.drop_zero, Nat.sub_zero]
  by_cases h : k ≤ xs.length
  · rw [Nat.min_eq_left h]
  · rw [Nat.min_eq_right (by omega), List.take_of_length_le (Nat.le_refl _), List.take_of_length_le (by omega)]
theorem cut_drop {α : Type} {xs : List α} {k : Nat} : cutL xs (some (k : Int)) none = xs.drop k := by
  unfold cutL
  rw [HT.sIx_none, HT.sIx_nat]
  by_cases h : k ≤ xs.length
  · rw [Nat.min_eq_left h, List.take_of_length_le (by rw [List.length_drop]; omega)]
  · rw [Nat.min_eq_right (by omega), Nat.sub_self, List.take_zero, List.drop_eq_nil_of_le (by omega)]
theorem cut_mem {α : Type} {xs : List α} {lo hi : Option Int} {x : α} (h : x ∈ cutL xs lo hi) : x ∈ xs := List.mem_of_mem_drop (List.mem_of_mem_take h)
theorem cut_one {α : Type} {xs : List α} {k : Nat} : (cutL xs (some (k : Int)) (some ((k : Int) + 1))).length ≤ 1 := by
  unfold cutL
  rw [show ((k : Int) + 1) = ((k + 1 : Nat) : Int) by omega, HT.sIx_nat, HT.sIx_nat, List.length_take]
  omega
theorem cut_len {α : Type} {xs : List α} {lo hi : Option Int} : (cutL xs lo hi).length ≤ xs.length := by
  unfold cutL
  rw [List.length_take, List.length_drop]
  omega
/-! plain data: ints up to ib, texts up to sb signs, containers up to lb items -/
mutual
def gd (ib sb lb : Nat) : Dt → Bool
  | .none => true
  | .bool _ => true
  | .int i => decide (i.natAbs ≤ ib)
  | .str x => okS x && decide ((cl x).length ≤ sb)
  | .list xs => gdAll ib sb lb xs && decide (xs.length ≤ lb)
  | .tuple xs => gdAll ib sb lb xs && decide (xs.length ≤ lb)
  | .dict _ => false
def gdAll (ib sb lb : Nat) : List Dt → Bool
  | [] => true
  | x :: xs => gd ib sb lb x && gdAll ib sb lb xs
end
section
variable {ib sb lb : Nat}
theorem gdAll_iff : ∀ {xs : List Dt}, gdAll ib sb lb xs = true ↔ ∀ x ∈ xs, gd ib sb lb x = true
  | [] => ⟨fun _ _ h => (List.not_mem_nil h).elim, fun _ => rfl⟩
  | y :: r => by
    have ih := gdAll_iff (xs := r)
    show (gd ib sb lb y && gdAll ib sb lb r) = true ↔ _
    rw [Bool.and_eq_true, ih]
    exact (List.forall_mem_cons (p := fun x => gd ib sb lb x = true)).symm
theorem gd_tup {xs : List Dt} : gd ib sb lb (.tuple xs) = true ↔ (∀ x ∈ xs, gd ib sb lb x = true) ∧ xs.length ≤ lb := by
  show (gdAll ib sb lb xs && decide (xs.length ≤ lb)) = true ↔ _
  rw [Bool.and_eq_true, gdAll_iff, decide_eq_true_eq]
theorem gd_lst {xs : List Dt} : gd ib sb lb (.list xs) = true ↔ (∀ x ∈ xs, gd ib sb lb x = true) ∧ xs.length ≤ lb := gd_tup (xs := xs)
theorem gd_str {x : Str} : gd ib sb lb (.str x) = true ↔ okS x = true ∧ (cl x).length ≤ sb := by
  show (okS x && decide ((cl x).length ≤ sb)) = true ↔ _
  rw [Bool.and_eq_true, decide_eq_true_eq]
theorem gd_int {i : Int} : gd ib sb lb (.int i) = true ↔ i.natAbs ≤ ib := decide_eq_true_iff
mutual
theorem gd_mono {ib' sb' lb' : Nat} (h1 : ib ≤ ib') (h2 : sb ≤ sb') (h3 : lb ≤ lb') : ∀ {d : Dt}, gd ib sb lb d = true → gd ib' sb' lb' d = true
  | .none, _ => rfl
  | .bool _, _ => rfl
  | .int i, h => gd_int.mpr (Nat.le_trans (gd_int.mp h) h1)
  | .str x, h => gd_str.mpr ⟨(gd_str.mp h).1, Nat.le_trans (gd_str.mp h).2 h2⟩
  | .list xs, h => by
    have h' : (gdAll ib sb lb xs && decide (xs.length ≤ lb)) = true := h
    rw [Bool.and_eq_true, decide_eq_true_eq] at h'
    show (gdAll ib' sb' lb' xs && decide (xs.length ≤ lb')) = true
    rw [Bool.and_eq_true, decide_eq_true_eq]
    exact ⟨gdAll_mono h1 h2 h3 h'.1, Nat.le_trans h'.2 h3⟩
  | .tuple xs, h => by
    have h' : (gdAll ib sb lb xs && decide (xs.length ≤ lb)) = true := h
    rw [Bool.and_eq_true, decide_eq_true_eq] at h'
    show (gdAll ib' sb' lb' xs && decide (xs.length ≤ lb')) = true
    rw [Bool.and_eq_true, decide_eq_true_eq]
    exact ⟨gdAll_mono h1 h2 h3 h'.1, Nat.le_trans h'.2 h3⟩
  | .dict _, h => h
theorem gdAll_mono {ib' sb' lb' : Nat} (h1 : ib ≤ ib') (h2 : sb ≤ sb') (h3 : lb ≤ lb') : ∀ {xs : List Dt}, gdAll ib sb lb xs = true → gdAll ib' sb' lb' xs = true
  | [], _ => rfl
  | x :: xs, h => by
    have h' : (gd ib sb lb x && gdAll ib sb lb xs) = true := h
    rw [Bool.and_eq_true] at h'
    show (gd ib' sb' lb' x && gdAll ib' sb' lb' xs) = true
    rw [Bool.and_eq_true]
    exact ⟨gd_mono h1 h2 h3 h'.1, gdAll_mono h1 h2 h3 h'.2⟩
end
mutual
theorem gd_plain : ∀ {d : Dt}, gd ib sb lb d = true → plain d = true
  | .none, _ => rfl
  | .bool _, _ => rfl
  | .int i, h => rfl
  | .str x, h => (gd_str.mp h).1
  | .list xs, h => by
    have h' : (gdAll ib sb lb xs && decide (xs.length ≤ lb)) = true := h
    rw [Bool.and_eq_true] at h'
    exact gdAll_plain h'.1
  | .tuple xs, h => by
    have h' : (gdAll ib sb lb xs && decide (xs.length ≤ lb)) = true := h
    rw [Bool.and_eq_true] at h'
    exact gdAll_plain h'.1
  | .dict _, h => h
theorem gdAll_plain : ∀ {xs : List Dt}, gdAll ib sb lb xs = true → plainAll xs = true
  | [], _ => rfl
  | x :: xs, h => by
    have h' : (gd ib sb lb x && gdAll ib sb lb xs) = true := h
    rw [Bool.and_eq_true] at h'
    show (plain x && plainAll xs) = true
    rw [Bool.and_eq_true]
    exact ⟨gd_plain h'.1, gdAll_plain h'.2⟩
end
theorem okS_strOk {x : Str} (h : okS x = true) : PyData.strOk x = true := by
  unfold PyData.strOk
  rw [← Array.all_toList, List.all_eq_true]
  intro c hc
  have := okc_lt (List.all_eq_true.mp h c hc)
  simp
  omega
mutual
theorem plain_lay : ∀ {d : Dt}, plain d = true → PyData.canLay0 d = true
  | .none, _ => rfl
  | .bool _, _ => rfl
  | .int i, h => rfl
  | .str x, h => okS_strOk h
  | .list xs, h => plainAll_lay h
  | .tuple xs, h => plainAll_lay h
  | .dict _, h => h
theorem plainAll_lay : ∀ {xs : List Dt}, plainAll xs = true → PyData.canLayAll0 xs = true
  | [], _ => rfl
  | x :: xs, h => by
    have h' : (plain x && plainAll xs) = true := h
    rw [Bool.and_eq_true] at h'
    show (PyData.canLay0 x && PyData.canLayAll0 xs) = true
    rw [Bool.and_eq_true]
    exact ⟨plain_lay h'.1, plainAll_lay h'.2⟩
end
mutual
theorem gd_showable (hb : ib < 2 ^ 1920) : ∀ {d : Dt}, gd ib sb lb d = true → PyData.showable d = true
  | .none, _ => rfl
  | .bool _, _ => rfl
  | .int i, h => by
    show decide (i.natAbs.log2 < 1920) = true
    rw [decide_eq_true_eq]
    by_cases h0 : i.natAbs = 0
    · rw [h0]; decide
    · exact (Nat.log2_lt h0).mpr (Nat.lt_of_le_of_lt (gd_int.mp h) hb)
  | .str x, h => rfl
  | .list xs, h => by
    have h' : (gdAll ib sb lb xs && decide (xs.length ≤ lb)) = true := h
    rw [Bool.and_eq_true] at h'
    exact gdAll_showable hb h'.1
  | .tuple xs, h => by
    have h' : (gdAll ib sb lb xs && decide (xs.length ≤ lb)) = true := h
    rw [Bool.and_eq_true] at h'
    exact gdAll_showable hb h'.1
  | .dict _, h => by cases h
theorem gdAll_showable (hb : ib < 2 ^ 1920) : ∀ {xs : List Dt}, gdAll ib sb lb xs = true → PyData.showableAll xs = true
  | [], _ => rfl
  | x :: xs, h => by
    have h' : (gd ib sb lb x && gdAll ib sb lb xs) = true := h
    rw [Bool.and_eq_true] at h'
    show (PyData.showable x && PyData.showableAll xs) = true
    rw [Bool.and_eq_true]
    exact ⟨gd_showable hb h'.1, gdAll_showable hb h'.2⟩
end
/-! depth -/
theorem depthAll_le : ∀ {xs : List Dt} {k : Nat}, PyData.depthAll xs ≤ k ↔ ∀ x ∈ xs, PyData.depth x ≤ k
  | [], k => ⟨fun _ _ h => (List.not_mem_nil h).elim, fun _ => Nat.zero_le _⟩
  | y :: r, k => by
    have ih := depthAll_le (xs := r) (k := k)
    show max (PyData.depth y) (PyData.depthAll r) ≤ k ↔ _
    rw [Nat.max_le, ih]
    exact (List.forall_mem_cons (p := fun x => PyData.depth x ≤ k)).symm
/-- signs of a text that shows such data -/
def shB (w lb : Nat) : Nat → Nat
  | 0 => w
  | k + 1 => lb * (shB w lb k + 2) + 3 + w
theorem jn_len {b : Nat} : ∀ {xs : List (List Nat)} {e : List Nat}, (∀ x ∈ xs, x.length ≤ b) → (jn xs e).length ≤ xs.length * (b + 2) + e.length
  | [], e, _ => by simp [jn]
  | [x], e, h => by
    have := h x List.mem_cons_self
    simp only [jn, List.length_append, List.length_cons, List.length_nil]
    omega
  | x :: y :: r, e, h => by
    have h1 := h x List.mem_cons_self
    have ih := jn_len (xs := y :: r) (e := e) fun z hz => h z (List.mem_cons_of_mem _ hz)
    simp only [jn, List.length_append, List.length_cons] at ih ⊢
    have : (r.length + 1 + 1) * (b + 2) = (r.length + 1) * (b + 2) + (b + 2) := Nat.succ_mul _ _
    omega
theorem gd_len {w : Nat} (h1 : sb + 2 ≤ w) (h2 : 5 ≤ w) (hi : ∀ i : Int, i.natAbs ≤ ib → (sh (.int i)).length ≤ w) : ∀ (k : Nat) (d : Dt), gd ib sb lb d = true → PyData.depth d ≤ k → (sh d).length ≤ shB w lb k := by
  have flat : ∀ (k : Nat) (d : Dt), (sh d).length ≤ w → (sh d).length ≤ shB w lb k := fun k d h => by
    cases k with
    | zero => exact h
    | succ k => exact Nat.le_trans h (Nat.le_add_left _ _)
  intro k
  induction k with
  | zero =>
    intro d h hd
    refine flat 0 d ?_
    cases d with
    | none => rw [sh_none]; exact Nat.le_trans (by decide) h2
    | bool b => cases b <;> first | (rw [sh_true]; exact Nat.le_trans (by decide) h2) | (rw [sh_false]; exact h2)
    | int i => exact hi i (gd_int.mp h)
    | str x =>
      rw [show sh (.str x) = _ from okS_repr (gd_str.mp h).1]
      have := (gd_str.mp h).2
      simp only [List.length_cons, List.length_append, List.length_nil]
      omega
    | list xs => exact absurd hd (Nat.not_succ_le_zero _)
    | tuple xs => exact absurd hd (Nat.not_succ_le_zero _)
    | dict _ => cases h
  | succ k ih =>
    intro d h hd
    have box : ∀ (xs : List Dt) (e : List Nat), e.length ≤ 2 → (∀ x ∈ xs, gd ib sb lb x = true) ∧ xs.length ≤ lb → PyData.depthAll xs + 1 ≤ k + 1 → (jn (xs.map sh) e).length + 1 ≤ shB w lb (k + 1) := fun xs e he hx hk => by
      have := jn_len (b := shB w lb k) (xs := xs.map sh) (e := e) fun y hy => by
        obtain ⟨x, hx2, rfl⟩ := List.mem_map.mp hy
        exact ih x (hx.1 x hx2) (depthAll_le.mp (Nat.le_of_succ_le_succ hk) x hx2)
      rw [List.length_map] at this
      have h3 := Nat.mul_le_mul_right (shB w lb k + 2) hx.2
      show _ ≤ lb * (shB w lb k + 2) + 3 + w
      omega
    cases d with
    | none => refine flat _ _ ?_; rw [sh_none]; exact Nat.le_trans (by decide) h2
    | bool b => refine flat _ _ ?_; cases b <;> first | (rw [sh_true]; exact Nat.le_trans (by decide) h2) | (rw [sh_false]; exact h2)
    | int i => exact flat _ _ (hi i (gd_int.mp h))
    | str x =>
      refine flat _ _ ?_
      rw [show sh (.str x) = _ from okS_repr (gd_str.mp h).1]
      have := (gd_str.mp h).2
      simp only [List.length_cons, List.length_append, List.length_nil]
      omega
    | list xs =>
      rw [sh_list]
      exact box xs _ (by decide) (gd_lst.mp h) hd
    | tuple xs =>
      rw [sh_tuple]
      exact box xs _ (by cases xs.length == 1 <;> decide) (gd_tup.mp h) hd
    | dict _ => cases h
theorem sh_int_len {i : Int} {k : Nat} (h0 : 0 < k) (h : i.natAbs < 10 ^ k) : (sh (.int i)).length ≤ k + 1 := by
  have := int_text_length_le10 h0 h
  show (Str.ofString (toString i)).cps.toList.length ≤ _
  rw [Str.ofString_eq_toList, List.length_map]
  exact (String.length_toList (s := toString i)).symm ▸ this
theorem gd_shaped {d : Dt} {k : Nat} (h : gd ib sb lb d = true) (hd : PyData.depth d ≤ k) (hk : k ≤ 64) : SeqAt.shaped d = true := by
  unfold SeqAt.shaped
  rw [plain_lay (gd_plain h), Bool.true_and]
  exact decide_eq_true (Nat.le_trans hd hk)
end
end DL

set_option maxHeartbeats 4000000
namespace K31
open PySem PySem.Spec PyProof.Rows L2 DL
def topS (i : Nat) : Stmt := PySem.Challenge.pw_keptends_k31_fates_by_form.main.body.getD i (.Pass ⟨0, 0, 0, 0⟩)
abbrev s_is_fate : Stmt := topS 3
abbrev s__law_draw : Stmt := topS 6
abbrev s__law_any : Stmt := topS 7
abbrev s__law_strange : Stmt := topS 8
abbrev s__law_bent : Stmt := topS 9
abbrev s__law_moments : Stmt := topS 10
abbrev s__law_by_form : Stmt := topS 11
abbrev s__law_is_right : Stmt := topS 12
abbrev s__law_feed : Stmt := topS 5
abbrev s_law : Stmt := topS 13
def d_ENDED : Dt := (.tuple [(.str "ended")])
def d_MOST_FACTS : Dt := (.int 6)
structure Txt (K : PySem.W.Frag) (mg : Str → Option Value) where
  a_is_fate : Addr
  d_is_fate : FuncData
  f_is_fate : Fun K "is_fate" "is_fate" s_is_fate a_is_fate d_is_fate
  g_is_fate : mg "is_fate" = some (.ref a_is_fate)
  b_is_fate : L2.Binds K d_is_fate ["thing"] []
  kb_is_fate : KB0 K d_is_fate ["thing"]
  a__law_draw : Addr
  d__law_draw : FuncData
  f__law_draw : Fun K "_law_draw" "_law_draw" s__law_draw a__law_draw d__law_draw
  g__law_draw : mg "_law_draw" = some (.ref a__law_draw)
  b__law_draw : L2.Binds K d__law_draw ["_law_feed_here", "_law_many"] []
  a__law_any : Addr
  d__law_any : FuncData
  f__law_any : Fun K "_law_any" "_law_any" s__law_any a__law_any d__law_any
  g__law_any : mg "_law_any" = some (.ref a__law_any)
  b__law_any : L2.Binds K d__law_any ["_law_feed_here", "_law_some"] []
  a__law_strange : Addr
  d__law_strange : FuncData
  f__law_strange : Fun K "_law_strange" "_law_strange" s__law_strange a__law_strange d__law_strange
  g__law_strange : mg "_law_strange" = some (.ref a__law_strange)
  b__law_strange : L2.Binds K d__law_strange ["_law_feed_here"] []
  a__law_bent : Addr
  d__law_bent : FuncData
  f__law_bent : Fun K "_law_bent" "_law_bent" s__law_bent a__law_bent d__law_bent
  g__law_bent : mg "_law_bent" = some (.ref a__law_bent)
  b__law_bent : L2.Binds K d__law_bent ["_law_feed_here", "_law_what"] []
  a__law_moments : Addr
  d__law_moments : FuncData
  f__law_moments : Fun K "_law_moments" "_law_moments" s__law_moments a__law_moments d__law_moments
  g__law_moments : mg "_law_moments" = some (.ref a__law_moments)
  b__law_moments : L2.Binds K d__law_moments [] []
  a__law_by_form : Addr
  d__law_by_form : FuncData
  f__law_by_form : Fun K "_law_by_form" "_law_by_form" s__law_by_form a__law_by_form d__law_by_form
  g__law_by_form : mg "_law_by_form" = some (.ref a__law_by_form)
  b__law_by_form : L2.Binds K d__law_by_form [] []
  a__law_is_right : Addr
  d__law_is_right : FuncData
  f__law_is_right : Fun K "_law_is_right" "_law_is_right" s__law_is_right a__law_is_right d__law_is_right
  g__law_is_right : mg "_law_is_right" = some (.ref a__law_is_right)
  b__law_is_right : L2.Binds K d__law_is_right ["_law_what", "_law_due"] []
  a__law_feed : Addr
  d__law_feed : FuncData
  f__law_feed : Fun K "_law_feed" "_law_feed" s__law_feed a__law_feed d__law_feed
  g__law_feed : mg "_law_feed" = some (.ref a__law_feed)
  b__law_feed : L2.Binds K d__law_feed ["_law_script"] []
  n_all : mg "all" = none
  n_bool : mg "bool" = none
  n_int : mg "int" = none
  n_isinstance : mg "isinstance" = none
  n_len : mg "len" = none
  n_list : mg "list" = none
  n_range : mg "range" = none
  n_repr : mg "repr" = none
  n_str : mg "str" = none
  n_tuple : mg "tuple" = none
  c_ENDED : GC K mg "ENDED" d_ENDED
  c_MOST_FACTS : GC K mg "MOST_FACTS" d_MOST_FACTS
structure Keys (L : Lw) : Prop where
  c : L.key .c = "cells"
  l : L.key .l = "left"
  n : L.key .n = "count"
  s : L.key .s = "spot"
section
variable {P : Program} {w : World} {L : Lw} {mg : Str → Option Value} {base : Heap}
/-! ### is_fate -/
theorem sc_is_fate : FnScope ["thing", "waits", "stuck", "own", "stays", "joins", "one"] ["thing"] (defScope s_is_fate) := ⟨rfl, rfl, rfl, by decide +kernel, rfl, by decide +kernel, by decide +kernel⟩
def b_is_fate : MS := (sSeq (sIf (mtOr (mtNot (mtE (mIsi "tuple" (mVar 0)) truth)) (mtOr (mtE (m2 ninD (mCa lenD (maCons (mVar 0) maNil)) (mTup (maCons (mC (.int 1)) (maCons (mC d_MOST_FACTS) maNil)))) asBool) (mtNot (mtE (mIsi "str" (m2 ixD (mVar 0) (mC (.int 0)))) truth))))
  (sRet (mC (.bool false)))
  sNx)
  (sSeq (sIf (mtE (m2 eqD (mCa lenD (maCons (mVar 0) maNil)) (mC (.int 1))) asBool)
  (sRet (m2 eqD (mVar 0) (mC d_ENDED)))
  sNx)
  (sSeq (sIf (mtOr (mtE (m2 neD (m2 ixD (mVar 0) (mC (.int 0))) (mC (.str "moment"))) asBool) (mtNot (mtE (mCa allD (maCons (mLc (miV (mSl (mVar 0) (moSome (mC (.int 1))) moNone)) (.nm 6) mtYes (mIsi "bool" (mVar 6)) [6]) maNil)) truth)))
  (sRet (mC (.bool false)))
  sNx)
  (sSeq (sUnp (.tp [1, 2, 3, 4, 5]) (mSl (mVar 0) (moSome (mC (.int 1))) moNone))
  (sRet (mAnd (mOr (mVar 1) (mNot (mVar 3))) (mOr (mVar 2) (mNot (mOr (mVar 1) (mOr (mVar 4) (mVar 5)))))))))))
def m_is_fate : MF := mFn 7 b_is_fate
theorem ok_is_fate (T : Txt L.K mg) : FnG P w L.K mg base (L2.CX P w) 1 T.a_is_fate T.d_is_fate ["thing"] (spD L 1 m_is_fate) := by
  refine def_ok (k := 0) T.f_is_fate sc_is_fate (by decide) fun c hL cdv A outer s H E gd hr => ?_
  have nd := sc_is_fate.nd
  subst hL
  exact (qs_cons (qs_if (PW.pt (qw_or (qt_not (qt_val rfl (qe_isi isi_tuple T.n_isinstance T.n_tuple rfl (qe_var (i := 0))))) (qw_or (qt_cmp (op_ninDt (room65 hr)) (nin_d rfl) (qe_callB call_lenDt (len_d rfl) T.n_len (qa_cons (qe_var (i := 0)) qa_nil)) (qe_tup (qa_cons qe_int (qa_cons (qe_gc T.c_MOST_FACTS) qa_nil)))) (qw_or1 (qt_not (qt_val rfl (qe_isi isi_str T.n_isinstance T.n_str rfl (qe_ix ix_seq (ix_d rfl) (qe_var (i := 0)) qe_int))))))))
  (qs_one (qs_ret qe_bl))
  qs_nil)
  (qs_cons (qs_if (qt_cmp (op_eqD hr.units) (eq_d rfl) (qe_callB call_lenDt (len_d rfl) T.n_len (qa_cons (qe_var (i := 0)) qa_nil)) qe_int)
  (qs_one (qs_ret (qe_cmp (op_eqD hr.units) (eq_d rfl) (qe_var (i := 0)) (qe_gc T.c_ENDED))))
  qs_nil)
  (qs_cons (qs_if (PW.pt (qw_or (qt_cmp (op_neD hr.units) (ne_d rfl) (qe_ix ix_seq (ix_d rfl) (qe_var (i := 0)) qe_int) qe_str) (qw_or1 (qt_not (qt_val rfl (qe_callB (cr_all rfl) (all_d rfl) T.n_all (qa_cons (qe_lc (own := [("one", 6)]) (t := (.nm 6)) rfl rfl nd (qi_v rfl (qe_sl rfl (qe_var (i := 0)) (qo_some qe_int) qo_none)) (blkOk_by (N := ["thing", "waits", "stuck", "own", "stays", "joins", "one"]) (sc := defScope s_is_fate) (own := [("one", 6)]) (by decide +kernel)) (by decide) (fun _ _ _ _ _ => (pg_name (i := 6) nd rfl (by first | exact Or.inl rfl | exact Or.inr rfl))) (fun _ _ _ _ _ => qts_nil) (fun _ _ _ _ _ => (qe_isi isi_bool T.n_isinstance T.n_bool rfl (qe_var (i := 6))))) qa_nil)))))))
  (qs_one (qs_ret qe_bl))
  qs_nil)
  (qs_cons (qs_unp (t := (.tp [1, 2, 3, 4, 5])) rfl (qe_sl rfl (qe_var (i := 0)) (qo_some qe_int) qo_none) (pg_tup rfl (pgs_cons (pg_name (i := 1) nd rfl (by first | exact Or.inl rfl | exact Or.inr rfl)) (pgs_cons (pg_name (i := 2) nd rfl (by first | exact Or.inl rfl | exact Or.inr rfl)) (pgs_cons (pg_name (i := 3) nd rfl (by first | exact Or.inl rfl | exact Or.inr rfl)) (pgs_cons (pg_name (i := 4) nd rfl (by first | exact Or.inl rfl | exact Or.inr rfl)) (pgs_cons (pg_name (i := 5) nd rfl (by first | exact Or.inl rfl | exact Or.inr rfl)) pgs_nil)))))))
  (qs_one (qs_ret (qe_and rfl (qe_or rfl (qe_var (i := 1)) (qe_one (qe_not rfl (qe_var (i := 3))))) (qe_one (qe_or rfl (qe_var (i := 2)) (qe_one (qe_not rfl (qe_or rfl (qe_var (i := 1)) (qe_or rfl (qe_var (i := 4)) (qe_one (qe_var (i := 5))))))))))))))))
/-! ### _law_draw -/
theorem sc__law_draw : FnScope ["_law_feed_here", "_law_many", "_law_spot", "_law_cell", "_law_mixed", "_law_digit"] ["_law_feed_here", "_law_many"] (defScope s__law_draw) := ⟨rfl, rfl, rfl, by decide +kernel, rfl, by decide +kernel, by decide +kernel⟩
def b__law_draw : MS := (sSeq (sFd 0 .n (m2 addD (mFg 0 .n) (mC (.int 1))))
  (sSeq (sIf (mtE (m2 gtD (mFg 0 .l) (mC (.int 0))) asBool)
  (sSeq (sSet 5 (m2 modD (mCa intD (maCons (mFg 0 .l) maNil)) (mVar 1)))
  (sSeq (sFd 0 .l (m2 fdivD (mFg 0 .l) (mVar 1)))
  (sRet (mVar 5))))
  sNx)
  (sSeq (sSet 2 (mFg 0 .s))
  (sSeq (sFd 0 .s (m2 addD (mVar 2) (mC (.int 1))))
  (sSeq (sSet 3 (mIf (mtE (m2 neD (mFg 0 .c) (mLst maNil)) asBool) (m2 ixD (mFg 0 .c) (m2 modD (mCa intD (maCons (mVar 2) maNil)) (mCa lenD (maCons (mFg 0 .c) maNil)))) (mC (.int 31013))))
  (sSeq (sIf (mtAnd (mtE (m2 geD (mVar 3) (m2 powD (mC (.int 10)) (mC (.int 18)))) asBool) (mtE (m2 ltD (mVar 2) (mCa lenD (maCons (mFg 0 .c) maNil))) asBool))
  (sSeq (sFd 0 .l (m2 fdivD (mVar 3) (mVar 1)))
  (sRet (m2 modD (mCa intD (maCons (mVar 3) maNil)) (mVar 1))))
  sNx)
  (sSeq (sSet 4 (m2 modD (mCa intD (maCons (m2 addD (m2 addD (m2 modD (mCa intD (maCons (mVar 3) maNil)) (mC (.int 1000000829))) (m2 mulD (mC (.int 81017)) (mFg 0 .n))) (mC (.int 503))) maNil)) (mC (.int 2147483579))))
  (sSeq (sSet 4 (m2 modD (mCa intD (maCons (m2 addD (m2 addD (m2 mulD (mVar 4) (mVar 4)) (m2 mulD (mC (.int 7400017)) (mFg 0 .n))) (mC (.int 509))) maNil)) (mC (.int 2147483549))))
  (sRet (m2 modD (mCa intD (maCons (m2 fdivD (m2 modD (mCa intD (maCons (m2 addD (m2 mulD (mVar 4) (mVar 4)) (m2 mulD (mC (.int 611)) (mVar 4))) maNil)) (mC (.int 2147483543))) (mC (.int 16))) maNil)) (mVar 1)))))))))))
def m__law_draw : MF := mFn 6 b__law_draw
theorem ok__law_draw (T : Txt L.K mg) (kk : Keys L) (nk : L.Nk) : FnG P w L.K mg base (L2.CX P w) 1 T.a__law_draw T.d__law_draw ["_law_feed_here", "_law_many"] (spD L 2 m__law_draw) := by
  refine def_ok (k := 0) T.f__law_draw sc__law_draw (by decide) fun c hL cdv A outer s H E gd hr => ?_
  have nd := sc__law_draw.nd
  subst hL
  exact (qs_cons (qs_fd (i := 0) (k := .n) kk.n nk (hu_of hr) (qe_bin op_addD (add_d rfl) (qe_fg (i := 0) (k := .n) kk.n nk (hu_of hr)) qe_int))
  (qs_cons (qs_if (qt_cmp op_gt cmp_d (qe_fg (i := 0) (k := .l) kk.l nk (hu_of hr)) qe_int)
  (qs_cons (qs_set (j := 5) (qe_bin op_mod mod_d (qe_callTy call_int1 int_d T.n_int (qa_cons (qe_fg (i := 0) (k := .l) kk.l nk (hu_of hr)) qa_nil)) (qe_var (i := 1))) nd)
  (qs_cons (qs_fd (i := 0) (k := .l) kk.l nk (hu_of hr) (qe_bin op_fdiv fdiv_d (qe_fg (i := 0) (k := .l) kk.l nk (hu_of hr)) (qe_var (i := 1))))
  (qs_one (qs_ret (qe_var (i := 5))))))
  qs_nil)
  (qs_cons (qs_set (j := 2) (qe_fg (i := 0) (k := .s) kk.s nk (hu_of hr)) nd)
  (qs_cons (qs_fd (i := 0) (k := .s) kk.s nk (hu_of hr) (qe_bin op_addD (add_d rfl) (qe_var (i := 2)) qe_int))
  (qs_cons (qs_set (j := 3) (qe_if (qt_cmp (op_neD hr.units) (ne_d rfl) (qe_fg (i := 0) (k := .c) kk.c nk (hu_of hr)) (qe_lst qa_nil)) (qe_ix ix_seq (ix_d rfl) (qe_fg (i := 0) (k := .c) kk.c nk (hu_of hr)) (qe_bin op_mod mod_d (qe_callTy call_int1 int_d T.n_int (qa_cons (qe_var (i := 2)) qa_nil)) (qe_callB call_lenDt (len_d rfl) T.n_len (qa_cons (qe_fg (i := 0) (k := .c) kk.c nk (hu_of hr)) qa_nil)))) qe_int) nd)
  (qs_cons (qs_if (PW.pt (qw_and (qt_cmp op_ge cmp_d (qe_var (i := 3)) (qe_bin op_pow pow_d qe_int qe_int)) (qw_and1 (qt_cmp op_lt cmp_d (qe_var (i := 2)) (qe_callB call_lenDt (len_d rfl) T.n_len (qa_cons (qe_fg (i := 0) (k := .c) kk.c nk (hu_of hr)) qa_nil))))))
  (qs_cons (qs_fd (i := 0) (k := .l) kk.l nk (hu_of hr) (qe_bin op_fdiv fdiv_d (qe_var (i := 3)) (qe_var (i := 1))))
  (qs_one (qs_ret (qe_bin op_mod mod_d (qe_callTy call_int1 int_d T.n_int (qa_cons (qe_var (i := 3)) qa_nil)) (qe_var (i := 1))))))
  qs_nil)
  (qs_cons (qs_set (j := 4) (qe_bin op_mod mod_d (qe_callTy call_int1 int_d T.n_int (qa_cons (qe_bin op_addD (add_d rfl) (qe_bin op_addD (add_d rfl) (qe_bin op_mod mod_d (qe_callTy call_int1 int_d T.n_int (qa_cons (qe_var (i := 3)) qa_nil)) qe_int) (qe_bin op_mul mul_d qe_int (qe_fg (i := 0) (k := .n) kk.n nk (hu_of hr)))) qe_int) qa_nil)) qe_int) nd)
  (qs_cons (qs_set (j := 4) (qe_bin op_mod mod_d (qe_callTy call_int1 int_d T.n_int (qa_cons (qe_bin op_addD (add_d rfl) (qe_bin op_addD (add_d rfl) (qe_bin op_mul mul_d (qe_var (i := 4)) (qe_var (i := 4))) (qe_bin op_mul mul_d qe_int (qe_fg (i := 0) (k := .n) kk.n nk (hu_of hr)))) qe_int) qa_nil)) qe_int) nd)
  (qs_one (qs_ret (qe_bin op_mod mod_d (qe_callTy call_int1 int_d T.n_int (qa_cons (qe_bin op_fdiv fdiv_d (qe_bin op_mod mod_d (qe_callTy call_int1 int_d T.n_int (qa_cons (qe_bin op_addD (add_d rfl) (qe_bin op_mul mul_d (qe_var (i := 4)) (qe_var (i := 4))) (qe_bin op_mul mul_d qe_int (qe_var (i := 4)))) qa_nil)) qe_int) qe_int) qa_nil)) (qe_var (i := 1)))))))))))))
/-! ### _law_any -/
theorem sc__law_any : FnScope ["_law_feed_here", "_law_some"] ["_law_feed_here", "_law_some"] (defScope s__law_any) := ⟨rfl, rfl, rfl, by decide +kernel, rfl, by decide +kernel, by decide +kernel⟩
def b__law_any : MS := (sRet (m2 ixD (mVar 1) (mCall m__law_draw (mgF 0 (mgD (mCa lenD (maCons (mVar 1) maNil)) mgNil)))))
def m__law_any : MF := mFn 2 b__law_any
theorem ok__law_any (T : Txt L.K mg) (kk : Keys L) (nk : L.Nk) : FnG P w L.K mg base (L2.CX P w) 2 T.a__law_any T.d__law_any ["_law_feed_here", "_law_some"] (spD L 2 m__law_any) := by
  refine def_ok (k := 1) T.f__law_any sc__law_any (by decide) fun c hL cdv A outer s H E gd hr => ?_
  have nd := sc__law_any.nd
  subst hL
  exact (qs_one (qs_ret (qe_ix ix_seq (ix_d rfl) (qe_var (i := 1)) (qe_call rfl (FnG.mono (ok__law_draw T kk nk) (by omega)) gd hr T.g__law_draw T.f__law_draw.kp T.b__law_draw (takes_of rfl rfl rfl rfl) (qg_f (i := 0) (qg_d (qe_callB call_lenDt (len_d rfl) T.n_len (qa_cons (qe_var (i := 1)) qa_nil)) qg_nil)) (glen_f (glen_d glen_nil))))))
/-! ### _law_strange -/
theorem sc__law_strange : FnScope ["_law_feed_here", "_law_some"] ["_law_feed_here"] (defScope s__law_strange) := ⟨rfl, rfl, rfl, by decide +kernel, rfl, by decide +kernel, by decide +kernel⟩
def b__law_strange : MS := (sSeq (sSet 1 (mLst (maCons (mC .none) (maCons (mC (.bool true)) (maCons (mC (.bool false)) (maCons (mC (.int 0)) (maCons (mC (.int 1)) (maCons (mC (.int 2)) (maCons (m1 negD (mC (.int 1))) (maCons (m2 powD (mC (.int 10)) (mC (.int 59))) (maCons (mC (.str "")) (maCons (mC (.str "a")) (maCons (mC (.str "r")) (maCons (mC (.str "w")) (maCons (mC (.str "open")) (maCons (mC (.str "none")) (maCons (mC (.str "marked")) (maCons (mC (.str "stay")) (maCons (mC (.str "ended")) maNil)))))))))))))))))))
  (sSeq (sSet 1 (m2 addD (mVar 1) (mLst (maCons (mC (.str "moment")) (maCons (mC (.str "own")) (maCons (mC (.str "stays")) (maCons (mC (.str "joins")) (maCons (mC (.str "run")) (maCons (mC (.str "few")) (maCons (mTup maNil) (maCons (mLst maNil) (maCons (mTup (maCons (mC (.str "ended")) maNil)) (maCons (mLst (maCons (mC (.str "ended")) maNil)) (maCons (mTup (maCons (mC (.str "moment")) maNil)) maNil))))))))))))))
  (sSeq (sSet 1 (m2 addD (mVar 1) (mLst (maCons (mTup (maCons (mC (.str "own")) maNil)) (maCons (mLst (maCons (mC (.str "own")) maNil)) (maCons (mTup (maCons (mC (.str "own")) (maCons (mC (.str "own")) maNil))) (maCons (mTup (maCons (mC (.str "deaf")) maNil)) (maCons (mTup (maCons (mC (.str "open")) (maCons (mC (.str "open")) maNil))) (maCons (mTup (maCons (mC (.str "open")) maNil)) (maCons (mTup (maCons (mC (.str "open")) (maCons (mC (.str "w")) maNil))) (maCons (mTup (maCons (mC (.bool true)) maNil)) maNil)))))))))))
  (sSeq (sSet 1 (m2 addD (mVar 1) (mLst (maCons (mTup (maCons (mC (.str "open")) (maCons (mC (.str "open")) (maCons (mC (.str "open")) maNil)))) (maCons (mLst (maCons (mC (.str "open")) (maCons (mC (.str "open")) maNil))) (maCons (mTup (maCons (mC (.str "ended")) (maCons (mTup maNil) maNil))) (maCons (mTup (maCons (mC (.int 0)) (maCons (mC (.str "copy")) (maCons (m1 negD (mC (.int 1))) maNil)))) (maCons (mTup (maCons (mTup (maCons (mC (.int 0)) (maCons (mC (.str "copy")) (maCons (m1 negD (mC (.int 1))) maNil)))) maNil)) maNil))))))))
  (sSeq (sSet 1 (m2 addD (mVar 1) (mLst (maCons (mTup (maCons (mC (.str "moment")) (maCons (mC (.bool false)) (maCons (mC (.bool false)) (maCons (mC (.bool false)) (maCons (mC (.bool false)) (maCons (mC (.bool false)) maNil))))))) (maCons (mTup (maCons (mC (.str "moment")) (maCons (mC (.bool false)) (maCons (mC (.bool true)) (maCons (mC (.bool false)) (maCons (mC (.bool false)) maNil)))))) (maCons (mTup (maCons (mC (.int 1)) (maCons (mC (.int 0)) maNil))) maNil))))))
  (sSeq (sSet 1 (m2 addD (mVar 1) (mLst (maCons (mTup (maCons (mC (.str "moment")) (maCons (mC (.bool true)) (maCons (mC (.bool true)) (maCons (mC (.bool true)) (maCons (mC (.bool true)) (maCons (mC (.bool true)) maNil))))))) (maCons (mTup (maCons (mC (.str "moment")) (maCons (mC (.bool true)) (maCons (mC (.bool false)) (maCons (mC (.bool false)) (maCons (mC (.bool false)) (maCons (mC (.bool false)) maNil))))))) (maCons (mTup (maCons (mTup maNil) maNil)) maNil))))))
  (sRet (mCall m__law_any (mgF 0 (mgD (m2 addD (mVar 1) (mLst (maCons (mC (.str "abcdefghi")) (maCons (mC (.str "A")) (maCons (mC (.str "a b")) (maCons (mC (.str "None")) (maCons (mTup (maCons (mC (.str "a")) (maCons (mTup (maCons (mC (.str "open")) (maCons (mC (.str "open")) maNil))) maNil))) maNil))))))) mgNil))))))))))
def m__law_strange : MF := mFn 2 b__law_strange
theorem ok__law_strange (T : Txt L.K mg) (kk : Keys L) (nk : L.Nk) : FnG P w L.K mg base (L2.CX P w) 3 T.a__law_strange T.d__law_strange ["_law_feed_here"] (spD L 1 m__law_strange) := by
  refine def_ok (k := 2) T.f__law_strange sc__law_strange (by decide) fun c hL cdv A outer s H E gd hr => ?_
  have nd := sc__law_strange.nd
  subst hL
  exact (qs_cons (qs_set (j := 1) (qe_lst (qa_cons qe_non (qa_cons qe_bl (qa_cons qe_bl (qa_cons qe_int (qa_cons qe_int (qa_cons qe_int (qa_cons (qe_neg qe_int) (qa_cons (qe_bin op_pow pow_d qe_int qe_int) (qa_cons qe_str (qa_cons qe_str (qa_cons qe_str (qa_cons qe_str (qa_cons qe_str (qa_cons qe_str (qa_cons qe_str (qa_cons qe_str (qa_cons qe_str qa_nil)))))))))))))))))) nd)
  (qs_cons (qs_set (j := 1) (qe_bin op_addD (add_d rfl) (qe_var (i := 1)) (qe_lst (qa_cons qe_str (qa_cons qe_str (qa_cons qe_str (qa_cons qe_str (qa_cons qe_str (qa_cons qe_str (qa_cons (qe_tup qa_nil) (qa_cons (qe_lst qa_nil) (qa_cons (qe_tup (qa_cons qe_str qa_nil)) (qa_cons (qe_lst (qa_cons qe_str qa_nil)) (qa_cons (qe_tup (qa_cons qe_str qa_nil)) qa_nil))))))))))))) nd)
  (qs_cons (qs_set (j := 1) (qe_bin op_addD (add_d rfl) (qe_var (i := 1)) (qe_lst (qa_cons (qe_tup (qa_cons qe_str qa_nil)) (qa_cons (qe_lst (qa_cons qe_str qa_nil)) (qa_cons (qe_tup (qa_cons qe_str (qa_cons qe_str qa_nil))) (qa_cons (qe_tup (qa_cons qe_str qa_nil)) (qa_cons (qe_tup (qa_cons qe_str (qa_cons qe_str qa_nil))) (qa_cons (qe_tup (qa_cons qe_str qa_nil)) (qa_cons (qe_tup (qa_cons qe_str (qa_cons qe_str qa_nil))) (qa_cons (qe_tup (qa_cons qe_bl qa_nil)) qa_nil)))))))))) nd)
  (qs_cons (qs_set (j := 1) (qe_bin op_addD (add_d rfl) (qe_var (i := 1)) (qe_lst (qa_cons (qe_tup (qa_cons qe_str (qa_cons qe_str (qa_cons qe_str qa_nil)))) (qa_cons (qe_lst (qa_cons qe_str (qa_cons qe_str qa_nil))) (qa_cons (qe_tup (qa_cons qe_str (qa_cons (qe_tup qa_nil) qa_nil))) (qa_cons (qe_tup (qa_cons qe_int (qa_cons qe_str (qa_cons (qe_neg qe_int) qa_nil)))) (qa_cons (qe_tup (qa_cons (qe_tup (qa_cons qe_int (qa_cons qe_str (qa_cons (qe_neg qe_int) qa_nil)))) qa_nil)) qa_nil))))))) nd)
  (qs_cons (qs_set (j := 1) (qe_bin op_addD (add_d rfl) (qe_var (i := 1)) (qe_lst (qa_cons (qe_tup (qa_cons qe_str (qa_cons qe_bl (qa_cons qe_bl (qa_cons qe_bl (qa_cons qe_bl (qa_cons qe_bl qa_nil))))))) (qa_cons (qe_tup (qa_cons qe_str (qa_cons qe_bl (qa_cons qe_bl (qa_cons qe_bl (qa_cons qe_bl qa_nil)))))) (qa_cons (qe_tup (qa_cons qe_int (qa_cons qe_int qa_nil))) qa_nil))))) nd)
  (qs_cons (qs_set (j := 1) (qe_bin op_addD (add_d rfl) (qe_var (i := 1)) (qe_lst (qa_cons (qe_tup (qa_cons qe_str (qa_cons qe_bl (qa_cons qe_bl (qa_cons qe_bl (qa_cons qe_bl (qa_cons qe_bl qa_nil))))))) (qa_cons (qe_tup (qa_cons qe_str (qa_cons qe_bl (qa_cons qe_bl (qa_cons qe_bl (qa_cons qe_bl (qa_cons qe_bl qa_nil))))))) (qa_cons (qe_tup (qa_cons (qe_tup qa_nil) qa_nil)) qa_nil))))) nd)
  (qs_one (qs_ret (qe_call rfl (FnG.mono (ok__law_any T kk nk) (by omega)) gd hr T.g__law_any T.f__law_any.kp T.b__law_any (takes_of rfl rfl rfl rfl) (qg_f (i := 0) (qg_d (qe_bin op_addD (add_d rfl) (qe_var (i := 1)) (qe_lst (qa_cons qe_str (qa_cons qe_str (qa_cons qe_str (qa_cons qe_str (qa_cons (qe_tup (qa_cons qe_str (qa_cons (qe_tup (qa_cons qe_str (qa_cons qe_str qa_nil))) qa_nil))) qa_nil))))))) qg_nil)) (glen_f (glen_d glen_nil)))))))))))
/-! ### _law_bent -/
theorem sc__law_bent : FnScope ["_law_feed_here", "_law_what", "_law_mode", "_law_odd", "_law_k"] ["_law_feed_here", "_law_what"] (defScope s__law_bent) := ⟨rfl, rfl, rfl, by decide +kernel, rfl, by decide +kernel, by decide +kernel⟩
def m__law_bent : Nat → MF
  | 0 => fun _ _ => .no
  | n + 1 => mFn 5 (sSeq (sIf (mtAnd (mtE (mIsi "tuple" (mVar 1)) truth) (mtAnd (mtE (m2 neD (mVar 1) (mTup maNil)) asBool) (mtE (m2 gtD (mCall m__law_draw (mgF 0 (mgD (mC (.int 4)) mgNil))) (mC (.int 0))) asBool)))
  (sSeq (sSet 4 (mCall m__law_draw (mgF 0 (mgD (mCa lenD (maCons (mVar 1) maNil)) mgNil))))
  (sRet (m2 addD (m2 addD (mSl (mVar 1) moNone (moSome (mVar 4))) (mTup (maCons (mCall (m__law_bent n) (mgF 0 (mgD (m2 ixD (mVar 1) (mVar 4)) mgNil))) maNil))) (mSl (mVar 1) (moSome (m2 addD (mVar 4) (mC (.int 1)))) moNone))))
  sNx)
  (sSeq (sPar 2 3 (maCons (mCall m__law_draw (mgF 0 (mgD (mC (.int 8)) mgNil))) (maCons (mCall m__law_strange (mgF 0 mgNil)) maNil)))
  (sSeq (sIf (mtAnd (mtE (mIsi "tuple" (mVar 1)) truth) (mtE (m2 ltD (mVar 2) (mC (.int 7))) asBool))
  (sSeq (sSet 4 (mCall m__law_draw (mgF 0 (mgD (m2 addD (mCa lenD (maCons (mVar 1) maNil)) (mC (.int 1))) mgNil))))
  (sSeq (sIf (mtE (m2 ltD (mVar 2) (mC (.int 2))) asBool)
  (sRet (mIf (mtE (m2 eqD (mVar 2) (mC (.int 0))) asBool) (mCa listD (maCons (mVar 1) maNil)) (m2 addD (mSl (mVar 1) moNone (moSome (mVar 4))) (mSl (mVar 1) (moSome (m2 addD (mVar 4) (mC (.int 1)))) moNone))))
  sNx)
  (sSeq (sIf (mtE (m2 eqD (mVar 2) (mC (.int 2))) asBool)
  (sRet (m2 addD (m2 addD (mSl (mVar 1) moNone (moSome (mVar 4))) (mSl (mVar 1) (moSome (mVar 4)) (moSome (m2 addD (mVar 4) (mC (.int 1)))))) (mSl (mVar 1) (moSome (mVar 4)) moNone)))
  sNx)
  (sRet (mIf (mtE (m2 ltD (mVar 2) (mC (.int 5))) asBool) (m2 addD (m2 addD (mSl (mVar 1) moNone (moSome (mVar 4))) (mTup (maCons (mVar 3) maNil))) (mSl (mVar 1) (moSome (mVar 4)) moNone)) (m1 revD (mVar 1)))))))
  sNx)
  (sSeq (sIf (mtAnd (mtE (mIsi "bool" (mVar 1)) truth) (mtE (m2 ltD (mVar 2) (mC (.int 6))) asBool))
  (sRet (m2 ixD (mLst (maCons (mNot (mVar 1)) (maCons (mCa intD (maCons (mVar 1) maNil)) (maCons (mNot (mVar 1)) (maCons (mNot (mVar 1)) (maCons (mC .none) (maCons (mC (.int 2)) maNil))))))) (mVar 2)))
  sNx)
  (sSeq (sIf (mtAnd (mtE (mIsi "str" (mVar 1)) truth) (mtE (m2 ltD (mVar 2) (mC (.int 5))) asBool))
  (sSeq (sSet 4 (mCall m__law_draw (mgF 0 (mgD (m2 addD (mCa lenD (maCons (mVar 1) maNil)) (mC (.int 1))) mgNil))))
  (sRet (m2 addD (m2 addD (mSl (mVar 1) moNone (moSome (mVar 4))) (mCall m__law_any (mgF 0 (mgD (mLst (maCons (mC (.str "a")) (maCons (mC (.str "A")) (maCons (mC (.str "")) (maCons (mC (.str " ")) (maCons (mC (.str "z")) (maCons (mC (.str "ed")) maNil))))))) mgNil)))) (mSl (mVar 1) (moSome (m2 addD (mVar 4) (m2 fdivD (mVar 2) (mC (.int 3))))) moNone))))
  sNx)
  (sSeq (sIf (mtAnd (mtE (mIsi "int" (mVar 1)) truth) (mtAnd (mtNot (mtE (mIsi "bool" (mVar 1)) truth)) (mtE (m2 ltD (mVar 2) (mC (.int 5))) asBool)))
  (sRet (m2 ixD (mLst (maCons (m2 fdivD (mVar 1) (mC (.int 2))) (maCons (m2 subD (mVar 1) (mC (.int 1))) (maCons (m2 addD (mVar 1) (mC (.int 1))) (maCons (m2 eqD (mVar 1) (mC (.int 1))) (maCons (mCa strD (maCons (mVar 1) maNil)) maNil)))))) (mVar 2)))
  sNx)
  (sRet (mVar 3))))))))
theorem ok__law_bent (T : Txt L.K mg) (kk : Keys L) (nk : L.Nk) : ∀ n : Nat, FnG P w L.K mg base (L2.CX P w) (3 + n) T.a__law_bent T.d__law_bent ["_law_feed_here", "_law_what"] (spD L 2 (m__law_bent n))
  | 0 => fng_no
  | n + 1 => by
    have ih := ok__law_bent T kk nk n
    refine def_ok (k := 3 + n) T.f__law_bent sc__law_bent (by decide) fun c hL cdv A outer s H E gd hr => ?_
    have nd := sc__law_bent.nd
    subst hL
    exact (qs_cons (qs_if (PW.pt (qw_and (qt_val rfl (qe_isi isi_tuple T.n_isinstance T.n_tuple rfl (qe_var (i := 1)))) (qw_and (qt_cmp (op_neD hr.units) (ne_d rfl) (qe_var (i := 1)) (qe_tup qa_nil)) (qw_and1 (qt_cmp op_gt cmp_d (qe_call rfl (FnG.mono (ok__law_draw T kk nk) (by omega)) gd hr T.g__law_draw T.f__law_draw.kp T.b__law_draw (takes_of rfl rfl rfl rfl) (qg_f (i := 0) (qg_d qe_int qg_nil)) (glen_f (glen_d glen_nil))) qe_int)))))
  (qs_cons (qs_set (j := 4) (qe_call rfl (FnG.mono (ok__law_draw T kk nk) (by omega)) gd hr T.g__law_draw T.f__law_draw.kp T.b__law_draw (takes_of rfl rfl rfl rfl) (qg_f (i := 0) (qg_d (qe_callB call_lenDt (len_d rfl) T.n_len (qa_cons (qe_var (i := 1)) qa_nil)) qg_nil)) (glen_f (glen_d glen_nil))) nd)
  (qs_one (qs_ret (qe_bin op_addD (add_d rfl) (qe_bin op_addD (add_d rfl) (qe_sl rfl (qe_var (i := 1)) qo_none (qo_some (qe_var (i := 4)))) (qe_tup (qa_cons (qe_call rfl (FnG.mono ih (by omega)) gd hr T.g__law_bent T.f__law_bent.kp T.b__law_bent (takes_of rfl rfl rfl rfl) (qg_f (i := 0) (qg_d (qe_ix ix_seq (ix_d rfl) (qe_var (i := 1)) (qe_var (i := 4))) qg_nil)) (glen_f (glen_d glen_nil))) qa_nil))) (qe_sl rfl (qe_var (i := 1)) (qo_some (qe_bin op_addD (add_d rfl) (qe_var (i := 4)) qe_int)) qo_none)))))
  qs_nil)
  (qs_cons (qs_par (i := 2) (j := 3) rfl nd (qa_cons (qe_call rfl (FnG.mono (ok__law_draw T kk nk) (by omega)) gd hr T.g__law_draw T.f__law_draw.kp T.b__law_draw (takes_of rfl rfl rfl rfl) (qg_f (i := 0) (qg_d qe_int qg_nil)) (glen_f (glen_d glen_nil))) (qa_cons (qe_call rfl (FnG.mono (ok__law_strange T kk nk) (by omega)) gd hr T.g__law_strange T.f__law_strange.kp T.b__law_strange (takes_of rfl rfl rfl rfl) (qg_f (i := 0) qg_nil) (glen_f glen_nil)) qa_nil)))
  (qs_cons (qs_if (PW.pt (qw_and (qt_val rfl (qe_isi isi_tuple T.n_isinstance T.n_tuple rfl (qe_var (i := 1)))) (qw_and1 (qt_cmp op_lt cmp_d (qe_var (i := 2)) qe_int))))
  (qs_cons (qs_set (j := 4) (qe_call rfl (FnG.mono (ok__law_draw T kk nk) (by omega)) gd hr T.g__law_draw T.f__law_draw.kp T.b__law_draw (takes_of rfl rfl rfl rfl) (qg_f (i := 0) (qg_d (qe_bin op_addD (add_d rfl) (qe_callB call_lenDt (len_d rfl) T.n_len (qa_cons (qe_var (i := 1)) qa_nil)) qe_int) qg_nil)) (glen_f (glen_d glen_nil))) nd)
  (qs_cons (qs_if (qt_cmp op_lt cmp_d (qe_var (i := 2)) qe_int)
  (qs_one (qs_ret (qe_if (qt_cmp (op_eqD hr.units) (eq_d rfl) (qe_var (i := 2)) qe_int) (qe_callTy call_list_of (list_d rfl) T.n_list (qa_cons (qe_var (i := 1)) qa_nil)) (qe_bin op_addD (add_d rfl) (qe_sl rfl (qe_var (i := 1)) qo_none (qo_some (qe_var (i := 4)))) (qe_sl rfl (qe_var (i := 1)) (qo_some (qe_bin op_addD (add_d rfl) (qe_var (i := 4)) qe_int)) qo_none)))))
  qs_nil)
  (qs_cons (qs_if (qt_cmp (op_eqD hr.units) (eq_d rfl) (qe_var (i := 2)) qe_int)
  (qs_one (qs_ret (qe_bin op_addD (add_d rfl) (qe_bin op_addD (add_d rfl) (qe_sl rfl (qe_var (i := 1)) qo_none (qo_some (qe_var (i := 4)))) (qe_sl rfl (qe_var (i := 1)) (qo_some (qe_var (i := 4))) (qo_some (qe_bin op_addD (add_d rfl) (qe_var (i := 4)) qe_int)))) (qe_sl rfl (qe_var (i := 1)) (qo_some (qe_var (i := 4))) qo_none))))
  qs_nil)
  (qs_one (qs_ret (qe_if (qt_cmp op_lt cmp_d (qe_var (i := 2)) qe_int) (qe_bin op_addD (add_d rfl) (qe_bin op_addD (add_d rfl) (qe_sl rfl (qe_var (i := 1)) qo_none (qo_some (qe_var (i := 4)))) (qe_tup (qa_cons (qe_var (i := 3)) qa_nil))) (qe_sl rfl (qe_var (i := 1)) (qo_some (qe_var (i := 4))) qo_none)) (qe_revT rfl (qe_var (i := 1)))))))))
  qs_nil)
  (qs_cons (qs_if (PW.pt (qw_and (qt_val rfl (qe_isi isi_bool T.n_isinstance T.n_bool rfl (qe_var (i := 1)))) (qw_and1 (qt_cmp op_lt cmp_d (qe_var (i := 2)) qe_int))))
  (qs_one (qs_ret (qe_ix ix_seq (ix_d rfl) (qe_lst (qa_cons (qe_not rfl (qe_var (i := 1))) (qa_cons (qe_callTy call_int1 int_d T.n_int (qa_cons (qe_var (i := 1)) qa_nil)) (qa_cons (qe_not rfl (qe_var (i := 1))) (qa_cons (qe_not rfl (qe_var (i := 1))) (qa_cons qe_non (qa_cons qe_int qa_nil))))))) (qe_var (i := 2)))))
  qs_nil)
  (qs_cons (qs_if (PW.pt (qw_and (qt_val rfl (qe_isi isi_str T.n_isinstance T.n_str rfl (qe_var (i := 1)))) (qw_and1 (qt_cmp op_lt cmp_d (qe_var (i := 2)) qe_int))))
  (qs_cons (qs_set (j := 4) (qe_call rfl (FnG.mono (ok__law_draw T kk nk) (by omega)) gd hr T.g__law_draw T.f__law_draw.kp T.b__law_draw (takes_of rfl rfl rfl rfl) (qg_f (i := 0) (qg_d (qe_bin op_addD (add_d rfl) (qe_callB call_lenDt (len_d rfl) T.n_len (qa_cons (qe_var (i := 1)) qa_nil)) qe_int) qg_nil)) (glen_f (glen_d glen_nil))) nd)
  (qs_one (qs_ret (qe_bin op_addD (add_d rfl) (qe_bin op_addD (add_d rfl) (qe_sl rfl (qe_var (i := 1)) qo_none (qo_some (qe_var (i := 4)))) (qe_call rfl (FnG.mono (ok__law_any T kk nk) (by omega)) gd hr T.g__law_any T.f__law_any.kp T.b__law_any (takes_of rfl rfl rfl rfl) (qg_f (i := 0) (qg_d (qe_lst (qa_cons qe_str (qa_cons qe_str (qa_cons qe_str (qa_cons qe_str (qa_cons qe_str (qa_cons qe_str qa_nil))))))) qg_nil)) (glen_f (glen_d glen_nil)))) (qe_sl rfl (qe_var (i := 1)) (qo_some (qe_bin op_addD (add_d rfl) (qe_var (i := 4)) (qe_bin op_fdiv fdiv_d (qe_var (i := 2)) qe_int))) qo_none)))))
  qs_nil)
  (qs_cons (qs_if (PW.pt (qw_and (qt_val rfl (qe_isi isi_int T.n_isinstance T.n_int rfl (qe_var (i := 1)))) (qw_and (qt_not (qt_val rfl (qe_isi isi_bool T.n_isinstance T.n_bool rfl (qe_var (i := 1))))) (qw_and1 (qt_cmp op_lt cmp_d (qe_var (i := 2)) qe_int)))))
  (qs_one (qs_ret (qe_ix ix_seq (ix_d rfl) (qe_lst (qa_cons (qe_bin op_fdiv fdiv_d (qe_var (i := 1)) qe_int) (qa_cons (qe_bin op_sub sub_d (qe_var (i := 1)) qe_int) (qa_cons (qe_bin op_addD (add_d rfl) (qe_var (i := 1)) qe_int) (qa_cons (qe_cmp (op_eqD hr.units) (eq_d rfl) (qe_var (i := 1)) qe_int) (qa_cons (qe_callTy call_str_int str_d T.n_str (qa_cons (qe_var (i := 1)) qa_nil)) qa_nil)))))) (qe_var (i := 2)))))
  qs_nil)
  (qs_one (qs_ret (qe_var (i := 3))))))))))
/-! ### _law_moments -/
theorem sc__law_moments : FnScope ["_law_found", "_law_k", "_law_bools"] [] (defScope s__law_moments) := ⟨rfl, rfl, rfl, by decide +kernel, rfl, by decide +kernel, by decide +kernel⟩
def b__law_moments : MS := (sSeq (sOwn 0 maNil)
  (sSeq (sFor (miR1 (maCons (mC (.int 32)) maNil)) (.nm 1)
  (sSeq (sSet 2 (mLst (maCons (m2 eqD (m2 modD (mCa intD (maCons (m2 fdivD (mVar 1) (mC (.int 16))) maNil)) (mC (.int 2))) (mC (.int 1))) (maCons (m2 eqD (m2 modD (mCa intD (maCons (m2 fdivD (mVar 1) (mC (.int 8))) maNil)) (mC (.int 2))) (mC (.int 1))) (maCons (m2 eqD (m2 modD (mCa intD (maCons (m2 fdivD (mVar 1) (mC (.int 4))) maNil)) (mC (.int 2))) (mC (.int 1))) (maCons (m2 eqD (m2 modD (mCa intD (maCons (m2 fdivD (mVar 1) (mC (.int 2))) maNil)) (mC (.int 2))) (mC (.int 1))) maNil))))))
  (sApp 0 (m2 addD (m2 addD (mTup (maCons (mC (.str "moment")) maNil)) (mCa tupleD (maCons (mVar 2) maNil))) (mTup (maCons (m2 eqD (m2 modD (mCa intD (maCons (mVar 1) maNil)) (mC (.int 2))) (mC (.int 1))) maNil))))))
  (sSeq (sFrz 0) (sRet (mVar 0)))))
def m__law_moments : MF := mFn 3 b__law_moments
theorem ok__law_moments (T : Txt L.K mg) : FnG P w L.K mg base (L2.CX P w) 1 T.a__law_moments T.d__law_moments [] (spD L 0 m__law_moments) := by
  refine def_ok (k := 0) T.f__law_moments sc__law_moments (by decide) fun c hL cdv A outer s H E gd hr => ?_
  have nd := sc__law_moments.nd
  subst hL
  exact (qs_cons (qs_own (j := 0) qa_nil nd)
  (qs_cons (qs_for (t := (.nm 1)) rfl (passes_of rfl) rfl (qi_r1 T.n_range (qa_cons qe_int qa_nil)) (pg_name (i := 1) nd rfl (by first | exact Or.inl rfl | exact Or.inr rfl))
  (qs_cons (qs_set (j := 2) (qe_lst (qa_cons (qe_cmp (op_eqD hr.units) (eq_d rfl) (qe_bin op_mod mod_d (qe_callTy call_int1 int_d T.n_int (qa_cons (qe_bin op_fdiv fdiv_d (qe_var (i := 1)) qe_int) qa_nil)) qe_int) qe_int) (qa_cons (qe_cmp (op_eqD hr.units) (eq_d rfl) (qe_bin op_mod mod_d (qe_callTy call_int1 int_d T.n_int (qa_cons (qe_bin op_fdiv fdiv_d (qe_var (i := 1)) qe_int) qa_nil)) qe_int) qe_int) (qa_cons (qe_cmp (op_eqD hr.units) (eq_d rfl) (qe_bin op_mod mod_d (qe_callTy call_int1 int_d T.n_int (qa_cons (qe_bin op_fdiv fdiv_d (qe_var (i := 1)) qe_int) qa_nil)) qe_int) qe_int) (qa_cons (qe_cmp (op_eqD hr.units) (eq_d rfl) (qe_bin op_mod mod_d (qe_callTy call_int1 int_d T.n_int (qa_cons (qe_bin op_fdiv fdiv_d (qe_var (i := 1)) qe_int) qa_nil)) qe_int) qe_int) qa_nil))))) nd)
  (qs_one (qs_app (j := 0) (qe_bin op_addD (add_d rfl) (qe_bin op_addD (add_d rfl) (qe_tup (qa_cons qe_str qa_nil)) (qe_callTy call_tuple_of (tuple_d rfl) T.n_tuple (qa_cons (qe_var (i := 2)) qa_nil))) (qe_tup (qa_cons (qe_cmp (op_eqD hr.units) (eq_d rfl) (qe_bin op_mod mod_d (qe_callTy call_int1 int_d T.n_int (qa_cons (qe_var (i := 1)) qa_nil)) qe_int) qe_int) qa_nil)))))))
  (qs_frz (qs_one (qs_ret (qe_var (i := 0)))))))
/-! ### _law_by_form -/
theorem sc__law_by_form : FnScope ["_law_found", "_law_one"] [] (defScope s__law_by_form) := ⟨rfl, rfl, rfl, by decide +kernel, rfl, by decide +kernel, by decide +kernel⟩
def b__law_by_form : MS := (sSeq (sOwn 0 (maCons (mTup (maCons (mC (.str "ended")) maNil)) maNil))
  (sSeq (sFor (miV (mCall m__law_moments mgNil)) (.nm 1)
  (sIf (mtAnd (mtOr (mtE (m2 ixD (mVar 1) (mC (.int 1))) truth) (mtNot (mtE (m2 ixD (mVar 1) (mC (.int 3))) truth))) (mtOr (mtE (m2 ixD (mVar 1) (mC (.int 2))) truth) (mtNot (mtOr (mtE (m2 ixD (mVar 1) (mC (.int 1))) truth) (mtOr (mtE (m2 ixD (mVar 1) (mC (.int 4))) truth) (mtE (m2 ixD (mVar 1) (mC (.int 5))) truth))))))
  (sApp 0 (mVar 1))
  sNx))
  (sSeq (sFrz 0) (sRet (mVar 0)))))
def m__law_by_form : MF := mFn 2 b__law_by_form
theorem ok__law_by_form (T : Txt L.K mg) : FnG P w L.K mg base (L2.CX P w) 2 T.a__law_by_form T.d__law_by_form [] (spD L 0 m__law_by_form) := by
  refine def_ok (k := 1) T.f__law_by_form sc__law_by_form (by decide) fun c hL cdv A outer s H E gd hr => ?_
  have nd := sc__law_by_form.nd
  subst hL
  exact (qs_cons (qs_own (j := 0) (qa_cons (qe_tup (qa_cons qe_str qa_nil)) qa_nil) nd)
  (qs_cons (qs_for (t := (.nm 1)) rfl (passes_of rfl) rfl (qi_v rfl (qe_call0 rfl (FnG.mono (ok__law_moments T) (by omega)) gd hr T.g__law_moments T.f__law_moments.kp T.b__law_moments (takes_of rfl rfl rfl rfl) rfl)) (pg_name (i := 1) nd rfl (by first | exact Or.inl rfl | exact Or.inr rfl))
  (qs_one (qs_if (PW.pt (qw_and (PW.pt (qw_or (qt_val rfl (qe_ix ix_seq (ix_d rfl) (qe_var (i := 1)) qe_int)) (qw_or1 (qt_not (qt_val rfl (qe_ix ix_seq (ix_d rfl) (qe_var (i := 1)) qe_int)))))) (qw_and1 (PW.pt (qw_or (qt_val rfl (qe_ix ix_seq (ix_d rfl) (qe_var (i := 1)) qe_int)) (qw_or1 (qt_not (PW.pt (qw_or (qt_val rfl (qe_ix ix_seq (ix_d rfl) (qe_var (i := 1)) qe_int)) (qw_or (qt_val rfl (qe_ix ix_seq (ix_d rfl) (qe_var (i := 1)) qe_int)) (qw_or1 (qt_val rfl (qe_ix ix_seq (ix_d rfl) (qe_var (i := 1)) qe_int)))))))))))))
  (qs_one (qs_app (j := 0) (qe_var (i := 1))))
  qs_nil)))
  (qs_frz (qs_one (qs_ret (qe_var (i := 0)))))))
/-! ### _law_is_right -/
theorem sc__law_is_right : FnScope ["_law_what", "_law_due", "_law_kept", "_law_told"] ["_law_what", "_law_due"] (defScope s__law_is_right) := ⟨rfl, rfl, rfl, by decide +kernel, rfl, by decide +kernel, by decide +kernel⟩
def b__law_is_right : MS := (sSeq (sSet 2 (mCa reprD (maCons (mVar 0) maNil)))
  (sSeq (sSet 3 (mLst (maCons (mCall m_is_fate (mgD (mVar 0) mgNil)) (maCons (mCall m_is_fate (mgD (mVar 0) mgNil)) (maCons (m2 eqD (mCa reprD (maCons (mVar 0) maNil)) (mVar 2)) maNil)))))
  (sRet (m2 eqD (mCa reprD (maCons (mVar 3) maNil)) (mCa reprD (maCons (mLst (maCons (mVar 1) (maCons (mVar 1) (maCons (mC (.bool true)) maNil)))) maNil))))))
def m__law_is_right : MF := mFn 4 b__law_is_right
theorem ok__law_is_right (T : Txt L.K mg) : FnG P w L.K mg base (L2.CX P w) 2 T.a__law_is_right T.d__law_is_right ["_law_what", "_law_due"] (spD L 2 m__law_is_right) := by
  refine def_ok (k := 1) T.f__law_is_right sc__law_is_right (by decide) fun c hL cdv A outer s H E gd hr => ?_
  have nd := sc__law_is_right.nd
  subst hL
  exact (qs_cons (qs_set (j := 2) (qe_callB (call_repr_d gd (room65 hr)) (repr_d rfl) T.n_repr (qa_cons (qe_var (i := 0)) qa_nil)) nd)
  (qs_cons (qs_set (j := 3) (qe_lst (qa_cons (qe_call rfl (FnG.mono (ok_is_fate T) (by omega)) gd hr T.g_is_fate T.f_is_fate.kp T.b_is_fate (takes_of rfl rfl rfl rfl) (qg_d (qe_var (i := 0)) qg_nil) (glen_d glen_nil)) (qa_cons (qe_callK0 rfl (FnG.mono (ok_is_fate T) (by omega)) gd hr T.g_is_fate T.f_is_fate.kp T.kb_is_fate (takes_of rfl rfl rfl rfl) (qk_d (qe_var (i := 0)) qk_nil) (glen_d glen_nil)) (qa_cons (qe_cmp (op_eqD hr.units) (eq_d rfl) (qe_callB (call_repr_d gd (room65 hr)) (repr_d rfl) T.n_repr (qa_cons (qe_var (i := 0)) qa_nil)) (qe_var (i := 2))) qa_nil)))) nd)
  (qs_one (qs_ret (qe_cmp (op_eqD hr.units) (eq_d rfl) (qe_callB (call_repr_d gd (room65 hr)) (repr_d rfl) T.n_repr (qa_cons (qe_var (i := 3)) qa_nil)) (qe_callB (call_repr_d gd (room65 hr)) (repr_d rfl) T.n_repr (qa_cons (qe_lst (qa_cons (qe_var (i := 1)) (qa_cons (qe_var (i := 1)) (qa_cons qe_bl qa_nil)))) qa_nil)))))))
/-! ### _law_feed -/
theorem sc__law_feed : FnScope ["_law_script"] ["_law_script"] (defScope s__law_feed) := ⟨rfl, rfl, rfl, by decide +kernel, rfl, by decide +kernel, by decide +kernel⟩
theorem ok__law_feed (T : Txt L.K mg) (kk : Keys L) (nk : L.Nk) : FnG P w L.K mg base (L2.CX P w) 1 T.a__law_feed T.d__law_feed ["_law_script"] (spFeed L) := by
  refine fng_of (k := 0) T.f__law_feed sc__law_feed (fun vs H Q E h => by obtain ⟨a, ns, rfl, _⟩ := h; rfl) fun cdv A outer s H vs Q E gd room want => ?_
  refine ⟨_, pss_one (ps_ret (pe_disp (pps_cons pe_str (pe_callTy call_list_of (by rfl) T.n_list (by decide +kernel) (pa_cons (pe_slice sl_list (pv 0) po_none (po_some pe_int)) pa_nil)) (pps_cons pe_str pe_int (pps_cons pe_str pe_int (pps_cons pe_str pe_int pps_nil)))) rfl rfl (fun z => by cases z) (by decide))), ?_⟩
  have h := feed_read nk (N := ["_law_script"]) (cells_list (n := 63)) want
  rw [show L.k1 = _ from kk.c, show L.k2 = _ from kk.s, show L.k3 = _ from kk.l, show L.k4 = _ from kk.n] at h
  exact h
/-! ### law -/
theorem sc_law : FnScope ["_law_script", "_law_feed_here", "_law_shown", "_law_every", "_law_some", "_law_lap", "_law_what", "_law_one"] ["_law_script"] (defScope s_law) := ⟨rfl, rfl, rfl, by decide +kernel, rfl, by decide +kernel, by decide +kernel⟩
def e_law : ME := (mLc (miV (mCall m__law_by_form mgNil)) (.nm 7) mtYes (mCa reprD (maCons (mVar 7) maNil)) [7])
def b_law : MS := (sSeq (sSet 3 (m2 addD (mLst (maCons (mTup (maCons (mC (.str "ended")) maNil)) maNil)) (mCall m__law_moments mgNil)))
  (sSeq (sIf (mtE (m2 neD (mCa lenD (maCons (mVar 2) maNil)) (mC (.int 14))) asBool)
  (sRet (mC (.bool false)))
  sNx)
  (sSeq (sIf (mtE (m2 neD (mLc (miV (mVar 3)) (.nm 7) (mtNot (mtE (mCall m__law_is_right (mgD (mVar 7) (mgD (m2 inD (mCa reprD (maCons (mVar 7) maNil)) (mVar 2)) mgNil))) truth)) (mVar 7) [7]) (mLst maNil)) asBool)
  (sRet (mC (.bool false)))
  sNx)
  (sSeq (sSet 4 (mLst (maCons (mTup (maCons (mC (.str "moment")) (maCons (mC (.int 0)) (maCons (mC (.int 0)) (maCons (mC (.int 0)) (maCons (mC (.int 0)) (maCons (mC (.int 0)) maNil))))))) (maCons (mTup (maCons (mC (.str "moment")) (maCons (mC (.int 0)) (maCons (mC (.int 1)) (maCons (mC (.int 0)) (maCons (mC (.int 0)) (maCons (mC (.int 0)) maNil))))))) (maCons (mTup (maCons (mC (.str "moment")) (maCons (mC (.bool false)) (maCons (mC (.bool false)) (maCons (mC (.bool false)) (maCons (mC (.bool false)) maNil)))))) (maCons (mC (.str "ended")) maNil))))))
  (sSeq (sSet 4 (m2 addD (mVar 4) (mLst (maCons (mLst (maCons (mC (.str "ended")) maNil)) (maCons (mTup (maCons (mC (.str "ended")) (maCons (mC (.bool false)) maNil))) (maCons (mTup (maCons (mC (.str "ended")) (maCons (mC (.str "ended")) maNil))) (maCons (mTup (maCons (mC (.str "moment")) (maCons (mC (.str "ended")) maNil))) (maCons (mTup (maCons (mC (.str "Ended")) maNil)) (maCons (mTup maNil) (maCons (mC .none) (maCons (mC (.bool true)) maNil)))))))))))
  (sSeq (sSet 4 (m2 addD (mVar 4) (mLst (maCons (mTup (maCons (mC (.str "moment")) (maCons (mC .none) (maCons (mC (.bool true)) (maCons (mC (.bool false)) (maCons (mC (.bool false)) (maCons (mC (.bool false)) maNil))))))) (maCons (m2 addD (mTup (maCons (mC (.str "ended")) maNil)) (mSl (m2 ixD (mVar 3) (mC (.int 1))) (moSome (mC (.int 1))) moNone)) (maCons (mTup (maCons (mC (.str "moment")) (maCons (mTup (maCons (mC (.str "ended")) maNil)) maNil))) maNil))))))
  (sSeq (sSet 4 (m2 addD (mVar 4) (mLst (maCons (mTup (maCons (mC (.str "moment")) (maCons (mC (.bool false)) (maCons (mC (.bool true)) (maCons (mC (.bool false)) (maCons (mC (.bool true)) (maCons (mC (.bool false)) (maCons (mC (.bool false)) maNil)))))))) (maCons (mLst (maCons (mC (.str "moment")) (maCons (mC (.bool false)) (maCons (mC (.bool true)) (maCons (mC (.bool false)) (maCons (mC (.bool true)) (maCons (mC (.bool false)) maNil))))))) maNil)))))
  (sSeq (sIf (mtE (m2 neD (mLc (miV (mVar 4)) (.nm 7) (mtNot (mtE (mCall m__law_is_right (mgD (mVar 7) (mgD (mC (.bool false)) mgNil))) truth)) (mVar 7) [7]) (mLst maNil)) asBool)
  (sRet (mC (.bool false)))
  sNx)
  (sSeq (sFor (miR1 (maCons (mC (.int 30)) maNil)) (.nm 5)
  (sSeq (sSet 6 (mCall (m__law_bent 12) (mgF 1 (mgD (mCall m__law_any (mgF 1 (mgD (mVar 3) mgNil))) mgNil))))
  (sSeq (sSet 6 (mIf (mtE (m2 eqD (mCall m__law_draw (mgF 1 (mgD (mC (.int 4)) mgNil))) (mC (.int 0))) asBool) (mCall (m__law_bent 12) (mgF 1 (mgD (mVar 6) mgNil))) (mVar 6)))
  (sFor (miV (mLst (maCons (mVar 6) (maCons (mCall m__law_strange (mgF 1 mgNil)) maNil)))) (.nm 7)
  (sIf (mtNot (mtE (mCall m__law_is_right (mgD (mVar 7) (mgD (m2 inD (mCa reprD (maCons (mVar 7) maNil)) (mVar 2)) mgNil))) truth))
  (sRet (mC (.bool false)))
  sNx)))))
  (sRet (mC (.bool true))))))))))))
abbrev n_law : Nat := 8
def Math : Prop := ∀ cells : List Int, ∃ d φ φ', e_law (List.replicate 8 .un) (fd0 cells) = .ok d φ ∧ b_law (((List.replicate 8 .un).set 1 .fd).set 2 (.dat d)) φ = .ok (.rt (.bool true)) φ'
theorem ok_law (T : Txt L.K mg) (kk : Keys L) (nk : L.Nk) {f0 : Addr} {fd : FuncData} (F : Fun L.K "law" "law" s_law f0 fd) (math : Math) : FnG P w L.K mg base (L2.CX P w) 16 f0 fd ["_law_script"] (spLaw L) := by
  have nd := sc_law.nd
  exact law_C (i := 1) (j := 2) (f := e_law) (k := 15) (rest := (defBody s_law).tail) (body := b_law) F sc_law (by decide) rfl (fun cdv A outer s H E gd hr => (ps_asg (pe_tup (pa_cons (peg_call (ok__law_feed T kk nk) gd (hr.mono (by decide)) rfl T.g__law_feed T.f__law_feed.kp T.b__law_feed (passAt (takes_of rfl rfl rfl rfl)) (pa_cons (pv 0) pa_nil)) (pa_cons (pe_ex fun c hL => by subst hL; exact (qe_lc (own := [("_law_one", 7)]) (t := (.nm 7)) rfl rfl nd (qi_v rfl (qe_call0 rfl (FnG.mono (ok__law_by_form T) (by omega)) gd hr T.g__law_by_form T.f__law_by_form.kp T.b__law_by_form (takes_of rfl rfl rfl rfl) rfl)) (blkOk_by (N := ["_law_script", "_law_feed_here", "_law_shown", "_law_every", "_law_some", "_law_lap", "_law_what", "_law_one"]) (sc := defScope s_law) (own := [("_law_one", 7)]) (by decide +kernel)) (by decide) (fun _ _ _ _ _ => (pg_name (i := 7) nd rfl (by first | exact Or.inl rfl | exact Or.inr rfl))) (fun _ _ _ _ _ => qts_nil) (fun _ _ _ _ _ => (qe_callB (call_repr_d gd (room65 hr)) (repr_d rfl) T.n_repr (qa_cons (qe_var (i := 7)) qa_nil))))) pa_nil))) (pg_tup rfl (pgs_cons (pg_name (i := 1) nd rfl (by first | exact Or.inl rfl | exact Or.inr rfl)) (pgs_cons (pg_name (i := 2) nd rfl (by first | exact Or.inl rfl | exact Or.inr rfl)) pgs_nil)))))
    (fun c hL cdv A outer s H E gd hr => by
      subst hL
      exact (qs_cons (qs_set (j := 3) (qe_bin op_addD (add_d rfl) (qe_lst (qa_cons (qe_tup (qa_cons qe_str qa_nil)) qa_nil)) (qe_call0 rfl (FnG.mono (ok__law_moments T) (by omega)) gd hr T.g__law_moments T.f__law_moments.kp T.b__law_moments (takes_of rfl rfl rfl rfl) rfl)) nd)
  (qs_cons (qs_if (qt_cmp (op_neD hr.units) (ne_d rfl) (qe_callB call_lenDt (len_d rfl) T.n_len (qa_cons (qe_var (i := 2)) qa_nil)) qe_int)
  (qs_one (qs_ret qe_bl))
  qs_nil)
  (qs_cons (qs_if (qt_cmp (op_neD hr.units) (ne_d rfl) (qe_lc (own := [("_law_one", 7)]) (t := (.nm 7)) rfl rfl nd (qi_v rfl (qe_var (i := 3))) (blkOk_by (N := ["_law_script", "_law_feed_here", "_law_shown", "_law_every", "_law_some", "_law_lap", "_law_what", "_law_one"]) (sc := defScope s_law) (own := [("_law_one", 7)]) (by decide +kernel)) (by decide) (fun _ _ _ _ _ => (pg_name (i := 7) nd rfl (by first | exact Or.inl rfl | exact Or.inr rfl))) (fun _ _ _ _ _ => (qts_one (qt_not (qt_val rfl (qe_call rfl (FnG.mono (ok__law_is_right T) (by omega)) gd hr T.g__law_is_right T.f__law_is_right.kp T.b__law_is_right LamX.takes0 (qg_d (qe_var (i := 7)) (qg_d (qe_cmp (op_inDt (room65 hr)) (in_d rfl) (qe_callB (call_repr_d gd (room65 hr)) (repr_d rfl) T.n_repr (qa_cons (qe_var (i := 7)) qa_nil)) (qe_var (i := 2))) qg_nil)) (glen_d (glen_d glen_nil))))))) (fun _ _ _ _ _ => (qe_var (i := 7)))) (qe_lst qa_nil))
  (qs_one (qs_ret qe_bl))
  qs_nil)
  (qs_cons (qs_set (j := 4) (qe_lst (qa_cons (qe_tup (qa_cons qe_str (qa_cons qe_int (qa_cons qe_int (qa_cons qe_int (qa_cons qe_int (qa_cons qe_int qa_nil))))))) (qa_cons (qe_tup (qa_cons qe_str (qa_cons qe_int (qa_cons qe_int (qa_cons qe_int (qa_cons qe_int (qa_cons qe_int qa_nil))))))) (qa_cons (qe_tup (qa_cons qe_str (qa_cons qe_bl (qa_cons qe_bl (qa_cons qe_bl (qa_cons qe_bl qa_nil)))))) (qa_cons qe_str qa_nil))))) nd)
  (qs_cons (qs_set (j := 4) (qe_bin op_addD (add_d rfl) (qe_var (i := 4)) (qe_lst (qa_cons (qe_lst (qa_cons qe_str qa_nil)) (qa_cons (qe_tup (qa_cons qe_str (qa_cons qe_bl qa_nil))) (qa_cons (qe_tup (qa_cons qe_str (qa_cons qe_str qa_nil))) (qa_cons (qe_tup (qa_cons qe_str (qa_cons qe_str qa_nil))) (qa_cons (qe_tup (qa_cons qe_str qa_nil)) (qa_cons (qe_tup qa_nil) (qa_cons qe_non (qa_cons qe_bl qa_nil)))))))))) nd)
  (qs_cons (qs_set (j := 4) (qe_bin op_addD (add_d rfl) (qe_var (i := 4)) (qe_lst (qa_cons (qe_tup (qa_cons qe_str (qa_cons qe_non (qa_cons qe_bl (qa_cons qe_bl (qa_cons qe_bl (qa_cons qe_bl qa_nil))))))) (qa_cons (qe_bin op_addD (add_d rfl) (qe_tup (qa_cons qe_str qa_nil)) (qe_sl rfl (qe_ix ix_seq (ix_d rfl) (qe_var (i := 3)) qe_int) (qo_some qe_int) qo_none)) (qa_cons (qe_tup (qa_cons qe_str (qa_cons (qe_tup (qa_cons qe_str qa_nil)) qa_nil))) qa_nil))))) nd)
  (qs_cons (qs_set (j := 4) (qe_bin op_addD (add_d rfl) (qe_var (i := 4)) (qe_lst (qa_cons (qe_tup (qa_cons qe_str (qa_cons qe_bl (qa_cons qe_bl (qa_cons qe_bl (qa_cons qe_bl (qa_cons qe_bl (qa_cons qe_bl qa_nil)))))))) (qa_cons (qe_lst (qa_cons qe_str (qa_cons qe_bl (qa_cons qe_bl (qa_cons qe_bl (qa_cons qe_bl (qa_cons qe_bl qa_nil))))))) qa_nil)))) nd)
  (qs_cons (qs_if (qt_cmp (op_neD hr.units) (ne_d rfl) (qe_lc (own := [("_law_one", 7)]) (t := (.nm 7)) rfl rfl nd (qi_v rfl (qe_var (i := 4))) (blkOk_by (N := ["_law_script", "_law_feed_here", "_law_shown", "_law_every", "_law_some", "_law_lap", "_law_what", "_law_one"]) (sc := defScope s_law) (own := [("_law_one", 7)]) (by decide +kernel)) (by decide) (fun _ _ _ _ _ => (pg_name (i := 7) nd rfl (by first | exact Or.inl rfl | exact Or.inr rfl))) (fun _ _ _ _ _ => (qts_one (qt_not (qt_val rfl (qe_call rfl (FnG.mono (ok__law_is_right T) (by omega)) gd hr T.g__law_is_right T.f__law_is_right.kp T.b__law_is_right LamX.takes0 (qg_d (qe_var (i := 7)) (qg_d qe_bl qg_nil)) (glen_d (glen_d glen_nil))))))) (fun _ _ _ _ _ => (qe_var (i := 7)))) (qe_lst qa_nil))
  (qs_one (qs_ret qe_bl))
  qs_nil)
  (qs_cons (qs_for (t := (.nm 5)) rfl (passes_of rfl) rfl (qi_r1 T.n_range (qa_cons qe_int qa_nil)) (pg_name (i := 5) nd rfl (by first | exact Or.inl rfl | exact Or.inr rfl))
  (qs_cons (qs_set (j := 6) (qe_call rfl (FnG.mono (ok__law_bent T kk nk 12) (by omega)) gd hr T.g__law_bent T.f__law_bent.kp T.b__law_bent (takes_of rfl rfl rfl rfl) (qg_f (i := 1) (qg_d (qe_call rfl (FnG.mono (ok__law_any T kk nk) (by omega)) gd hr T.g__law_any T.f__law_any.kp T.b__law_any (takes_of rfl rfl rfl rfl) (qg_f (i := 1) (qg_d (qe_var (i := 3)) qg_nil)) (glen_f (glen_d glen_nil))) qg_nil)) (glen_f (glen_d glen_nil))) nd)
  (qs_cons (qs_set (j := 6) (qe_if (qt_cmp (op_eqD hr.units) (eq_d rfl) (qe_call rfl (FnG.mono (ok__law_draw T kk nk) (by omega)) gd hr T.g__law_draw T.f__law_draw.kp T.b__law_draw (takes_of rfl rfl rfl rfl) (qg_f (i := 1) (qg_d qe_int qg_nil)) (glen_f (glen_d glen_nil))) qe_int) (qe_call rfl (FnG.mono (ok__law_bent T kk nk 12) (by omega)) gd hr T.g__law_bent T.f__law_bent.kp T.b__law_bent (takes_of rfl rfl rfl rfl) (qg_f (i := 1) (qg_d (qe_var (i := 6)) qg_nil)) (glen_f (glen_d glen_nil))) (qe_var (i := 6))) nd)
  (qs_one (qs_for (t := (.nm 7)) rfl (passes_of rfl) rfl (qi_v rfl (qe_lst (qa_cons (qe_var (i := 6)) (qa_cons (qe_call rfl (FnG.mono (ok__law_strange T kk nk) (by omega)) gd hr T.g__law_strange T.f__law_strange.kp T.b__law_strange (takes_of rfl rfl rfl rfl) (qg_f (i := 1) qg_nil) (glen_f glen_nil)) qa_nil)))) (pg_name (i := 7) nd rfl (by first | exact Or.inl rfl | exact Or.inr rfl))
  (qs_one (qs_if (qt_not (qt_val rfl (qe_call rfl (FnG.mono (ok__law_is_right T) (by omega)) gd hr T.g__law_is_right T.f__law_is_right.kp T.b__law_is_right (takes_of rfl rfl rfl rfl) (qg_d (qe_var (i := 7)) (qg_d (qe_cmp (op_inDt (room65 hr)) (in_d rfl) (qe_callB (call_repr_d gd (room65 hr)) (repr_d rfl) T.n_repr (qa_cons (qe_var (i := 7)) qa_nil)) (qe_var (i := 2))) qg_nil)) (glen_d (glen_d glen_nil)))))
  (qs_one (qs_ret qe_bl))
  qs_nil)))))))
  (qs_one (qs_ret qe_bl)))))))))))) math
end
end K31

set_option maxHeartbeats 4000000
namespace K31
open PySem PySem.Spec PyProof.Rows L2 DL

theorem lay_ints : ∀ ns : List Int, PyData.canLayAll0 (ns.map PyData.int) = true ∧ PyData.depthAll (ns.map PyData.int) = 0
  | [] => ⟨rfl, rfl⟩
  | n :: ns => by
    obtain ⟨h1, h2⟩ := lay_ints ns
    refine ⟨?_, ?_⟩
    · show (PyData.canLay0 (.int n) && PyData.canLayAll0 (ns.map PyData.int)) = true
      rw [h1]; rfl
    · show max (PyData.depth (.int n)) (PyData.depthAll (ns.map PyData.int)) = 0
      rw [h2]; rfl
theorem shaped_ints (ns : List Int) : SeqAt.shaped (.list (ns.map PyData.int)) = true := by
  obtain ⟨h1, h2⟩ := lay_ints ns
  unfold SeqAt.shaped
  rw [show PyData.canLay0 (.list (ns.map PyData.int)) = _ from h1, Bool.true_and]
  exact decide_eq_true (show PyData.depthAll (ns.map PyData.int) + 1 ≤ 64 by omega)

theorem at_in {α : Type} {xs : List α} {k : Int} (h0 : 0 ≤ k) (h1 : k < xs.length) : ∃ x, x ∈ xs ∧ atI xs k = some x := by
  obtain ⟨j, rfl⟩ := Int.eq_ofNat_of_zero_le h0
  have hj : j < xs.length := by omega
  refine ⟨xs[j], List.getElem_mem hj, ?_⟩
  unfold atI ixN
  rw [if_pos h0, if_pos h1]
  show xs[(j : Int).toNat]? = _
  rw [Int.toNat_natCast, List.getElem?_eq_getElem hj]
theorem ixL {xs : List Dt} {k : Int} (h0 : 0 ≤ k) (h1 : k < xs.length) : ∃ x, x ∈ xs ∧ ixD (.list xs) (.int k) = some x := at_in h0 h1

theorem draw (n : Int) (h1 : 1 ≤ n) (h2 : n < 1073741824) : Can (m__law_draw [.fd, .dat (.int n)]) fun d => ∃ k : Int, d = .int k ∧ 0 ≤ k ∧ k < n := by
  intro φ
  obtain ⟨cells, spot, left, count⟩ := φ
  have hn : 0 < n := by omega
  have md : ∀ a b : Int, 0 < b → modD (.int a) (.int b) = some (.int (a % b)) := fun a b h => if_pos h
  have fd : ∀ a b : Int, 0 < b → b < 1073741824 → fdivD (.int a) (.int b) = some (.int (a / b)) := fun a b h g => if_pos ⟨h, g⟩
  have last : ∀ a : Int, ∃ k : Int, PyData.int (a % n) = .int k ∧ 0 ≤ k ∧ k < n := fun a => ⟨_, rfl, Int.emod_nonneg _ (by omega), Int.emod_lt_of_pos _ hn⟩
  have neL : neD (.list (cells.map .int)) (.list []) = some (.bool (!cells.isEmpty)) := by
    unfold neD
    rw [if_pos ⟨shaped_ints _, rfl⟩]
    cases cells <;> rfl
  have mulc : ∀ a b : Int, (-(2 ^ 64) < a ∧ a < 2 ^ 64) → mulD (.int a) (.int b) = some (.int (a * b)) := fun a b h => if_pos (Or.inl h)
  by_cases hl : left > 0
  · refine ⟨.int (left % n), ⟨cells, spot, left / n, count + 1⟩, ?_, last _⟩
    simp [m__law_draw, mFn, b__law_draw, sSeq, sFd, mFg, fdGet, m2, mC, Res.bind, opt, addD, eS, fdSet, sIf, mtE, tSt, cmpD, asBool, sSet, mCa, maCons, maNil, DL.intD, mVar, md, fd, hn, h2, sRet, hl]
  · have cell : ∃ c : Int, mIf (mtE (m2 neD (mFg 0 .c) (mLst maNil)) asBool) (m2 ixD (mFg 0 .c) (m2 modD (mCa DL.intD (maCons (mVar 2) maNil)) (mCa lenD (maCons (mFg 0 .c) maNil)))) (mC (.int 31013))
        [.fd, .dat (.int n), .dat (.int spot), .un, .un, .un] ⟨cells, spot + 1, left, count + 1⟩ = .ok (.int c) ⟨cells, spot + 1, left, count + 1⟩ := by
      cases hc : cells with
      | nil => exact ⟨31013, by simp [mIf, mtE, m2, mFg, fdGet, mLst, maNil, Res.bind, opt, mC, neD, SeqAt.shaped, PyData.canLay0, PyData.canLayAll0, PyData.depth, PyData.depthAll, PyData.eqv, PyData.eqvAll, asBool]⟩
      | cons c0 cs =>
        rw [hc] at neL
        have hlen : 0 < ((c0 :: cs).length : Int) := by simp
        have hix : ∃ c : Int, ixD (.list ((c0 :: cs).map .int)) (.int (spot % ((c0 :: cs).length : Int))) = some (.int c) := by
          obtain ⟨x, hx, e⟩ := ixL (xs := (c0 :: cs).map PyData.int) (k := spot % ((c0 :: cs).length : Int)) (Int.emod_nonneg spot (by omega)) (by rw [List.length_map]; exact Int.emod_lt_of_pos spot hlen)
          obtain ⟨c, _, rfl⟩ := List.mem_map.mp hx
          exact ⟨c, e⟩
        obtain ⟨c, e⟩ := hix
        refine ⟨c, ?_⟩
        have hl2 : lenD [.list ((c0 :: cs).map PyData.int)] = some (.int ((c0 :: cs).length : Int)) := by
          show some (PyData.int (((c0 :: cs).map PyData.int).length : Int)) = _
          rw [List.length_map]
        have hm := md spot _ hlen
        have hz : (0 : Nat) ≤ sizeLine := Nat.zero_le _
        simp only [mIf, mtE, m2, mFg, fdGet, mLst, maNil, Res.bind, opt, mC, List.getElem?_cons_zero, List.getElem?_cons_succ, mCa, maCons, mVar, DL.intD, hl2, hm, e, List.length_nil, hz, if_true, neL, asBool, List.isEmpty_cons, Bool.not_false]
    obtain ⟨c, hcell⟩ := cell
    have hl2 : lenD [.list (cells.map PyData.int)] = some (.int (cells.length : Int)) := by
      show some (PyData.int ((cells.map PyData.int).length : Int)) = _
      rw [List.length_map]
    have hp : powD (.int 10) (.int 18) = some (.int 1000000000000000000) := rfl
    have mixed : ∀ x : Int, 0 ≤ x % 2147483549 ∧ x % 2147483549 < 2147483549 := fun x => ⟨Int.emod_nonneg _ (by decide), Int.emod_lt_of_pos _ (by decide)⟩
    have mixed2 : ∀ x : Int, 0 ≤ x % 2147483579 ∧ x % 2147483579 < 2147483579 := fun x => ⟨Int.emod_nonneg _ (by decide), Int.emod_lt_of_pos _ (by decide)⟩
    have m1 : ∀ x : Int, mulD (.int (x % 2147483579)) (.int (x % 2147483579)) = some (.int ((x % 2147483579) * (x % 2147483579))) := fun x => mulc _ _ (by have := mixed2 x; omega)
    have m2' : ∀ x : Int, mulD (.int (x % 2147483549)) (.int (x % 2147483549)) = some (.int ((x % 2147483549) * (x % 2147483549))) := fun x => mulc _ _ (by have := mixed x; omega)
    have k1 : ∀ x : Int, mulD (.int 81017) (.int x) = some (.int (81017 * x)) := fun x => mulc _ _ (by decide)
    have k2 : ∀ x : Int, mulD (.int 7400017) (.int x) = some (.int (7400017 * x)) := fun x => mulc _ _ (by decide)
    have k3 : ∀ x : Int, mulD (.int 611) (.int x) = some (.int (611 * x)) := fun x => mulc _ _ (by decide)
    unfold m__law_draw mFn b__law_draw
    generalize mIf (mtE (m2 neD (mFg 0 .c) (mLst maNil)) asBool) (m2 ixD (mFg 0 .c) (m2 modD (mCa DL.intD (maCons (mVar 2) maNil)) (mCa lenD (maCons (mFg 0 .c) maNil)))) (mC (.int 31013)) = C at hcell ⊢
    by_cases hb : 1000000000000000000 ≤ c ∧ spot < cells.length
    · refine ⟨.int (c % n), ⟨cells, spot + 1, c / n, count + 1⟩, ?_, last _⟩
      simp [sSeq, sFd, mFg, fdGet, m2, mC, Res.bind, opt, addD, eS, fdSet, sIf, mtE, tSt, cmpD, asBool, sSet, mCa, maCons, maNil, DL.intD, mVar, md, fd, hn, h2, sRet, hl, sNx, mtAnd, hl2, hp, hb, hcell]
    · have fin : ∀ x : Int, ∃ a φ', sRet (m2 modD (mCa DL.intD (maCons (m2 fdivD (m2 modD (mCa DL.intD (maCons (m2 addD (m2 mulD (mVar 4) (mVar 4)) (m2 mulD (mC (.int 611)) (mVar 4))) maNil)) (mC (.int 2147483543))) (mC (.int 16))) maNil)) (mVar 1))
          [.fd, .dat (.int n), .dat (.int spot), .dat (.int c), .dat (.int (x % 2147483549)), .un] ⟨cells, spot + 1, left, count + 1⟩ = .ok (.rt a) φ' ∧ ∃ k : Int, a = .int k ∧ 0 ≤ k ∧ k < n := by
        intro x
        refine ⟨.int (((x % 2147483549) * (x % 2147483549) + 611 * (x % 2147483549)) % 2147483543 / 16 % n), ⟨cells, spot + 1, left, count + 1⟩, ?_, last _⟩
        simp [m2, mC, Res.bind, opt, addD, eS, mCa, maCons, maNil, DL.intD, mVar, md, fd, hn, h2, sRet, m2', k3]
      obtain ⟨a, φ', ea, pa⟩ := fin (((c % 1000000829 + 81017 * (count + 1) + 503) % 2147483579) * ((c % 1000000829 + 81017 * (count + 1) + 503) % 2147483579) + 7400017 * (count + 1) + 509)
      refine ⟨a, φ', ?_, pa⟩
      have hb2 : 1000000000000000000 ≤ c → ¬ spot < cells.length := fun h g => hb ⟨h, g⟩
      generalize sRet (m2 modD (mCa DL.intD (maCons (m2 fdivD (m2 modD (mCa DL.intD (maCons (m2 addD (m2 mulD (mVar 4) (mVar 4)) (m2 mulD (mC (.int 611)) (mVar 4))) maNil)) (mC (.int 2147483543))) (mC (.int 16))) maNil)) (mVar 1)) = R at ea ⊢
      by_cases hc1 : 1000000000000000000 ≤ c
      · simp [sSeq, sFd, mFg, fdGet, m2, mC, Res.bind, opt, addD, eS, fdSet, sIf, mtE, tSt, cmpD, asBool, sSet, mCa, maCons, maNil, DL.intD, mVar, md, fd, hn, h2, sRet, hl, sNx, mtAnd, hl2, hp, hcell, hc1, hb2 hc1, m1, k1, k2, ea]
      · simp [sSeq, sFd, mFg, fdGet, m2, mC, Res.bind, opt, addD, eS, fdSet, sIf, mtE, tSt, cmpD, asBool, sSet, mCa, maCons, maNil, DL.intD, mVar, md, fd, hn, h2, sRet, hl, sNx, mtAnd, hl2, hp, hcell, hc1, m1, k1, k2, ea]
end K31

set_option maxHeartbeats 1000000
namespace K31
open PySem PySem.Spec PyProof.Rows L2 DL
local macro_rules
  | `(tactic| walk_at "go") => `(tactic| (repeat' (first
    | with_reducible first
      | refine ws_seq ?_ | refine ws_set ?_ | refine ws_ret ?_ | refine ws_if ?_ | refine ws_nx ?_ | refine ws_par ?_ | refine ws_unp ?_
      | refine we_var rfl ?_ | refine we_c ?_ | refine we_2 ?_ | refine we_1 ?_ | refine we_isi ?_
      | refine wt_e ?_ | refine wt_not ?_ | refine wt_and ?_ | refine wt_or ?_ | refine we_if ?_ | refine we_not ?_ | refine we_and ?_ | refine we_or ?_
      | refine wa_nil ?_ | refine wa_cons ?_ | refine we_tup ?_ | refine we_lst ?_ | refine we_ca ?_ | refine wo_none ?_ | refine wo_some ?_ | refine we_sl ?_
      | refine wg_nil ?_ | refine wg_d ?_ | refine wg_f rfl ?_ | refine we_call ?_
    | refine And.intro (Nat.le_of_ble_eq_true rfl) ?_
    | (refine And.intro (fun hb => ?_) (fun hb => ?_) <;> try (exact absurd hb (by decide)))
    | refine Exists.intro _ (And.intro rfl ?_))))
theorem draw' {n : Int} {P : Dt → Prop} (h1 : 1 ≤ n) (h2 : n < 1073741824) (k : ∀ k : Int, 0 ≤ k → k < n → P (.int k)) : Can (m__law_draw [.fd, .dat (.int n)]) P :=
  (draw n h1 h2).mono fun d hd => by
    obtain ⟨i, rfl, a, b⟩ := hd
    exact k i a b
theorem any_in (xs : List Dt) (h : 0 < xs.length) (h2 : xs.length < 1073741824) : Can (m__law_any [.fd, .dat (.list xs)]) fun d => d ∈ xs := by
  refine can_fn ?_
  unfold b__law_any
  walk_at "go"
  refine draw' (by omega) (by omega) fun k h0 h1 => ?_
  obtain ⟨x, hx, e⟩ := ixL h0 h1
  exact ⟨x, e, hx⟩
def sl : List Dt := [.none, .bool true, .bool false, .int 0, .int 1, .int 2, .int (-1), .int (10 ^ 59), .str "", .str "a", .str "r", .str "w", .str "open", .str "none", .str "marked", .str "stay", .str "ended",
  .str "moment", .str "own", .str "stays", .str "joins", .str "run", .str "few", .tuple [], .list [], .tuple [.str "ended"], .list [.str "ended"], .tuple [.str "moment"],
  .tuple [.str "own"], .list [.str "own"], .tuple [.str "own", .str "own"], .tuple [.str "deaf"], .tuple [.str "open", .str "open"], .tuple [.str "open"], .tuple [.str "open", .str "w"], .tuple [.bool true],
  .tuple [.str "open", .str "open", .str "open"], .list [.str "open", .str "open"], .tuple [.str "ended", .tuple []], .tuple [.int 0, .str "copy", .int (-1)], .tuple [.tuple [.int 0, .str "copy", .int (-1)]],
  .tuple [.str "moment", .bool false, .bool false, .bool false, .bool false, .bool false], .tuple [.str "moment", .bool false, .bool true, .bool false, .bool false], .tuple [.int 1, .int 0],
  .tuple [.str "moment", .bool true, .bool true, .bool true, .bool true, .bool true], .tuple [.str "moment", .bool true, .bool false, .bool false, .bool false, .bool false], .tuple [.tuple []],
  .str "abcdefghi", .str "A", .str "a b", .str "None", .tuple [.str "a", .tuple [.str "open", .str "open"]]]
theorem strange_in : Can (m__law_strange [.fd]) fun d => d ∈ sl := by
  refine can_fn ?_
  unfold b__law_strange
  walk_at "go"
  exact (any_in sl (by decide) (by decide)).mono fun _ h => h
end K31

set_option maxHeartbeats 1000000
namespace K31
open PySem PySem.Spec PyProof.Rows L2 DL
def outD : Res Dt → Dt
  | .ok d _ => d
  | _ => .none
def fz : Fd := ⟨[], 0, 0, 0⟩
def mo (a b c d e : Bool) : Dt := .tuple [.str "moment", .bool a, .bool b, .bool c, .bool d, .bool e]
def bits (k : Nat) : Dt := mo (k / 16 % 2 == 1) (k / 8 % 2 == 1) (k / 4 % 2 == 1) (k / 2 % 2 == 1) (k % 2 == 1)
def moms : List Dt := (List.range 32).map bits
def okB (w s o t j : Bool) : Bool := (w || !o) && (s || !(w || t || j))
def isF : Dt → Bool
  | .tuple [.str x] => x == "ended"
  | .tuple [.str m, .bool w, .bool s, .bool o, .bool t, .bool j] => m == "moment" && okB w s o t j
  | _ => false
def fates : List Dt := .tuple [.str "ended"] :: moms.filter isF
set_option maxHeartbeats 4000000 in
theorem moments_eq (φ : Fd) : m__law_moments [] φ = .ok (.list moms) φ := by rfl
set_option maxHeartbeats 4000000 in
theorem by_form_eq (φ : Fd) : m__law_by_form [] φ = .ok (.list fates) φ := by rfl
def shownL : List Dt := fates.map fun d => .str d.shown
end K31

set_option maxHeartbeats 1000000
namespace K31
open PySem PySem.Spec PyProof.Rows L2 DL
theorem wt_isi {T : String} {d : Dt} {b : Bool} {P : Bool → Prop} (e : isiD T d = b) (h : P b) : ∃ z, truth (.bool (isiD T d)) = some z ∧ P z := ⟨b, by rw [e]; rfl, h⟩
theorem i_tuple_none  : isiD "tuple" .none = false := by simp [isiD, tyN]
theorem i_tuple_bool (x : Bool) : isiD "tuple" (.bool x) = false := by simp [isiD, tyN]
theorem i_tuple_int (x : Int) : isiD "tuple" (.int x) = false := by simp [isiD, tyN]
theorem i_tuple_str (x : Str) : isiD "tuple" (.str x) = false := by simp [isiD, tyN]
theorem i_tuple_list (x : List Dt) : isiD "tuple" (.list x) = false := by simp [isiD, tyN]
theorem i_tuple_tuple (x : List Dt) : isiD "tuple" (.tuple x) = true := by simp [isiD, tyN]
theorem i_bool_none  : isiD "bool" .none = false := by simp [isiD, tyN]
theorem i_bool_bool (x : Bool) : isiD "bool" (.bool x) = true := by simp [isiD, tyN]
theorem i_bool_int (x : Int) : isiD "bool" (.int x) = false := by simp [isiD, tyN]
theorem i_bool_str (x : Str) : isiD "bool" (.str x) = false := by simp [isiD, tyN]
theorem i_bool_list (x : List Dt) : isiD "bool" (.list x) = false := by simp [isiD, tyN]
theorem i_bool_tuple (x : List Dt) : isiD "bool" (.tuple x) = false := by simp [isiD, tyN]
theorem i_str_none  : isiD "str" .none = false := by simp [isiD, tyN]
theorem i_str_bool (x : Bool) : isiD "str" (.bool x) = false := by simp [isiD, tyN]
theorem i_str_int (x : Int) : isiD "str" (.int x) = false := by simp [isiD, tyN]
theorem i_str_str (x : Str) : isiD "str" (.str x) = true := by simp [isiD, tyN]
theorem i_str_list (x : List Dt) : isiD "str" (.list x) = false := by simp [isiD, tyN]
theorem i_str_tuple (x : List Dt) : isiD "str" (.tuple x) = false := by simp [isiD, tyN]
theorem i_int_none  : isiD "int" .none = false := by simp [isiD, tyN]
theorem i_int_bool (x : Bool) : isiD "int" (.bool x) = true := by simp [isiD, tyN]
theorem i_int_int (x : Int) : isiD "int" (.int x) = true := by simp [isiD, tyN]
theorem i_int_str (x : Str) : isiD "int" (.str x) = false := by simp [isiD, tyN]
theorem i_int_list (x : List Dt) : isiD "int" (.list x) = false := by simp [isiD, tyN]
theorem i_int_tuple (x : List Dt) : isiD "int" (.tuple x) = false := by simp [isiD, tyN]
local macro_rules
  | `(tactic| walk_at "go") => `(tactic| (repeat' (first
    | with_reducible first
      | refine ws_seq ?_ | refine ws_set ?_ | refine ws_ret ?_ | refine ws_if ?_ | refine ws_nx ?_ | refine ws_par ?_ | refine ws_unp ?_
      | refine we_var rfl ?_ | refine we_c ?_ | refine we_2 ?_ | refine we_1 ?_ | refine we_isi ?_
      | refine wt_e ?_ | refine wt_not ?_ | refine wt_and ?_ | refine wt_or ?_ | refine we_if ?_ | refine we_not ?_ | refine we_and ?_ | refine we_or ?_
      | refine wa_nil ?_ | refine wa_cons ?_ | refine we_tup ?_ | refine we_lst ?_ | refine we_ca ?_ | refine wo_none ?_ | refine wo_some ?_ | refine we_sl ?_
      | refine wg_nil ?_ | refine wg_d ?_ | refine wg_f rfl ?_ | refine we_call ?_
    | refine wt_isi (by with_reducible first | exact i_tuple_none | exact i_tuple_bool _ | exact i_tuple_int _ | exact i_tuple_str _ | exact i_tuple_list _ | exact i_tuple_tuple _ | exact i_bool_none | exact i_bool_bool _ | exact i_bool_int _ | exact i_bool_str _ | exact i_bool_list _ | exact i_bool_tuple _ | exact i_str_none | exact i_str_bool _ | exact i_str_int _ | exact i_str_str _ | exact i_str_list _ | exact i_str_tuple _ | exact i_int_none | exact i_int_bool _ | exact i_int_int _ | exact i_int_str _ | exact i_int_list _ | exact i_int_tuple _) ?_
    | refine And.intro (Nat.le_of_ble_eq_true rfl) ?_
    | (refine And.intro (fun hb => ?_) (fun hb => ?_) <;> try (first | exact absurd hb (by decide) | exact Bool.noConfusion (show false = true from hb) | exact Bool.noConfusion (show true = false from hb)))
    | refine Exists.intro _ (And.intro rfl ?_))))
abbrev G (t : Nat) (d : Dt) : Prop := gd (10 ^ 59 + t) (64 + 2 * t) (6 + t) d = true
theorem g_mono {t : Nat} (ht : t ≤ 2) {d : Dt} (h : G t d) : G 2 d := gd_mono (by omega) (by omega) (by omega) h
theorem g_repr {d : Dt} (h : G 2 d) (hd : PyData.depth d ≤ 5) : d.showable = true ∧ SeqAt.shaped d = true ∧ d.shown.length ≤ sizeLine := by
  refine ⟨gd_showable (by decide +kernel) h, gd_shaped h hd (by decide), ?_⟩
  have h1 := gd_len (w := 70) (by decide) (by decide) (fun i hi => Nat.le_trans (sh_int_len (k := 60) (by decide) (Nat.lt_of_le_of_lt hi (by decide +kernel))) (by decide)) 5 d h hd
  have h2 : shB 70 8 5 ≤ sizeLine := by decide +kernel
  exact Nat.le_trans h1 h2
theorem reprG {d : Dt} (h : G 2 d) (hd : PyData.depth d ≤ 5) : reprD [d] = some (.str d.shown) := if_pos (g_repr h hd)
theorem shaped_str {x : Str} (h : okS x = true) : SeqAt.shaped (.str x) = true := by
  unfold SeqAt.shaped
  rw [show PyData.canLay0 (.str x) = true from okS_strOk h, Bool.true_and]
  rfl
theorem neS {x : Str} (h : okS x = true) : neD (.str x) (.str "moment") = some (.bool (!(x == "moment"))) := if_pos ⟨shaped_str h, by decide +kernel⟩
theorem eqE {x : Str} (h : okS x = true) : eqD (.tuple [.str x]) (.tuple [.str "ended"]) = some (.bool (x == "ended")) := by
  have h1 : PyData.canLay0 (.tuple [.str x]) = true := by
    show (PyData.canLay0 (.str x) && true) = true
    rw [show PyData.canLay0 (.str x) = true from okS_strOk h, Bool.and_true]
  have h2 : SeqAt.shaped (.tuple [.str x]) = true := by
    unfold SeqAt.shaped
    rw [h1, Bool.true_and]
    rfl
  have h3 : eqD (.tuple [.str x]) (.tuple [.str "ended"]) = some (.bool ((x == "ended") && true)) := if_pos ⟨h2, by decide +kernel⟩
  rw [h3, Bool.and_true]
theorem bools_of : ∀ {ys : List Dt}, ys.all (isiD "bool") = true → ∃ bs : List Bool, ys = bs.map .bool
  | [], _ => ⟨[], rfl⟩
  | y :: r, h => by
    rw [List.all_cons, Bool.and_eq_true] at h
    obtain ⟨bs, rfl⟩ := bools_of h.2
    cases y with
    | bool b => exact ⟨b :: bs, rfl⟩
    | _ => exact absurd h.1 (by simp [isiD, tyN])
theorem fate_other {d : Dt} (hp : plain d = true) (h : ∀ xs, d ≠ .tuple xs) : Can (m_is_fate [.dat d]) fun r => r = .bool false := by
  refine can_fn ?_
  unfold b_is_fate
  cases d with
  | tuple xs => exact absurd rfl (h xs)
  | dict _ => cases hp
  | _ =>
    walk_at "go"
    all_goals rfl
theorem fate_len {xs : List Dt} (h1 : xs.length ≠ 1) (h6 : xs.length ≠ 6) : Can (m_is_fate [.dat (.tuple xs)]) fun r => r = .bool false := by
  refine can_fn ?_
  unfold b_is_fate
  refine ws_seq (ws_if ?_)
  have hn : ninD (.int (xs.length : Int)) (.tuple [.int 1, .int 6]) = some (.bool true) := by
    show some (PyData.bool (!(((1 : Int) == (xs.length : Int)) || (((6 : Int) == (xs.length : Int)) || false)))) = _
    have e1 : ((1 : Int) == (xs.length : Int)) = false := by simp; omega
    have e2 : ((6 : Int) == (xs.length : Int)) = false := by simp; omega
    rw [e1, e2]
    rfl
  refine wt_or (wt_not (wt_e (we_isi (we_var rfl (wt_isi (i_tuple_tuple _) ⟨fun hb => absurd hb (by decide), fun _ => ?_⟩)))))
  refine wt_or (wt_e (we_2 (we_ca (wa_cons (we_var rfl (wa_nil ⟨_, rfl, we_tup (wa_cons (we_c (wa_cons (we_c (wa_nil ⟨by decide, _, hn, _, rfl, fun _ => ⟨fun _ => ?_, fun hb => absurd hb (by decide)⟩, fun hb => absurd hb (by decide)⟩)))))⟩))))))
  walk_at "go"
  rfl
theorem fate_one {a : Dt} (h : plain a = true) : Can (m_is_fate [.dat (.tuple [a])]) fun r => r = .bool (isF (.tuple [a])) := by
  refine can_fn ?_
  unfold b_is_fate
  cases a with
  | str x =>
    walk_at "go"
    exact ⟨_, eqE h, rfl⟩
  | dict _ => cases h
  | _ =>
    walk_at "go"
    all_goals rfl
theorem boolsOf_map (p : Dt → Bool) : ∀ ys : List Dt, boolsOf (ys.map fun x => .bool (p x)) = some (ys.map p)
  | [] => rfl
  | y :: r => by
    show (boolsOf (r.map fun x => .bool (p x))).map (p y :: ·) = _
    rw [boolsOf_map p r]
    rfl
theorem allD_map (p : Dt → Bool) (ys : List Dt) : allD [.list (ys.map fun x => .bool (p x))] = some (.bool (ys.all p)) := by
  show (boolsOf (ys.map fun x => .bool (p x))).map (fun bs => PyData.bool (bs.all id)) = _
  rw [boolsOf_map]
  show some (PyData.bool ((ys.map p).all id)) = _
  rw [List.all_map]
  rfl
theorem fate_six {a b c d e f : Dt} (h : plain a = true) : Can (m_is_fate [.dat (.tuple [a, b, c, d, e, f])]) fun r => r = .bool (isF (.tuple [a, b, c, d, e, f])) := by
  refine can_fn ?_
  unfold b_is_fate
  cases a with
  | str m =>
    walk_at "go"
    refine ⟨_, neS h, _, rfl, fun hb => ⟨fun _ => ?_, fun hb => absurd hb (by decide)⟩, fun hb => ?_⟩
    · walk_at "go"
      have hm : (m == "moment") = false := by simpa using hb
      have : isF (.tuple [.str m, b, c, d, e, f]) = false := by
        unfold isF
        split
        · rename_i heq; cases heq
        · rename_i heq
          cases heq
          rw [hm]
          rfl
        · rfl
      rw [this]
    · have hm : (m == "moment") = true := by simpa using hb
      refine wt_not (wt_e (we_ca (wa_cons (we_lc (p := fun _ => true) (q := fun x => .bool (isiD "bool" x)) ?_))))
      refine wi_v (we_sl (we_var rfl (wo_some (we_c ⟨_, rfl, wo_none ⟨_, rfl, _, rfl, Nat.le_of_ble_eq_true rfl, fun x _ => ⟨wt_yes rfl, fun _ => we_isi (we_var rfl rfl)⟩, ?_⟩⟩))))
      refine wa_nil ⟨_, allD_map (isiD "bool") [b, c, d, e, f], ?_⟩
      by_cases hall : [b, c, d, e, f].all (isiD "bool") = true
      · rw [hall]
        obtain ⟨bs, hbs⟩ := bools_of hall
        match bs, hbs with
        | [w, s, o, t, j], hbs =>
          cases hbs
          have e1 : isF (.tuple [.str m, .bool w, .bool s, .bool o, .bool t, .bool j]) = okB w s o t j := by
            show ((m == "moment") && okB w s o t j) = _
            rw [hm, Bool.true_and]
          rw [e1]
          cases w <;> cases s <;> cases o <;> cases t <;> cases j <;> (walk_at "go"; all_goals rfl)
        | [], hbs => cases hbs
        | [_], hbs => cases hbs
        | [_, _], hbs => cases hbs
        | [_, _, _], hbs => cases hbs
        | [_, _, _, _], hbs => cases hbs
        | _ :: _ :: _ :: _ :: _ :: _ :: _, hbs => cases hbs
      · have h0 : [b, c, d, e, f].all (isiD "bool") = false := by simpa using hall
        rw [h0]
        have : isF (.tuple [.str m, b, c, d, e, f]) = false := by
          unfold isF
          split
          · rename_i heq; cases heq
          · rename_i heq
            cases heq
            exact absurd rfl hall
          · rfl
        rw [this]
        walk_at "go"
        all_goals rfl
  | dict _ => cases h
  | _ =>
    walk_at "go"
    all_goals rfl
theorem fate_is {d : Dt} (h : plain d = true) : Can (m_is_fate [.dat d]) fun r => r = .bool (isF d) := by
  have other : ∀ {d : Dt}, (∀ x, d ≠ .tuple [.str x]) → (∀ a b c d' e f, d ≠ .tuple [a, b, c, d', e, f]) → isF d = false := by
    intro d h1 h2
    unfold isF
    split
    · exact absurd rfl (h1 _)
    · exact absurd rfl (h2 _ _ _ _ _ _)
    · rfl
  by_cases ht : ∀ xs, d ≠ .tuple xs
  · rw [other (fun x => ht _) (fun _ _ _ _ _ _ => ht _)]
    exact fate_other h ht
  · obtain ⟨xs, rfl⟩ : ∃ xs, d = .tuple xs := by
      cases d with
      | tuple xs => exact ⟨xs, rfl⟩
      | _ => exact absurd (fun xs => by simp) ht
    match xs, h with
    | [a], h => exact fate_one (plainAll_mem h a List.mem_cons_self)
    | [a, b, c, d, e, f], h => exact fate_six (plainAll_mem h a List.mem_cons_self)
    | [], _ => rw [other (by simp) (by simp)]; exact fate_len (by simp) (by simp)
    | [a, b], _ => rw [other (by simp) (by simp)]; exact fate_len (by simp) (by simp)
    | [a, b, c], _ => rw [other (by simp) (by simp)]; exact fate_len (by simp) (by simp)
    | [a, b, c, d], _ => rw [other (by simp) (by simp)]; exact fate_len (by simp) (by simp)
    | [a, b, c, d, e], _ => rw [other (by simp) (by simp)]; exact fate_len (by simp) (by simp)
    | a :: b :: c :: d :: e :: f :: g :: r, _ =>
      rw [other (by simp) (by simp)]
      exact fate_len (by simp) (by simp)
end K31

set_option maxHeartbeats 1000000
namespace K31
open PySem PySem.Spec PyProof.Rows L2 DL
local macro_rules
  | `(tactic| walk_at "go") => `(tactic| (repeat' (first
    | with_reducible first
      | refine ws_seq ?_ | refine ws_set ?_ | refine ws_ret ?_ | refine ws_if ?_ | refine ws_nx ?_ | refine ws_par ?_ | refine ws_unp ?_
      | refine we_var rfl ?_ | refine we_c ?_ | refine we_2 ?_ | refine we_1 ?_ | refine we_isi ?_
      | refine wt_e ?_ | refine wt_not ?_ | refine wt_and ?_ | refine wt_or ?_ | refine we_if ?_ | refine we_not ?_ | refine we_and ?_ | refine we_or ?_
      | refine wa_nil ?_ | refine wa_cons ?_ | refine we_tup ?_ | refine we_lst ?_ | refine we_ca ?_ | refine wo_none ?_ | refine wo_some ?_ | refine we_sl ?_
      | refine wg_nil ?_ | refine wg_d ?_ | refine wg_f rfl ?_ | refine we_call ?_
    | refine wt_isi (by with_reducible first | exact i_tuple_none | exact i_tuple_bool _ | exact i_tuple_int _ | exact i_tuple_str _ | exact i_tuple_list _ | exact i_tuple_tuple _ | exact i_bool_none | exact i_bool_bool _ | exact i_bool_int _ | exact i_bool_str _ | exact i_bool_list _ | exact i_bool_tuple _ | exact i_str_none | exact i_str_bool _ | exact i_str_int _ | exact i_str_str _ | exact i_str_list _ | exact i_str_tuple _ | exact i_int_none | exact i_int_bool _ | exact i_int_int _ | exact i_int_str _ | exact i_int_list _ | exact i_int_tuple _) ?_
    | refine And.intro (Nat.le_of_ble_eq_true rfl) ?_
    | (refine And.intro (fun hb => ?_) (fun hb => ?_) <;> try (first | exact absurd hb (by decide) | exact Bool.noConfusion (show false = true from hb) | exact Bool.noConfusion (show true = false from hb)))
    | refine Exists.intro _ (And.intro rfl ?_))))

theorem eqStr (x : Str) (h : PyData.strOk x = true) : eqD (.str x) (.str x) = some (.bool true) := by
  have h2 : SeqAt.shaped (.str x) = true := by
    unfold SeqAt.shaped
    rw [show PyData.canLay0 (.str x) = true from h, Bool.true_and]
    rfl
  have h3 : eqD (.str x) (.str x) = some (.bool (x == x)) := if_pos ⟨h2, h2⟩
  rw [h3, beq_self_eq_true]
theorem strOk_of {x : Str} (h : ∀ c ∈ cl x, c < 0x110000) : PyData.strOk x = true := by
  unfold PyData.strOk
  rw [← Array.all_toList, List.all_eq_true]
  exact fun c hc => decide_eq_true (h c hc)
theorem jn_lt {n : Nat} : ∀ {xs : List (List Nat)} {e : List Nat}, 44 < n → (∀ x ∈ xs, ∀ c ∈ x, c < n) → (∀ c ∈ e, c < n) → ∀ c ∈ jn xs e, c < n
  | [], e, _, _, he, c, hc => he c hc
  | [x], e, _, hx, he, c, hc => by
    rcases List.mem_append.mp hc with h | h
    · exact hx x List.mem_cons_self c h
    · exact he c h
  | x :: y :: r, e, hn, hx, he, c, hc => by
    rcases List.mem_append.mp hc with h | h
    · exact hx x List.mem_cons_self c h
    · rcases List.mem_cons.mp h with h | h
      · omega
      · rcases List.mem_cons.mp h with h | h
        · omega
        · exact jn_lt (xs := y :: r) hn (fun z hz => hx z (List.mem_cons_of_mem _ hz)) he c h
mutual
theorem shown_lt : ∀ {d : Dt}, plain d = true → ∀ c ∈ sh d, c < 0x110000
  | .none, _ => by rw [sh_none]; decide
  | .bool true, _ => by rw [sh_true]; decide
  | .bool false, _ => by rw [sh_false]; decide
  | .int i, _ => fun c hc => by
    by_cases h : c ≠ 45 ∧ (c < 48 ∨ 57 < c)
    · exact absurd hc (shown_int_free' h i)
    · omega
  | .str x, h => fun c hc => by
    rw [show sh (.str x) = _ from okS_repr h] at hc
    rcases List.mem_cons.mp hc with h1 | h1
    · omega
    · rcases List.mem_append.mp h1 with h2 | h2
      · have := okc_lt (List.all_eq_true.mp h c h2)
        omega
      · have := List.mem_singleton.mp h2
        omega
  | .list xs, h => fun c hc => by
    rw [sh_list] at hc
    rcases List.mem_cons.mp hc with h1 | h1
    · omega
    · exact jn_lt (by decide) (shownAll_lt h) (by decide) c h1
  | .tuple xs, h => fun c hc => by
    rw [sh_tuple] at hc
    rcases List.mem_cons.mp hc with h1 | h1
    · omega
    · exact jn_lt (by decide) (shownAll_lt h) (by cases xs.length == 1 <;> decide) c h1
  | .dict _, h => by cases h
theorem shownAll_lt : ∀ {xs : List Dt}, plainAll xs = true → ∀ x ∈ xs.map sh, ∀ c ∈ x, c < 0x110000
  | [], _ => fun x h => (List.not_mem_nil h).elim
  | y :: r, h => fun x hx => by
    have h' : (plain y && plainAll r) = true := h
    rw [Bool.and_eq_true] at h'
    rcases List.mem_cons.mp hx with rfl | hx
    · exact shown_lt h'.1
    · exact shownAll_lt h'.2 x hx
end
theorem shown_ok {d : Dt} (h : plain d = true) : PyData.strOk d.shown = true := strOk_of (shown_lt h)
theorem right_is {d : Dt} (h : G 2 d) (hd : PyData.depth d ≤ 5) : Can (m__law_is_right [.dat d, .dat (.bool (isF d))]) fun r => r = .bool true := by
  refine can_fn ?_
  unfold b__law_is_right
  have hr := reprG h hd
  have he := eqStr d.shown (shown_ok (gd_plain h))
  refine ws_seq (ws_set (we_ca (wa_cons (we_var rfl (wa_nil ⟨_, hr, ?_⟩)))))
  refine ws_seq (ws_set (we_lst ?_))
  refine wa_cons (we_call (wg_d (we_var rfl (wg_nil ((fate_is (gd_plain h)).mono ?_)))))
  rintro r rfl
  refine wa_cons (we_call (wg_d (we_var rfl (wg_nil ((fate_is (gd_plain h)).mono ?_)))))
  rintro r rfl
  refine wa_cons (we_2 (we_ca (wa_cons (we_var rfl (wa_nil ⟨_, hr, we_var rfl ⟨_, he, ?_⟩⟩)))))
  cases isF d <;> (walk_at "go"; exact ⟨_, eqStr _ (by decide +kernel), rfl⟩)
theorem mo_in (a b c d e : Bool) : mo a b c d e ∈ moms := by
  refine List.mem_map.mpr ⟨16 * a.toNat + 8 * b.toNat + 4 * c.toNat + 2 * d.toNat + e.toNat, ?_, ?_⟩
  · rw [List.mem_range]
    cases a <;> cases b <;> cases c <;> cases d <;> cases e <;> decide
  · cases a <;> cases b <;> cases c <;> cases d <;> cases e <;> rfl
theorem fate_in {d : Dt} (h : isF d = true) : d ∈ fates := by
  unfold isF at h
  split at h
  · rw [eq_of_beq h]
    exact List.mem_cons_self
  · rename_i m w s o t j
    rw [Bool.and_eq_true] at h
    have hm := eq_of_beq h.1
    subst hm
    refine List.mem_cons_of_mem _ (List.mem_filter.mpr ⟨mo_in w s o t j, ?_⟩)
    show (("moment" : Str) == "moment" && okB w s o t j) = true
    rw [h.2]
    rfl
  · cases h
theorem in_fate {d : Dt} (h : d ∈ fates) : isF d = true ∧ ∃ es, d = .tuple es ∧ es ≠ [] ∧ ∀ e ∈ es, flE e = true := by
  rcases List.mem_cons.mp h with rfl | h
  · refine ⟨by decide +kernel, _, rfl, by simp, ?_⟩
    intro e he
    rw [List.mem_singleton.mp he]
    decide +kernel
  · obtain ⟨h1, h2⟩ := List.mem_filter.mp h
    obtain ⟨k, _, rfl⟩ := List.mem_map.mp h1
    refine ⟨h2, _, rfl, by simp, ?_⟩
    intro e he
    rcases List.mem_cons.mp he with rfl | he
    · decide +kernel
    · simp only [List.mem_cons, List.not_mem_nil, or_false] at he
      rcases he with rfl | rfl | rfl | rfl | rfl <;> rfl
theorem shaped_shown {d : Dt} (h : plain d = true) : SeqAt.shaped (.str d.shown) = true := by
  unfold SeqAt.shaped
  rw [show PyData.canLay0 (.str d.shown) = true from shown_ok h, Bool.true_and]
  rfl
theorem memb {d : Dt} (h : plain d = true) : inD (.str d.shown) (.list shownL) = some (.bool (isF d)) := by
  have h1 : SeqAt.shaped (.list shownL) = true := by decide +kernel
  have h2 : inD (.str d.shown) (.list shownL) = some (.bool (shownL.any fun y => PyData.eqv y (.str d.shown))) := by
    show (if SeqAt.shaped (.str d.shown) = true ∧ SeqAt.shaped (.list shownL) = true then some (shownL.any fun y => PyData.eqv y (.str d.shown)) else none).map PyData.bool = _
    rw [if_pos ⟨shaped_shown h, h1⟩]
    rfl
  rw [h2]
  have h3 : (shownL.any fun y => PyData.eqv y (.str d.shown)) = isF d := by
    rw [Bool.eq_iff_iff, List.any_eq_true]
    constructor
    · rintro ⟨y, hy, e⟩
      obtain ⟨f, hf, rfl⟩ := List.mem_map.mp hy
      have e2 : f.shown = d.shown := eq_of_beq (show (f.shown == d.shown) = true from e)
      obtain ⟨i1, es, rfl, hn, hfl⟩ := in_fate hf
      rw [shown_inj h hfl hn e2.symm]
      exact i1
    · intro hi
      exact ⟨.str d.shown, List.mem_map.mpr ⟨d, fate_in hi, rfl⟩, beq_self_eq_true d.shown⟩
  rw [h3]
end K31

set_option maxHeartbeats 1000000
set_option pp.maxSteps 300
namespace K31
open PySem PySem.Spec PyProof.Rows L2 DL
theorem ws_ret_if {t : MT} {s r : MS} {ρ : Rho} {D : Fl → Prop} (hr : wS1 r ρ D) (h : wT1 t ρ fun b => b = true → wS1 s ρ fun fl => match fl with
    | .nx _ => False
    | x => D x) : wS1 (sSeq (sIf t s sNx) r) ρ D :=
  ws_seq (ws_if (h.mono fun b k => ⟨fun hb => (k hb).mono fun fl q => by cases fl <;> first | exact q.elim | exact q, fun _ => ws_nx hr⟩))
theorem wt_andT {t u : MT} {ρ : Rho} {P : Bool → Prop} (h : wT1 t ρ fun b => (b = true → wT1 u ρ P) ∧ (b = false → P false)) : wT1 (mtAnd t u) ρ P := wt_and h
local macro_rules
  | `(tactic| walk_at "go") => `(tactic| (repeat' (first
    | with_reducible first
      | refine ws_ret_if ?_ ?_ | refine ws_seq ?_ | refine ws_set ?_ | refine ws_ret ?_ | refine ws_if ?_ | refine ws_nx ?_ | refine ws_par ?_ | refine ws_unp ?_
      | refine we_var rfl ?_ | refine we_c ?_ | refine we_2 ?_ | refine we_1 ?_ | refine we_isi ?_
      | refine wt_e ?_ | refine wt_not ?_ | refine wt_andT ?_ | refine wt_or ?_ | refine we_if ?_ | refine we_not ?_ | refine we_and ?_ | refine we_or ?_
      | refine wa_nil ?_ | refine wa_cons ?_ | refine we_tup ?_ | refine we_lst ?_ | refine we_ca ?_ | refine wo_none ?_ | refine wo_some ?_ | refine we_sl ?_
      | refine wg_nil ?_ | refine wg_d ?_ | refine wg_f rfl ?_ | refine we_call ?_
    | refine draw' (by omega) (by omega) (fun k h0 h1 => ?_)
    | refine wt_isi (by with_reducible first | exact i_tuple_none | exact i_tuple_bool _ | exact i_tuple_int _ | exact i_tuple_str _ | exact i_tuple_list _ | exact i_tuple_tuple _ | exact i_bool_none | exact i_bool_bool _ | exact i_bool_int _ | exact i_bool_str _ | exact i_bool_list _ | exact i_bool_tuple _ | exact i_str_none | exact i_str_bool _ | exact i_str_int _ | exact i_str_str _ | exact i_str_list _ | exact i_str_tuple _ | exact i_int_none | exact i_int_bool _ | exact i_int_int _ | exact i_int_str _ | exact i_int_list _ | exact i_int_tuple _) ?_
    | refine And.intro (Nat.le_of_ble_eq_true rfl) ?_
    | (refine And.intro (fun hb => ?_) (fun hb => ?_) <;> try (first | exact absurd hb (by decide) | exact Bool.noConfusion (show false = true from hb) | exact Bool.noConfusion (show true = false from hb)))
    | (refine fun (hb : (_ : Bool) = _) => ?_ <;> try (first | exact absurd hb (by decide) | exact Bool.noConfusion (show false = true from hb) | exact Bool.noConfusion (show true = false from hb)))
    | refine Exists.intro _ (And.intro rfl ?_) | refine Exists.intro _ (Exists.intro _ (And.intro rfl ?_)))))
theorem g_up {t : Nat} {d : Dt} (h : G t d) : G (t + 1) d := gd_mono (by omega) (by omega) (by omega) h
abbrev GR (t k : Nat) (r : Dt) : Prop := G (t + 1) r ∧ PyData.depth r ≤ k + 2
theorem tupG {t k : Nat} {ys : List Dt} (h : ∀ y ∈ ys, G (t + 1) y ∧ PyData.depth y ≤ k + 1) (hl : ys.length ≤ 6 + (t + 1)) : GR t k (.tuple ys) :=
  ⟨gd_tup.mpr ⟨fun y hy => (h y hy).1, hl⟩, Nat.succ_le_succ (depthAll_le.mpr fun y hy => (h y hy).2)⟩
theorem lstG {t k : Nat} {ys : List Dt} (h : ∀ y ∈ ys, G (t + 1) y ∧ PyData.depth y ≤ k + 1) (hl : ys.length ≤ 6 + (t + 1)) : GR t k (.list ys) := tupG (ys := ys) h hl
theorem strange_ok {P : Dt → Prop} {t k : Nat} (h : ∀ d, (G 0 d ∧ PyData.depth d ≤ 2) → P d) : Can (m__law_strange [.fd]) P := strange_in.mono fun d hd => h d (by
  have h1 : sl.all (fun d => gd (10 ^ 59 + 0) (64 + 2 * 0) (6 + 0) d && decide (PyData.depth d ≤ 2)) = true := by decide +kernel
  have h2 := List.all_eq_true.mp h1 d hd
  rw [Bool.and_eq_true, decide_eq_true_eq] at h2
  exact h2)
theorem addT {xs ys : List Dt} {P : Dt → Prop} (h : xs.length + ys.length ≤ 100) (p : P (.tuple (xs ++ ys))) : ∃ z, addD (.tuple xs) (.tuple ys) = some z ∧ P z :=
  ⟨_, if_pos (Nat.le_trans h (by decide)), p⟩
theorem ne0 {xs : List Dt} (h : SeqAt.shaped (.tuple xs) = true) : neD (.tuple xs) (.tuple []) = some (.bool (!xs.isEmpty)) := by
  have h2 : neD (.tuple xs) (.tuple []) = some (.bool (!PyData.eqv (.tuple xs) (.tuple []))) := if_pos ⟨h, rfl⟩
  rw [h2]
  cases xs <;> rfl
theorem cut_lens {xs : List Dt} {k : Int} (h0 : 0 ≤ k) (s : Dt) : (cutL xs none (some k) ++ cutL xs (some (k + 1)) none).length ≤ xs.length ∧ (cutL xs none (some k) ++ [s] ++ cutL xs (some (k + 1)) none).length ≤ xs.length + 1 ∧
    (cutL xs none (some k) ++ [s] ++ cutL xs (some k) none).length ≤ xs.length + 1 ∧ (cutL xs none (some k) ++ cutL xs (some k) (some (k + 1)) ++ cutL xs (some k) none).length ≤ xs.length + 1 := by
  obtain ⟨j, rfl⟩ := Int.eq_ofNat_of_zero_le h0
  have h1 := cut_one (xs := xs) (k := j)
  have e : ((j : Int) + 1) = ((j + 1 : Nat) : Int) := by omega
  have e2 : (cutL xs (some ((j : Int) + 1)) none).length = xs.length - (j + 1) := by rw [e, cut_drop, List.length_drop]
  simp only [List.length_append, e2, cut_take, cut_drop, List.length_take, List.length_drop, List.length_cons, List.length_nil]
  omega
theorem bent_tup {n k t : Nat} {xs : List Dt} (ht : t ≤ 1) (hk : k ≤ 3) (h : G t (.tuple xs)) (hd : PyData.depth (.tuple xs) ≤ k)
    (ih : ∀ x ∈ xs, Can (m__law_bent n [.fd, .dat x]) fun r => G (t + 1) r ∧ PyData.depth r ≤ k + 1) : Can (m__law_bent (n + 1) [.fd, .dat (.tuple xs)]) (GR t k) := by
  obtain ⟨hx, hl⟩ := gd_tup.mp h
  have hx' : ∀ x ∈ xs, G (t + 1) x ∧ PyData.depth x ≤ k + 1 := fun x hm => ⟨g_up (hx x hm), by
    have := depthAll_le.mp (Nat.le_refl (PyData.depthAll xs)) x hm
    have h2 : PyData.depthAll xs + 1 ≤ k := hd
    omega⟩
  have hsh : SeqAt.shaped (.tuple xs) = true := gd_shaped h hd (by omega)
  have hc : ∀ lo hi, (cutL xs lo hi).length ≤ 8 := fun lo hi => Nat.le_trans cut_len (by omega)
  have hs1 : ∀ s : Dt, [s].length ≤ 8 := fun s => by simp
  have hT : ∀ {a b : List Dt}, a.length ≤ 8 → b.length ≤ 8 → a.length + b.length ≤ 100 := by omega
  have hT2 : ∀ {a b c : List Dt}, a.length ≤ 8 → b.length ≤ 8 → c.length ≤ 8 → (a ++ b).length + c.length ≤ 100 := fun {a b c} _ _ _ => by rw [List.length_append]; omega
  have mem : ∀ {lo hi x}, x ∈ cutL xs lo hi → G (t + 1) x ∧ PyData.depth x ≤ k + 1 := fun hx => hx' _ (cut_mem hx)
  have one : ∀ {s x : Dt}, G (t + 1) s ∧ PyData.depth s ≤ k + 1 → x ∈ [s] → G (t + 1) x ∧ PyData.depth x ≤ k + 1 := fun hs hx => by rw [List.mem_singleton.mp hx]; exact hs
  have m2m : ∀ {a b : List Dt} {P : Dt → Prop}, (∀ x ∈ a, P x) → (∀ x ∈ b, P x) → ∀ x ∈ a ++ b, P x := fun ha hb x hx => (List.mem_append.mp hx).elim (ha x) (hb x)
  have hk1 : 1 ≤ k := by
    have h2 : PyData.depthAll xs + 1 ≤ k := hd
    omega
  refine can_fn ?_
  refine ws_ret_if ?_ ?_
  · walk_at "go"
    refine strange_ok (k := k) (t := t) fun s hs => ?_
    have hs2 : G (t + 1) s ∧ PyData.depth s ≤ k + 1 := ⟨gd_mono (by omega) (by omega) (by omega) hs.1, by omega⟩
    walk_at "go"
    all_goals first
      | exact ⟨hs2.1, by omega⟩
      | exact lstG hx' (by omega)
      | exact tupG (fun x hx => hx' x (List.mem_reverse.mp hx)) (by rw [List.length_reverse]; omega)
      | (refine addT (hT (hc _ _) (hs1 _)) ?_
         walk_at "go"
         refine addT (hT2 (hc _ _) (hs1 _) (hc _ _)) ?_
         exact tupG (m2m (m2m (fun x => mem) (fun x => one hs2)) (fun x => mem)) (Nat.le_trans (cut_lens (by assumption) s).2.2.1 (by omega)))
      | (refine addT (hT (hc _ _) (hc _ _)) ?_
         exact tupG (m2m (fun x => mem) (fun x => mem)) (Nat.le_trans (cut_lens (by assumption) s).1 (by omega)))
      | (refine addT (hT (hc _ _) (hc _ _)) ?_
         walk_at "go"
         refine addT (hT2 (hc _ _) (hc _ _) (hc _ _)) ?_
         exact tupG (m2m (m2m (fun x => mem) (fun x => mem)) (fun x => mem)) (Nat.le_trans (cut_lens (by assumption) s).2.2.2 (by omega)))
  · walk_at "go"
    refine ⟨_, ne0 hsh, _, rfl, fun hb => ?_, fun _ => ?_⟩
    · have hpos : 0 < xs.length := by cases xs <;> simp_all
      walk_at "go"
      rename_i hd' j hj0 hj1
      obtain ⟨x, hxm, ex⟩ := at_in hj0 hj1
      refine ⟨x, ex, ?_⟩
      walk_at "go"
      refine (ih x hxm).mono fun r hr => ?_
      walk_at "go"
      refine addT (hT (hc _ _) (hs1 _)) ?_
      walk_at "go"
      refine addT (hT2 (hc _ _) (hs1 _) (hc _ _)) ?_
      exact tupG (m2m (m2m (fun x => mem) (fun x => one hr)) (fun x => mem)) (Nat.le_trans (cut_lens hj0 r).2.1 (by omega))
    · exact fun hb => absurd hb (by decide)
end K31

set_option maxHeartbeats 1000000
namespace K31
open PySem PySem.Spec PyProof.Rows L2 DL
local macro_rules
  | `(tactic| walk_at "go") => `(tactic| (repeat' (first
    | with_reducible first
      | refine ws_ret_if ?_ ?_ | refine ws_seq ?_ | refine ws_set ?_ | refine ws_ret ?_ | refine ws_if ?_ | refine ws_nx ?_ | refine ws_par ?_ | refine ws_unp ?_
      | refine we_var rfl ?_ | refine we_c ?_ | refine we_2 ?_ | refine we_1 ?_ | refine we_isi ?_
      | refine wt_e ?_ | refine wt_not ?_ | refine wt_andT ?_ | refine wt_or ?_ | refine we_if ?_ | refine we_not ?_ | refine we_and ?_ | refine we_or ?_
      | refine wa_nil ?_ | refine wa_cons ?_ | refine we_tup ?_ | refine we_lst ?_ | refine we_ca ?_ | refine wo_none ?_ | refine wo_some ?_ | refine we_sl ?_
      | refine wg_nil ?_ | refine wg_d ?_ | refine wg_f rfl ?_ | refine we_call ?_
    | refine draw' (by omega) (by omega) (fun k h0 h1 => ?_)
    | refine wt_isi (by with_reducible first | exact i_tuple_none | exact i_tuple_bool _ | exact i_tuple_int _ | exact i_tuple_str _ | exact i_tuple_list _ | exact i_tuple_tuple _ | exact i_bool_none | exact i_bool_bool _ | exact i_bool_int _ | exact i_bool_str _ | exact i_bool_list _ | exact i_bool_tuple _ | exact i_str_none | exact i_str_bool _ | exact i_str_int _ | exact i_str_str _ | exact i_str_list _ | exact i_str_tuple _ | exact i_int_none | exact i_int_bool _ | exact i_int_int _ | exact i_int_str _ | exact i_int_list _ | exact i_int_tuple _) ?_
    | refine And.intro (Nat.le_of_ble_eq_true rfl) ?_
    | (refine And.intro (fun hb => ?_) (fun hb => ?_) <;> try (first | exact absurd hb (by decide) | exact Bool.noConfusion (show false = true from hb) | exact Bool.noConfusion (show true = false from hb)))
    | (refine fun (hb : (_ : Bool) = _) => ?_ <;> try (first | exact absurd hb (by decide) | exact Bool.noConfusion (show false = true from hb) | exact Bool.noConfusion (show true = false from hb)))
    | refine Exists.intro _ (And.intro rfl ?_) | refine Exists.intro _ (Exists.intro _ (And.intro rfl ?_)))))

theorem cutS_ok {x : Str} {lo hi : Option Int} (h : okS x = true) : okS (cutS x lo hi) = true :=
  List.all_eq_true.mpr fun c hc => List.all_eq_true.mp h c (List.mem_of_mem_drop (List.mem_of_mem_take (show c ∈ (x.cps.toList.drop _).take _ from by simpa [cutS] using hc)))
theorem okS_app {x y : Str} (h1 : okS x = true) (h2 : okS y = true) : okS (x ++ y) = true :=
  List.all_eq_true.mpr fun c hc => by
    have hc' : c ∈ x.cps.toList ++ y.cps.toList := by
      have e : (x ++ y).cps.toList = x.cps.toList ++ y.cps.toList := by
        show (x.cps ++ y.cps).toList = _
        rw [Array.toList_append]
      rwa [← e]
    exact (List.mem_append.mp hc').elim (List.all_eq_true.mp h1 c) (List.all_eq_true.mp h2 c)
theorem cl_len (x : Str) : (cl x).length = x.length := Array.length_toList
theorem app_len (x y : Str) : (x ++ y).length = x.length + y.length := strLen_append x y
theorem cutS_lens {x : Str} {j d : Nat} : (cutS x none (some (j : Int))).length + (cutS x (some ((j : Int) + (d : Int))) none).length ≤ x.length := by
  have e1 : (cutS x none (some (j : Int))).length = min j x.length := by
    show (((cl x).drop _).take _).toArray.size = _
    rw [List.size_toArray, HT.sIx_none, HT.sIx_nat, List.drop_zero, Nat.sub_zero, List.length_take, cl_len]
    omega
  have e2 : (cutS x (some ((j : Int) + (d : Int))) none).length = x.length - min (j + d) x.length := by
    show (((cl x).drop _).take _).toArray.size = _
    rw [show ((j : Int) + (d : Int)) = ((j + d : Nat) : Int) by omega, List.size_toArray, HT.sIx_none, HT.sIx_nat, List.length_take, List.length_drop, cl_len]
    omega
  rw [e1, e2]
  omega
theorem addS {x y : Str} {P : Dt → Prop} (h : x.length + y.length ≤ 1000) (p : P (.str (x ++ y))) : ∃ z, addD (.str x) (.str y) = some z ∧ P z := ⟨_, if_pos (Nat.le_trans h (by decide)), p⟩
theorem slS {x : Str} {lo hi : Option Int} {P : Dt → Prop} (h : x.length ≤ 1000) (p : P (.str (cutS x lo hi))) : ∃ z, slD (.str x) lo hi = some z ∧ P z := ⟨_, if_pos (Nat.le_trans h (by decide)), p⟩
theorem lenS {x : Str} {P : Dt → Prop} (h : x.length ≤ 1000) (p : P (.int (x.length : Int))) : ∃ z, lenD [.str x] = some z ∧ P z := ⟨_, if_pos (Nat.le_trans h (by decide)), p⟩
theorem int_okS (i : Int) : okS (toString i : String) = true := List.all_eq_true.mpr fun c hc => by
  by_cases h : c ≠ 45 ∧ (c < 48 ∨ 57 < c)
  · exact absurd hc (int_text_free' c h i)
  · unfold okc
    simp only [Bool.and_eq_true, decide_eq_true_eq, bne_iff_ne]
    omega
theorem bent_flat {n k t : Nat} {d : Dt} (ht : t ≤ 1) (hk : k ≤ 3) (h : G t d) (hn : ∀ xs, d ≠ .tuple xs) : Can (m__law_bent (n + 1) [.fd, .dat d]) (GR t k) := by
  have hr : ∀ s : Dt, G 0 s ∧ PyData.depth s ≤ 2 → GR t k s := fun s hs => ⟨gd_mono (by omega) (by omega) (by omega) hs.1, by omega⟩
  have pick : ∀ {xs : List Dt} {j : Int} {P : Dt → Prop}, 0 ≤ j → j < xs.length → (∀ x ∈ xs, P x) → ∃ z, ixD (.list xs) (.int j) = some z ∧ P z := fun h0 h1 hp => by
    obtain ⟨x, hx, e⟩ := ixL h0 h1
    exact ⟨x, e, hp x hx⟩
  refine can_fn ?_
  cases d with
  | tuple xs => exact absurd rfl (hn xs)
  | dict _ => cases h
  | none =>
    walk_at "go"
    refine strange_ok (k := k) (t := t) fun s hs => ?_
    walk_at "go"
    exact hr s hs
  | list xs =>
    walk_at "go"
    refine strange_ok (k := k) (t := t) fun s hs => ?_
    walk_at "go"
    exact hr s hs
  | bool b =>
    walk_at "go"
    refine strange_ok (k := k) (t := t) fun s hs => ?_
    walk_at "go"
    · exact hr s hs
    · rename_i j h0 h1 _ hb
      have hb := of_decide_eq_true hb
      refine pick h0 (by simpa using hb) ?_
      intro y hy
      simp only [List.mem_cons, List.not_mem_nil, or_false] at hy
      rcases hy with rfl | rfl | rfl | rfl | rfl | rfl
      · exact ⟨rfl, Nat.zero_le _⟩
      · exact ⟨gd_int.mpr (by cases b <;> simp <;> omega), Nat.zero_le _⟩
      · exact ⟨rfl, Nat.zero_le _⟩
      · exact ⟨rfl, Nat.zero_le _⟩
      · exact ⟨rfl, Nat.zero_le _⟩
      · exact ⟨gd_int.mpr (by simp; omega), Nat.zero_le _⟩
  | int i =>
    have hi := gd_int.mp h
    walk_at "go"
    refine strange_ok (k := k) (t := t) fun s hs => ?_
    walk_at "go"
    · exact hr s hs
    · rename_i j h0 h1 _ _ hb
      have hb := of_decide_eq_true hb
      have hlog : i.natAbs.log2 < 1920 := by
        have := gd_showable (lb := 6 + t) (sb := 64 + 2 * t) (ib := 10 ^ 59 + t) (Nat.lt_of_le_of_lt (show 10 ^ 59 + t ≤ 10 ^ 59 + 1 by omega) (by decide +kernel)) h
        exact of_decide_eq_true (show decide (i.natAbs.log2 < 1920) = true from this)
      refine ⟨_, if_pos hlog, ?_⟩
      walk_at "go"
      refine pick h0 (by simpa using hb) ?_
      intro y hy
      simp only [List.mem_cons, List.not_mem_nil, or_false] at hy
      rcases hy with rfl | rfl | rfl | rfl | rfl
      · exact ⟨gd_int.mpr (by omega), Nat.zero_le _⟩
      · exact ⟨gd_int.mpr (by omega), Nat.zero_le _⟩
      · exact ⟨gd_int.mpr (by omega), Nat.zero_le _⟩
      · exact ⟨rfl, Nat.zero_le _⟩
      · refine ⟨gd_str.mpr ⟨int_okS i, ?_⟩, Nat.zero_le _⟩
        have h9 : i.natAbs < 10 ^ 60 := Nat.lt_of_le_of_lt hi (Nat.lt_of_le_of_lt (show 10 ^ 59 + t ≤ 10 ^ 59 + 1 by omega) (by decide +kernel))
        have := sh_int_len (k := 60) (by decide) h9
        exact Nat.le_trans (show (cl (toString i : String)).length ≤ 61 from this) (by omega)
  | str x =>
    have hx := gd_str.mp h
    rw [cl_len] at hx
    walk_at "go"
    refine strange_ok (k := k) (t := t) fun s hs => ?_
    walk_at "go"
    · exact hr s hs
    · rename_i j h0 h1 _ hb
      have hb := of_decide_eq_true hb
      refine lenS (by omega) ?_
      walk_at "go"
      rename_i a a0 a1
      refine slS (by omega) ?_
      walk_at "go"
      refine (any_in _ (by decide) (by decide)).mono fun y hy => ?_
      have hy' : ∃ z : Str, y = .str z ∧ okS z = true ∧ z.length ≤ 2 := by
        simp only [List.mem_cons, List.not_mem_nil, or_false] at hy
        rcases hy with rfl | rfl | rfl | rfl | rfl | rfl <;> exact ⟨_, rfl, by decide +kernel, by decide +kernel⟩
      obtain ⟨z, rfl, hz, hzl⟩ := hy'
      have hc : ∀ lo hi, (cutS x lo hi).length ≤ 66 := fun lo hi => Nat.le_trans (cutS_length x lo hi) (by omega)
      refine addS (by have := hc none (some a); omega) ?_
      walk_at "go"
      refine slS (by omega) ?_
      refine addS (by rw [app_len]; have := hc none (some a); have := hc (some (a + j / 3)) none; omega) ?_
      refine ⟨gd_str.mpr ⟨okS_app (okS_app (cutS_ok hx.1) hz) (cutS_ok hx.1), ?_⟩, Nat.zero_le _⟩
      rw [cl_len, app_len, app_len]
      obtain ⟨a', rfl⟩ := Int.eq_ofNat_of_zero_le a0
      obtain ⟨d', hd'⟩ := Int.eq_ofNat_of_zero_le (show (0 : Int) ≤ j / 3 by omega)
      rw [hd']
      have := cutS_lens (x := x) (j := a') (d := d')
      omega
theorem bent_ok : ∀ (n k t : Nat) (d : Dt), t ≤ 1 → k ≤ 3 → k < n → G t d → PyData.depth d ≤ k → Can (m__law_bent n [.fd, .dat d]) (GR t k)
  | 0, k, t, d, _, _, hn, _, _ => absurd hn (Nat.not_lt_zero _)
  | n + 1, k, t, d, ht, hk, hn, h, hd => by
    by_cases hT : ∀ xs, d ≠ .tuple xs
    · exact bent_flat ht hk h hT
    · obtain ⟨xs, rfl⟩ : ∃ xs, d = .tuple xs := by
        cases d with
        | tuple xs => exact ⟨xs, rfl⟩
        | _ => exact absurd (fun xs => by simp) hT
      refine bent_tup ht hk h hd fun x hx => ?_
      have h1 : PyData.depthAll xs + 1 ≤ k := hd
      have h2 := depthAll_le.mp (Nat.le_refl (PyData.depthAll xs)) x hx
      exact (bent_ok n (k - 1) t x ht (by omega) (by omega) ((gd_tup.mp h).1 x hx) (by omega)).mono fun r hr => ⟨hr.1, by have := hr.2; omega⟩
end K31

set_option maxHeartbeats 1000000
namespace K31
open PySem PySem.Spec PyProof.Rows L2 DL
local macro_rules
  | `(tactic| walk_at "go") => `(tactic| (repeat' (first
    | with_reducible first
      | refine ws_seq ?_ | refine ws_set ?_ | refine ws_ret ?_ | refine ws_if ?_ | refine ws_nx ?_ | refine ws_par ?_ | refine ws_unp ?_
      | refine we_var rfl ?_ | refine we_c ?_ | refine we_2 ?_ | refine we_1 ?_ | refine we_isi ?_
      | refine wt_e ?_ | refine wt_not ?_ | refine wt_andT ?_ | refine wt_or ?_ | refine we_if ?_ | refine we_not ?_ | refine we_and ?_ | refine we_or ?_
      | refine wa_nil ?_ | refine wa_cons ?_ | refine we_tup ?_ | refine we_lst ?_ | refine we_ca ?_ | refine wo_none ?_ | refine wo_some ?_ | refine we_sl ?_
      | refine wg_nil ?_ | refine wg_d ?_ | refine wg_f rfl ?_ | refine we_call ?_
    | refine draw' (by omega) (by omega) (fun k h0 h1 => ?_)
    | refine wt_isi (by with_reducible first | exact i_tuple_none | exact i_tuple_bool _ | exact i_tuple_int _ | exact i_tuple_str _ | exact i_tuple_list _ | exact i_tuple_tuple _ | exact i_bool_none | exact i_bool_bool _ | exact i_bool_int _ | exact i_bool_str _ | exact i_bool_list _ | exact i_bool_tuple _ | exact i_str_none | exact i_str_bool _ | exact i_str_int _ | exact i_str_str _ | exact i_str_list _ | exact i_str_tuple _ | exact i_int_none | exact i_int_bool _ | exact i_int_int _ | exact i_int_str _ | exact i_int_list _ | exact i_int_tuple _) ?_
    | refine And.intro (Nat.le_of_ble_eq_true rfl) ?_
    | (refine And.intro (fun hb => ?_) (fun hb => ?_) <;> try (first | exact absurd hb (by decide) | exact Bool.noConfusion (show false = true from hb) | exact Bool.noConfusion (show true = false from hb)))
    | (refine fun (hb : (_ : Bool) = _) => ?_ <;> try (first | exact absurd hb (by decide) | exact Bool.noConfusion (show false = true from hb) | exact Bool.noConfusion (show true = false from hb)))
    | refine Exists.intro _ (And.intro rfl ?_) | refine Exists.intro _ (Exists.intro _ (And.intro rfl ?_)))))

theorem e_can : Can (e_law (List.replicate 8 .un)) fun d => d = .list shownL := by
  refine we_lc (p := fun _ => true) (q := fun x => .str x.shown) (wi_v (we_call (wg_nil fun φ => ⟨_, φ, by_form_eq φ, _, rfl, by decide +kernel, ?_, ?_⟩)))
  · intro x hx
    refine ⟨wt_yes rfl, fun _ => ?_⟩
    have h : ∀ d ∈ fates, d.showable = true ∧ SeqAt.shaped d = true ∧ d.shown.length ≤ sizeLine := by decide +kernel
    exact we_ca (wa_cons (we_var rfl (wa_nil ⟨_, if_pos (h x hx), rfl⟩)))
  · rw [List.filter_eq_self.mpr (fun _ _ => rfl)]
    rfl
def every : List Dt := .tuple [.str "ended"] :: moms
theorem every_ok : ∀ d ∈ every, G 0 d ∧ PyData.depth d ≤ 1 := fun d hd => by
  have h1 : every.all (fun d => gd (10 ^ 59 + 0) (64 + 2 * 0) (6 + 0) d && decide (PyData.depth d ≤ 1)) = true := by decide +kernel
  have h2 := List.all_eq_true.mp h1 d hd
  rw [Bool.and_eq_true, decide_eq_true_eq] at h2
  exact h2
/-- one asked thing -/
theorem asked {ρ : Rho} {d : Dt} (h7 : ρ[7]? = some (.dat d)) (h2 : ρ[2]? = some (.dat (.list shownL))) (h : G 2 d) (hd : PyData.depth d ≤ 5) :
    wT1 (mtNot (mtE (mCall m__law_is_right (mgD (mVar 7) (mgD (m2 inD (mCa reprD (maCons (mVar 7) maNil)) (mVar 2)) mgNil))) truth)) ρ fun b => b = false := by
  refine wt_not (wt_e (we_call (wg_d (we_var h7 (wg_d (we_2 (we_ca (wa_cons (we_var h7 (wa_nil ⟨_, reprG h hd, we_var h2 ⟨_, memb (gd_plain h), wg_nil ?_⟩⟩))))))))))
  exact (right_is h hd).mono fun r hr => by
    subst hr
    exact ⟨true, rfl, rfl⟩
abbrev J (x : Sl) (ρ : Rho) : Prop := ∃ a b c, ρ = [.un, .fd, .dat (.list shownL), .dat (.list every), x, a, b, c]
theorem inner {a c : Sl} (x : Sl) (d : Dt) (h : G 2 d) (hd : PyData.depth d ≤ 5) : wS1 (sFor (miV (mLst (maCons (mVar 6) (maCons (mCall m__law_strange (mgF 1 mgNil)) maNil)))) (.nm 7)
    (sIf (mtNot (mtE (mCall m__law_is_right (mgD (mVar 7) (mgD (m2 inD (mCa reprD (maCons (mVar 7) maNil)) (mVar 2)) mgNil))) truth)) (sRet (mC (.bool false))) sNx))
    [.un, .fd, .dat (.list shownL), .dat (.list every), x, a, .dat d, c] fun fl => match fl with
      | .nx ρ' => J x ρ'
      | .ct ρ' => J x ρ'
      | _ => False := by
  refine ws_for (wi_v (we_lst (wa_cons (we_var rfl (wa_cons (we_call (wg_f rfl (wg_nil (strange_ok (k := 0) (t := 0) fun s hs => wa_nil ⟨Nat.le_of_ble_eq_true rfl, _, rfl, ?_⟩)))))))))
  refine forGo_inv (J := J x) (fun y hy ρ hρ => ?_) ⟨_, _, _, rfl⟩ (fun ρ hρ => hρ)
  obtain ⟨a, b, c, rfl⟩ := hρ
  refine ⟨_, rfl, ?_⟩
  have hy2 : G 2 y ∧ PyData.depth y ≤ 5 := by
    simp only [List.mem_cons, List.not_mem_nil, or_false] at hy
    rcases hy with rfl | rfl
    · exact ⟨h, hd⟩
    · exact ⟨gd_mono (by omega) (by omega) (by omega) hs.1, Nat.le_trans hs.2 (by decide)⟩
  refine ws_if ((asked rfl rfl hy2.1 hy2.2).mono fun b hb => ?_)
  subst hb
  exact ⟨fun h => absurd h (by decide), fun _ => ws_nx ⟨_, _, _, rfl⟩⟩
theorem math : Math := by
  intro cells
  obtain ⟨d, φ, e, rfl⟩ := e_can (fd0 cells)
  suffices h : wS1 b_law (((List.replicate 8 .un).set 1 .fd).set 2 (.dat (.list shownL))) fun fl => fl = .rt (.bool true) by
    obtain ⟨a, φ', e2, rfl⟩ := h φ
    exact ⟨_, φ, φ', e, e2⟩
  unfold b_law
  refine ws_seq (ws_set ?_)
  walk_at "go"
  have hadd : addD (.list [.tuple [.str "ended"]]) (.list moms) = some (.list every) := by
    unfold addD
    exact if_pos (by decide +kernel)
  refine fun φ => ⟨_, φ, moments_eq φ, .list every, hadd, ?_⟩
  have hlen : lenD [.list shownL] = some (.int 14) := by
    have : shownL.length = 14 := by decide +kernel
    show some (PyData.int (shownL.length : Int)) = _
    rw [this]
    rfl
  refine ws_seq (ws_if (wt_e (we_2 (we_ca (wa_cons (we_var rfl (wa_nil ⟨_, hlen, we_c ⟨_, rfl, _, rfl, fun hb => absurd hb (by decide), fun _ => ws_nx ?_⟩⟩)))))))
  refine ws_seq (ws_if (wt_e (we_2 (we_lc (p := fun _ => false) (q := id) (wi_v (we_var rfl ⟨_, rfl, by decide +kernel, fun x hx => ⟨?_, fun h => absurd h (by decide)⟩, ?_⟩))))))
  · exact asked rfl rfl (gd_mono (by omega) (by omega) (by omega) (every_ok x hx).1) (Nat.le_trans (every_ok x hx).2 (by decide))
  rw [List.filter_eq_nil_iff.mpr (fun _ _ => Bool.false_ne_true)]
  walk_at "go"
  refine we_lc (p := fun _ => false) (q := id) (wi_v (we_var rfl ⟨_, rfl, by decide +kernel, fun x hx => ⟨?_, fun h => absurd h (by decide)⟩, ?_⟩))
  · have h1 := List.all_eq_true.mp (show List.all _ (fun d => gd (10 ^ 59 + 2) (64 + 2 * 2) (6 + 2) d && decide (PyData.depth d ≤ 5) && !isF d) = true by decide +kernel) x hx
    rw [Bool.and_eq_true, Bool.and_eq_true, decide_eq_true_eq] at h1
    have h2 : isF x = false := by simpa using h1.2
    refine wt_not (wt_e (we_call (wg_d (we_var rfl (wg_d (we_c (wg_nil ?_)))))))
    have h3 := right_is h1.1.1 h1.1.2
    rw [h2] at h3
    refine h3.mono fun r hr => ?_
    subst hr
    exact ⟨true, rfl, rfl⟩
  rw [List.filter_eq_nil_iff.mpr (fun _ _ => Bool.false_ne_true)]
  walk_at "go"
  refine ws_for (wi_r1 (n := 30) (wa_cons (we_c (wa_nil ⟨rfl, by decide, ?_⟩))))
  refine forGo_inv (J := J _) (fun i hi ρ hρ => ?_) ⟨_, _, _, rfl⟩ (fun ρ hρ => ?_)
  · obtain ⟨a, b, c, rfl⟩ := hρ
    obtain ⟨k, _, rfl⟩ := List.mem_map.mp hi
    refine ⟨_, rfl, ?_⟩
    refine ws_seq (ws_set (we_call (wg_f rfl (wg_d (we_call (wg_f rfl (wg_d (we_var rfl (wg_nil ?_)))))))))
    refine (any_in every (by decide +kernel) (by decide +kernel)).mono fun d hd => wg_nil ?_
    refine (bent_ok 12 1 0 d (by decide) (by decide) (by decide) (every_ok d hd).1 (every_ok d hd).2).mono fun d hd => ?_
    refine ws_seq (ws_set ?_)
    walk_at "go"
    · refine (bent_ok 12 3 1 d (by decide) (by decide) (by decide) hd.1 hd.2).mono fun d hd => ?_
      exact inner _ d hd.1 hd.2
    · exact inner _ d (g_up hd.1) (Nat.le_trans hd.2 (by decide))
  · obtain ⟨a, b, c, rfl⟩ := hρ
    walk_at "go"
    rfl
end K31

namespace K31
open PySem PySem.Spec PyProof.Rows L2 DL
def Lk (K : PySem.W.Frag) : Lw := ⟨K, "cells", "spot", "left", "count", fun _ _ _ _ => False⟩
theorem lk_keys (K : PySem.W.Frag) : Keys (Lk K) := ⟨rfl, rfl, rfl, rfl⟩
theorem lk_nk (K : PySem.W.Frag) : (Lk K).Nk := by
  have h : ∀ x y : Str, decide (x = y) = false → x ≠ y := fun x y e => of_decide_eq_false e
  exact ⟨h "cells" "spot" (by decide +kernel), h "cells" "left" (by decide +kernel), h "cells" "count" (by decide +kernel), h "spot" "left" (by decide +kernel), h "spot" "count" (by decide +kernel), h "left" "count" (by decide +kernel)⟩
theorem all_mk {l : PySem.W.OpenLaw} {w : World} {K : PySem.W.Frag} {h : Heap} {mg : Str → Option Value} {fa : Addr} (X : K.In h) (G : h.Ns mainGlobals mg) (hfa : mg "law" = some (.ref fa)) (math : Math)
    {a0 : Addr} {od0 an0 : Option Addr} {sl0 : Array (Option Value)} {oc0 kV0 dc0 pm0 cd0 ct0 : Value}
    {a1 : Addr} {od1 an1 : Option Addr} {sl1 : Array (Option Value)} {oc1 kV1 dc1 pm1 cd1 ct1 : Value}
    {a2 : Addr} {od2 an2 : Option Addr} {sl2 : Array (Option Value)} {oc2 kV2 dc2 pm2 cd2 ct2 : Value}
    {a3 : Addr} {od3 an3 : Option Addr} {sl3 : Array (Option Value)} {oc3 kV3 dc3 pm3 cd3 ct3 : Value}
    {a4 : Addr} {od4 an4 : Option Addr} {sl4 : Array (Option Value)} {oc4 kV4 dc4 pm4 cd4 ct4 : Value}
    {a5 : Addr} {od5 an5 : Option Addr} {sl5 : Array (Option Value)} {oc5 kV5 dc5 pm5 cd5 ct5 : Value}
    {a6 : Addr} {od6 an6 : Option Addr} {sl6 : Array (Option Value)} {oc6 kV6 dc6 pm6 cd6 ct6 : Value}
    {a7 : Addr} {od7 an7 : Option Addr} {sl7 : Array (Option Value)} {oc7 kV7 dc7 pm7 cd7 ct7 : Value}
    {a8 : Addr} {od8 an8 : Option Addr} {sl8 : Array (Option Value)} {oc8 kV8 dc8 pm8 cd8 ct8 : Value}
    {a9 : Addr} {od9 an9 : Option Addr} {sl9 : Array (Option Value)} {oc9 kV9 dc9 pm9 cd9 ct9 : Value}
    {p_ENDED : Addr} {o_ENDED : Option Addr} {i_ENDED : Nat} {s_ENDED : Array (Option Value)} {t_ENDED0 : Tok}
    {t_MOST_FACTS : Tok}
    (x0 : PySem.W.nsIn K mainGlobals "is_fate" = some (some (.ref a0))) (l0 : K.lookup a0 = some ⟨oc0, od0, .func (PySem.W.fnOf "is_fate" "is_fate" (defArgs s_is_fate) (defBody s_is_fate) (defScope s_is_fate) .none kV0 dc0 pm0 an0 cd0 ct0), sl0⟩) (c0 : PySem.W.codeIn K cd0 "is_fate" = true) (k0 : PySem.W.keepIn K (.ref a0) = true)
    (x1 : PySem.W.nsIn K mainGlobals "_law_draw" = some (some (.ref a1))) (l1 : K.lookup a1 = some ⟨oc1, od1, .func (PySem.W.fnOf "_law_draw" "_law_draw" (defArgs s__law_draw) (defBody s__law_draw) (defScope s__law_draw) .none kV1 dc1 pm1 an1 cd1 ct1), sl1⟩) (c1 : PySem.W.codeIn K cd1 "_law_draw" = true) (k1 : PySem.W.keepIn K (.ref a1) = true)
    (x2 : PySem.W.nsIn K mainGlobals "_law_any" = some (some (.ref a2))) (l2 : K.lookup a2 = some ⟨oc2, od2, .func (PySem.W.fnOf "_law_any" "_law_any" (defArgs s__law_any) (defBody s__law_any) (defScope s__law_any) .none kV2 dc2 pm2 an2 cd2 ct2), sl2⟩) (c2 : PySem.W.codeIn K cd2 "_law_any" = true) (k2 : PySem.W.keepIn K (.ref a2) = true)
    (x3 : PySem.W.nsIn K mainGlobals "_law_strange" = some (some (.ref a3))) (l3 : K.lookup a3 = some ⟨oc3, od3, .func (PySem.W.fnOf "_law_strange" "_law_strange" (defArgs s__law_strange) (defBody s__law_strange) (defScope s__law_strange) .none kV3 dc3 pm3 an3 cd3 ct3), sl3⟩) (c3 : PySem.W.codeIn K cd3 "_law_strange" = true) (k3 : PySem.W.keepIn K (.ref a3) = true)
    (x4 : PySem.W.nsIn K mainGlobals "_law_bent" = some (some (.ref a4))) (l4 : K.lookup a4 = some ⟨oc4, od4, .func (PySem.W.fnOf "_law_bent" "_law_bent" (defArgs s__law_bent) (defBody s__law_bent) (defScope s__law_bent) .none kV4 dc4 pm4 an4 cd4 ct4), sl4⟩) (c4 : PySem.W.codeIn K cd4 "_law_bent" = true) (k4 : PySem.W.keepIn K (.ref a4) = true)
    (x5 : PySem.W.nsIn K mainGlobals "_law_moments" = some (some (.ref a5))) (l5 : K.lookup a5 = some ⟨oc5, od5, .func (PySem.W.fnOf "_law_moments" "_law_moments" (defArgs s__law_moments) (defBody s__law_moments) (defScope s__law_moments) .none kV5 dc5 pm5 an5 cd5 ct5), sl5⟩) (c5 : PySem.W.codeIn K cd5 "_law_moments" = true) (k5 : PySem.W.keepIn K (.ref a5) = true)
    (x6 : PySem.W.nsIn K mainGlobals "_law_by_form" = some (some (.ref a6))) (l6 : K.lookup a6 = some ⟨oc6, od6, .func (PySem.W.fnOf "_law_by_form" "_law_by_form" (defArgs s__law_by_form) (defBody s__law_by_form) (defScope s__law_by_form) .none kV6 dc6 pm6 an6 cd6 ct6), sl6⟩) (c6 : PySem.W.codeIn K cd6 "_law_by_form" = true) (k6 : PySem.W.keepIn K (.ref a6) = true)
    (x7 : PySem.W.nsIn K mainGlobals "_law_is_right" = some (some (.ref a7))) (l7 : K.lookup a7 = some ⟨oc7, od7, .func (PySem.W.fnOf "_law_is_right" "_law_is_right" (defArgs s__law_is_right) (defBody s__law_is_right) (defScope s__law_is_right) .none kV7 dc7 pm7 an7 cd7 ct7), sl7⟩) (c7 : PySem.W.codeIn K cd7 "_law_is_right" = true) (k7 : PySem.W.keepIn K (.ref a7) = true)
    (x8 : PySem.W.nsIn K mainGlobals "_law_feed" = some (some (.ref a8))) (l8 : K.lookup a8 = some ⟨oc8, od8, .func (PySem.W.fnOf "_law_feed" "_law_feed" (defArgs s__law_feed) (defBody s__law_feed) (defScope s__law_feed) .none kV8 dc8 pm8 an8 cd8 ct8), sl8⟩) (c8 : PySem.W.codeIn K cd8 "_law_feed" = true) (k8 : PySem.W.keepIn K (.ref a8) = true)
    (x9 : PySem.W.nsIn K mainGlobals "law" = some (some (.ref a9))) (l9 : K.lookup a9 = some ⟨oc9, od9, .func (PySem.W.fnOf "law" "law" (defArgs s_law) (defBody s_law) (defScope s_law) .none kV9 dc9 pm9 an9 cd9 ct9), sl9⟩) (c9 : PySem.W.codeIn K cd9 "law" = true) (k9 : PySem.W.keepIn K (.ref a9) = true)
    (z_all : PySem.W.nsIn K mainGlobals "all" = some none)
    (z_bool : PySem.W.nsIn K mainGlobals "bool" = some none)
    (z_int : PySem.W.nsIn K mainGlobals "int" = some none)
    (z_isinstance : PySem.W.nsIn K mainGlobals "isinstance" = some none)
    (z_len : PySem.W.nsIn K mainGlobals "len" = some none)
    (z_list : PySem.W.nsIn K mainGlobals "list" = some none)
    (z_range : PySem.W.nsIn K mainGlobals "range" = some none)
    (z_repr : PySem.W.nsIn K mainGlobals "repr" = some none)
    (z_str : PySem.W.nsIn K mainGlobals "str" = some none)
    (z_tuple : PySem.W.nsIn K mainGlobals "tuple" = some none)
    (y_ENDED : PySem.W.nsIn K mainGlobals "ENDED" = some (some (.ref p_ENDED))) (w_ENDED : K.lookup p_ENDED = some ⟨.type "tuple", o_ENDED, .seq #[.str "ended" t_ENDED0] i_ENDED, s_ENDED⟩)
    (y_MOST_FACTS : PySem.W.nsIn K mainGlobals "MOST_FACTS" = some (some (.int 6 t_MOST_FACTS))) :
    ∃ fd : FuncData, (∀ (s : Shared) (v : Value), BindsTo s fd ⟨[v], []⟩ [("_law_script", v)]) ∧ ∀ base : Heap, K.In base → base.Ns mainGlobals mg → FnG l.prog w K mg base (L2.CX l.prog w) 16 fa fd ["_law_script"] (spLaw (Lk K)) := by
  have e := hfa.symm.trans (PySem.W.mg_of X G x9)
  cases e
  have T : Txt K mg := { a_is_fate := a0, d_is_fate := _, f_is_fate := fun_mk l0 c0 k0, g_is_fate := PySem.W.mg_of X G x0, b_is_fate := (fun_mk (st := s_is_fate) l0 c0 k0).binds (ps := ["thing"]) (fun _ _ _ _ _ _ us hl => match us, hl with | [_], _ => rfl), kb_is_fate := kb0_of (st := s_is_fate) (ps := ["thing"]) (fun_mk l0 c0 k0) (fun _ _ _ _ _ _ us hl => match us, hl with | [_], _ => rfl), a__law_draw := a1, d__law_draw := _, f__law_draw := fun_mk l1 c1 k1, g__law_draw := PySem.W.mg_of X G x1, b__law_draw := (fun_mk (st := s__law_draw) l1 c1 k1).binds (ps := ["_law_feed_here", "_law_many"]) (fun _ _ _ _ _ _ us hl => match us, hl with | [_, _], _ => rfl), a__law_any := a2, d__law_any := _, f__law_any := fun_mk l2 c2 k2, g__law_any := PySem.W.mg_of X G x2, b__law_any := (fun_mk (st := s__law_any) l2 c2 k2).binds (ps := ["_law_feed_here", "_law_some"]) (fun _ _ _ _ _ _ us hl => match us, hl with | [_, _], _ => rfl), a__law_strange := a3, d__law_strange := _, f__law_strange := fun_mk l3 c3 k3, g__law_strange := PySem.W.mg_of X G x3, b__law_strange := (fun_mk (st := s__law_strange) l3 c3 k3).binds (ps := ["_law_feed_here"]) (fun _ _ _ _ _ _ us hl => match us, hl with | [_], _ => rfl), a__law_bent := a4, d__law_bent := _, f__law_bent := fun_mk l4 c4 k4, g__law_bent := PySem.W.mg_of X G x4, b__law_bent := (fun_mk (st := s__law_bent) l4 c4 k4).binds (ps := ["_law_feed_here", "_law_what"]) (fun _ _ _ _ _ _ us hl => match us, hl with | [_, _], _ => rfl), a__law_moments := a5, d__law_moments := _, f__law_moments := fun_mk l5 c5 k5, g__law_moments := PySem.W.mg_of X G x5, b__law_moments := (fun_mk (st := s__law_moments) l5 c5 k5).binds (ps := []) (fun _ _ _ _ _ _ us hl => match us, hl with | [], _ => rfl), a__law_by_form := a6, d__law_by_form := _, f__law_by_form := fun_mk l6 c6 k6, g__law_by_form := PySem.W.mg_of X G x6, b__law_by_form := (fun_mk (st := s__law_by_form) l6 c6 k6).binds (ps := []) (fun _ _ _ _ _ _ us hl => match us, hl with | [], _ => rfl), a__law_is_right := a7, d__law_is_right := _, f__law_is_right := fun_mk l7 c7 k7, g__law_is_right := PySem.W.mg_of X G x7, b__law_is_right := (fun_mk (st := s__law_is_right) l7 c7 k7).binds (ps := ["_law_what", "_law_due"]) (fun _ _ _ _ _ _ us hl => match us, hl with | [_, _], _ => rfl), a__law_feed := a8, d__law_feed := _, f__law_feed := fun_mk l8 c8 k8, g__law_feed := PySem.W.mg_of X G x8, b__law_feed := (fun_mk (st := s__law_feed) l8 c8 k8).binds (ps := ["_law_script"]) (fun _ _ _ _ _ _ us hl => match us, hl with | [_], _ => rfl), n_all := PySem.W.mg_none_of X G z_all, n_bool := PySem.W.mg_none_of X G z_bool, n_int := PySem.W.mg_none_of X G z_int, n_isinstance := PySem.W.mg_none_of X G z_isinstance, n_len := PySem.W.mg_none_of X G z_len, n_list := PySem.W.mg_none_of X G z_list, n_range := PySem.W.mg_none_of X G z_range, n_repr := PySem.W.mg_none_of X G z_repr, n_str := PySem.W.mg_none_of X G z_str, n_tuple := PySem.W.mg_none_of X G z_tuple, c_ENDED := gc_strs ["ended"] X G y_ENDED w_ENDED (.cons ⟨_, rfl⟩ .nil) (by show 1 ≤ sizeLine; decide), c_MOST_FACTS := gc_int X G y_MOST_FACTS }
  exact ⟨_, fun s v => .of_eq rfl, fun base _ _ => ok_law (L := Lk K) T (lk_keys K) (lk_nk K) (fun_mk l9 c9 k9) math⟩
end K31
open PySem PySem.W PyProof.Rows
set_option maxHeartbeats 0 in
theorem PySem.Challenge.cw_keptends_k31_fates_by_form_holds : PySem.Challenge.rw_keptends_k31_fates_by_form.Holds := by
  w_on; o_law; k_head; (case hw => w_witness2)
  k_fill
  refine DL.walkG (l := PySem.Challenge.rw_keptends_k31_fates_by_form) (n := 63) (k := 16) (x := "_law_script") (CX := fun w => L2.CX PySem.Challenge.rw_keptends_k31_fates_by_form.prog w) (sp := fun w => DL.spLaw (K31.Lk _)) rfl (by decide) rfl ⟨rfl, by decide, by decide⟩ (fun w h Y => PySem.W.kIn_of Y) ?F (fun _ _ a ns hl _ hS => ⟨a, ns, rfl, hS, hl, fun _ => rfl⟩) (fun _ _ _ _ _ h => DL.no_cx h)
  case F =>
    intro w mg fa h KX G hmg
    refine' K31.all_mk KX G hmg K31.math ?x0 ?l0 ?c0 ?k0 ?x1 ?l1 ?c1 ?k1 ?x2 ?l2 ?c2 ?k2 ?x3 ?l3 ?c3 ?k3 ?x4 ?l4 ?c4 ?k4 ?x5 ?l5 ?c5 ?k5 ?x6 ?l6 ?c6 ?k6 ?x7 ?l7 ?c7 ?k7 ?x8 ?l8 ?c8 ?k8 ?x9 ?l9 ?c9 ?k9 ?z_all ?z_bool ?z_int ?z_isinstance ?z_len ?z_list ?z_range ?z_repr ?z_str ?z_tuple ?y_ENDED ?w_ENDED ?y_MOST_FACTS
    (case x0 => k_is); (case l0 => k_is); (case c0 => k_is); (case k0 => k_is); (case x1 => k_is); (case l1 => k_is); (case c1 => k_is); (case k1 => k_is)
    (case x2 => k_is); (case l2 => k_is); (case c2 => k_is); (case k2 => k_is); (case x3 => k_is); (case l3 => k_is); (case c3 => k_is); (case k3 => k_is)
    (case x4 => k_is); (case l4 => k_is); (case c4 => k_is); (case k4 => k_is); (case x5 => k_is); (case l5 => k_is); (case c5 => k_is); (case k5 => k_is)
    (case x6 => k_is); (case l6 => k_is); (case c6 => k_is); (case k6 => k_is); (case x7 => k_is); (case l7 => k_is); (case c7 => k_is); (case k7 => k_is)
    (case x8 => k_is); (case l8 => k_is); (case c8 => k_is); (case k8 => k_is); (case x9 => k_is); (case l9 => k_is); (case c9 => k_is); (case k9 => k_is)
    (case z_all => k_is); (case z_bool => k_is); (case z_int => k_is); (case z_isinstance => k_is); (case z_len => k_is); (case z_list => k_is); (case z_range => k_is); (case z_repr => k_is)
    (case z_str => k_is); (case z_tuple => k_is); (case y_ENDED => k_is); (case w_ENDED => k_is); (case y_MOST_FACTS => k_is)

