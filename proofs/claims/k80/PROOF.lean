import PyProof.Rows.All
import HandS.ForMost
import HandS.Deep
import HandS.WordsExc
import HandS.CallSlots
import HandS.Wide
import HandS.IsInst
import HandS.Flow
import HandS.Style
import HandS.TupAny
import HandS.SortInts
import HandS.TryOnly
import PyProof.MaxThree
import HandS.Star
import HandS.Property
import HandS.Head0
import HandS.Head1
import HandS.Head2
import HandS.HeadEnd
import HandS.HeadHook1
import HandS.HeadHook2
import PyProof.ReprRoads
import PyProof.LongRange
import KE.KDictZip
import HandS.GenBody
import HandS.Iter
import HandS.WideBits
import PyProof.ListRange
import HandS.SetFor
import HandS.Strs
import PyProof.Rows.SortShellAny
import HandS.SetBool
import HandS.SortRule
import PyProof.SumWalkG
import KE.GoesEnum
import OpenK.AllK
import Wide.All
import Wide.FinOn
import KE.KStateDown
import KE.KSortedM
import PyProof.FitsInt
import PyProof.StrLaws
import PySem.Challenge.RW_labeltill_k80_rounds_told
set_option Elab.async false
set_option linter.all false
set_option maxRecDepth 100000
set_option maxHeartbeats 4000000
namespace LT
open PySem PySem.Spec PyProof.Rows L2
structure FnG (P : Program) (w : World) (K : PySem.W.Frag) (mg : Str → Option Value) (base : Heap) (Cy : CXT) (k : Nat) (f : Addr) (fd : FuncData) (ps : List Str) (sp : Sp) : Prop where
  len : ∀ vs H Q E, sp vs H Q E → vs.length = ps.length
  run : ∀ {A : Around} {outer : List Env} {s : Shared} {H : Hp} {args : Args} {us : List Value} {vs : List V} {Q : VK} {E : XK},
    Room k A → A.guards = some [] → Env0 P w K mg base A outer s H → BindsTo s fd args (ps.zip us) → Vals vs us → sp vs H Q E →
      codeAny (model P w) A (.call (.ref f) args) (CR Cy outer P w H s Q E) s
section
variable {P : Program} {w : World} {K : PySem.W.Frag} {mg : Str → Option Value} {base : Heap} {Cy : CXT} {f : Addr} {fd : FuncData} {ps : List Str} {sp : Sp}
theorem FnG.mono {j k : Nat} (F : FnG P w K mg base Cy j f fd ps sp) (h : j ≤ k) : FnG P w K mg base Cy k f fd ps sp := ⟨F.len, fun hr => F.run (hr.mono h)⟩
theorem FnG.imp {k : Nat} {sq : Sp} (F : FnG P w K mg base Cy k f fd ps sp) (h : ∀ vs H Q E, sq vs H Q E → sp vs H Q E) : FnG P w K mg base Cy k f fd ps sq :=
  ⟨fun vs H Q E q => F.len vs H Q E (h _ _ _ _ q), fun hr hg he hb hv hs => F.run hr hg he hb hv (h _ _ _ _ hs)⟩
theorem funG {x qual : Str} {params : Arguments} {body : List Stmt} {scope : Scope} {dvs : List V} {kws : List (Str × V)} {N : List Str} {k : Nat} (F : FunD K x qual params body scope dvs kws f fd) (S : FnScope N ps scope) (len : ∀ vs H Q E, sp vs H Q E → vs.length = ps.length)
    (hbody : ∀ (cdv : Value) (A : Around) (outer : List Env) (s : Shared) (H : Hp) (vs : List V) (Q : VK) (E : XK), Room k (A.deeper (envOfC qual scope s.heap.objs.size f cdv)) → A.guards = some [] → sp vs H Q E →
      ∃ t, PSs (cxOf Cy P w K mg base N qual scope f cdv A outer s H E) body t ∧ t { nx := fun _ H' => Q .non H', rt := Q } (start N vs) H) : FnG P w K mg base Cy (k + 1) f fd ps sp := by
  refine ⟨len, fun {A outer s H args us vs Q E} hr hg e0 hb r hsp => ?_⟩
  have F1 : FnOk P w K mg base Cy (k + 1) f fd ps (fun vs' H' Q' E' => sp vs' H' Q' E') ∨ True := .inr trivial
  obtain ⟨oc, od, dV, kV, doc, pm, an, cdv, ct, osl, rfl, lk, hcd, _, _⟩ := F.ex
  have KX : K.In s.heap := e0.mod.kin.keeps fun b o z => (e0.bs b o z).1
  have lim : s.heap.NoLimit := e0.mod.nolimit.keeps fun b o z => (e0.bs b o z).1
  refine codeAny_call_function hr.depth (KX _ _ lk) rfl S.co S.gen rfl (PySem.W.codeRec_of KX hcd) (hb _ _ _ _ ?_)
  refine wpAny_newFunctionEnv_cells S.kind (fun y hy => ?_) fun env he s1 x => ?_
  · obtain ⟨n, v⟩ := y
    rcases S.par n (List.of_mem_zip hy).1 with z | z
    · exact Or.inl z
    · exact Or.inr ⟨z, PySem.W.cellsFrom_some _ _ _ (Or.inl z)⟩
  subst he
  refine ⟨lim.keeps x.toInCall.keep, codeAny_func ?_⟩
  obtain ⟨t, ht, hq⟩ := hbody cdv A outer s H vs Q E (hr.deeper _) hg hsp
  have I := inv_start (CX := Cy) (E := E) S hr.hd e0 (len _ _ _ _ hsp) r x
  refine wpAny_mono (ht.run [] s1 (start N vs) H _ I hq) (fun fl s' hs => ?_) fun e s' hs => hs
  cases fl with
  | ret u => exact let ⟨v, _, H', J, rv, z⟩ := hs; ⟨v, H', J.os, J.bare, J.base, J.hok, rv, z⟩
  | next => exact let ⟨_, H', J, z⟩ := hs; ⟨V.non, H', J.os, J.bare, J.base, J.hok, rfl, z⟩
  | brk => exact let ⟨_, _, _, z⟩ := hs; False.elim z
  | cont => exact let ⟨_, _, _, z⟩ := hs; False.elim z
end
def tMethSD (C : Addr) (fl : List Str) (sp : Sp) (E : L2.St → XK) (ta : TE) (t : TA) : TE := fun σ H Q => ta σ H fun x H1 => ∃ a dx ws, x = .ref a ∧ H1 a = some (.ins C dx (fl.zip ws)) ∧ t σ H1 fun vs H2 => sp (x :: vs) H2 Q (E σ)
def tMakeSD (C : Addr) (sp : Sp) (dvs : List V) (E : L2.St → XK) (t : TA) : TE := fun σ H Q => t σ H fun vs H1 => ∀ x dx, H1 x = none → H1 dx = none → dx ≠ x →
  sp (.ref x :: (vs ++ dvs)) (upd (upd H1 dx (.own x)) x (.ins C dx [])) (fun v H2 => v = .non ∧ Q (.ref x) H2) (E σ)
def gFld (K : PySem.W.Frag) (i : Nat) (f : Str) : TG := fun v σ H Q => ∃ a C dx fs, σ[i]? = some (some (.ref a)) ∧ H a = some (.ins C dx fs) ∧ Cls K C ∧ NoAttr K C f ∧ fs.length < 1000 ∧ Q σ (upd H a (.ins C dx (putF f v fs)))
section
variable {X : Cx} {Cy : CXT} {k : Nat} {C f : Addr} {fd : FuncData} {ps : List Str} {sp : Sp} {E : L2.St → XK} {x m : Str} {e o : Expr} {es : List Expr} {ta te : TE} {t : TA} {p pos apos : Pos} {ds : List Value} {dvs : List V}
theorem pg_fld {i : Nat} {y g : Str} {p' : Pos} (ho : PE X (.Name y p') (tVar i)) : PG X (.Attribute (.Name y p') g pos) (gFld X.K i g) := by
  refine ⟨fun pins s σ H v u Q I r h => ?_⟩
  obtain ⟨a, C, dx, fs, h1, h2, c, n, hl, q⟩ := h
  show wpAny _ _ (do
    let ov ← holding [u] (eval (.Name y p') X.env)
    standAt pos.atName
    holding [u, ov] (setAttr ov g u)
    release [u, ov] []) _ _ _
  refine wpAny_bind (wpAny_holding (thn (ho.run pins s σ H (fun z H1 => z = .ref a ∧ H1 = H) I ⟨_, h1, rfl, rfl⟩) fun ov s1 ⟨z, H1, I1, r1, q1⟩ => ?_))
  obtain ⟨rfl, rfl⟩ := q1
  obtain rfl : ov = Value.ref a := r1
  refine wpAny_bind (wpAny_standAt (wpAny_bind (wpAny_holding (setattr_ok I1 h2 c n hl r fun s3 I3 => ?_))))
  exact wpAny_release ⟨σ, _, I3, q⟩
theorem run_at {pins : List (Addr × Obj)} {σ : L2.St} {H : Hp} {s : Shared} {Q : VK} {us : List Value} {vs : List V} {A : Around} {E1 : XK} (F : FnG X.prog X.w X.K X.mg X.base Cy k f fd ps sp) (hr : Room k A) (hg : A.guards = some []) (h0 : Env0 X.prog X.w X.K X.mg X.base A X.stack s H) (hb : L2.Binds X.K fd ps ds) (hd : Vals dvs ds)
    (I : Inv X pins σ H s) (r : Vals vs us) (h : sp (vs ++ dvs) H Q E1) : codeAny (model X.prog X.w) A (.call (.ref f) ⟨us, []⟩) (fun z s' => match z with
      | .ok (.ret u) => EP X pins σ Q u s'
      | .error e => Cy X.stack H s E1 e s'
      | _ => False) s := by
  have r2 := r.append hd
  have hl : (us ++ ds).length = ps.length := by rw [← r2.length]; exact F.len _ _ _ _ h
  refine codeAny_mono (F.run hr hg h0 (hb s us I.kIn hl) r2 h) fun z s' hq => ?_
  cases z with
  | error e => exact hq
  | ok fl => cases fl <;> first | exact I.after hq | exact False.elim hq
theorem run_G {pins : List (Addr × Obj)} {σ : L2.St} {H : Hp} {s : Shared} {Q : VK} {us : List Value} {vs : List V} (F : FnG X.prog X.w X.K X.mg X.base Cy k f fd ps sp) (hr : Room k X.A) (hgd : X.A.guards = some []) (hb : L2.Binds X.K fd ps ds) (hd : Vals dvs ds) (hx : PassesAt Cy X σ (E σ))
    (I : Inv X pins σ H s) (r : Vals vs us) (h : sp (vs ++ dvs) H Q (E σ)) : wpAny (model X.prog X.w) X.A (call (.ref f) us) (EP X pins σ Q) X.xe s := by
  refine wpAny_call (codeAny_mono (run_at F hr hgd I.env0 hb hd I r h) fun z s' hq => ?_)
  cases z with
  | error e => exact hx pins H s e s' I hq
  | ok fl => cases fl <;> first | exact hq | exact False.elim hq
theorem pe_callG (F : FnG X.prog X.w X.K X.mg X.base Cy k f fd ps sp) (hr : Room k X.A) (hgd : X.A.guards = some []) (hg : Gl X x) (hm : X.mg x = some (.ref f)) (hk : PySem.W.keepIn X.K (.ref f) = true) (hb : L2.Binds X.K fd ps ds) (hd : Vals dvs ds) (hx : ∀ σ, PassesAt Cy X σ (E σ))
    (ha : PA X (e :: es) t) (hdb : (x == ("__debug__" : Str)) = false) (he : starEach (e :: es) X.env = (false, eval e X.env) :: starEach es X.env) (hpl : (backTo pos (starEach es X.env)).any (·.1) = false) :
    PE X (.Call (.Name x p) (e :: es) [] pos) (tCallSD sp dvs E t) :=
  ⟨fun pins s σ H Q I h => wpAny_Call_Name_kw (ld_glob I hg hm (PySem.W.callWith_K (h₀ := X.base) I.ok.mod.kin hk
    (thn (ha.run pos pins s σ H _ I h) fun us s1 ⟨vs, H1, I1, r, q⟩ => ⟨I1.kIn, run_G F hr hgd hb hd (hx σ) I1 r q⟩) he hpl) hdb)⟩
theorem lookup_zip_out {m : Str} : ∀ {fl : List Str} {ws : List V}, m ∉ fl → (fl.zip ws).lookup m = none
  | [], _, _ => rfl
  | _ :: _, [], _ => rfl
  | f :: fl, w :: ws, h => by
    show List.lookup m ((f, w) :: fl.zip ws) = none
    rw [List.lookup_cons]
    have : (m == f) = false := by simpa using fun e : m = f => h (by rw [e]; exact List.mem_cons_self)
    rw [this]
    exact lookup_zip_out fun z => h (List.mem_cons_of_mem _ z)
theorem pe_methSD {fl : List Str} (hfl : m ∉ fl) {pl : Sem Bool} (he : PE X o ta) (c : Cls X.K C) (hm : Meth X.K C m f) (F : FnG X.prog X.w X.K X.mg X.base Cy k f fd ps sp) (hr : Room k X.A) (hgd : X.A.guards = some []) (hb : L2.Binds X.K fd ps []) (hx : ∀ σ, PassesAt Cy X σ (E σ)) (ha : PA X (e :: es) t)
    (hst : starEach (e :: es) X.env = (false, eval e X.env) :: starEach es X.env) (hpl : (backTo pos (starEach es X.env)).any (·.1) = false)
    (ht : eval (.Call (.Attribute o m apos) (e :: es) [] pos) X.env = (eval o X.env >>= fun ov => standAt apos.atName >>= fun _ => holding [ov] (getMethod ov m pl) >>= fun q =>
      callWith pos q.1 q.2 (backTo pos (starEach (e :: es) X.env)) (backToKw pos (keywordEach [] X.env))) := by rfl) :
    PE X (.Call (.Attribute o m apos) (e :: es) [] pos) (tMethSD C fl sp E ta t) := by
  refine ⟨fun pins s σ H Q I h => ?_⟩
  refine PySem.W.methodCall_KW (pl := pl) (thn (he.run pins s σ H _ I h) fun u s1 ⟨y, H1, I1, ry, a, dx, ws, ey, ea, q⟩ => ?_) ht
  subst ey
  obtain rfl : u = Value.ref a := ry
  refine getmeth_ok I1 ea c hm (lookup_zip_out hfl) (PySem.W.callWith_K (first := [.ref a]) (h₀ := X.base) I.ok.mod.kin hm.kp ?_ hst hpl)
  exact thn (ha.run pos pins s1 σ H1 _ I1 q) fun us s2 ⟨vs, H2, I2, r, q2⟩ => ⟨I2.kIn, run_G (dvs := []) (us := .ref a :: us) (vs := .ref a :: vs) F hr hgd hb .nil (hx σ) I2 (.cons rfl r) (by rw [List.append_nil]; exact q2)⟩
theorem pe_methSD0 {fl : List Str} (hfl : m ∉ fl) {pl : Sem Bool} (he : PE X o ta) (c : Cls X.K C) (hm : Meth X.K C m f) (F : FnG X.prog X.w X.K X.mg X.base Cy k f fd ps sp) (hr : Room k X.A) (hgd : X.A.guards = some []) (hb : L2.Binds X.K fd ps []) (hx : ∀ σ, PassesAt Cy X σ (E σ))
    (ht : eval (.Call (.Attribute o m apos) [] [] pos) X.env = (eval o X.env >>= fun ov => standAt apos.atName >>= fun _ => holding [ov] (getMethod ov m pl) >>= fun q =>
      callWith pos q.1 q.2 (backTo pos (starEach [] X.env)) (backToKw pos (keywordEach [] X.env))) := by rfl) :
    PE X (.Call (.Attribute o m apos) [] [] pos) (tMethSD C fl sp E ta tNil) := by
  refine ⟨fun pins s σ H Q I h => ?_⟩
  refine PySem.W.methodCall_KW (pl := pl) (thn (he.run pins s σ H _ I h) fun u s1 ⟨y, H1, I1, ry, a, dx, ws, ey, ea, q⟩ => ?_) ht
  subst ey
  obtain rfl : u = Value.ref a := ry
  exact getmeth_ok I1 ea c hm (lookup_zip_out hfl) (PySem.W.callWith_K0 (first := [.ref a]) I1.kIn hm.kp (run_G (dvs := []) (us := [.ref a]) (vs := [.ref a]) F hr hgd hb .nil (hx σ) I1 (.cons rfl .nil) q))
theorem make_guards {A : Around} {us : List Value} {kw : List (Str × Value)} : (A.under (.builtin "type.__call__" ⟨.ref C :: us, kw⟩)).guards = A.guards := by
  first | rfl | simp [Around.under, Code.guards, pushGuards, Code.isGuard, guardIds]
theorem run_makeSD {pins : List (Addr × Obj)} {σ : L2.St} {H : Hp} {s : Shared} {Q : VK} {us : List Value} {vs : List V} (M : Mk X.K C f) (F : FnG X.prog X.w X.K X.mg X.base Cy k f fd ps sp) (hr : Room (k + 1) X.A) (hgd : X.A.guards = some []) (hb : L2.Binds X.K fd ps ds) (hd : Vals dvs ds)
    (hx : PassesAt Cy X σ (E σ)) (I : Inv X pins σ H s) (r : Vals vs us)
    (h : ∀ x dx, H x = none → H dx = none → dx ≠ x → sp (.ref x :: (vs ++ dvs)) (upd (upd H dx (.own x)) x (.ins C dx [])) (fun v H2 => v = .non ∧ Q (.ref x) H2) (E σ)) :
    wpAny (model X.prog X.w) X.A (call (.ref C) us) (EP X pins σ Q) X.xe s := by
  have hq := h (s.heap.objs.size + 1) s.heap.objs.size (I.hok.fresh (Nat.le_succ _)) (I.hok.fresh (Nat.le_refl _)) (Nat.ne_of_lt (Nat.lt_succ_self _))
  have I2 := Inv.made (C := C) I
  refine wpAny_call (make_map (f := f) I.kIn M.makes M.init (beq_iff_eq.mp M.fn) (codeAny_mono (run_at (us := Value.ref (s.heap.objs.size + 1) :: us) (vs := V.ref (s.heap.objs.size + 1) :: vs) F (hr.make C us []) (by rw [make_guards]; exact hgd) (I2.env0.make C us []) hb hd I2 (.cons rfl r) hq) fun z s' hq' => ?_))
  cases z with
  | error e => exact hx pins _ _ e s' I2 hq'
  | ok fl =>
    cases fl with
    | ret u =>
      obtain ⟨v, H', I3, rv, ev, q3⟩ := hq'
      subst ev
      exact ⟨rv, ⟨V.ref (s.heap.objs.size + 1), H', I3, rfl, q3⟩⟩
    | _ => exact False.elim hq'
theorem pe_makeSD (M : Mk X.K C f) (F : FnG X.prog X.w X.K X.mg X.base Cy k f fd ps sp) (hr : Room (k + 1) X.A) (hgd : X.A.guards = some []) (hg : Gl X x) (hm : X.mg x = some (.ref C)) (hb : L2.Binds X.K fd ps ds) (hd : Vals dvs ds) (hx : ∀ σ, PassesAt Cy X σ (E σ))
    (ha : PA X (e :: es) t) (hdb : (x == ("__debug__" : Str)) = false) (he : starEach (e :: es) X.env = (false, eval e X.env) :: starEach es X.env) (hpl : (backTo pos (starEach es X.env)).any (·.1) = false) :
    PE X (.Call (.Name x p) (e :: es) [] pos) (tMakeSD C sp dvs E t) :=
  ⟨fun pins s σ H Q I h => wpAny_Call_Name_kw (ld_glob I hg hm (PySem.W.callWith_K (h₀ := X.base) I.ok.mod.kin M.kp
    (thn (ha.run pos pins s σ H _ I h) fun us s1 ⟨vs, H1, I1, r, q⟩ => ⟨I1.kIn, run_makeSD M F hr hgd hb hd (hx σ) I1 r q⟩) he hpl) hdb)⟩
theorem call_lenO (c : Cls X.K C) (hm : Meth X.K C "__len__" f) (F : FnG X.prog X.w X.K X.mg X.base L2.CX0 k f fd ps (fun vs H Q _ => sp vs H Q fun _ _ _ => False)) (hr : Room (k + 1) X.A) (hgd : X.A.guards = some []) (hb : L2.Binds X.K fd ps []) :
    CallR X (.builtin "len") (fun xs H Q => ∃ a dx fs, xs = [.ref a] ∧ H a = some (.ins C dx fs) ∧ sp [.ref a] H (fun v H' => ∃ n : Int, v = .int n ∧ 0 ≤ n ∧ n < 2 ^ 62 ∧ Q (.int n) H') fun _ _ _ => False) := by
  intro pins s σ H xs us Q I r h
  obtain ⟨a, dx, fs, rfl, ea, q⟩ := h
  obtain ⟨u, rfl, ru⟩ := vals1 r
  obtain rfl : u = Value.ref a := ru
  obtain ⟨mA, O, _, _, _, _⟩ := ins_get I.hok ea
  obtain ⟨od, J, _⟩ := O.look
  obtain ⟨m, Fr⟩ := I.fr
  refine PySem.W.len_K Fr I.ok.mod.kin J hm.at_ hm.fn (wpAny_call (codeAny_mono (run_at (E1 := fun _ _ _ => False) (us := [Value.ref a]) (vs := [V.ref a]) F hr.in1 hgd I.env0.in1 hb .nil I (.cons rfl .nil) q) fun z s' hq => ?_))
  cases z with
  | error e => exact False.elim hq
  | ok fl =>
    cases fl with
    | ret u =>
      obtain ⟨v, H', I3, rv, n, rfl, n0, n1, q3⟩ := hq
      obtain ⟨t, rfl⟩ := rv
      exact ⟨⟨n0, by omega⟩, ⟨.int n, H', I3.tok _, ⟨_, rfl⟩, q3⟩⟩
    | _ => exact False.elim hq
theorem ix_own (hm : Meth X.K C "__getitem__" f) (F : FnG X.prog X.w X.K X.mg X.base Cy k f fd ps sp) (hr : Room (k + 1) X.A) (hgd : X.A.guards = some []) (hb : L2.Binds X.K fd ps []) (hfn : PySem.W.fnIn X.K f = true)
    {a1 b1 : Expr} {ta1 tb1 : TE} (ha : PE X a1 ta1) (hb1 : PE X b1 tb1) (hs : ∀ i o, subscripted b1 true (.ref o) i = runValue (.builtin "lifetime.subscript" ⟨[.ref o, i], []⟩)) (hx : ∀ σ, PassesAt Cy X σ (E σ)) :
    PE X (.Subscript a1 b1 pos) (fun σ H Q => ta1 σ H fun x H1 => tb1 σ H1 fun y H2 => ∃ a dx fs, x = .ref a ∧ H2 a = some (.ins C dx fs) ∧ sp [.ref a, y] H2 Q (E σ)) := by
  refine ⟨fun pins s σ H Q I h => ?_⟩
  refine Subscript_ (binT ha hb1 I h fun v u s2 x y H2 I2 rx ry q => ?_)
  obtain ⟨a, dx, fs, rfl, ea, q⟩ := q
  obtain rfl : v = Value.ref a := rx
  obtain ⟨mA, O, _, _, _, _⟩ := ins_get I2.hok ea
  obtain ⟨od, J, _⟩ := O.look
  obtain ⟨m, Fr⟩ := I2.fr
  refine PySem.W.sub_K Fr I2.ok.mod.kin J hm.at_ hfn hm.fn (wpAny_call (codeAny_mono (run_at (us := [Value.ref a, u]) (vs := [V.ref a, y]) F hr.in1 hgd I2.env0.in1 hb .nil I2 (.cons rfl (.cons ry .nil)) q) fun z s' hz => ?_)) (hs _ _)
  cases z with
  | error e => exact hx σ pins H2 s2 e s' I2 hz
  | ok fl => cases fl <;> first | exact hz | exact False.elim hz
theorem pe_propG {sp : List V → Hp → VK → XK → Prop} {q : Addr} {nm : Str} (he : PE X e ta) (c : Cls X.K C) (hp : PropOf X.K C nm q f) (F : FnG X.prog X.w X.K X.mg X.base L2.CX0 k f fd ps (fun vs H Q _ => sp vs H Q fun _ _ _ => False)) (hr : Room (k + 1) X.A) (hgd : X.A.guards = some []) (hb : L2.Binds X.K fd ps [])
    (hab : attributeBase e nm X.env (eval e X.env) = eval e X.env) : PE X (.Attribute e nm pos) (fun σ H Q => ta σ H fun x H1 => ∃ a dx fs, x = .ref a ∧ H1 a = some (.ins C dx fs) ∧ sp [.ref a] H1 Q fun _ _ _ => False) := by
  refine ⟨fun pins s σ H Q I h => ?_⟩
  refine attr_of hab (thn (he.run pins s σ H _ I h) fun u s1 ⟨y, H1, I1, ry, a, dx, fs, ey, ea, z⟩ => ?_)
  subst ey
  obtain rfl : u = Value.ref a := ry
  obtain ⟨mA, O, _, _, _, _⟩ := ins_get I1.hok ea
  obtain ⟨od, J, _⟩ := O.look
  obtain ⟨rest, hrec⟩ := hp.rec_
  have I2 := I1.tok (s1.toks + 1)
  obtain ⟨cd, hcd, _⟩ := PySem.W.any_some c.hd
  refine PySem.W.get_bind I1.kIn J (PySem.W.plainGet_of (c.get nm)).1 (PySem.W.findObj_data (by rw [hcd]; rfl) hp.at_ hp.get hp.tak) (PySem.W.plainGet_of (c.get nm)).2 (wpAny_call (PySem.W.prop_get (s := { s1 with toks := s1.toks + 1 }) I1.kIn hrec ?_))
  refine codeAny_mono (run_at (E1 := fun _ _ _ => False) (us := [Value.ref a]) (vs := [V.ref a]) F hr.in1 hgd I2.env0.in1 hb .nil I2 (.cons rfl .nil) z) fun r s' hq => ?_
  cases r with
  | error er => exact False.elim hq
  | ok fl =>
    cases fl with
    | ret u =>
      obtain ⟨v, H', I3, rv, q3⟩ := hq
      show wpAny _ _ (handedOut u) _ _ _
      rw [PySem.W.handedOut_of (handed_of rv)]
      exact wpAny_pure ⟨v, H', I3, rv, q3⟩
    | _ => exact False.elim hq
def rRepr (K : PySem.W.Frag) : List V → Hp → VK → Prop := fun xs H Q => ∃ (x : V) (d : PyData), xs = [x] ∧ Dp K H x d ∧ d.showable = true ∧ d.hasDict = false ∧ d.depth ≤ 60 ∧ d.shown.length ≤ sizeLine ∧ Q (.str d.shown) H
theorem call_reprD (hg : X.A.guards = some []) (hu : X.A.units + 65 < cLine) : CallR X (.builtin "repr") (rRepr X.K) := by
  intro pins s σ H xs us Q I r h
  obtain ⟨x, d, rfl, hd, hs, hn, hp, hz, q⟩ := h
  obtain ⟨u, rfl, ru⟩ := vals1 r
  obtain ⟨as, rd⟩ := Dp.reads I d x u hd ru
  have fin : ∀ h' t tk, (∀ b o, s.heap.get? b = some o → h'.get? b = some o) → EP X pins σ Q (.str d.shown t) { s with heap := h', toks := tk } := fun h' t tk k => ⟨.str d.shown, H, I.kept k, ⟨t, rfl⟩, q⟩
  cases x with
  | ref a =>
    obtain rfl : u = Value.ref a := ru
    exact repr_of_reads' rd hs (fun z => by rw [hn] at z; cases z) hg (by omega) (fun _ _ z => z) (fun h' t tk k => fin h' t tk k) hz
  | non =>
    obtain rfl : u = Value.none := ru
    cases hd
    exact PySem.P.repr_of_none (fin s.heap s.toks (s.toks + 1) fun _ _ z => z)
  | bl b =>
    obtain rfl : u = Value.bool b := ru
    cases hd
    exact PySem.P.repr_of_bool (fin s.heap s.toks (s.toks + 1) fun _ _ z => z)
  | int i =>
    obtain ⟨t, rfl⟩ := ru
    cases hd
    exact PySem.P.repr_of_int (by simpa [PyData.showable] using hs) (fin s.heap s.toks (s.toks + 1) fun _ _ z => z)
  | str z =>
    obtain ⟨t, rfl⟩ := ru
    cases hd
    exact PySem.P.repr_of_str (fin s.heap s.toks (s.toks + 1) fun _ _ z => z) hz
  | _ => cases hd
end
section
variable {P : Program} {w : World} {K : PySem.W.Frag} {mg mb : Str → Option Value} {k : Nat} {fa a : Addr} {fd : FuncData} {x : Str} {sp : Sp} {s₁ : Shared} {vs : List Value} {ns : List Int}
theorem lawG (KX : K.In s₁.heap) (hns : s₁.heap.Ns mainGlobals mg) (hb : s₁.heap.Ns builtinsNs mb) (hbb : ∀ x : Str, x ≠ "__name__" → mb x = bootBuiltins x) (hlim : s₁.heap.NoLimit) (hgn : s₁.gens = #[])
    (ha : s₁.heap.get? a = some { cls := .type "list", data := .seq vs.toArray }) (hi : IntsAre vs ns) (hl : ns.length ≤ sizeLine) (hr : Room k callerA)
    (F : ∀ base : Heap, K.In base → base.Ns mainGlobals mg → FnG P w K mg base CX0 k fa fd [x] sp) (hbind : ∀ (s : Shared) (u : Value), BindsTo s fd ⟨[u], []⟩ [(x, u)])
    (hsp : ∀ H : Hp, SqL K H a (ns.map V.int) → sp [.ref a] H (fun v _ => v = .bl true) fun _ _ _ => False) :
    codeAny (model P w) callerA (.call (.ref fa) ⟨[.ref a], []⟩) (fun r s' => r = .ok (.ret (.bool true)) ∧ OldK s₁.heap s'.heap ∧ s'.os = s₁.os ∧ AllBare s'.gens) s₁ := by
  have rv := vals_ints hi
  have hlen : vs.length = ns.length := hi.length
  have go : ∀ T : Bool, (T = true → K.lookup a = none) → SqL K (fun b => if b = a ∧ T = true then some (.frz { cls := .type "list", data := .seq vs.toArray } (.lst (ns.map V.int))) else none) a (ns.map V.int) →
      codeAny (model P w) callerA (.call (.ref fa) ⟨[.ref a], []⟩) (fun r s' => r = .ok (.ret (.bool true)) ∧ OldK s₁.heap s'.heap ∧ s'.os = s₁.os ∧ AllBare s'.gens) s₁ := by
    intro T hT hS
    generalize hH : (fun b => if b = a ∧ T = true then some (HO.frz { cls := .type "list", data := .seq vs.toArray } (.lst (ns.map V.int))) else none : Hp) = H at hS
    have at_ : ∀ b u, H b = some u → b = a ∧ T = true ∧ u = .frz { cls := .type "list", data := .seq vs.toArray } (.lst (ns.map V.int)) := fun b u z => by
      rw [← hH] at z
      by_cases q : b = a ∧ T = true
      · exact ⟨q.1, q.2, (Option.some.inj ((if_pos q).symm.trans z)).symm⟩
      · exact nomatch (if_neg q).symm.trans z
    have off : ∀ b, b ≠ a → H b = none := fun b n => by
      rw [← hH]
      exact if_neg fun z => n z.1
    have hok : HOk P w H s₁.heap := fun b u z => by
      obtain ⟨rfl, _, rfl⟩ := at_ b u z
      exact ⟨ha, ⟨by rw [List.length_map]; exact hl, vs, _, rv, ha⟩⟩
    have low : ∀ {b : Addr} {o : Obj}, s₁.heap.get? b = some o → (∀ z, o.data ≠ .seq vs.toArray z) → (hidT s₁.heap H).get? b = some o := fun {b o} e n => hidT_get e (off b fun z => by
      subst z
      rw [ha] at e
      cases e
      exact n _ rfl)
    have nsL : ∀ {b : Addr} {m : Str → Option Value}, s₁.heap.Ns b m → (hidT s₁.heap H).Ns b m := fun ⟨o, es, ep, e, d, z⟩ => ⟨o, es, ep, low e (fun y q => by rw [d] at q; cases q), d, z⟩
    have hKb : K.In (hidT s₁.heap H) := fun b o e => hidT_get (KX b o e) (by
      cases q : H b with
      | none => rfl
      | some u =>
        obtain ⟨rfl, h2, _⟩ := at_ b u q
        rw [hT h2] at e
        cases e)
    have hM : Mod K mg (hidT s₁.heap H) := ⟨hKb, nsL hns, ⟨mb, nsL hb, hbb⟩, let ⟨mc, z1, z2⟩ := hlim; ⟨mc, nsL z1, z2⟩⟩
    have e0 : Env0 P w K mg (hidT s₁.heap H) callerA [] s₁ H := { frames := rfl, mod := hM, bs := fun b o e => of_hidT e, bsz := Nat.le_of_eq (hidT_size _ _), funs := trivial, frf := (fun b z => nomatch z), hok := hok, bare := .of_eq hgn }
    refine codeAny_mono ((F _ hKb (nsL hns)).run (us := [.ref a]) (vs := [.ref a]) hr rfl e0 (hbind s₁ (.ref a)) (.cons rfl .nil) (hsp H hS)) fun r s' h => ?_
    cases r with
    | error e => exact False.elim h
    | ok fl =>
      cases fl with
      | ret u =>
        obtain ⟨v, H', os, bare, un, hok', r', q⟩ := h
        obtain rfl : v = .bl true := q
        obtain rfl : u = Value.bool true := r'
        refine ⟨rfl, OldK.of_keep fun b o e => ?_, os, bare⟩
        cases q : H b with
        | none => exact un.keep b o e q (fun z => nomatch z) (fun z => nomatch z)
        | some u =>
          obtain ⟨rfl, _, rfl⟩ := at_ b u q
          have z2 := un.frzs _ _ _ q
          rw [ha] at e
          cases e
          exact (hok' _ _ z2).1
      | _ => exact False.elim h
  cases hk : K.lookup a with
  | some o =>
    have e := KX a o hk
    rw [ha] at e
    cases e
    exact go false (fun z => by cases z) (.inr ⟨_, vs.toArray, _, hk, rfl, rfl, rfl, by rw [List.size_toArray, hlen]; exact hl, by simpa using rv⟩)
  | none => exact go true (fun _ => hk) (.inl (.inr ⟨_, if_pos ⟨rfl, rfl⟩⟩))
theorem walkG {l : PySem.W.OpenLaw} {n : Nat} {q : Program} {loose : List Str} {XP : (Str → Option Value) → Heap → Prop} {YP : World → Heap → Prop} {d : DefRec} (hn : l.most = some n) (hn2 : n ≤ sizeLine) (hdf : d.params.defaults = []) (hr : Room k callerA)
    (F : ∀ (w : World) (mg : Str → Option Value) (fa : Addr) (h : Heap), YP w h → h.Ns mainGlobals mg → mg d.name = some (.ref fa) →
      ∃ (K : PySem.W.Frag) (fd : FuncData) (sp : Sp), K.In h ∧ (∀ (s : Shared) (u : Value), BindsTo s fd ⟨[u], []⟩ [(x, u)]) ∧
        (∀ (H : Hp) (a : Addr) (ns : List Int), ns.length ≤ n → SqL K H a (ns.map V.int) → sp [.ref a] H (fun v _ => v = .bl true) fun _ _ _ => False) ∧
        ∀ base : Heap, K.In base → base.Ns mainGlobals mg → FnG l.prog w K mg base CX0 k fa fd [x] sp) :
    PySem.W.WalkO q loose XP YP l.row.toRowW d [] (fun f vs => PySem.call f vs) := by
  refine Att.attach_call hn hdf fun w s₀ s₁ mg mb fa o pm cd doc a vs ns G Y ho hd hcd hmg hobj hints hlen hg => ?_
  obtain ⟨K, fd, sp, KX, hb, hsp, hF⟩ := F w mg fa _ Y G.T.g hmg
  exact lawG KX G.T.g G.T.b G.T.builtins G.T.nolimit hg hobj hints (Nat.le_trans hlen hn2) hr hF hb fun H hS => hsp H a ns hlen hS
end
end LT

namespace LT
open PySem PySem.Spec PyProof.Rows L2
theorem turnLong {P : Program} {w : World} {K : PySem.W.Frag} {tg : Expr} (q : Addr) (a : Int) (m : Nat) :
    Turn P w K tg (Itr a m) [q] q (fun j hp => IsLongIter hp q (a + (j : Nat) * 1) ((m : Int) - (j : Nat)) 1) where
  mem := List.mem_singleton.mpr rfl
  obj := fun j hp st b hb => by
    obtain rfl := List.mem_singleton.mp hb
    refine ⟨_, st, fun v z => ?_⟩
    have y : Data.fields _ = Data.cell v := z
    cases y
  keep := fun j hp hp' st k => k q (List.mem_singleton.mpr rfl) _ st
  item := by
    intro X e1 e2 e3 hc j pins s σ H E I hf st hg
    subst e1 e2 e3
    obtain ⟨g0, g1, g2, g3, g4, g5⟩ := hf q (List.mem_singleton.mpr rfl)
    refine (Walks.longrange (prog := X.prog) (w := X.w) (I.ok.hd hc) q a 1 m).item j s _ _ hg st fun v hp' tk hv st' kk => ?_
    obtain ⟨t, rfl⟩ := hv
    have J : Inv X pins σ H { s with heap := hp', toks := tk } := I.turned (fun b o hb z => kk b o (by simpa using hb) z) g0 g1 g3 g4 g5
    refine ⟨_, rfl, go_of (s := { s with heap := hp', toks := tk }) (n := "longrange_iterator") st' rfl rfl (by decide) ⟨.int (a + j), H, J, ⟨t, by rw [Int.mul_one]⟩, ⟨rfl, rfl⟩, st', fun b hb => (hf b hb).1⟩⟩
  done := by
    intro X e1 e2 e3 hc j pins s σ H E I hf st hg
    subst e1 e2 e3
    obtain ⟨g0, g1, g2, g3, g4, g5⟩ := hf q (List.mem_singleton.mpr rfl)
    have hl : m ≤ j := hg
    exact wpAny_pyNext_long_end (I.ok.hd hc) st (by omega) fun hp' eb => ⟨rfl, I.turned (t' := s.toks) (fun b o hb z => eb b o hb z) g0 g1 g3 g4 g5⟩
  self := fun _ _ _ _ _ st k => wpAny_pyIter_longiter st k
section
variable {X : Cx} {tg : Expr}
theorem rangeAny {pins : List (Addr × Obj)} {σ : L2.St} {H : Hp} {s : Shared} {R : It → Hp → Prop} {E : Value → Shared → Prop} {a b : Int} {t u v : Tok} {tk : Nat} (I : Inv X pins σ H s) (k : R (Itr a (b - a).toNat) H) :
    wpAny (model X.prog X.w) X.A (pyIter (.ref s.heap.objs.size)) (PIE X pins σ tg R) E { s with heap := s.heap.push { cls := .type "range", data := .fields #[.int a t, .int b u, .int 1 v] }, toks := tk } := by
  have e2 : (((b - a).toNat : Nat) : Int) - ((0 : Nat) : Int) = Builtin.Range.rangeSize a b 1 := by
    rw [rangeSize_one]
    split <;> omega
  have e1 : a + ((0 : Nat) : Int) * 1 = a := by simp
  have J : Inv X pins σ H { s with heap := s.heap.push { cls := .type "range", data := .fields #[.int a t, .int b u, .int 1 v] }, toks := tk } := I.kept fun c o z => Heap.get?_push_of_some _ z
  cases hs : Builtin.Range.small a b 1 with
  | true =>
    refine wpAny_pyIter_range (IsRange.new ..) hs ⟨_, [(s.heap.push { cls := .type "range", data := .fields #[.int a t, .int b u, .int 1 v] }).objs.size], _, _, H, rfl, J.kept (t' := tk) fun c o z => Heap.get?_push_of_some _ z, turn_range _ a (b - a).toNat, ?_, fun c hc => ?_, k⟩
    · show IsRangeIter _ _ (a + ((0 : Nat) : Int) * 1) ((((b - a).toNat : Nat) : Int) - ((0 : Nat) : Int)) 1
      rw [e1, e2]
      exact Heap.get?_push_size _ rfl
    · obtain rfl := List.mem_singleton.mp hc
      exact J.fpOk (Nat.le_refl _) (J.hok.fresh (Nat.le_refl _))
  | false =>
    refine wpAny_pyIter_longrange (IsRange.new ..) hs ⟨_, [(s.heap.push { cls := .type "range", data := .fields #[.int a t, .int b u, .int 1 v] }).objs.size], _, _, H, rfl, J.kept (t' := tk) fun c o z => Heap.get?_push_of_some _ z, turnLong _ a (b - a).toNat, ?_, fun c hc => ?_, k⟩
    · show IsLongIter _ _ (a + ((0 : Nat) : Int) * 1) ((((b - a).toNat : Nat) : Int) - ((0 : Nat) : Int)) 1
      rw [e1, e2]
      exact Heap.get?_push_size _ rfl
    · obtain rfl := List.mem_singleton.mp hc
      exact J.fpOk (Nat.le_refl _) (J.hok.fresh (Nat.le_refl _))
def jRng1 (ta : TA) : TI := fun σ H R => ta σ H fun us H1 => ∃ j : Int, us = [.int j] ∧ R (Itr 0 j.toNat) H1
def jRng2 (ta : TA) : TI := fun σ H R => ta σ H fun us H1 => ∃ i j : Int, us = [.int i, .int j] ∧ R (Itr i (j - i).toNat) H1
theorem pj_range1 {e : Expr} {ta : TA} {p pos : Pos} (hg : Gl X "range") (hm : X.mg "range" = none) (ha : PA X [e] ta) (hs : starEach [e] X.env = [(false, eval e X.env)]) : PI X tg (.Call (.Name "range" p) [e] [] pos) (jRng1 ta) := by
  refine ⟨fun pins s σ H R I h => Call_ (ld_blt I hg hm boot_range (PyProof.Rows.callWith_type1 (thn (ha.run pos pins s σ H _ I h) fun us s1 ⟨vs, H1, I1, r1, q1⟩ => ?_) hs rfl))⟩
  obtain ⟨j, rfl, k⟩ := q1
  cases r1 with
  | cons r rr =>
    cases rr
    obtain ⟨t, rfl⟩ := r
    exact call_range_1 (rangeAny I1 (by simpa using k))
theorem pj_range2 {e f : Expr} {ta : TA} {p pos : Pos} (hg : Gl X "range") (hm : X.mg "range" = none) (ha : PA X [e, f] ta) (hs : starEach [e, f] X.env = [(false, eval e X.env), (false, eval f X.env)]) (hs2 : starEach [f] X.env = [(false, eval f X.env)]) :
    PI X tg (.Call (.Name "range" p) [e, f] [] pos) (jRng2 ta) := by
  refine ⟨fun pins s σ H R I h => Call_ (ld_blt I hg hm boot_range (PyProof.Rows.callWith_type1 (thn (ha.run pos pins s σ H _ I h) fun us s1 ⟨vs, H1, I1, r1, q1⟩ => ?_) (by rw [hs, hs2]) (by rw [hs2]; rfl)))⟩
  obtain ⟨i, j, rfl, k⟩ := q1
  cases r1 with
  | cons r rr =>
    cases rr with
    | cons r' rr =>
      cases rr
      obtain ⟨t, rfl⟩ := r
      obtain ⟨t', rfl⟩ := r'
      exact call_range_2 (rangeAny I1 k)
end
end LT

namespace LT
open PySem PySem.Spec PyProof.Rows L2
theorem zipNoLen : typeLookup (.type "zip") "__len__" = pure none := am_miss_of_fast (by decide +kernel)
theorem zipNoHint : typeLookup (.type "zip") "__length_hint__" = pure none := am_miss_of_fast (by decide +kernel)
def ZipSt (S z TI TO i1 i2 a b : Addr) (i : Nat) (h : Heap) : Prop :=
  IsPair h TI (.ref i1) (.ref i2) ∧ h.IsListIter i1 a i ∧ h.IsListIter i2 b i ∧ (∃ o, h.get? TO = some o) ∧
    ((IsZip h z TI TO .none ∧ ∃ u v, IsPair h TO u v) ∨ ∃ T f oT, IsZipHeld h z TI TO T f ∧ h.get? T = some oT ∧ T ≠ z ∧ T ≠ i1 ∧ T ≠ i2 ∧ T ≠ S)
abbrev Sb (G H : Hp) : Prop := ∀ a o, G a = some o → H a = some o
def PairsAt (H : Hp) (xs ys : List V) (ps : List Addr) : Prop := ∀ (j : Nat) (p : Addr), ps[j]? = some p → ∃ x y, xs[j]? = some x ∧ ys[j]? = some y ∧ H p = some (.tup [x, y])
theorem valsSnoc {us : List V} {ws : List Value} {u : V} {w : Value} (h : Vals us ws) (r : RelV u w) : Vals (us ++ [u]) (ws ++ [w]) := by
  induction h with
  | nil => exact .cons r .nil
  | cons a t ih => exact .cons a ih
theorem valsAt : ∀ {us : List V} {ws : List Value}, us.length = ws.length → (∀ (k : Nat) (a : V) (b : Value), us[k]? = some a → ws[k]? = some b → RelV a b) → Vals us ws
  | [], [], _, _ => .nil
  | [], _ :: _, h, _ => by cases h
  | _ :: _, [], h, _ => by cases h
  | a :: us, b :: ws, h, f => .cons (f 0 a b rfl rfl) (valsAt (by simpa using h) fun k x y h1 h2 => f (k + 1) x y h1 h2)
theorem fpUpd {X : Cx} {pins : List (Addr × Obj)} {H : Hp} {c T : Addr} {o : HO} (h : FpOk X pins H c) (hn : c ≠ T) : FpOk X pins (upd H T o) c := ⟨by rw [upd_ne hn]; exact h.1, h.2⟩
section
variable {X : Cx} {pins : List (Addr × Obj)} {σ : L2.St}
theorem zipLoop {A : Around} {R : Result → Shared → Prop} {S z TI TO i1 i2 a b : Addr} {res : Value} {xs ys : List V} {H0 : Hp} (hh : A.handled = none) (D : ZipApart z TI TO i1 i2 a b) (n1 : S ≠ z) (n2 : S ≠ TI) (n3 : S ≠ TO) (n4 : S ≠ i1) (n5 : S ≠ i2)
    (hx : H0 a = some (.lst xs)) (hy : H0 b = some (.lst ys)) (hl : min xs.length ys.length ≤ sizeLine)
    (hend : ∀ s' H' ps acc c, Inv X pins σ H' s' → Sb H0 H' → s'.heap.get? S = some (lstObj acc c) → Vals (ps.map V.ref) acc.toList → ps.length = min xs.length ys.length → PairsAt H' xs ys ps → (∀ p ∈ ps, H0 p = none) → FpOk X pins H' S → R (.ok (.ret res)) s') :
    ∀ (k i : Nat) (s : Shared) (H : Hp) (ps : List Addr) (acc : Array Value) (c : Nat), i + k = min xs.length ys.length → Inv X pins σ H s → (∀ q ∈ [S, z, TI, TO, i1, i2], FpOk X pins H q) → Sb H0 H → ZipSt S z TI TO i1 i2 a b i s.heap →
      s.heap.get? S = some (lstObj acc c) → Vals (ps.map V.ref) acc.toList → ps.length = i → PairsAt H xs ys ps → (∀ p ∈ ps, H0 p = none) →
      codeAny (model X.prog X.w) A (.builtin "list.extend.loop" ⟨[.ref S, .ref z, res], []⟩) R s := by
  intro k
  induction k with
  | zero =>
    intro i s H ps acc c hk I hf sb st hS hv hp hP h0
    obtain ⟨hTI, h1, h2, ⟨oO, hO⟩, hz⟩ := st
    obtain ⟨its, rv, p, _⟩ := I.list (SqL.of (sb _ _ hx))
    obtain ⟨its2, rv2, p2, _⟩ := I.list (SqL.of (sb _ _ hy))
    have l1 := rv.length
    have l2 := rv2.length
    have he : its.toArray[i]? = none ∨ its2.toArray[i]? = none := by
      rcases Nat.le_total xs.length ys.length with q | q
      · exact .inl (by rw [Nat.min_eq_left q] at hk; simp; omega)
      · exact .inr (by rw [Nat.min_eq_right q] at hk; simp; omega)
    refine codeAny_builtin F.entry_extend_loop ?_
    rw [Around.under_plainId F.plain_extend_loop _]
    show wpAny _ A.in1 (pyNext (.ref z) >>= _) _ _ s
    have fin : ∀ h', (∀ q o, q ≠ z → q ≠ TO → q ≠ i1 → q ≠ i2 → s.heap.get? q = some o → h'.get? q = some o) → R (.ok (.ret res)) { s with heap := h' } := fun h' hq => by
      refine hend _ H ps acc c (I.turnedL (t' := s.toks) (ch := [S, z, TI, TO, i1, i2]) (fun q o hb e => hq q o (fun x => hb (by simp [x])) (fun x => hb (by simp [x])) (fun x => hb (by simp [x])) (fun x => hb (by simp [x])) e) hf) sb (hq _ _ n1 n3 n4 n5 hS) hv (by omega) hP h0 (hf S (by simp))
    rcases hz with ⟨hz, u, v, hTO⟩ | ⟨T, f, oT, hz, hT, r1, r2, r3, r4⟩
    · exact wpAny_bind (wpAny_pyNext_zip_end (A := A.in1) hh D hz hTI hTO h1 h2 p.isList p2.isList he fun h' hq => wpAny_pure (fin h' hq))
    · exact wpAny_bind (wpAny_pyNext_zip_end_held (A := A.in1) hh D hz hT hTI h1 h2 p.isList p2.isList he fun h' hq => wpAny_pure (fin h' fun q o q1 q2 q3 q4 e => hq q o q1 q3 q4 e))
  | succ k ih =>
    intro i s H ps acc c hk I hf sb st hS hv hp hP h0
    obtain ⟨hTI, h1, h2, ⟨oO, hO⟩, hz⟩ := st
    obtain ⟨its, rv, p, _⟩ := I.list (SqL.of (sb _ _ hx))
    obtain ⟨its2, rv2, p2, _⟩ := I.list (SqL.of (sb _ _ hy))
    have ix : i < xs.length := by have := Nat.min_le_left xs.length ys.length; omega
    have iy : i < ys.length := by have := Nat.min_le_right xs.length ys.length; omega
    obtain ⟨u, hu, ru⟩ := rv.get (List.getElem?_eq_getElem ix)
    obtain ⟨u2, hu2, ru2⟩ := rv2.get (List.getElem?_eq_getElem iy)
    have hasz : acc.size = i := by
      have := hv.length
      rw [List.length_map, hp] at this
      simpa using this.symm
    have lt : ∀ {q o}, s.heap.get? q = some o → s.heap.objs.size ≠ q := fun e => Nat.ne_of_gt (Heap.lt_size e)
    have m1 : s.heap.objs.size ≠ i1 := let ⟨_, e, _⟩ := h1; lt e
    have m2 : s.heap.objs.size ≠ i2 := let ⟨_, e, _⟩ := h2; lt e
    have mz : s.heap.objs.size ≠ z := by
      rcases hz with ⟨hz, _⟩ | ⟨T, f, oT, hz, _⟩
      · exact lt hz
      · exact lt hz
    refine codeAny_builtin F.entry_extend_loop ?_
    rw [Around.under_plainId F.plain_extend_loop _]
    show wpAny _ A.in1 (pyNext (.ref z) >>= _) _ _ s
    have go : ∀ h', IsPair h' s.heap.objs.size u u2 → (∀ q o, q ≠ z → q ≠ TO → q ≠ i1 → q ≠ i2 → s.heap.get? q = some o → h'.get? q = some o) → ZipSt S z TI TO i1 i2 a b (i + 1) h' →
        wpAny (model X.prog X.w) A.in1 (updateSeq S (·.push (.ref s.heap.objs.size)) >>= fun _ => again (.builtin "list.extend.loop" ⟨[.ref S, .ref z, res], []⟩))
          (fun fin s' => match fin with | .done f => R (.ok f) s' | .again c' => c'.quiet = true ∧ codeAny (model X.prog X.w) A c' R s') (fun e s' => R (.error e) s') { s with heap := h' } := by
      intro h' hT hq st'
      have hS' : h'.get? S = some (lstObj acc c) := hq _ _ n1 n3 n4 n5 hS
      have new : ObjOk X.prog X.w (upd H s.heap.objs.size (.tup [xs[i], ys[i]])) h' s.heap.objs.size (.tup [xs[i], ys[i]]) := ⟨by show 2 ≤ sizeLine; decide, [u, u2], .cons ru (.cons ru2 .nil), ⟨_, hT, rfl, _, rfl⟩⟩
      have J : Inv X pins σ (upd H s.heap.objs.size (.tup [xs[i], ys[i]])) { s with heap := h' } :=
        I.turnedNew (t' := s.toks) (ch := [S, z, TI, TO, i1, i2]) (fun q o hb e => hq q o (fun x => hb (by simp [x])) (fun x => hb (by simp [x])) (fun x => hb (by simp [x])) (fun x => hb (by simp [x])) e) hf (Nat.le_refl _) new
      have hfresh : H s.heap.objs.size = none := I.hok.fresh (Nat.le_refl _)
      have nT : ∀ q ∈ [S, z, TI, TO, i1, i2], q ≠ s.heap.objs.size := by
        intro q hqm e
        have : q = S ∨ q = z ∨ q = TI ∨ q = TO ∨ q = i1 ∨ q = i2 := by simpa using hqm
        rcases this with e' | e' | e' | e' | e' | e'
        · exact lt hS (by rw [← e, e'])
        · exact mz (by rw [← e, e'])
        · exact lt hTI (by rw [← e, e'])
        · exact lt hO (by rw [← e, e'])
        · exact m1 (by rw [← e, e'])
        · exact m2 (by rw [← e, e'])
      refine wpAny_bind (wpAny_updateSeq hS' rfl (wpAny_pure ⟨plainId_quiet F.plain_extend_loop _, ?_⟩) (by rw [hasz]; omega) (by show (acc.push _).size ≤ sizeLine + 1; rw [Array.size_push, hasz]; omega))
      have oth : ∀ q o, q ≠ S → h'.get? q = some o → (h'.update S (Obj.mapSeq (·.push (.ref s.heap.objs.size)))).get? q = some o := fun q o hqS e => (Heap.get?_update_other _ _ (Ne.symm hqS)).trans e
      have hf' : ∀ q ∈ [S, z, TI, TO, i1, i2], FpOk X pins (upd H s.heap.objs.size (.tup [xs[i], ys[i]])) q := fun q hqm => fpUpd (hf q hqm) (nT q hqm)
      have J2 : Inv X pins σ (upd H s.heap.objs.size (.tup [xs[i], ys[i]])) { s with heap := h'.update S (Obj.mapSeq (·.push (.ref s.heap.objs.size))) } :=
        Inv.turnedL (s := { s with heap := h' }) (t' := s.toks) (ch := [S]) J (fun q o hb e => oth q o (fun x => hb (by simp [x])) e) (fun q hqm => hf' q (by rw [List.mem_singleton.mp hqm]; simp))
      have sb' : Sb H0 (upd H s.heap.objs.size (.tup [xs[i], ys[i]])) := fun q o e => by
        rw [upd_ne (fun x => by rw [x] at e; rw [sb _ _ e] at hfresh; cases hfresh)]
        exact sb q o e
      obtain ⟨gTI, g1, g2, ⟨oO', gO⟩, gz⟩ := st'
      refine ih (i + 1) _ _ (ps ++ [s.heap.objs.size]) (acc.push (.ref s.heap.objs.size)) _ (by omega) J2 hf' sb' ⟨oth _ _ (Ne.symm n2) gTI, g1.at fun o e => oth _ o (Ne.symm n4) e, g2.at fun o e => oth _ o (Ne.symm n5) e, ⟨oO', oth _ _ (Ne.symm n3) gO⟩, ?_⟩ (Heap.get?_update_self _ hS' rfl) ?_ (by simp [hp]) ?_ ?_
      · rcases gz with ⟨gz, x0, y0, gTO⟩ | ⟨T, f, oT, gz, gT, r1, r2, r3, r4⟩
        · exact .inl ⟨oth _ _ (Ne.symm n1) gz, x0, y0, oth _ _ (Ne.symm n3) gTO⟩
        · exact .inr ⟨T, f, oT, oth _ _ (Ne.symm n1) gz, oth _ _ r4 gT, r1, r2, r3, r4⟩
      · rw [List.map_append, Array.toList_push]
        exact valsSnoc hv rfl
      · intro j q hj
        rw [List.getElem?_append] at hj
        split at hj
        · obtain ⟨x, y, e1, e2, e3⟩ := hP j q hj
          refine ⟨x, y, e1, e2, ?_⟩
          rw [upd_ne (fun x => by rw [x] at e3; rw [e3] at hfresh; cases hfresh)]
          exact e3
        · rename_i hge
          have hj0 : j - ps.length = 0 := by
            have := (List.getElem?_eq_some_iff.mp hj).1
            simp at this
            omega
          have hji : j = i := by omega
          rw [hj0] at hj
          cases hj
          subst hji
          exact ⟨_, _, List.getElem?_eq_getElem ix, List.getElem?_eq_getElem iy, upd_same⟩
      · intro q hqm
        rcases List.mem_append.mp hqm with e | e
        · exact h0 q e
        · have e' : q = s.heap.objs.size := by simpa using e
          rw [e']
          cases z0 : H0 s.heap.objs.size with
          | none => rfl
          | some o =>
            rw [sb _ _ z0] at hfresh
            cases hfresh
    rcases hz with ⟨hz, x0, y0, hTO⟩ | ⟨T, f, oT, hz, hT, r1, r2, r3, r4⟩
    · refine wpAny_bind (wpAny_pyNext_zip_item D hz hTI hTO h1 h2 p.isList p2.isList (x := u) (y := u2) (by simpa using hu) (by simpa using hu2) fun h' a1 a2 a3 a4 a5 a6 hq => ?_)
      exact go h' a5 hq ⟨hq _ _ D.TIz D.TITO D.TIi1 D.TIi2 hTI, a3, a4, ⟨_, a2⟩, .inr ⟨_, false, _, a1, a5, mz, m1, m2, lt hS⟩⟩
    · refine wpAny_bind (wpAny_pyNext_zip_item_held D hz hT hTI h1 h2 p.isList p2.isList (x := u) (y := u2) (by simpa using hu) (by simpa using hu2) fun h' a1 a3 a4 a5 a6 hq => ?_)
      exact go h' a5 (fun q o q1 q2 q3 q4 e => hq q o q1 q3 q4 e) ⟨hq _ _ D.TIz D.TIi1 D.TIi2 hTI, a3, a4, ⟨oO, hq _ _ D.TOz D.TOi1 D.TOi2 hO⟩, .inr ⟨T, true, oT, a1, hq _ _ r1 r2 r3 hT, r1, r2, r3, r4⟩⟩
theorem adoptL {H : Hp} {s : Shared} {S : Addr} {acc : Array Value} {c : Nat} {out : List V} (I : Inv X pins σ H s) (hf : FpOk X pins H S) (hlen : out.length ≤ sizeLine) (e : s.heap.get? S = some (lstObj acc c)) (r : Vals out acc.toList) : Inv X pins σ (upd H S (.lst out)) s := by
  have hn : H S = none := hf.1
  refine I.call' (ch := [S]) rfl ⟨fun b o q _ _ _ => q, fun b o q _ _ _ => ⟨o.slots, q⟩, fun b o q n hx => ?_, fun b o q _ => ⟨o, q⟩, fun b xs q => ?_, fun b o u q => ?_, fun b qs q => ⟨#[], ?_⟩⟩ (fun b u q => ?_) I.bare ?_
  · rw [upd_ne (fun z => hx (by simp [z]))]
    exact n
  · rw [upd_ne (ne_of_none q hn)]
    exact q
  · rw [upd_ne (ne_of_none q hn)]
    exact q
  · rw [upd_ne (ne_of_none q hn), q]
    simp
  · by_cases hb : b = S
    · subst hb
      rw [upd_same] at q
      cases q
      exact ⟨hlen, acc.toList, c, r, e⟩
    · rw [upd_ne hb] at q
      exact (I.hok b u q).stay (fun _ _ _ z => z) (fun d z => by rw [upd_ne (ne_of_none z hn)]; exact z) fun d xs z => by rw [upd_ne (ne_of_none z hn)]; exact z
  · intro b hb
    obtain rfl := List.mem_singleton.mp hb
    exact ⟨hf.2.2.2.1, hf.2.1, hf.2.2.2.2.1, hf.2.2.2.2.2⟩
def rLZip (vs : List V) (H : Hp) (Q : VK) : Prop := ∃ a b xs ys, vs = [.ref a, .ref b] ∧ H a = some (.lst xs) ∧ H b = some (.lst ys) ∧ min xs.length ys.length ≤ sizeLine ∧
  ∀ ps H' l, ps.length = min xs.length ys.length → Sb H H' → PairsAt H' xs ys ps → (∀ p ∈ ps, H p = none) → H' l = none → Q (.ref l) (upd H' l (.lst (ps.map V.ref)))
theorem call_lzip {H : Hp} {s : Shared} {a b : Addr} {xs ys : List V} {Q : VK} {E : Value → Shared → Prop} (hc : X.calm = true) (I : Inv X pins σ H s) (hx : H a = some (.lst xs)) (hy : H b = some (.lst ys)) (hl : min xs.length ys.length ≤ sizeLine)
    (q : ∀ ps H' l, ps.length = min xs.length ys.length → Sb H H' → PairsAt H' xs ys ps → (∀ p ∈ ps, H p = none) → H' l = none → Q (.ref l) (upd H' l (.lst (ps.map V.ref)))) :
    wpAny (model X.prog X.w) X.A (call (.type "zip") [.ref a, .ref b]) (fun z s1 => wpAny (model X.prog X.w) X.A (call (.type "list") [z]) (EP X pins σ Q) E s1) E s := by
  obtain ⟨its, rv, p1, _⟩ := I.list (SqL.of hx)
  obtain ⟨its2, rv2, p2, _⟩ := I.list (SqL.of hy)
  have la : a < s.heap.objs.size := p1.lt
  have lb : b < s.heap.objs.size := p2.lt
  refine call_zip_2 p1.isList p2.isList fun h' hz hTI hTO h1 h2 hsz hk => ?_
  have D := PySem.W.ktu_apart s.heap.objs.size a b la lb
  have I2 : Inv X pins σ H { s with heap := h' } := I.kept (t' := s.toks) hk
  have zS : h'.objs.size ≠ s.heap.objs.size + 4 := by omega
  have w2 : h'.objs.size ≠ s.heap.objs.size + 2 := by omega
  have w3 : h'.objs.size ≠ s.heap.objs.size + 3 := by omega
  have w0 : h'.objs.size ≠ s.heap.objs.size := by omega
  have w1 : h'.objs.size ≠ s.heap.objs.size + 1 := by omega
  refine callType_codes (Q₁ := fun obj t => obj = .ref h'.objs.size ∧ t = { s with heap := h'.push { cls := .type "list", data := .seq #[] } }) F.called_list (F.typeCall_list_1 _) F.entry_list_init (code_list_new _ ⟨rfl, rfl⟩) fun obj t ht => ?_
  obtain ⟨rfl, rfl⟩ := ht
  have hS : (h'.push { cls := .type "list", data := .seq #[] }).get? h'.objs.size = some { cls := .type "list", data := .seq #[] } := Heap.get?_push_size _ rfl
  refine ⟨⟨_, hS, rfl⟩, F.args_list_init_2 _ _, ?_⟩
  show wpAny _ X.A.in1.in1 (do let old ← Builtin.List.listItems (.ref h'.objs.size); Builtin.List.listUpdate (.ref h'.objs.size) (fun _ => #[]); letGo old.toList.reverse; Builtin.List.listExtendWith (.ref h'.objs.size) (.ref (s.heap.objs.size + 4)) .none) _ _ _
  refine wpAny_bind ?_
  unfold Builtin.List.listItems
  refine wpAny_bind (wpAny_seqItems hS rfl (wpAny_pure ?_))
  show wpAny _ X.A.in1.in1 (updateSeq h'.objs.size (fun _ => #[]) >>= fun _ => letGo (#[] : Array Value).toList.reverse >>= fun _ => Builtin.List.listExtendWith (.ref h'.objs.size) (.ref (s.heap.objs.size + 4)) .none) _ _ _
  refine wpAny_bind (wpAny_updateSeq hS rfl ?_)
  have hS2 := Heap.get?_update_self (Obj.mapSeq (fun _ => (#[] : Array Value))) hS rfl
  refine wpAny_bind (wpAny_letGo ?_)
  unfold Builtin.List.listExtendWith
  have up : ∀ (h : Heap) (f : Obj → Obj), (∀ c o, h'.get? c = some o → h.get? c = some o) → ∀ c o, h'.get? c = some o → (h.update h'.objs.size f).get? c = some o := fun h f z c o e =>
    (Heap.get?_update_other _ _ (Ne.symm (Nat.ne_of_lt (Heap.lt_size e)))).trans (z c o e)
  have k1 : ∀ c o, h'.get? c = some o → (h'.push { cls := .type "list", data := .seq #[] }).get? c = some o := fun c o e => Heap.get?_push_of_some _ e
  have k2 := up _ (Obj.mapSeq (fun _ => (#[] : Array Value))) k1
  have zt : ∀ {h : Heap} {tk : Nat}, (∀ c o, h'.get? c = some o → h.get? c = some o) → ({ s with heap := h, toks := tk } : Shared).TypeIs (.ref (s.heap.objs.size + 4)) "zip" := fun {h tk} z => ⟨_, z _ _ hz, rfl⟩
  refine wpAny_bind (wpAny_typeOf (zt k2) ?_)
  have e1 : Builtin.List.listSameRef (.ref h'.objs.size) (.ref (s.heap.objs.size + 4)) = false := by simp [Builtin.List.listSameRef, zS]
  have e2 : (Value.type "zip" == Value.type "list") = false := by decide
  have e3 : (Value.type "zip" == Value.type "tuple") = false := by decide
  simp only [e1, e2, e3, Bool.or_false, Bool.false_eq_true, if_false]
  refine wpAny_bind (wpAny_pyIter_zip (k2 _ _ hz) ?_)
  refine wpAny_bind (wpAny_holding ?_)
  unfold Builtin.List.listLengthHint
  refine wpAny_bind (wpAny_specialOf (zt k2) zipNoLen ?_)
  show wpAny _ X.A.in1.in1 (specialOf (Value.ref (s.heap.objs.size + 4)) (Str.ofString "__length_hint__") >>= _) _ _ _
  refine wpAny_bind (wpAny_specialOf (zt k2) zipNoHint ?_)
  refine wpAny_pure ?_
  show wpAny _ X.A.in1.in1 (rule "list.extend.makes-room" >>= fun _ => Builtin.List.listTouch (.ref h'.objs.size) >>= fun _ => again (.builtin "list.extend.loop" ⟨[.ref h'.objs.size, .ref (s.heap.objs.size + 4), .none], []⟩)) _ _ _
  refine wpAny_bind (wpAny_rule ?_)
  refine wpAny_bind ?_
  show wpAny _ X.A.in1.in1 (updateSeq h'.objs.size (·.push .none) >>= fun _ => updateSeq h'.objs.size (·.pop)) _ _ _
  refine wpAny_bind (wpAny_updateSeq hS2 rfl ?_)
  have hS3 := Heap.get?_update_self (Obj.mapSeq (·.push Value.none)) hS2 rfl
  refine wpAny_updateSeq (hz := by seq_fits) hS3 rfl ?_
  have hS4 := Heap.get?_update_self (Obj.mapSeq (·.pop)) hS3 rfl
  have k4 := up _ (Obj.mapSeq (·.pop)) (up _ (Obj.mapSeq (·.push Value.none)) k2)
  refine wpAny_pure ⟨plainId_quiet F.plain_extend_loop _, ?_⟩
  have n0 : ∀ c, s.heap.objs.size ≤ c → FpOk X pins H c := fun c hc => I.fpOk hc (I.hok.fresh hc)
  refine zipLoop (X := X) (pins := pins) (σ := σ) (A := X.A.in1) (S := h'.objs.size) (z := s.heap.objs.size + 4) (TI := s.heap.objs.size + 2) (TO := s.heap.objs.size + 3) (i1 := s.heap.objs.size) (i2 := s.heap.objs.size + 1) (xs := xs) (ys := ys) (H0 := H) (I.ok.hd hc) D zS w2 w3 w0 w1 hx hy hl (fun s' H' ps acc c J sb hS' hv hp hP h0 hf => ⟨rfl, ?_⟩)
    (min xs.length ys.length) 0 _ H [] #[] _ (by omega) (I2.kept (t' := s.toks) k4) ?_ (fun _ _ e => e) ⟨k4 _ _ hTI, h1.at fun o e => k4 _ o e, h2.at fun o e => k4 _ o e, ⟨_, k4 _ _ hTO⟩, .inl ⟨k4 _ _ hz, _, _, k4 _ _ hTO⟩⟩ hS4 .nil rfl (fun j p hj => by cases hj) (fun p hp => by cases hp)
  · intro c hcm
    have : c = h'.objs.size ∨ c = s.heap.objs.size + 4 ∨ c = s.heap.objs.size + 2 ∨ c = s.heap.objs.size + 3 ∨ c = s.heap.objs.size ∨ c = s.heap.objs.size + 1 := by simpa using hcm
    exact n0 c (by
      rcases this with e | e | e | e | e | e <;> rw [e]
      · rw [hsz]; exact Nat.le_add_right _ _
      · exact Nat.le_add_right _ _
      · exact Nat.le_add_right _ _
      · exact Nat.le_add_right _ _
      · exact Nat.le_refl _
      · exact Nat.le_add_right _ _)
  · exact ⟨.ref h'.objs.size, _, adoptL J hf (by rw [List.length_map, hp]; exact hl) hS' hv, rfl, q ps H' h'.objs.size hp sb hP h0 hf.1⟩
theorem pe_lzip {e e2 : Expr} {ta : TA} {p pos p2 pos2 : Pos} (hc : X.calm = true) (gL : Gl X "list") (mL : X.mg "list" = none) (gZ : Gl X "zip") (mZ : X.mg "zip" = none) (ha : PA X [e, e2] ta)
    (hs : starEach [e, e2] X.env = (false, eval e X.env) :: starEach [e2] X.env) (hpl : (backTo pos2 (starEach [e2] X.env)).any (·.1) = false) :
    PE X (.Call (.Name "list" p) [.Call (.Name "zip" p2) [e, e2] [] pos2] [] pos) (fun σ H Q => ta σ H fun vs H1 => rLZip vs H1 Q) := by
  refine ⟨fun pins s σ H Q I h => Call_ (ld_blt I gL mL boot_list (PyProof.Rows.callWith_type1 (spliced_more ?_ rfl) rfl rfl))⟩
  refine Call_ (ld_blt I gZ mZ PyProof.Rows.boot_zip (PyProof.Rows.callWith_type1 (thn (ha.run pos2 pins s σ H _ I h) fun us s1 ⟨vs, H1, I1, r1, q1⟩ => ?_) hs hpl))
  obtain ⟨a, b, xs, ys, rfl, hx, hy, hl, q⟩ := q1
  cases r1 with
  | cons r rr =>
    cases rr with
    | cons r' rr =>
      cases rr
      cases r
      cases r'
      exact wpAny_mono (call_lzip hc I1 hx hy hl q) (fun z s2 h2 => spliced_none h2) fun _ _ x => x
def rLRng (i j : Int) (H : Hp) (Q : VK) : Prop := (-(2 ^ 62) ≤ i ∧ i < 2 ^ 62 ∧ -(2 ^ 62) ≤ j ∧ j < 2 ^ 62) ∧ (j - i).toNat ≤ 1000000 ∧ ∀ l, H l = none → Q (.ref l) (upd H l (.lst ((List.range (j - i).toNat).map fun k => V.int (i + (k : Nat)))))
theorem call_lrng {H : Hp} {s : Shared} {i j : Int} {t u v : Tok} {tk : Nat} {Q : VK} {E : Value → Shared → Prop} (hc : X.calm = true) (I : Inv X pins σ H s) (h : rLRng i j H Q) :
    wpAny (model X.prog X.w) X.A (call (.type "list") [.ref s.heap.objs.size]) (EP X pins σ Q) E { s with heap := s.heap.push { cls := .type "range", data := .fields #[.int i t, .int j u, .int 1 v] }, toks := tk } := by
  obtain ⟨⟨b1, b2, b3, b4⟩, hn, q⟩ := h
  have J : Inv X pins σ H { s with heap := s.heap.push { cls := .type "range", data := .fields #[.int i t, .int j u, .int 1 v] }, toks := tk } := I.kept fun c o z => Heap.get?_push_of_some _ z
  have e2 : Builtin.Range.rangeSize i j 1 = ((j - i).toNat : Nat) := by
    rw [rangeSize_one]
    split <;> omega
  refine call_list_range (I.ok.hd hc) (IsRange.new ..) (small_one b1 b2 b3 b4) e2 (Nat.le_trans hn (by decide)) fun h' tk' acc c kp hS hacc => ?_
  refine ⟨.ref _, _, J.laid (t' := tk') kp (Nat.le_refl _) (o := .lst ((List.range (j - i).toNat).map fun k => V.int (i + (k : Nat)))) ⟨?_, acc.toList, c, ?_, ?_⟩, rfl, q _ (J.hok.fresh (Nat.le_refl _))⟩
  · rw [List.length_map, List.length_range]
    exact Nat.le_trans hn (by decide)
  · refine valsAt (by rw [List.length_map, List.length_range, Array.length_toList, hacc.1]) fun k a b ha hb => ?_
    rw [List.getElem?_map] at ha
    obtain ⟨m, hm, rfl⟩ := Option.map_eq_some_iff.mp ha
    have hk : m = k := by
      have hlt := (List.getElem?_eq_some_iff.mp hm).1
      rw [List.length_range] at hlt
      rw [List.getElem?_range hlt] at hm
      cases hm
      rfl
    subst hk
    obtain ⟨t', rfl⟩ := hacc.2 m b (by rw [← Array.getElem?_toList]; exact hb)
    exact ⟨t', by rw [Int.mul_one]⟩
  · rw [Array.toArray_toList]
    exact hS
theorem pe_lrng1 {e : Expr} {ta : TA} {p pos p2 pos2 : Pos} (hc : X.calm = true) (gL : Gl X "list") (mL : X.mg "list" = none) (gR : Gl X "range") (mR : X.mg "range" = none) (ha : PA X [e] ta) (hs : starEach [e] X.env = [(false, eval e X.env)]) :
    PE X (.Call (.Name "list" p) [.Call (.Name "range" p2) [e] [] pos2] [] pos) (fun σ H Q => ta σ H fun vs H1 => ∃ j : Int, vs = [.int j] ∧ rLRng 0 j H1 Q) := by
  refine ⟨fun pins s σ H Q I h => Call_ (ld_blt I gL mL boot_list (PyProof.Rows.callWith_type1 (spliced_more ?_ rfl) rfl rfl))⟩
  refine Call_ (ld_blt I gR mR boot_range (PyProof.Rows.callWith_type1 (thn (ha.run pos2 pins s σ H _ I h) fun us s1 ⟨vs, H1, I1, r1, q1⟩ => ?_) hs rfl))
  obtain ⟨j, rfl, k⟩ := q1
  cases r1 with
  | cons r rr =>
    cases rr
    obtain ⟨t, rfl⟩ := r
    exact call_range_1 (spliced_none (call_lrng hc I1 k))
theorem pe_lrng2 {e f : Expr} {ta : TA} {p pos p2 pos2 : Pos} (hc : X.calm = true) (gL : Gl X "list") (mL : X.mg "list" = none) (gR : Gl X "range") (mR : X.mg "range" = none) (ha : PA X [e, f] ta) (hs : starEach [e, f] X.env = [(false, eval e X.env), (false, eval f X.env)]) (hs2 : starEach [f] X.env = [(false, eval f X.env)]) :
    PE X (.Call (.Name "list" p) [.Call (.Name "range" p2) [e, f] [] pos2] [] pos) (fun σ H Q => ta σ H fun vs H1 => ∃ i j : Int, vs = [.int i, .int j] ∧ rLRng i j H1 Q) := by
  refine ⟨fun pins s σ H Q I h => Call_ (ld_blt I gL mL boot_list (PyProof.Rows.callWith_type1 (spliced_more ?_ rfl) rfl rfl))⟩
  refine Call_ (ld_blt I gR mR boot_range (PyProof.Rows.callWith_type1 (thn (ha.run pos2 pins s σ H _ I h) fun us s1 ⟨vs, H1, I1, r1, q1⟩ => ?_) (by rw [hs, hs2]) (by rw [hs2]; rfl)))
  obtain ⟨i, j, rfl, k⟩ := q1
  cases r1 with
  | cons r rr =>
    cases rr with
    | cons r' rr =>
      cases rr
      obtain ⟨t, rfl⟩ := r
      obtain ⟨t', rfl⟩ := r'
      exact call_range_2 (spliced_none (call_lrng hc I1 k))
def rSumT (K : PySem.W.Frag) (vs : List V) (H : Hp) (Q : VK) : Prop := ∃ (a : Addr) (ns : List Int), vs = [V.ref a] ∧ SqT K H a (ns.map V.int) ∧ Q (.int ns.sum) H
theorem cr_sumT (hc : X.calm = true) : CallR X (.builtin "sum") (rSumT X.K) := by
  intro pins s σ H vs us Q I r h
  obtain ⟨a, ns, rfl, hs, q⟩ := h
  obtain ⟨its, rv, hl, _⟩ := I.tuple hs
  rw [Vals.ref1 r]
  obtain ⟨xs, e⟩ := rv.ints.allInts.items
  have hn : numsOf (intItems xs).toList = ns := by
    rw [← e]
    exact rv.ints.numsOf
  rw [nums_intItems] at hn
  have ht : s.heap.IsTuple a (intItems xs) := by
    rw [← e]
    exact hl
  refine call_sum_walkG (wpAny_pyIter_tuple ht ?_)
  have hne : a ≠ s.heap.objs.size := by
    obtain ⟨o, ho, _⟩ := ht
    exact Nat.ne_of_lt (Heap.lt_size ho)
  refine ⟨_, _, _, _, _, _, numAt xs, rfl, Walks.tuple (A := X.A.in1) (I.ok.hd hc) _ a hne (intItems xs), ⟨⟨_, Heap.get?_push_size _ rfl, rfl, rfl⟩, ht.at fun o z => Heap.get?_push_of_some _ z⟩, ?_, (fun _ _ => intItems_at), fun h' tk t' hk => ?_⟩
  · intro b hb
    have hsz : (s.heap.push { cls := .type "tuple_iterator", data := .fields #[.ref a, .int 0 0] }).objs.size = s.heap.objs.size + 1 := Heap.size_push ..
    have : b = s.heap.objs.size ∨ b = a := by simpa using hb
    obtain ⟨o, ho, _⟩ := ht
    have hlt := Heap.lt_size ho
    show b < (s.heap.push { cls := .type "tuple_iterator", data := .fields #[.ref a, .int 0 0] }).objs.size
    rw [hsz]
    rcases this with e | e
    · rw [e]
      exact Nat.lt_succ_self _
    · rw [e]
      exact Nat.lt_succ_of_lt hlt
  · have kp : ∀ b o, s.heap.get? b = some o → h'.get? b = some o := fun b o z => hk b o (fun m => by
      have e : b = s.heap.objs.size := by simpa using m
      exact absurd (Heap.lt_size z) (by rw [e]; exact Nat.lt_irrefl _)) (Heap.get?_push_of_some _ z)
    have hp : preSum (numAt xs) (intItems xs).size = ns.sum := by
      rw [preSum_eq, List.take_of_length_le (by simp [intItems]), hn]
    rw [hp]
    exact ⟨.int _, H, I.kept kp, ⟨_, rfl⟩, q⟩
def rIsB (x y : V) (H : Hp) (Q : VK) : Prop := ∃ a b : Bool, x = .bl a ∧ y = .bl b ∧ Q (.bl (a == b)) H
def rNotB (x y : V) (H : Hp) (Q : VK) : Prop := ∃ a b : Bool, x = .bl a ∧ y = .bl b ∧ Q (.bl (a != b)) H
theorem op_isB : OpR X (compareOp .Is) rIsB := by
  intro pins s σ H x y v u Q I rx ry h
  obtain ⟨a, b, rfl, rfl, q⟩ := h
  cases (show v = Value.bool a from rx)
  cases (show u = Value.bool b from ry)
  by_cases e : a = b
  · subst e
    exact wpAny_is_self rfl ⟨.bl true, H, I, rfl, by simpa using q⟩
  · exact wpAny_is_other rfl (fun z => e (Value.bool.inj z)) ⟨.bl false, H, I, rfl, by
      have z : (a == b) = false := by simpa using e
      rw [z] at q
      exact q⟩
theorem op_notB : OpR X (compareOp .IsNot) rNotB := by
  intro pins s σ H x y v u Q I rx ry h
  obtain ⟨a, b, rfl, rfl, q⟩ := h
  cases (show v = Value.bool a from rx)
  cases (show u = Value.bool b from ry)
  by_cases e : a = b
  · subst e
    exact wpAny_isNot_self rfl ⟨.bl false, H, I, rfl, by simpa using q⟩
  · exact wpAny_isNot_other rfl (fun z => e (Value.bool.inj z)) ⟨.bl true, H, I, rfl, by
      have z : (a != b) = true := by simpa using e
      rw [z] at q
      exact q⟩
end
end LT

namespace LT
open PySem PySem.Spec PyProof.Rows L2
abbrev noneYet (w : World) : Obj := { cls := .type "set", dict := none, data := .set #[] 0 (.fresh 0 0 (!w.params.followText "set-order")) }
theorem setR_mems {w : World} {h : Heap} {a : Addr} {S : Int → Bool} {n : Nat} (R : SetR w h a S n) : ∃ l : List Int, l.Nodup ∧ (∀ k, k ∈ l ↔ S k = true) ∧ l.length = n := by
  obtain ⟨o, es, ep, t, h1, h2, h3, h4, h5, h6, h7, h8, h9, h10⟩ := R
  exact ⟨es.toList.map keyOf, h5, fun k => (h6 k).symm, by rw [List.length_map, Array.length_toList]; exact h9⟩
section
variable {P : Program} {w : World} {A : Around} {E : Value → Shared → Prop}
theorem upd_dist {J : Addr} {kp ch : List Addr} {Z : Array GenState → Array GenState → Prop} {m : Nat} {Iv : Nat → Value → Prop} {Ok : Nat → Shared → Prop} {Fi : Result → Shared → Prop}
    (wk : WalksS P w A.in1 J kp ch Z m Iv Ok) (b : Addr) (out : b ∉ kp) (ns : List Int) (em : m = ns.length) (few : ∀ l : List Int, l.Nodup → (∀ k ∈ l, k ∈ ns) → l.length + 1 < scanBound) (its : ∀ i u, Iv i u → ∃ k t, ns[i]? = some k ∧ u = .int k t) :
    ∀ (r i : Nat) (s : Shared), m - i = r → i ≤ m → Ok i s → (∃ c, SetR w s.heap b (fun j => decide (j ∈ ns.take i)) c) →
      (∀ z c, Moved (b :: ch) Z s z → SetR w z.heap b (fun j => decide (j ∈ ns)) c → Fi (.ok (.ret .none)) z) →
      codeAny (model P w) A (.builtin "set.update.loop" ⟨[.ref b, .ref J], []⟩) Fi s := by
  have bc : b ∉ ch := fun e => out (wk.sub _ e)
  have up : ∀ a ∈ ch, a ∈ b :: ch := fun a e => List.mem_cons_of_mem _ e
  intro r
  induction r with
  | zero =>
    intro i s hr hi g ⟨c, sb⟩ fin
    obtain rfl : i = m := by omega
    refine codeAny_builtin F.entry_set_update_loop ?_
    rw [Around.under_plainId (F.plain_set_update_loop) _]
    show wpAny _ A.in1 (pyNext (.ref J) >>= _) _ _ s
    refine wpAny_bind (wk.done s _ _ g fun z mv => ?_)
    show wpAny _ A.in1 (ret Value.none) _ _ z
    rw [show ns.take i = ns from List.take_of_length_le (by omega)] at sb
    exact wpAny_pure (fin z c (mv.mono up) (sb.at fun o e => mv.heap b o bc e))
  | succ r ih =>
    intro i s hr hi g ⟨c, sb⟩ fin
    have im : i < m := by omega
    refine codeAny_builtin F.entry_set_update_loop ?_
    rw [Around.under_plainId (F.plain_set_update_loop) _]
    show wpAny _ A.in1 (pyNext (.ref J) >>= _) _ _ s
    refine wpAny_bind (wk.item i s _ _ im g fun u z iv g2 mv => ?_)
    obtain ⟨x, t, ex, rfl⟩ := its i u iv
    have sz : SetR w z.heap b (fun j => decide (j ∈ ns.take i)) c := sb.at fun o e => mv.heap b o bc e
    obtain ⟨l, l1, l2, l3⟩ := setR_mems sz
    have lf := few l l1 fun k hk => List.mem_of_mem_take (of_decide_eq_true ((l2 k).mp hk))
    show wpAny _ A.in1 (holding [Value.int x t] (setAdd b (.int x t)) >>= _) _ _ z
    refine wpAny_bind (wpAny_holding ?_)
    unfold setAdd
    refine wpAny_holding (wpAny_bind ((intKind P w).pyHash (k := x) (intKind_is _ _ _ _) ?_))
    refine setR_add_hashed (s := { z with toks := z.toks + 1 }) sz (by omega) fun hp same s2 => ?_
    have s3 : SetR w hp b (fun j => decide (j ∈ ns.take (i + 1))) (if decide (x ∈ ns.take i) = true then c else c + 1) := s2.congr fun j => by
      rw [List.take_add_one, ex]
      simp [List.mem_append]
    refine wpAny_pure ⟨plainId_quiet (F.plain_set_update_loop) _, ih (i + 1) _ (by omega) im (wk.frame _ z _ _ g2 (Nat.le_succ _) fun a ha o e => ?_) ⟨_, s3⟩ fun y c2 mv2 sy => ?_⟩
    · rw [same.2 a (fun e : a = b => out (by rw [← e]; exact ha))]; exact e
    · refine fin y c2 (Moved.trans wk.gtrans ((mv.mono up).then_heap (Nat.le_succ _) fun a o ha e => ?_) mv2) sy
      rw [same.2 a (fun e : a = b => ha (by rw [e]; exact List.mem_cons_self))]; exact e
end
section
variable {P : Program} {w : World} {A : Around} {E : Value → Shared → Prop} {s : Shared}
theorem sortSet {a : Addr} {S : Int → Bool} {m : Nat} {Q : Value → Shared → Prop} (R : SetR w s.heap a S m) (hA : A.handled = none) (small : m ≤ 100000)
    (q : ∀ (s2 : Shared) (p : Addr) (ys : Array Value) (c : Nat) (ms : List Int), (∀ b o, s.heap.get? b = some o → s2.heap.get? b = some o) → s2.gens = s.gens → s2.os = s.os → s.heap.objs.size ≤ p →
      s2.heap.get? p = some (seqObj "list" ys c) → IntsAre ys.toList ms → ms.Pairwise (· < ·) → (∀ k, k ∈ ms ↔ S k = true) → ms.length = m → Q (.ref p) s2) :
    wpAny (model P w) A (call (.builtin "sorted") [.ref a]) Q E s := by
  obtain ⟨ob, ents, par, tb, z1, z2, z3, z4, z5, z6, z7, z8, z9, z10, z11⟩ := R
  refine Calls.call_function_entry kind_sorted plain_sorted entry_sorted (args_sorted1 _) ?_
  unfold Builtin.«sorted»
  refine wpAny_bind (m := checkCount "sorted" 1 1 _) (wpAny_pure ?_)
  refine wpAny_bind (collect_set (A := A.in1) hA ⟨ob, z1, z2.1, z3⟩ z8 z7 z10 z11 fun s1 xs keep bigger gen os1 perm => ?_)
  have len : xs.length = m := by
    rw [perm.length_eq, List.length_map, Array.length_toList]
    exact z9
  have isI : IntsAre xs (xs.map Builtin.Re.reRawOf) := ints_of xs fun v hv => by
    obtain ⟨e, he, eq⟩ := List.mem_map.mp (perm.mem_iff.mp hv)
    obtain ⟨k, tk, g1, _⟩ := z4 e he
    exact ⟨k, tk, by rw [← eq]; exact g1⟩
  have keys : (xs.map Builtin.Re.reRawOf).Perm (ents.toList.map keyOf) := by
    have two := perm.map Builtin.Re.reRawOf
    rwa [List.map_map] at two
  have fits : xs.length ≤ sizeLine := by
    rw [len, sizeLine_eq]
    omega
  refine wpAny_bind (wpAny_newList ?_ fits)
  have at1 : (s1.heap.push (seqObj "list" xs.toArray 0)).get? s1.heap.objs.size = some (seqObj "list" xs.toArray 0) := Heap.get?_push_size _ rfl
  refine wpAny_bind (wpAny_holding (wpAny_call_entry slot_list_sort ⟨_, at1, rfl⟩ entry_list_sort (list_sort_treeAny at1 isI fits fun ys ms b1 b2 b3 => ⟨_, rfl, ?_⟩) (args_list_sort _)))
  obtain ⟨c, hc⟩ := sortedHeap_at (vs := xs) (out := ys) at1
  have all : ms.Perm (ents.toList.map keyOf) := b2.trans keys
  refine wpAny_pure ⟨_, rfl, q _ s1.heap.objs.size ys c ms (fun b o hb => ?_) gen os1 bigger hc b1 (lt_of_le_nodup ms b3 (all.nodup_iff.mpr z5)) (fun k => by rw [all.mem_iff, ← z6 k]) ?_⟩
  · have old := keep b o hb
    have below := Heap.lt_size old
    show (sortedHeap (s1.heap.push (seqObj "list" xs.toArray 0)) s1.heap.objs.size xs ys).get? b = some o
    rw [sortedHeap_old (Nat.ne_of_lt below) (by rw [size_push']; exact Nat.lt_succ_of_lt below)]
    exact Heap.get?_push_of_some _ old
  · rw [all.length_eq, List.length_map, Array.length_toList]
    exact z9
theorem call_setL {l : Addr} {its : Array Value} (ns : List Int) {Q : Value → Shared → Prop} (hA : A.handled = none) (hl : s.heap.IsList l its) (hit : IntsAre its.toList ns) (hb : ∀ l : List Int, l.Nodup → (∀ k ∈ l, k ∈ ns) → l.length + 1 < scanBound)
    (q : ∀ (h' : Heap) (tk c : Nat), SetR w h' s.heap.objs.size (fun j => decide (j ∈ ns)) c → (∀ b o, s.heap.get? b = some o → h'.get? b = some o) → Q (.ref s.heap.objs.size) { s with heap := h', toks := tk }) :
    wpAny (model P w) A (call (.type "set") [.ref l]) Q E s := by
  have lens : its.size = ns.length := by
    rw [← Array.length_toList]
    exact IntsAre.length hit
  obtain ⟨c0, t0, mr⟩ := F.called_set.mro
  have md := F.called_set.made
  have sb := F.called_set.sub
  refine wpAny_call (codeAny_of_tree ?_)
  show wpAny _ _ (callAny (.type "set") _) _ _ _
  refine wpAny_pure (And.intro (Code.quiet_builtin _ (by decide +kernel)) (codeAny_builtin F.entry_type_call ?_))
  rw [Around.under_plain (weight_type_call_type "set" [Value.ref l] List.nil) rfl]
  have n1 := F.called_set.notType
  have n2 := F.called_set.canCreate
  have ct := F.typeCall_set_1 (Value.ref l)
  repeat any_goals (first | assumption | wp_step)
  refine codeAny_mono (code_set_led1 (Value.ref l) (E := E) (Q₁ := fun obj t => obj = .ref s.heap.objs.size ∧ t = { s with heap := s.heap.push (noneYet w) }) (And.intro rfl rfl)) fun r t hr => ?_
  cases r with
  | error e => exact hr
  | ok fl =>
    cases fl with
    | ret obj =>
      obtain ⟨rfl, rfl⟩ := hr
      have got : (s.heap.push (noneYet w)).get? s.heap.objs.size = some (noneYet w) := Heap.get?_push_size _ rfl
      have hT : Shared.TypeIs { s with heap := s.heap.push (noneYet w) } (.ref s.heap.objs.size) "set" := ⟨_, got, rfl⟩
      have li := F.called_set.init.lookup
      have bi := F.called_set.init.bind (Value.ref s.heap.objs.size)
      repeat any_goals (first | assumption | wp_step)
      refine codeAny_mono (codeAny_call_builtin (R := wants (fun r t => r = .none ∧ ∃ h' tk c, t = { s with heap := h', toks := tk } ∧ SetR w h' s.heap.objs.size (fun j => decide (j ∈ ns)) c ∧ ∀ b o, s.heap.get? b = some o → h'.get? b = some o) E) F.called_set.init.plain F.entry_set_init (check_set_init_1 hT ?_)) fun r t hr => ?_
      · obtain ⟨⟨oc, od, oa, os⟩, g1, g2, nl, g3⟩ := hl
        simp only at g2 g3
        subst g2
        subst g3
        have g4 : (s.heap.push (noneYet w)).get? l = some { cls := .type "list", dict := od, data := .seq its nl, slots := os } := Heap.get?_push_of_some _ g1
        have k1 := F.sub_list_set
        have k2 := F.sub_list_frozenset
        have k3 : (Value.type "list" == Value.type "dict") = false := by decide
        have hl1 : (s.heap.push (noneYet w)).IsList l its := ⟨_, g4, rfl, nl, rfl⟩
        unfold Builtin.«set.__init__» noKeywords Builtin.Frozenset.updateFrom
        generalize e0 : pyIter = PI
        wp_walk
        subst e0
        refine wpAny_pyIter_list hl1 (wpAny_bind (wpAny_runValue ?_))
        have lS : l < s.heap.objs.size := Heap.lt_size g1
        have z1 : (s.heap.push (noneYet w)).objs.size = s.heap.objs.size + 1 := Heap.size_push ..
        have nI : l ≠ (s.heap.push (noneYet w)).objs.size := by
          rw [z1]
          exact Nat.ne_of_lt (Nat.lt_succ_of_lt lS)
        have nS : s.heap.objs.size ∉ [(s.heap.push (noneYet w)).objs.size, l] := by
          rw [z1]
          simp only [List.mem_cons, List.not_mem_nil, or_false, not_or]
          exact And.intro (Nat.ne_of_lt (Nat.lt_succ_self _)) (Nat.ne_of_gt lS)
        have val : ∀ (i : Nat) (v : Value), its[i]? = some v → ∃ k t, ns[i]? = some k ∧ v = .int k t := fun i v hv => by
          have hi : i < ns.length := lens ▸ (Array.getElem?_eq_some_iff.mp hv).1
          obtain ⟨t, e⟩ := PyProof.Rows.IntsAre.int_at hit i v (by rw [Array.getElem?_toList]; exact hv)
          rw [List.getD_eq_getElem?_getD, List.getElem?_eq_getElem hi] at e
          exact ⟨ns[i], t, List.getElem?_eq_getElem hi, e⟩
        refine upd_dist ((Walks.list (by simp [hA]) _ l nI its).toS) s.heap.objs.size nS ns lens hb val (its.size - 0) 0 _ (by omega) (Nat.zero_le _) ⟨⟨_, Heap.get?_push_size _ rfl, rfl, rfl⟩, hl1.push _⟩ ⟨0, setR_new_at (Heap.get?_push_of_some _ got)⟩ ?_
        intro t c mv hS
        obtain ⟨h', gs, dr, tk, os'⟩ := t
        obtain rfl : gs = s.gens := mv.gens
        obtain rfl : dr = s.drawn := mv.drawn
        obtain rfl : os' = s.os := mv.os
        show wpAny _ _ _ _ _ _
        refine wpAny_pure ?_
        show wpAny _ _ (ret Value.none) _ _ _
        refine wpAny_pure ⟨rfl, h', tk, c, rfl, hS, fun b o e => ?_⟩
        have b0 : b < s.heap.objs.size := Heap.lt_size e
        refine mv.heap b o ?_ (Heap.get?_push_of_some _ (Heap.get?_push_of_some _ e))
        simp only [List.mem_cons, List.not_mem_nil, or_false, not_or, z1]
        exact And.intro (Nat.ne_of_lt b0) (Nat.ne_of_lt (Nat.lt_succ_of_lt b0))
      · cases r with
        | error e => exact hr
        | ok f2 =>
          cases f2 with
          | ret z =>
            obtain ⟨rfl, h', tk, c, rfl, hS, hk⟩ := hr
            repeat any_goals (first | assumption | wp_step)
            exact q _ _ _ hS hk
          | _ => exact hr.elim
    | _ => exact hr.elim
end
section
variable {X : Cx}
theorem few_of : ∀ {l m : List Int}, l.Nodup → (∀ k ∈ l, k ∈ m) → l.length ≤ m.length
  | [], _, _, _ => Nat.zero_le _
  | x :: l, m, nd, h => by
    have hx := h x (by simp)
    rw [List.nodup_cons] at nd
    have ih := few_of (m := m.erase x) nd.2 fun k hk => by
      have ne : k ≠ x := fun e => nd.1 (by rw [← e]; exact hk)
      exact (List.mem_erase_of_ne ne).mpr (h k (by simp [hk]))
    have := List.length_erase_of_mem hx
    have := List.length_pos_of_mem hx
    rw [List.length_cons]
    omega
def rSetI (w : World) (K : PySem.W.Frag) : List V → Hp → VK → Prop := fun vs H Q => ∃ (p : Addr) (ns : List Int), vs = [.ref p] ∧ SqL K H p (ns.map V.int) ∧ (∀ l : List Int, l.Nodup → (∀ k ∈ l, k ∈ ns) → l.length ≤ 4000) ∧ ∀ (a : Addr) (l : List Int), H a = none → l.Nodup → (∀ k : Int, k ∈ l ↔ k ∈ ns) → Q (.ref a) (upd H a (SetO w a (fun k => decide (k ∈ ns)) l.length))
theorem cr_setI (hc : X.calm = true) : CallR X (.type "set") (rSetI X.w X.K) := by
  intro pins s σ H vs us Q I r h
  obtain ⟨p, ns, rfl, hS, hl, q⟩ := h
  rw [Vals.ref1 r]
  obtain ⟨its, rv, pl, _⟩ := I.list hS
  refine call_setL ns (I.ok.hd hc) pl.isList (ints_of_vals rv) (fun l n1 n2 => by have := hl l n1 n2; unfold scanBound; omega) fun h' tk c hR hk => ?_
  obtain ⟨l, l1, l2, l3⟩ := setR_mems hR
  subst l3
  exact ⟨.ref _, upd H s.heap.objs.size (SetO X.w s.heap.objs.size (fun k => decide (k ∈ ns)) l.length), I.laid (t' := tk) (fun b u e => hk b u e) (Nat.le_refl _) (setO_new hR), rfl, q _ l (I.hok.fresh (Nat.le_refl _)) l1 fun k => by rw [l2 k, decide_eq_true_eq]⟩
def rSoS (w : World) : List V → Hp → VK → Prop := fun vs H Q => ∃ (a : Addr) (S : Int → Bool) (m : Nat), vs = [.ref a] ∧ H a = some (SetO w a S m) ∧ m ≤ 100000 ∧
  ∀ (ms : List Int) (p : Addr), ms.Pairwise (· < ·) → (∀ k : Int, k ∈ ms ↔ S k = true) → ms.length = m → H p = none → Q (.ref p) (upd H p (.lst (ms.map V.int)))
theorem cr_soS (hc : X.calm = true) : CallR X (.builtin "sorted") (rSoS X.w) := by
  intro pins s σ H vs us Q I r h
  obtain ⟨a, S, m, rfl, at1, small, q⟩ := h
  rw [Vals.ref1 r]
  refine sortSet (setO_get I at1) (I.ok.hd hc) small fun s2 p ys c ms keep gen os1 bigger hp1 isI asc mem len => ?_
  have fits : (ms.map V.int).length ≤ sizeLine := by
    rw [List.length_map, len, sizeLine_eq]
    omega
  have new : H p = none := I.hok.fresh bigger
  have e : s2 = { s with heap := s2.heap, gens := s2.gens, drawn := s2.drawn, toks := s2.toks } := by
    obtain ⟨_, _, _, _, _⟩ := s2
    obtain ⟨_, _, _, _, _⟩ := s
    cases os1
    rfl
  have J : Inv X pins σ (upd H p (.lst (ms.map V.int))) { s with heap := s2.heap, gens := s2.gens, drawn := s2.drawn, toks := s2.toks } := I.call (ch := []) (Un.laid keep bigger new) (I.hok.laid keep bigger ⟨fits, ys.toList, c, vals_of_ints isI, hp1⟩) (by rw [gen]; exact I.bare) (fun _ z => nomatch z)
  rw [e]
  exact ⟨.ref p, _, J, rfl, q ms p asc mem len new⟩
def rSset (K : PySem.W.Frag) : List V → Hp → VK → Prop := fun vs H Q => ∃ (p : Addr) (ns : List Int), vs = [.ref p] ∧ SqL K H p (ns.map V.int) ∧ (∀ l : List Int, l.Nodup → (∀ k ∈ l, k ∈ ns) → l.length ≤ 4000) ∧
  ∀ (o : HO) (a b : Addr) (ms : List Int), H a = none → upd H a o b = none → ms.Pairwise (· < ·) → (∀ k, k ∈ ms ↔ k ∈ ns) → Q (.ref b) (upd (upd H a o) b (.lst (ms.map V.int)))
theorem pe_sset {e : Expr} {ta : TA} {p pos p2 pos2 : Pos} (hc : X.calm = true) (gS : Gl X "sorted") (mS : X.mg "sorted" = none) (gT : Gl X "set") (mT : X.mg "set" = none) (ha : PA X [e] ta) (hs : starEach [e] X.env = [(false, eval e X.env)]) :
    PE X (.Call (.Name "sorted" p) [.Call (.Name "set" p2) [e] [] pos2] [] pos) (fun σ H Q => ta σ H fun vs H1 => rSset X.K vs H1 Q) := by
  refine ⟨fun pins s σ H Q I h => Call_ (ld_blt (u := .builtin "sorted") I gS mS (by decide +kernel) (PyProof.Rows.callWith_builtin1 (spliced_more ?_ rfl) rfl rfl))⟩
  refine Call_ (ld_blt I gT mT PyProof.Rows.boot_set (PyProof.Rows.callWith_type1 (thn (ha.run pos2 pins s σ H _ I h) fun us s1 ⟨vs, H1, I1, r1, q1⟩ => ?_) hs rfl))
  obtain ⟨p0, ns, rfl, hS, hl, q⟩ := q1
  refine thn (cr_setI hc pins s1 σ H1 _ us (fun v H2 => ∃ (a : Addr) (l : List Int), v = .ref a ∧ H1 a = none ∧ l.Nodup ∧ (∀ k, k ∈ l ↔ k ∈ ns) ∧ H2 = upd H1 a (SetO X.w a (fun k => decide (k ∈ ns)) l.length)) I1 r1 ⟨p0, ns, rfl, hS, hl, fun a l z1 z2 z3 => ⟨a, l, rfl, z1, z2, z3, rfl⟩⟩) fun z s2 ⟨v, H2, I2, r2, a, l, e1, n1, l1, l2, e2⟩ => spliced_none ?_
  subst e1
  subst e2
  cases r2
  have few : l.length ≤ 4000 := hl l l1 fun k hk => (l2 k).mp hk
  exact cr_soS hc pins s2 σ _ [.ref a] [.ref a] Q I2 (.cons rfl .nil) ⟨a, _, _, rfl, upd_same, by omega, fun ms b m1 m2 m3 hb => q _ a b ms n1 hb m1 fun k => (m2 k).trans decide_eq_true_iff⟩
end
end LT

namespace LT
open PySem PySem.Spec PyProof.Rows L2
section
variable {X : Cx}
theorem add_int {pins : List (Addr × Obj)} {σ : L2.St} {H : Hp} {s : Shared} {E : Value → Shared → Prop} {D : Addr} {S : Int → Bool} {n : Nat} {k : Int} {t : Tok} {Q : Value → Shared → Prop} (J : Inv X pins σ H s) (hD : H D = some (SetO X.w D S n)) (room : n + 1 < scanBound)
    (q : ∀ s', Inv X pins σ (upd H D (SetO X.w D (fun j => S j || decide (j = k)) (if S k = true then n else n + 1))) s' → Q .none s') : wpAny (model X.prog X.w) X.A (call (.builtin "set.add") [.ref D, .int k t]) Q E s := by
  refine setR_add (setO_get J hD) room fun h' sb new => ?_
  have there : ∃ u, h'.get? D = some u := by
    obtain ⟨o, _, _, _, ho, _⟩ := id new
    exact ⟨o, ho⟩
  exact q _ (J.write (e := D) (t' := s.toks + 1) (by rw [hD]; trivial) (Or.inl rfl) (fun b u hb hu => (sb.2 b hb).trans hu) there (setO_new new))
def tSsc (wi : TI) (g : TG) (tt : TT) (te : TE) (vs : List Nat) : TE := fun σ H Q => wi σ H fun J H1 => ∀ (w : World) (D : Addr), H1 D = none → ∃ W : Nat → Nat → Hp → Prop, (∃ m, W 0 m (upd H1 D (SetO w D (fun _ => false) 0))) ∧ ∀ i m H, W i m H →
  (J.stop i H ∧ ∃ (S : Int → Bool) (n : Nat), H D = some (SetO w D S n) ∧ n ≤ 100000 ∧ ∀ (ms : List Int) (p : Addr), ms.Pairwise (· < ·) → (∀ k : Int, k ∈ ms ↔ S k = true) → ms.length = n → H p = none → Q (.ref p) (upd H p (.lst (ms.map V.int)))) ∨
  (J.go i H ∧ ∃ Nx : Hp → Prop, (∀ H', Nx H' → ∃ m', m' < m ∧ W (i + 1) m' H') ∧ ∀ x H', J.yld i H x H' → g x (wipe σ vs) H' fun σ2 H2 => wipe σ2 vs = wipe σ vs ∧ tt σ2 H2 fun b H3 =>
    if b = true then te σ2 H3 fun y H4 => ∃ (k : Int) (S : Int → Bool) (n : Nat), y = .int k ∧ H4 D = some (SetO w D S n) ∧ n + 1 < scanBound ∧ Nx (upd H4 D (SetO w D (fun j => S j || decide (j = k)) (if S k = true then n else n + 1))) else Nx H3)
theorem ssc_core {pins : List (Addr × Obj)} {s : Shared} {σ : L2.St} {H : Hp} {Q : VK} {elt tg iter : Expr} {ifs : List Expr} {scope : Scope} {own : List (PySem.Str × Nat)} {pos pos' : Pos} {wi : TI} {g : TG} {tt : TT} {te : TE} {use : Option (Value → Sem Unit)} {Qf : Value → Shared → Prop}
    (cm : X.calm = true) (nN : X.N.Nodup) (J : Inv X pins σ H s) (pi : PI X tg iter wi) (bo : BlkOk X.N X.env.scope scope own)
    (kg : ∀ (s : Shared) (H : Hp) (C : Addr) (cl : List (PySem.Str × Addr)) (fp : List Addr), PG (X.blk s H scope (compEnvC scope cl C X.env) fp) tg g) (kt : ∀ (s : Shared) (H : Hp) (C : Addr) (cl : List (PySem.Str × Addr)) (fp : List Addr), PTs (X.blk s H scope (compEnvC scope cl C X.env) fp) ifs tt)
    (ke : ∀ (s : Shared) (H : Hp) (C : Addr) (cl : List (PySem.Str × Addr)) (fp : List Addr), PE (X.blk s H scope (compEnvC scope cl C X.env) fp) elt te) (nf : ∀ x, foldedSetIterable iter X.env x = pure x)
    (h : tSsc wi g tt te (own.map (·.2)) σ H Q)
    (fin : ∀ D C s' m H', Inv X pins σ H' s' → (∃ (S : Int → Bool) (n : Nat), H' D = some (SetO X.w D S n) ∧ n ≤ 100000 ∧ ∀ (ms : List Int) (p : Addr), ms.Pairwise (· < ·) → (∀ k : Int, k ∈ ms ↔ S k = true) → ms.length = n → H' p = none → Q (.ref p) (upd H' p (.lst (ms.map V.int)))) → s'.heap.Ns C m → FpOk X pins H' C → compPost (model X.prog X.w) X.A X.xe use Qf (.ref D) C (.ok .next) s') :
    wpAny (model X.prog X.w) X.A (comprehension (.SetComp elt [⟨tg, iter, ifs, 0⟩] scope pos) scope X.env pos' (newSet (.type "set")) false (eval iter X.env) use) Qf X.xe s := by
  have clo : ∀ y ∈ scope.names, y.2 = .free → ∃ c, X.env.cells.lookup y.1 = some c := fun y hy e => (bo.free y hy e).elim (fun k => J.ok.has _ (.inl k)) (fun k => J.ok.has _ (.inr k))
  refine wpAny_comprehension_free (use := use) rfl nf (closure_ok clo) bo.kind (fun y hy e => (bo.uniq y hy).trans (congrArg some e)) (thn (pi.run pins s σ H _ J h) fun xv s1 hx => thn hx fun itv s2 h2 => ?_)
  obtain ⟨it, fp, tn, Z, H2, rfl, J2, T, st2, f2, q⟩ := h2
  refine PpSet.newSet_ok (newEnv_comp ?_)
  generalize eD : s2.heap.objs.size = D
  have free : H2 D = none := J2.hok.fresh (Nat.le_of_eq eD)
  obtain ⟨W, ⟨m0, w0⟩, turn⟩ := q X.w D free
  generalize e3 : ({ s2 with heap := s2.heap.push (noneYet X.w) } : Shared) = s3
  have J3 : Inv X pins σ (upd H2 D (SetO X.w D (fun _ => false) 0)) s3 := by
    subst e3
    subst eD
    exact J2.laid (t' := s2.toks) (fun b o e => Heap.get?_push_of_some _ e) (Nat.le_refl _) (setO_new (setR_fresh X.w))
  have h3 : s3.heap = s2.heap.push (noneYet X.w) := by rw [← e3]
  have below : ∀ b ∈ fp, b < s2.heap.objs.size := fun b hb => let ⟨_, e, _⟩ := T.obj _ _ st2 b hb; Heap.lt_size e
  have f3 : ∀ b ∈ fp, FpOk X pins (upd H2 D (SetO X.w D (fun _ => false) 0)) b ∧ b < s3.heap.objs.size := fun b hb => by
    have lt := below b hb
    have ne : b ≠ D := by
      rw [← eD]
      exact Nat.ne_of_lt lt
    refine And.intro ⟨by rw [upd_ne ne]; exact (f2 b hb).1, (f2 b hb).2⟩ ?_
    rw [h3, Heap.size_push]
    exact Nat.lt_succ_of_lt lt
  have st3 : tn 0 s3.heap := T.keep _ _ _ st2 fun b _ o e => h3 ▸ Heap.get?_push_of_some _ e
  have J4 := block_start J3 bo nN f3
  have pg := kg s3 (upd H2 D (SetO X.w D (fun _ => false) 0)) s3.heap.objs.size (cellsFrom (s3.heap.objs.size + 1) scope.names (cloFrom X.env.cells scope.names [])) fp
  have pt := kt s3 (upd H2 D (SetO X.w D (fun _ => false) 0)) s3.heap.objs.size (cellsFrom (s3.heap.objs.size + 1) scope.names (cloFrom X.env.cells scope.names [])) fp
  have pe := ke s3 (upd H2 D (SetO X.w D (fun _ => false) 0)) s3.heap.objs.size (cellsFrom (s3.heap.objs.size + 1) scope.names (cloFrom X.env.cells scope.names [])) fp
  show codeAny _ _ (.compStart _ 0 (Value.ref it) (Value.ref D) (compEnvC scope (cellsFrom (s3.heap.objs.size + 1) scope.names (cloFrom X.env.cells scope.names [])) s3.heap.objs.size X.env)) (compPost _ _ _ use Qf (Value.ref D) s3.heap.objs.size) { s3 with heap := pushCells (s3.heap.push { cls := .type "dict", data := .dict #[] }) scope.names }
  have off : ∀ b ∈ fp, (upd H2 D (SetO X.w D (fun _ => false) 0)) b = none := fun b hb => (f3 b hb).1.1
  generalize ece : compEnvC scope (cellsFrom (s3.heap.objs.size + 1) scope.names (cloFrom X.env.cells scope.names [])) s3.heap.objs.size X.env = ce at J4 pg pt pe ⊢
  have loc : ce.locals = s3.heap.objs.size := by
    subst ece
    rfl
  generalize eH : upd H2 D (SetO X.w D (fun _ => false) 0) = H3 at J3 J4 pg pt pe w0 off f3
  generalize e4 : ({ s3 with heap := pushCells (s3.heap.push { cls := .type "dict", data := .dict #[] }) scope.names } : Shared) = s4 at J4 ⊢
  have st4 : tn 0 s4.heap := T.keep _ _ _ st3 fun b _ o e => e4 ▸ pushCells_keeps _ _ _ _ (Heap.get?_push_of_some _ e)
  have stat : ∀ {σ' : L2.St} {H' : Hp} {s' : Shared}, Inv (X.blk s3 H3 scope ce fp) [] σ' H' s' → (∀ b ∈ fp, H' b = none) → ∀ b ∈ fp, FpOk (X.blk s3 H3 scope ce fp) [] H' b := fun {σ' H' s'} K hn b hb =>
    ⟨hn b hb, (K.ok.exf b hb).1, K.ok.exfs b hb, Or.inl hb, fun x c e => (K.ok.exf b hb).2 x c e, fun p hp => absurd (show p ∈ ([] : List (Addr × Obj)) ++ [] from hp) (by simp)⟩
  have loop : codeAny (model X.prog X.w) X.A (.compLoop (.SetComp elt [⟨tg, iter, ifs, 0⟩] scope pos) 0 (.ref it) (.ref D) ce) (compPost (model X.prog X.w) X.A X.xe use Qf (.ref D) s3.heap.objs.size) s4 := by
    refine PpSet.compLoopS_any (fun n s' => ∃ i H', Inv (X.blk s3 H3 scope ce fp) [] (wipe σ (own.map (·.2))) H' s' ∧ tn i s'.heap ∧ (∀ b ∈ fp, H' b = none) ∧ W i n H') ?_ m0 ⟨0, H3, J4, st4, off, w0⟩
    rintro n s5 ⟨i, H5, J5, st5, n5, w5⟩
    rcases turn i n H5 w5 with ⟨stop, qq⟩ | ⟨go, Nx, hNx, step⟩
    · refine thnF (T.done (X.blk s3 H3 scope ce fp) rfl rfl rfl cm i [] s5 _ H5 (fun _ _ => False) J5 (stat J5 n5) st5 stop) fun r s6 ⟨hr, J6⟩ => ?_
      subst hr
      have J7 : Inv X pins σ H5 s6 := J3.call' (ch := fp) J6.os J6.base J6.hok J6.bare fun b hb => have z := (f3 b hb).1; ⟨z.2.2.2.1, z.2.1, z.2.2.2.2.1, z.2.2.2.2.2⟩
      have nC : H5 s3.heap.objs.size = none := loc ▸ (show H5 ce.locals = none from J6.free)
      obtain ⟨mm, hn, _⟩ := J6.loc
      exact fin D s3.heap.objs.size s6 mm H5 J7 qq (loc ▸ (show s6.heap.Ns ce.locals mm from hn)) (J3.fpOk (Nat.le_refl _) nC)
    · refine thnF (T.item (X.blk s3 H3 scope ce fp) rfl rfl rfl cm i [] s5 _ H5 (fun _ _ => False) J5 (stat J5 n5) st5 go) fun r s6 ⟨u, hr, h6⟩ => ?_
      subst hr
      refine thnF h6 fun _ s7 ⟨x, H7, J7, r7, y7, st7, n7⟩ => ?_
      refine thnF (pg.run _ s7 _ H7 x u _ (J7.pinned (stat J7 n7) (T.obj _ _ st7)) r7 (step x H7 y7)) fun _ s8 ⟨σ8, H8, J8, hw8, q8⟩ => ?_
      refine thnF (pt.run _ s8 σ8 H8 _ J8 q8) fun b s9 ⟨H9, J9, q9⟩ => ?_
      have over : ∀ {s' : Shared} {H' : Hp}, Inv (X.blk s3 H3 scope ce fp) ([] ++ pinsAt fp s7.heap) σ8 H' s' → Nx H' → ∃ m, m < n ∧ ∃ i H', Inv (X.blk s3 H3 scope ce fp) [] (wipe σ (own.map (·.2))) H' s' ∧ tn i s'.heap ∧ (∀ b ∈ fp, H' b = none) ∧ W i m H' := fun {s' H'} K nx => by
        obtain ⟨m', hm, w'⟩ := hNx H' nx
        have held : ∀ b ∈ fp, ∀ o, s7.heap.get? b = some o → s'.heap.get? b = some o ∧ H' b = none := fun b hb o e =>
          have z := K.pin (b, o) (List.mem_append_right _ (List.mem_append_right _ (mem_pinsAt hb e)))
          And.intro z.1 z.2.1
        have ll : (wipe σ (own.map (·.2))).length = σ8.length := by rw [← hw8, wipe_length]
        refine ⟨m', hm, i + 1, H', (K.unpinned (pins := [])).weak ll (fun j v e => ?_), T.keep _ _ _ st7 fun b hb o e => (held b hb o e).1, fun b hb => ?_, w'⟩
        · exact (wipe_some (hw8 ▸ e)).1
        · obtain ⟨o, e, _⟩ := T.obj _ _ st7 b hb
          exact (held b hb o e).2
      cases b with
      | false =>
        simp only [Bool.false_eq_true, if_false] at q9 ⊢
        exact over J9 q9
      | true =>
        simp only [if_true] at q9 ⊢
        refine thnF (pe.run _ s9 σ8 H9 _ J9 q9) fun z s10 ⟨yv, H10, J10, r10, k0, S0, n0, ey, hD, hz, nx⟩ => ?_
        subst ey
        obtain ⟨t0, rfl⟩ := r10
        exact add_int (X := X.blk s3 H3 scope ce fp) J10 hD hz fun s11 J11 => over J11 nx
  exact PpSet.codeAny_compStart_set loop (T.self X.A 0 _ _ _ st4 loop)
theorem pe_ssc {elt tg iter : Expr} {ifs : List Expr} {scope : Scope} {own : List (PySem.Str × Nat)} {p pos pos2 : Pos} {wi : TI} {g : TG} {tt : TT} {te : TE} (cm : X.calm = true) (gS : Gl X "sorted") (mS : X.mg "sorted" = none) (nN : X.N.Nodup) (pi : PI X tg iter wi) (bo : BlkOk X.N X.env.scope scope own)
    (kg : ∀ (s : Shared) (H : Hp) (C : Addr) (cl : List (PySem.Str × Addr)) (fp : List Addr), PG (X.blk s H scope (compEnvC scope cl C X.env) fp) tg g) (kt : ∀ (s : Shared) (H : Hp) (C : Addr) (cl : List (PySem.Str × Addr)) (fp : List Addr), PTs (X.blk s H scope (compEnvC scope cl C X.env) fp) ifs tt)
    (ke : ∀ (s : Shared) (H : Hp) (C : Addr) (cl : List (PySem.Str × Addr)) (fp : List Addr), PE (X.blk s H scope (compEnvC scope cl C X.env) fp) elt te) (nf : ∀ x, foldedSetIterable iter X.env x = pure x) :
    PE X (.Call (.Name "sorted" p) [.SetComp elt [⟨tg, iter, ifs, 0⟩] scope pos2] [] pos) (tSsc wi g tt te (own.map (·.2))) := by
  refine ⟨fun pins s σ H Q J h => Call_ (ld_blt (u := .builtin "sorted") J gS mS (by decide +kernel) (PyProof.Rows.callWith_builtin1 (spliced_more ?_ rfl) rfl rfl))⟩
  rw [PpSet.eval_SetComp]
  refine ssc_core cm nN J pi bo kg kt ke nf h fun D C s' m H' K ⟨S, n, hD, h64, q⟩ hn f => ⟨m, hn, fun h'' sb => ?_⟩
  obtain ⟨f0, f1, f2, f3, f4, f5⟩ := f
  have K2 : Inv X pins σ H' { s' with heap := h'' } := K.turned (t' := s'.toks) (fun b o hb e => (sb.2 b hb).trans e) f0 f1 f3 f4 f5
  refine spliced_none (cr_soS cm pins _ σ H' [.ref D] [.ref D] Q K2 (.cons rfl .nil) ⟨D, S, n, rfl, hD, h64, q⟩)
end
end LT

namespace LT
open PySem PySem.Spec PyProof.Rows L2
section
variable {X : Cx}
def leP (a b : Int × Int) : Prop := a.1 < b.1 ∨ (a.1 = b.1 ∧ a.2 ≤ b.2)
def Prs (K : PySem.W.Frag) (H : Hp) (zs : List (V × (Int × Int))) : Prop := ∀ z ∈ zs, ∃ t, z.1 = .ref t ∧ SqT K H t [.int z.2.1, .int z.2.2]
def rSoP (K : PySem.W.Frag) : List V → Hp → VK → Prop := fun vs H Q => ∃ (a : Addr) (zs : List (V × (Int × Int))), vs = [.ref a] ∧ SqL K H a (zs.map (·.1)) ∧ Prs K H zs ∧
  ∀ (ws : List (V × (Int × Int))) (p : Addr), ws.Perm zs → (ws.map (·.2)).Pairwise leP → H p = none → Q (.ref p) (upd H p (.lst (ws.map (·.1))))
theorem cr_soP : CallR X (.builtin "sorted") (rSoP X.K) := by
  intro pins s σ H vs us Q I r h
  obtain ⟨a, zs, rfl, row, prs, q⟩ := h
  obtain ⟨items, rel, plain, few⟩ := I.list row
  rw [Vals.ref1 r]
  have all : ∀ x ∈ zs.map (·.1), ∃ t, x = V.ref t := fun x hx => by
    obtain ⟨z, hz, rfl⟩ := List.mem_map.mp hx
    obtain ⟨t, ex, _⟩ := prs z hz
    exact ⟨t, ex⟩
  let f : V → Int × Int := fun v => open Classical in if h : ∃ (y : Int × Int) (t : Addr), v = .ref t ∧ SqT X.K H t [.int y.1, .int y.2] then h.choose else (0, 0)
  have fz : ∀ z ∈ zs, f z.1 = z.2 := fun z hz => by
    obtain ⟨t, ex, two⟩ := prs z hz
    have hex : ∃ (y : Int × Int) (t : Addr), z.1 = .ref t ∧ SqT X.K H t [.int y.1, .int y.2] := ⟨z.2, t, ex, two⟩
    have e1 : f z.1 = hex.choose := dif_pos hex
    obtain ⟨t2, ex2, two2⟩ := hex.choose_spec
    rw [ex] at ex2
    cases ex2
    have := I.tuple_inj two2 two
    rw [e1]
    injection this with i1 i2
    injection i1 with i1
    injection i2 with i2
    injection i2 with i2
    exact Prod.ext i1 i2
  obtain ⟨b1, b2⟩ := refs_back rel all
  have fits : items.length ≤ sizeLine := by
    rw [← rel.length]
    exact few
  refine SrtO.sorted_pairsO (k := fun v => f (backV v)) plain.isList fits (fun v hv => ?_) fun h2 d ys sorted stable keep fresh new => ?_
  · obtain ⟨t, rfl⟩ := b2 v hv
    have mem : V.ref t ∈ zs.map (·.1) := by
      rw [b1]
      exact List.mem_map.mpr ⟨_, hv, rfl⟩
    obtain ⟨z, hz, ez⟩ := List.mem_map.mp mem
    obtain ⟨t2, ex, two⟩ := prs z hz
    have ef := fz z hz
    rw [ez] at ex ef
    cases ex
    obtain ⟨its2, rel2, tup, _⟩ := I.tuple two
    obtain ⟨v1, v2, rfl, r1, r2⟩ := vals2 rel2
    obtain ⟨k1, rfl⟩ := r1
    obtain ⟨k2, rfl⟩ := r2
    obtain ⟨o, g1, g2, n, g3⟩ := tup
    refine ⟨t, o, k1, k2, n, rfl, g1, g2, ?_⟩
    show o.data = .seq #[.int (f (.ref t)).1 k1, .int (f (.ref t)).2 k2] n
    rw [ef]
    exact g3
  · obtain ⟨n, new⟩ := new
    have stands : ∀ v ∈ ys, ∃ t, v = Value.ref t := fun v hv => b2 v (stable.perm.mem_iff.mp hv)
    have per : (ys.map backV).Perm (zs.map (·.1)) := by
      rw [b1]
      exact stable.perm.map backV
    have few2 : (ys.map backV).length ≤ sizeLine := by
      rw [per.length_eq]
      exact few
    have pz : ((ys.map backV).map fun y => (y, f y)).Perm zs := by
      have e1 : (zs.map (·.1)).map (fun y => (y, f y)) = zs := by
        rw [List.map_map]
        have : ∀ l : List (V × (Int × Int)), (∀ z ∈ l, f z.1 = z.2) → l.map ((fun y => (y, f y)) ∘ fun z => z.1) = l := by
          intro l
          induction l with
          | nil => exact fun _ => rfl
          | cons z l ih =>
            intro hl
            rw [List.map_cons, ih fun y hy => hl y (by simp [hy])]
            show (z.1, f z.1) :: l = z :: l
            rw [hl z (by simp)]
        exact this zs fz
      have := per.map fun y => (y, f y)
      rwa [e1] at this
    have asc : (((ys.map backV).map fun y => (y, f y)).map (·.2)).Pairwise leP := by
      rw [List.map_map, List.map_map, List.pairwise_map]
      refine List.Pairwise.imp (fun {x y} hxy => ?_) sorted
      have := SrtO.lexB_no.mp hxy
      show leP (f (backV x)) (f (backV y))
      unfold leP
      omega
    have e2 : (((ys.map backV).map fun y => (y, f y)).map (·.1)) = ys.map backV := by
      rw [List.map_map]
      exact (List.map_congr_left fun _ _ => rfl).trans (List.map_id _)
    have fin := q _ d pz asc (I.hok.fresh fresh)
    rw [e2] at fin
    exact ⟨.ref d, upd H d (.lst (ys.map backV)), I.laid (t' := s.toks) keep fresh ⟨few2, ys, n, vals_back stands, new⟩, rfl, fin⟩
end
end LT

namespace LT
open PySem PySem.Spec PyProof.Rows L2
theorem tCall3 (a b c : Value) : checkTypeCall "zip" ⟨[a, b, c], []⟩ = pure () := by kernel_rfl
theorem nCall3 (a b c : Value) : checkBuiltinCall "zip.__new__" ⟨[.type "zip", a, b, c], []⟩ = pure () := by kernel_rfl
theorem oInit4 (a b c d : Value) : argsOk "object.__init__" ⟨[a, b, c, d], []⟩ := by
  unfold argsOk
  rw [signature?_of (id := "object.__init__") (n := ['_', '_', 't', 'i', 'n', 'i', '_', '_']) (o := ['t', 'c', 'e', 'j', 'b', 'o']) (by kernel_rfl) F.owner_object]
  kernel_rfl
abbrev Tri (h : Heap) (T : Addr) (a b c : Value) : Prop := h.get? T = some { cls := .type "tuple", data := .seq #[a, b, c] }
section
variable {prog : Program} {w : World} {A : Around} {E : Value → Shared → Prop} {s : Shared}
theorem putTri {T : Addr} {a b c x : Value} {k : Nat} {Q : Unit → Shared → Prop} (g : Tri s.heap T a b c)
    (q : ∀ h', h'.get? T = some { cls := .type "tuple", data := .seq ((#[a, b, c] : Array Value).setIfInBounds k x) } → Heap.SameBut T s.heap h' → Q () { s with heap := h' }) :
    wpAny (model prog w) A (updateSeq T (·.setIfInBounds k x)) Q E s := by
  refine wpAny_updateSeq g rfl (q _ ?_ (Heap.SameBut.update ..))
  rw [Heap.get?_update_self _ g rfl]
  simp [Obj.mapSeq]
structure Far3 (z TI TO i j k l m n : Addr) : Prop where
  Iz : TI ≠ z
  Oz : TO ≠ z
  iz : i ≠ z
  jz : j ≠ z
  kz : k ≠ z
  IO : TI ≠ TO
  Ii : TI ≠ i
  Ij : TI ≠ j
  Ik : TI ≠ k
  Oi : TO ≠ i
  Oj : TO ≠ j
  Ok : TO ≠ k
  ij : i ≠ j
  ik : i ≠ k
  jk : j ≠ k
  lz : l ≠ z
  mz : m ≠ z
  nz : n ≠ z
  lO : l ≠ TO
  mO : m ≠ TO
  nO : n ≠ TO
  li : l ≠ i
  mi : m ≠ i
  ni : n ≠ i
  lj : l ≠ j
  mj : m ≠ j
  nj : n ≠ j
  lk : l ≠ k
  mK : m ≠ k
  nk : n ≠ k
theorem next3 {z TI TO i j k l m n : Addr} {ki kj kk : Nat} {xs ys zs : Array Value} {x y v a b c : Value} {Q : Value → Shared → Prop} (D : Far3 z TI TO i j k l m n)
    (gz : IsZip s.heap z TI TO .none) (gI : Tri s.heap TI (.ref i) (.ref j) (.ref k)) (gO : Tri s.heap TO a b c)
    (h1 : s.heap.IsListIter i l ki) (h2 : s.heap.IsListIter j m kj) (h3 : s.heap.IsListIter k n kk) (hl : s.heap.IsList l xs) (hm : s.heap.IsList m ys) (hn : s.heap.IsList n zs) (hx : xs[ki]? = some x) (hy : ys[kj]? = some y) (hv : zs[kk]? = some v)
    (q : ∀ h', IsZip h' z TI TO (rawInt s.heap.objs.size) → Tri h' TO x y v → h'.IsListIter i l (ki + 1) → h'.IsListIter j m (kj + 1) → h'.IsListIter k n (kk + 1) → Tri h' s.heap.objs.size x y v → h'.objs.size = s.heap.objs.size + 1 →
      (∀ d o, d ≠ z → d ≠ TO → d ≠ i → d ≠ j → d ≠ k → s.heap.get? d = some o → h'.get? d = some o) → Q (.ref s.heap.objs.size) { s with heap := h' }) :
    wpAny (model prog w) A (Builtin.«zip.__next__» ⟨[.ref z], []⟩) (fun fin s' => ∃ v, fin = .done (.ret v) ∧ Q v s') E s := by
  show wpAny _ _ (field (.ref z) 2 >>= _) _ _ _
  refine wpAny_bind (wpAny_field gz rfl (x := .bool false) rfl ?_)
  show wpAny _ _ (field (.ref z) 3 >>= _) _ _ _
  refine wpAny_bind (wpAny_field gz rfl (x := .ref TI) rfl ?_)
  refine wpAny_bind (wpAny_seqItems gI rfl ?_)
  show wpAny _ _ (Builtin.SmallTypes.ownedTupleIsFree (.ref z) >>= _) _ _ _
  refine wpAny_bind ?_
  unfold Builtin.SmallTypes.ownedTupleIsFree
  refine wpAny_bind (wpAny_field gz rfl (x := .none) rfl (wpAny_pure ?_))
  simp only [if_true]
  refine wpAny_bind (wpAny_rule ?_)
  refine wpAny_bind (wpAny_field gz rfl (x := .ref TO) rfl ?_)
  refine wpAny_bind (wpAny_setField_rec gz (by simp) fun a₁ gz₁ sb₁ => ?_)
  replace gz₁ : IsZip a₁ z TI TO .ellipsis := gz₁
  refine wpAny_bind ?_
  simp only [List.zipIdx_cons, List.zipIdx_nil, List.forIn_cons, List.forIn_nil]
  refine wpAny_bind (wpAny_bind (wpAny_onRaise ?_))
  show wpAny _ _ (Builtin.SmallTypes.nextOf (.ref i) >>= _) _ _ _
  refine wpAny_bind (wpAny_nextOf_list_item (h1.extBut sb₁.extBut D.iz) (hl.extBut sb₁.extBut D.lz) hx fun a₂ t₂ sb₂ => wpAny_pure ?_)
  have gO₂ : Tri a₂ TO a b c := sb₂.extBut _ _ D.Oi (sb₁.extBut _ _ D.Oz gO)
  refine wpAny_bind (wpAny_seqItems gO₂ rfl ?_)
  refine wpAny_bind (putTri gO₂ fun a₃ gO₃ sb₃ => ?_)
  replace gO₃ : Tri a₃ TO x b c := gO₃
  refine wpAny_bind (wpAny_letGo (wpAny_pure ?_))
  refine wpAny_bind (wpAny_bind (wpAny_onRaise ?_))
  show wpAny _ _ (Builtin.SmallTypes.nextOf (.ref j) >>= _) _ _ _
  refine wpAny_bind (wpAny_nextOf_list_item (((h2.extBut sb₁.extBut D.jz).extBut sb₂.extBut D.ij.symm).extBut sb₃.extBut D.Oj.symm)
    (((hm.extBut sb₁.extBut D.mz).extBut sb₂.extBut D.mi).extBut sb₃.extBut D.mO) hy fun a₄ t₄ sb₄ => wpAny_pure ?_)
  have gO₄ : Tri a₄ TO x b c := sb₄.extBut _ _ D.Oj gO₃
  refine wpAny_bind (wpAny_seqItems gO₄ rfl ?_)
  refine wpAny_bind (putTri gO₄ fun a₅ gO₅ sb₅ => ?_)
  replace gO₅ : Tri a₅ TO x y c := gO₅
  refine wpAny_bind (wpAny_letGo (wpAny_pure ?_))
  refine wpAny_bind (wpAny_bind (wpAny_onRaise ?_))
  show wpAny _ _ (Builtin.SmallTypes.nextOf (.ref k) >>= _) _ _ _
  refine wpAny_bind (wpAny_nextOf_list_item (((((h3.extBut sb₁.extBut D.kz).extBut sb₂.extBut D.ik.symm).extBut sb₃.extBut D.Ok.symm).extBut sb₄.extBut D.jk.symm).extBut sb₅.extBut D.Ok.symm)
    (((((hn.extBut sb₁.extBut D.nz).extBut sb₂.extBut D.ni).extBut sb₃.extBut D.nO).extBut sb₄.extBut D.nj).extBut sb₅.extBut D.nO) hv fun a₆ t₆ sb₆ => wpAny_pure ?_)
  have gO₆ : Tri a₆ TO x y c := sb₆.extBut _ _ D.Ok gO₅
  refine wpAny_bind (wpAny_seqItems gO₆ rfl ?_)
  refine wpAny_bind (putTri gO₆ fun a₇ gO₇ sb₇ => ?_)
  replace gO₇ : Tri a₇ TO x y v := gO₇
  refine wpAny_bind (wpAny_letGo (wpAny_pure (wpAny_pure ?_)))
  refine wpAny_bind (wpAny_seqItems gO₇ rfl ?_)
  refine wpAny_bind (wpAny_newTuple ?_)
  have sz : a₇.objs.size = s.heap.objs.size := by rw [sb₇.1, sb₆.1, sb₅.1, sb₄.1, sb₃.1, sb₂.1, sb₁.1]
  have keep : ∀ d o, d ≠ z → d ≠ TO → d ≠ i → d ≠ j → d ≠ k → s.heap.get? d = some o → a₇.get? d = some o := fun d o c1 c2 c3 c4 c5 e =>
    sb₇.extBut _ _ c2 (sb₆.extBut _ _ c5 (sb₅.extBut _ _ c2 (sb₄.extBut _ _ c4 (sb₃.extBut _ _ c2 (sb₂.extBut _ _ c3 (sb₁.extBut _ _ c1 e))))))
  have gz₇ : IsZip a₇ z TI TO .ellipsis := sb₇.extBut _ _ D.Oz.symm (sb₆.extBut _ _ D.kz.symm (sb₅.extBut _ _ D.Oz.symm (sb₄.extBut _ _ D.jz.symm (sb₃.extBut _ _ D.Oz.symm (sb₂.extBut _ _ D.iz.symm gz₁)))))
  have t1 : a₇.IsListIter i l (ki + 1) := ((((t₂.extBut sb₃.extBut D.Oi.symm).extBut sb₄.extBut D.ij).extBut sb₅.extBut D.Oi.symm).extBut sb₆.extBut D.ik).extBut sb₇.extBut D.Oi.symm
  have t2 : a₇.IsListIter j m (kj + 1) := ((t₄.extBut sb₅.extBut D.Oj.symm).extBut sb₆.extBut D.jk).extBut sb₇.extBut D.Oj.symm
  have t3 : a₇.IsListIter k n (kk + 1) := t₆.extBut sb₇.extBut D.Ok.symm
  have zlt : z < a₇.objs.size := Heap.lt_size gz₇
  show wpAny _ _ (Builtin.SmallTypes.ownedTupleHandOut (.ref z) (.ref a₇.objs.size) >>= _) _ _ _
  refine wpAny_bind ?_
  unfold Builtin.SmallTypes.ownedTupleHandOut
  have gz₈ : IsZip (a₇.push { cls := .type "tuple", data := .seq #[x, y, v] }) z TI TO .ellipsis := Heap.get?_push_of_some _ gz₇
  refine wpAny_bind (wpAny_setField_rec gz₈ (by simp) fun a₈ gz₉ sb₈ => ?_)
  replace gz₉ : IsZip a₈ z TI TO (rawInt a₇.objs.size) := gz₉
  refine wpAny_setField_rec gz₉ (by simp) fun a₉ gzA sb₉ => ?_
  replace gzA : IsZip a₉ z TI TO (rawInt a₇.objs.size) := gzA
  have up : ∀ d o, d ≠ z → a₇.get? d = some o → a₉.get? d = some o := fun d o c1 e => sb₉.extBut _ _ c1 (sb₈.extBut _ _ c1 (Heap.get?_push_of_some _ e))
  have nT : Tri a₉ a₇.objs.size x y v := sb₉.extBut _ _ (Nat.ne_of_gt zlt) (sb₈.extBut _ _ (Nat.ne_of_gt zlt) (Heap.get?_push_size _ rfl))
  have sz9 : a₉.objs.size = a₇.objs.size + 1 := by rw [sb₉.1, sb₈.1, Heap.size_push]
  rw [sz] at gzA nT sz9
  refine wpAny_pure ⟨_, rfl, ?_⟩
  show Q (.ref a₇.objs.size) _
  rw [sz]
  exact q a₉ gzA (up _ _ D.Oz gO₇) (t1.at fun o e => up _ o D.iz e) (t2.at fun o e => up _ o D.jz e) (t3.at fun o e => up _ o D.kz e) nT sz9 fun d o c1 c2 c3 c4 c5 e => up d o c1 (keep d o c1 c2 c3 c4 c5 e)
theorem end3 {z TI TO i j k l m n : Addr} {ki kj kk : Nat} {xs ys zs : Array Value} {a b c : Value} {Q : Fin → Shared → Prop} (hh : A.handled = none) (D : Far3 z TI TO i j k l m n)
    (gz : IsZip s.heap z TI TO .none) (gI : Tri s.heap TI (.ref i) (.ref j) (.ref k)) (gO : Tri s.heap TO a b c)
    (h1 : s.heap.IsListIter i l ki) (h2 : s.heap.IsListIter j m kj) (h3 : s.heap.IsListIter k n kk) (hl : s.heap.IsList l xs) (hm : s.heap.IsList m ys) (hn : s.heap.IsList n zs) (he : xs[ki]? = none ∨ ys[kj]? = none ∨ zs[kk]? = none)
    (hE : ∀ h' e, (∀ d o, d ≠ z → d ≠ TO → d ≠ i → d ≠ j → d ≠ k → s.heap.get? d = some o → h'.get? d = some o) → (∃ o, h'.get? e = some o ∧ o.cls = .type "StopIteration") → E (.ref e) { s with heap := h' }) :
    wpAny (model prog w) A (Builtin.«zip.__next__» ⟨[.ref z], []⟩) Q E s := by
  show wpAny _ _ (field (.ref z) 2 >>= _) _ _ _
  refine wpAny_bind (wpAny_field gz rfl (x := .bool false) rfl ?_)
  show wpAny _ _ (field (.ref z) 3 >>= _) _ _ _
  refine wpAny_bind (wpAny_field gz rfl (x := .ref TI) rfl ?_)
  refine wpAny_bind (wpAny_seqItems gI rfl ?_)
  show wpAny _ _ (Builtin.SmallTypes.ownedTupleIsFree (.ref z) >>= _) _ _ _
  refine wpAny_bind ?_
  unfold Builtin.SmallTypes.ownedTupleIsFree
  refine wpAny_bind (wpAny_field gz rfl (x := .none) rfl (wpAny_pure ?_))
  simp only [if_true]
  refine wpAny_bind (wpAny_rule ?_)
  refine wpAny_bind (wpAny_field gz rfl (x := .ref TO) rfl ?_)
  refine wpAny_bind (wpAny_setField_rec gz (by simp) fun a₁ gz₁ sb₁ => ?_)
  replace gz₁ : IsZip a₁ z TI TO .ellipsis := gz₁
  refine wpAny_bind ?_
  simp only [List.zipIdx_cons, List.zipIdx_nil, List.forIn_cons, List.forIn_nil]
  refine wpAny_bind (wpAny_bind (wpAny_onRaise ?_))
  show wpAny _ _ (Builtin.SmallTypes.nextOf (.ref i) >>= _) _ _ _
  cases hx : xs[ki]? with
  | none =>
    refine wpAny_bind (wpAny_nextOf_list_end hh (h1.extBut sb₁.extBut D.iz) (hl.extBut sb₁.extBut D.lz) hx fun a₂ e sb₂ g => ?_)
    obtain ⟨oe, g1, g2⟩ := g
    have gz₂ : IsZip a₂ z TI TO .ellipsis := sb₂ _ _ D.iz.symm gz₁
    have ez : e ≠ z := fun x => by subst x; rw [gz₂] at g1; cases g1; simp at g2
    exact wpAny_setField_rec gz₂ (by simp) fun a₃ _ sb₃ => hE a₃ e (fun d o c1 _ c3 _ _ x => sb₃.extBut _ _ c1 (sb₂ _ _ c3 (sb₁.extBut _ _ c1 x))) ⟨oe, sb₃.extBut _ _ ez g1, g2⟩
  | some x =>
    refine wpAny_bind (wpAny_nextOf_list_item (h1.extBut sb₁.extBut D.iz) (hl.extBut sb₁.extBut D.lz) hx fun a₂ t₂ sb₂ => wpAny_pure ?_)
    have gO₂ : Tri a₂ TO a b c := sb₂.extBut _ _ D.Oi (sb₁.extBut _ _ D.Oz gO)
    refine wpAny_bind (wpAny_seqItems gO₂ rfl ?_)
    refine wpAny_bind (putTri gO₂ fun a₃ gO₃ sb₃ => ?_)
    replace gO₃ : Tri a₃ TO x b c := gO₃
    refine wpAny_bind (wpAny_letGo (wpAny_pure ?_))
    refine wpAny_bind (wpAny_bind (wpAny_onRaise ?_))
    show wpAny _ _ (Builtin.SmallTypes.nextOf (.ref j) >>= _) _ _ _
    cases hy : ys[kj]? with
    | none =>
      refine wpAny_bind (wpAny_nextOf_list_end hh (((h2.extBut sb₁.extBut D.jz).extBut sb₂.extBut D.ij.symm).extBut sb₃.extBut D.Oj.symm)
        (((hm.extBut sb₁.extBut D.mz).extBut sb₂.extBut D.mi).extBut sb₃.extBut D.mO) hy fun a₄ e sb₄ g => ?_)
      obtain ⟨oe, g1, g2⟩ := g
      have gz₄ : IsZip a₄ z TI TO .ellipsis := sb₄ _ _ D.jz.symm (sb₃.extBut _ _ D.Oz.symm (sb₂.extBut _ _ D.iz.symm gz₁))
      have ez : e ≠ z := fun x => by subst x; rw [gz₄] at g1; cases g1; simp at g2
      exact wpAny_setField_rec gz₄ (by simp) fun a₅ _ sb₅ => hE a₅ e (fun d o c1 c2 c3 c4 _ x => sb₅.extBut _ _ c1 (sb₄ _ _ c4 (sb₃.extBut _ _ c2 (sb₂.extBut _ _ c3 (sb₁.extBut _ _ c1 x))))) ⟨oe, sb₅.extBut _ _ ez g1, g2⟩
    | some y =>
      have hv : zs[kk]? = none := by
        rcases he with e | e | e
        · rw [hx] at e; cases e
        · rw [hy] at e; cases e
        · exact e
      refine wpAny_bind (wpAny_nextOf_list_item (((h2.extBut sb₁.extBut D.jz).extBut sb₂.extBut D.ij.symm).extBut sb₃.extBut D.Oj.symm)
        (((hm.extBut sb₁.extBut D.mz).extBut sb₂.extBut D.mi).extBut sb₃.extBut D.mO) hy fun a₄ t₄ sb₄ => wpAny_pure ?_)
      have gO₄ : Tri a₄ TO x b c := sb₄.extBut _ _ D.Oj gO₃
      refine wpAny_bind (wpAny_seqItems gO₄ rfl ?_)
      refine wpAny_bind (putTri gO₄ fun a₅ gO₅ sb₅ => ?_)
      refine wpAny_bind (wpAny_letGo (wpAny_pure ?_))
      refine wpAny_bind (wpAny_bind (wpAny_onRaise ?_))
      show wpAny _ _ (Builtin.SmallTypes.nextOf (.ref k) >>= _) _ _ _
      refine wpAny_bind (wpAny_nextOf_list_end hh (((((h3.extBut sb₁.extBut D.kz).extBut sb₂.extBut D.ik.symm).extBut sb₃.extBut D.Ok.symm).extBut sb₄.extBut D.jk.symm).extBut sb₅.extBut D.Ok.symm)
        (((((hn.extBut sb₁.extBut D.nz).extBut sb₂.extBut D.ni).extBut sb₃.extBut D.nO).extBut sb₄.extBut D.nj).extBut sb₅.extBut D.nO) hv fun a₆ e sb₆ g => ?_)
      obtain ⟨oe, g1, g2⟩ := g
      have gz₆ : IsZip a₆ z TI TO .ellipsis := sb₆ _ _ D.kz.symm (sb₅.extBut _ _ D.Oz.symm (sb₄.extBut _ _ D.jz.symm (sb₃.extBut _ _ D.Oz.symm (sb₂.extBut _ _ D.iz.symm gz₁))))
      have ez : e ≠ z := fun x => by subst x; rw [gz₆] at g1; cases g1; simp at g2
      exact wpAny_setField_rec gz₆ (by simp) fun a₇ _ sb₇ => hE a₇ e (fun d o c1 c2 c3 c4 c5 x => sb₇.extBut _ _ c1 (sb₆ _ _ c5 (sb₅.extBut _ _ c2 (sb₄.extBut _ _ c4 (sb₃.extBut _ _ c2 (sb₂.extBut _ _ c3 (sb₁.extBut _ _ c1 x))))))) ⟨oe, sb₇.extBut _ _ ez g1, g2⟩
theorem pyNext3 {z TI TO i j k l m n : Addr} {ki kj kk : Nat} {xs ys zs : Array Value} {x y v a b c : Value} {Q : Option Value → Shared → Prop} (D : Far3 z TI TO i j k l m n)
    (gz : IsZip s.heap z TI TO .none) (gI : Tri s.heap TI (.ref i) (.ref j) (.ref k)) (gO : Tri s.heap TO a b c)
    (h1 : s.heap.IsListIter i l ki) (h2 : s.heap.IsListIter j m kj) (h3 : s.heap.IsListIter k n kk) (hl : s.heap.IsList l xs) (hm : s.heap.IsList m ys) (hn : s.heap.IsList n zs) (hx : xs[ki]? = some x) (hy : ys[kj]? = some y) (hv : zs[kk]? = some v)
    (q : ∀ h', IsZip h' z TI TO (rawInt s.heap.objs.size) → Tri h' TO x y v → h'.IsListIter i l (ki + 1) → h'.IsListIter j m (kj + 1) → h'.IsListIter k n (kk + 1) → Tri h' s.heap.objs.size x y v → h'.objs.size = s.heap.objs.size + 1 →
      (∀ d o, d ≠ z → d ≠ TO → d ≠ i → d ≠ j → d ≠ k → s.heap.get? d = some o → h'.get? d = some o) → Q (some (.ref s.heap.objs.size)) { s with heap := h' }) :
    wpAny (model prog w) A (pyNext (.ref z)) Q E s := by
  have ty : s.TypeIs (.ref z) "zip" := ⟨_, gz, rfl⟩
  unfold pyNext
  exact wpAny_bind (wpAny_attempt (wpAny_callSpecial?_slot (name := Str.ofString "__next__") ty F.slot_zip_next
    (wpAny_call_entry F.slot_zip_next ty F.entry_zip_next
      (next3 D gz gI gO h1 h2 h3 hl hm hn hx hy hv fun h' a1 a2 a3 a4 a5 a6 a7 a8 => wpAny_pure (q h' a1 a2 a3 a4 a5 a6 a7 a8)) (F.args_zip_next_1 _))))
theorem pyNext3_end {z TI TO i j k l m n : Addr} {ki kj kk : Nat} {xs ys zs : Array Value} {a b c : Value} {Q : Option Value → Shared → Prop} (hh : A.handled = none) (D : Far3 z TI TO i j k l m n)
    (gz : IsZip s.heap z TI TO .none) (gI : Tri s.heap TI (.ref i) (.ref j) (.ref k)) (gO : Tri s.heap TO a b c)
    (h1 : s.heap.IsListIter i l ki) (h2 : s.heap.IsListIter j m kj) (h3 : s.heap.IsListIter k n kk) (hl : s.heap.IsList l xs) (hm : s.heap.IsList m ys) (hn : s.heap.IsList n zs) (he : xs[ki]? = none ∨ ys[kj]? = none ∨ zs[kk]? = none)
    (q : ∀ h', (∀ d o, d ≠ z → d ≠ TO → d ≠ i → d ≠ j → d ≠ k → s.heap.get? d = some o → h'.get? d = some o) → Q none { s with heap := h' }) : wpAny (model prog w) A (pyNext (.ref z)) Q E s := by
  have ty : s.TypeIs (.ref z) "zip" := ⟨_, gz, rfl⟩
  unfold pyNext
  refine wpAny_bind (wpAny_attempt (wpAny_callSpecial?_slot (name := Str.ofString "__next__") ty F.slot_zip_next
    (wpAny_call_entry F.slot_zip_next ty F.entry_zip_next (end3 hh D gz gI gO h1 h2 h3 hl hm hn he fun h' e hk g => ?_) (F.args_zip_next_1 _))))
  obtain ⟨o, g1, g2⟩ := g
  refine wpAny_bind (wpAny_isInstance (T := "StopIteration") (b := true) ⟨o, g1, g2⟩ isSubtype_stop ?_)
  exact wpAny_pure (q _ hk)
end
abbrev pA (h : Heap) (l : Addr) : Heap := h.push { cls := .type "list_iterator", data := .fields #[.ref l, .int 0 0] }
abbrev pB (h : Heap) (l m n : Addr) : Heap := pA (pA (pA h l) m) n
abbrev pC (h : Heap) (l m n : Addr) : Heap := (pB h l m n).push { cls := .type "tuple", data := .seq #[.ref h.objs.size, .ref (pA h l).objs.size, .ref (pA (pA h l) m).objs.size] }
abbrev pD4 (h : Heap) (l m n : Addr) : Heap := (pC h l m n).push { cls := .type "tuple", data := .seq #[.none, .none, .none] }
abbrev pE5 (h : Heap) (l m n : Addr) : Heap := (pD4 h l m n).push { cls := .type "zip", data := .fields #[.none, .bool false, .bool false, .ref (pB h l m n).objs.size, .ref (pC h l m n).objs.size] }
theorem new3 (l m n : Addr) (xs ys zs : Array Value) :
    Meets (Builtin.«zip.__new__» ⟨[.type "zip", .ref l, .ref m, .ref n], []⟩) (fun _ R s => s.heap.IsList l xs ∧ s.heap.IsList m ys ∧ s.heap.IsList n zs ∧
      R (.ok (.ret (.ref (pD4 s.heap l m n).objs.size))) { s with heap := pE5 s.heap l m n }) :=
  .of_wp fun prog w A R s h => by
    obtain ⟨hp, g, d, tk, os⟩ := s
    obtain ⟨hl, hm, hn, h⟩ := h
    have hsub := sub_zip
    have k1 : Heap.IsList (Shared.heap ⟨hp, g, d, tk, os⟩) l xs := hl
    have k2 : Heap.IsList (Shared.heap ⟨pA hp l, g, d, tk, os⟩) m ys := Heap.IsList.push hm _
    have k3 : Heap.IsList (Shared.heap ⟨pA (pA hp l) m, g, d, tk, os⟩) n zs := Heap.IsList.push (Heap.IsList.push hn _) _
    wp_walk using wpAny_pyIter_list k1, wpAny_pyIter_list k2, wpAny_pyIter_list k3
    exact ⟨_, rfl, h⟩
section
variable {prog : Program} {w : World} {A : Around} {E : Value → Shared → Prop} {s : Shared}
theorem call3 {l m n : Addr} {xs ys zs : Array Value} {Q : Value → Shared → Prop} (hl : s.heap.IsList l xs) (hm : s.heap.IsList m ys) (hn : s.heap.IsList n zs)
    (q : ∀ h', IsZip h' (s.heap.objs.size + 5) (s.heap.objs.size + 3) (s.heap.objs.size + 4) .none → Tri h' (s.heap.objs.size + 3) (.ref s.heap.objs.size) (.ref (s.heap.objs.size + 1)) (.ref (s.heap.objs.size + 2)) →
      Tri h' (s.heap.objs.size + 4) .none .none .none → h'.IsListIter s.heap.objs.size l 0 → h'.IsListIter (s.heap.objs.size + 1) m 0 → h'.IsListIter (s.heap.objs.size + 2) n 0 → h'.objs.size = s.heap.objs.size + 6 →
      (∀ d o, s.heap.get? d = some o → h'.get? d = some o) → Q (.ref (s.heap.objs.size + 5)) { s with heap := h' }) :
    wpAny (model prog w) A (call (.type "zip") [.ref l, .ref m, .ref n]) Q E s := by
  refine callType_new F.called_zip (by decide) (tCall3 _ _ _) (nCall3 _ _ _) (fun obj => oInit4 obj _ _ _) F.entry_zip_new
    (new3 l m n xs ys zs) ⟨hl, hm, hn, ?_⟩
  have z1 : (pA s.heap l).objs.size = s.heap.objs.size + 1 := Heap.size_push ..
  have z2 : (pA (pA s.heap l) m).objs.size = s.heap.objs.size + 2 := by rw [Heap.size_push, z1]
  have z3 : (pB s.heap l m n).objs.size = s.heap.objs.size + 3 := by rw [Heap.size_push, z2]
  have z4 : (pC s.heap l m n).objs.size = s.heap.objs.size + 4 := by rw [Heap.size_push, z3]
  have z5 : (pD4 s.heap l m n).objs.size = s.heap.objs.size + 5 := by rw [Heap.size_push, z4]
  have z6 : (pE5 s.heap l m n).objs.size = s.heap.objs.size + 6 := by rw [Heap.size_push, z5]
  have g6 : (pE5 s.heap l m n).get? (pD4 s.heap l m n).objs.size = some _ := Heap.get?_push_size _ rfl
  have g5 : (pE5 s.heap l m n).get? (pC s.heap l m n).objs.size = some _ := Heap.get?_push_of_some _ (Heap.get?_push_size _ rfl)
  have g4 : (pE5 s.heap l m n).get? (pB s.heap l m n).objs.size = some _ := Heap.get?_push_of_some _ (Heap.get?_push_of_some _ (Heap.get?_push_size _ rfl))
  have g3 : (pE5 s.heap l m n).get? (pA (pA s.heap l) m).objs.size = some _ := Heap.get?_push_of_some _ (Heap.get?_push_of_some _ (Heap.get?_push_of_some _ (Heap.get?_push_size _ rfl)))
  have g2 : (pE5 s.heap l m n).get? (pA s.heap l).objs.size = some _ := Heap.get?_push_of_some _ (Heap.get?_push_of_some _ (Heap.get?_push_of_some _ (Heap.get?_push_of_some _ (Heap.get?_push_size _ rfl))))
  have g1 : (pE5 s.heap l m n).get? s.heap.objs.size = some _ := Heap.get?_push_of_some _ (Heap.get?_push_of_some _ (Heap.get?_push_of_some _ (Heap.get?_push_of_some _ (Heap.get?_push_of_some _ (Heap.get?_push_size _ rfl)))))
  show _ ∧ _
  rw [z3, z4, z5] at g6
  rw [z4] at g5
  rw [z1, z2, z3] at g4
  rw [z2] at g3
  rw [z1] at g2
  rw [z5]
  exact ⟨⟨_, g6, rfl⟩, q _ g6 g4 g5 ⟨_, g1, rfl, rfl⟩ ⟨_, g2, rfl, rfl⟩ ⟨_, g3, rfl, rfl⟩ z6 fun d o x =>
    Heap.get?_push_of_some _ (Heap.get?_push_of_some _ (Heap.get?_push_of_some _ (Heap.get?_push_of_some _ (Heap.get?_push_of_some _ (Heap.get?_push_of_some _ x)))))⟩
end
def Itz3 (K : PySem.W.Frag) (a b c : Addr) : It :=
  ⟨fun i H => ∃ (xs ys zs : List V) (x y z : V), SqL K H a xs ∧ SqL K H b ys ∧ SqL K H c zs ∧ xs[i]? = some x ∧ ys[i]? = some y ∧ zs[i]? = some z,
    fun i H v H' => ∃ T x y z, v = .ref T ∧ H T = none ∧ H' = upd H T (.tup [x, y, z]) ∧ (∀ xs, SqL K H a xs → xs[i]? = some x) ∧ (∀ ys, SqL K H b ys → ys[i]? = some y) ∧ ∀ zs, SqL K H c zs → zs[i]? = some z,
    fun i H => ∃ xs ys zs : List V, SqL K H a xs ∧ SqL K H b ys ∧ SqL K H c zs ∧ (xs.length ≤ i ∨ ys.length ≤ i ∨ zs.length ≤ i)⟩
theorem in6 {d z TI TO i j k : Addr} (h : d ∈ [z, TI, TO, i, j, k]) : d = z ∨ d = TI ∨ d = TO ∨ d = i ∨ d = j ∨ d = k := by simpa using h
theorem turn3 {P : Program} {w : World} {K : PySem.W.Frag} {elts : List Expr} {kk : Nat} {tpos : Pos} {a b c z TI TO i j k : Addr} (D : Far3 z TI TO i j k a b c) :
    Turn P w K (.Tuple elts kk tpos) (Itz3 K a b c) [z, TI, TO, i, j, k] z (fun t h => IsZip h z TI TO .none ∧ Tri h TI (.ref i) (.ref j) (.ref k) ∧ (∃ x y v, Tri h TO x y v) ∧ h.IsListIter i a t ∧ h.IsListIter j b t ∧ h.IsListIter k c t) where
  mem := by simp
  obj := fun t h st d hd => by
    obtain ⟨gz, gI, ⟨x, y, v, gO⟩, ⟨o1, e1, _, d1⟩, ⟨o2, e2, _, d2⟩, ⟨o3, e3, _, d3⟩⟩ := st
    rcases in6 hd with r | r | r | r | r | r
    · rw [r]; exact ⟨_, gz, fun v q => nomatch q⟩
    · rw [r]; exact ⟨_, gI, fun v q => nomatch q⟩
    · rw [r]; exact ⟨_, gO, fun v q => nomatch q⟩
    · rw [r]; exact ⟨o1, e1, fun v q => by rw [d1] at q; cases q⟩
    · rw [r]; exact ⟨o2, e2, fun v q => by rw [d2] at q; cases q⟩
    · rw [r]; exact ⟨o3, e3, fun v q => by rw [d3] at q; cases q⟩
  keep := fun t h h' st kp => by
    obtain ⟨gz, gI, ⟨x, y, v, gO⟩, h1, h2, h3⟩ := st
    exact ⟨kp z (by simp) _ gz, kp TI (by simp) _ gI, ⟨x, y, v, kp TO (by simp) _ gO⟩, h1.at fun o q => kp i (by simp) o q, h2.at fun o q => kp j (by simp) o q, h3.at fun o q => kp k (by simp) o q⟩
  item := by
    intro X hP hw hK hc t pins s σ H E I hf st hg
    subst hP hw hK
    obtain ⟨gz, gI, ⟨x0, y0, v0, gO⟩, h1, h2, h3⟩ := st
    obtain ⟨xs, ys, zs, x, y, v, qx, qy, qv, hx, hy, hv⟩ := hg
    obtain ⟨is1, r1, p1, _⟩ := I.list qx
    obtain ⟨is2, r2, p2, _⟩ := I.list qy
    obtain ⟨is3, r3, p3, _⟩ := I.list qv
    obtain ⟨u1, m1, w1⟩ := r1.get hx
    obtain ⟨u2, m2, w2⟩ := r2.get hy
    obtain ⟨u3, m3, w3⟩ := r3.get hv
    have zlt : z < s.heap.objs.size := Heap.lt_size gz
    refine pyNext3 D gz gI gO h1 h2 h3 p1.isList p2.isList p3.isList (x := u1) (y := u2) (v := u3) (by simpa using m1) (by simpa using m2) (by simpa using m3) fun h' z' TO' n1 n2 n3 nT hsz hk => ?_
    refine ⟨_, rfl, wpAny_letOwnedTupleGo_zip (s := { s with heap := h' }) z' fun h'' z'' sb => ?_⟩
    have nT2 : h''.get? s.heap.objs.size = some { cls := .type "tuple", data := .seq #[u1, u2, u3] } := (sb.2 _ (Nat.ne_of_gt zlt)).trans nT
    have new : ObjOk X.prog X.w (upd H s.heap.objs.size (.tup [x, y, v])) h'' s.heap.objs.size (.tup [x, y, v]) :=
      ⟨by show 3 ≤ sizeLine; decide, [u1, u2, u3], .cons w1 (.cons w2 (.cons w3 .nil)), ⟨_, nT2, rfl, _, rfl⟩⟩
    have I1 : Inv X pins σ (upd H s.heap.objs.size (.tup [x, y, v])) { s with heap := h'' } :=
      I.turnedNew (t' := s.toks) (ch := [z, TI, TO, i, j, k]) (fun d o hb q => (sb.2 d (fun q' => hb (by simp [q']))).trans (hk d o (fun q' => hb (by simp [q'])) (fun q' => hb (by simp [q'])) (fun q' => hb (by simp [q'])) (fun q' => hb (by simp [q'])) (fun q' => hb (by simp [q'])) q)) hf (Nat.le_refl _) new
    refine ⟨.ref s.heap.objs.size, _, I1, rfl, ⟨_, x, y, v, rfl, I.hok.fresh (Nat.le_refl _), rfl, fun l hl => by rw [I.list_inj hl qx]; exact hx, fun l hl => by rw [I.list_inj hl qy]; exact hy, fun l hl => by rw [I.list_inj hl qv]; exact hv⟩, ⟨z'', ?_, ⟨u1, u2, u3, ?_⟩, ?_, ?_, ?_⟩, fun d hd => ?_⟩
    · exact (sb.2 _ D.Iz).trans (hk _ _ D.Iz D.IO D.Ii D.Ij D.Ik gI)
    · exact (sb.2 _ D.Oz).trans TO'
    · exact n1.at fun o q => (sb.2 _ D.iz).trans q
    · exact n2.at fun o q => (sb.2 _ D.jz).trans q
    · exact n3.at fun o q => (sb.2 _ D.kz).trans q
    · have lt : d < s.heap.objs.size := by
        rcases in6 hd with r | r | r | r | r | r
        · rw [r]; exact zlt
        · rw [r]; exact Heap.lt_size gI
        · rw [r]; exact Heap.lt_size gO
        · rw [r]; obtain ⟨_, e, _⟩ := h1; exact Heap.lt_size e
        · rw [r]; obtain ⟨_, e, _⟩ := h2; exact Heap.lt_size e
        · rw [r]; obtain ⟨_, e, _⟩ := h3; exact Heap.lt_size e
      rw [upd_ne (Nat.ne_of_lt lt)]
      exact (hf d hd).1
  done := by
    intro X hP hw hK hc t pins s σ H E I hf st hg
    subst hP hw hK
    obtain ⟨gz, gI, ⟨x0, y0, v0, gO⟩, h1, h2, h3⟩ := st
    obtain ⟨xs, ys, zs, qx, qy, qv, hend⟩ := hg
    obtain ⟨is1, r1, p1, _⟩ := I.list qx
    obtain ⟨is2, r2, p2, _⟩ := I.list qy
    obtain ⟨is3, r3, p3, _⟩ := I.list qv
    have l1 := r1.length
    have l2 := r2.length
    have l3 := r3.length
    have he : is1.toArray[t]? = none ∨ is2.toArray[t]? = none ∨ is3.toArray[t]? = none := by
      rcases hend with q | q | q
      · exact .inl (by simp; omega)
      · exact .inr (.inl (by simp; omega))
      · exact .inr (.inr (by simp; omega))
    exact pyNext3_end (I.ok.hd hc) D gz gI gO h1 h2 h3 p1.isList p2.isList p3.isList he fun h' hk => ⟨rfl, I.turnedL (t' := s.toks) (ch := [z, TI, TO, i, j, k]) (fun d o hb q =>
      hk d o (fun q' => hb (by simp [q'])) (fun q' => hb (by simp [q'])) (fun q' => hb (by simp [q'])) (fun q' => hb (by simp [q'])) (fun q' => hb (by simp [q'])) q) hf⟩
  self := fun A t s Q E st h => wpAny_pyIter_zip st.1 h
def iZip3 (K : PySem.W.Frag) (ta : TA) : TI := fun σ H R => ta σ H fun vs H1 => ∃ a b c xs ys zs, vs = [.ref a, .ref b, .ref c] ∧ SqL K H1 a xs ∧ SqL K H1 b ys ∧ SqL K H1 c zs ∧ R (Itz3 K a b c) H1
theorem far_of (n a b c : Nat) (ha : a < n) (hb : b < n) (hc : c < n) : Far3 (n + 5) (n + 3) (n + 4) n (n + 1) (n + 2) a b c := by
  constructor <;> (show (_ : Nat) ≠ _; omega)
theorem pi_zip3 {X : Cx} {e1 e2 e3 : Expr} {ta : TA} {p pos tpos : Pos} {elts : List Expr} {kk : Nat} (hg : Gl X "zip") (hm : X.mg "zip" = none) (ha : PA X [e1, e2, e3] ta)
    (hs : starEach [e1, e2, e3] X.env = (false, eval e1 X.env) :: starEach [e2, e3] X.env) (hpl : (backTo pos (starEach [e2, e3] X.env)).any (·.1) = false) :
    PI X (.Tuple elts kk tpos) (.Call (.Name "zip" p) [e1, e2, e3] [] pos) (iZip3 X.K ta) := by
  refine ⟨fun pins s σ H R I h => ?_⟩
  refine Call_ (ld_blt I hg hm PyProof.Rows.boot_zip (PyProof.Rows.callWith_type1 (thn (ha.run pos pins s σ H _ I h) fun us s1 ⟨vs, H1, I1, rr, q1⟩ => ?_) hs hpl))
  obtain ⟨a, b, c, xs, ys, zs, ex, qx, qy, qv, q⟩ := q1
  subst ex
  cases rr with
  | cons ra rr =>
    cases rr with
    | cons rb rr =>
      cases rr with
      | cons rc rr =>
        cases rr
        cases ra
        cases rb
        cases rc
        obtain ⟨is1, r1, p1, _⟩ := I1.list qx
        obtain ⟨is2, r2, p2, _⟩ := I1.list qy
        obtain ⟨is3, r3, p3, _⟩ := I1.list qv
        have D := far_of s1.heap.objs.size a b c p1.lt p2.lt p3.lt
        refine call3 p1.isList p2.isList p3.isList fun h' gz gI gO n1 n2 n3 hsz hk => wpAny_pyIter_zip gz ?_
        have I2 : Inv X pins σ H1 { s1 with heap := h' } := I1.kept (t' := s1.toks) hk
        refine ⟨s1.heap.objs.size + 5, [s1.heap.objs.size + 5, s1.heap.objs.size + 3, s1.heap.objs.size + 4, s1.heap.objs.size, s1.heap.objs.size + 1, s1.heap.objs.size + 2], _, _, H1, rfl, I2, turn3 D, ⟨gz, gI, ⟨_, _, _, gO⟩, n1, n2, n3⟩, fun d hd => ?_, q⟩
        have le : s1.heap.objs.size ≤ d := by
          rcases in6 hd with r | r | r | r | r | r <;> (rw [r]; show (_ : Nat) ≤ _; omega)
        exact I1.fpOk le (I1.hok.fresh le)
end LT

namespace LT
open PySem PySem.Spec PyProof.Rows L2
def dKI (ps : List (Int × Int)) : HO := .dK (ps.map fun p => (Sum.inl p.1, V.int p.2))
def pyI (ps : List (Int × Int)) : PyData := .dict (ps.map fun p => (.int p.1, .int p.2))
mutual
inductive Dq (K : PySem.W.Frag) (H : Hp) : V → PyData → Prop
  | non : Dq K H .non .none
  | bl (b : Bool) : Dq K H (.bl b) (.bool b)
  | int (i : Int) : Dq K H (.int i) (.int i)
  | str (x : Str) : Dq K H (.str x) (.str x)
  | lst {a : Addr} {xs : List V} {ds : List PyData} : H a = some (.lst xs) → DqAll K H xs ds → Dq K H (.ref a) (.list ds)
  | tup {a : Addr} {xs : List V} {ds : List PyData} : SqT K H a xs → DqAll K H xs ds → Dq K H (.ref a) (.tuple ds)
  | dct {a : Addr} {ps : List (Int × Int)} : H a = some (dKI ps) → Dq K H (.ref a) (pyI ps)
inductive DqAll (K : PySem.W.Frag) (H : Hp) : List V → List PyData → Prop
  | nil : DqAll K H [] []
  | cons {v : V} {vs : List V} {d : PyData} {ds : List PyData} : Dq K H v d → DqAll K H vs ds → DqAll K H (v :: vs) (d :: ds)
end
section
variable {X : Cx} {pins : List (Addr × Obj)} {σ : L2.St} {H : Hp} {s : Shared}
theorem not1 (hs : (X.K.lookup sysModules).isSome = true) (I : Inv X pins σ H s) {a : Addr} {o : HO} (h : H a = some o) : sysModules ≠ a := fun e => by
  obtain ⟨o', ho⟩ := Option.isSome_iff_exists.mp hs
  have := (I.bs _ _ (I.mod.kin _ _ ho)).2
  rw [e, h] at this
  cases this
theorem ints_read {h : Heap} : ∀ {es : List DictEntry} {ps : List (Int × Int)} {vs : List (Key × Value)}, Pairs (mixKind X.prog X.w) es vs → KV (ps.map fun p => (Sum.inl p.1, V.int p.2)) vs →
    ReadsAll h (es.map (·.key)) ((ps.map fun p => ((PyData.int p.1, PyData.int p.2) : PyData × PyData)).map (·.1)) [] ∧ ReadsAll h (es.map (·.val)) ((ps.map fun p => ((PyData.int p.1, PyData.int p.2) : PyData × PyData)).map (·.2)) []
  | [], [], _, _, _ => ⟨.nil, .nil⟩
  | [], _ :: _, _, .nil, r => by cases r
  | _ :: _, [], _, .cons _ _ _, r => by cases r
  | e :: es, p :: ps, _, .cons hk hv t, .cons r rt => by
    obtain ⟨i1, i2⟩ := ints_read t rt
    obtain ⟨r1, r2⟩ := r
    simp only at r1 r2
    have hk2 : keyIs (Sum.inl p.1) e.key = true := by
      rw [r1]
      exact hk
    obtain ⟨tk, ek⟩ := Value.isInt_shape (k := p.1) (v := e.key) hk2
    rw [← hv] at r2
    obtain ⟨tv, ev'⟩ := r2
    refine ⟨?_, ?_⟩
    · rw [List.map_cons, List.map_cons, List.map_cons, ek]
      exact ReadsAll.cons (Reads.int p.1 tk) i1
    · rw [List.map_cons, List.map_cons, List.map_cons, ev']
      exact ReadsAll.cons (Reads.int p.2 tv) i2
mutual
theorem Dq.reads (h1 : (X.K.lookup sysModules).isSome = true) (I : Inv X pins σ H s) : ∀ (d : PyData) (v : V) (u : Value), Dq X.K H v d → RelV v u → ∃ as, Reads s.heap u d as ∧ sysModules ∉ as
  | .none, _, _, h, r => by
    cases h
    cases r
    exact ⟨_, Reads.none, by simp⟩
  | .bool b, _, _, h, r => by
    cases h
    cases r
    exact ⟨_, Reads.bool b, by simp⟩
  | .int i, _, _, h, r => by
    cases h
    obtain ⟨t, rfl⟩ := r
    exact ⟨_, Reads.int i t, by simp⟩
  | .str x, _, _, h, r => by
    cases h
    obtain ⟨t, rfl⟩ := r
    exact ⟨_, Reads.str x t, by simp⟩
  | .list ds, _, _, h, r => by
    cases h with
    | lst hs ha =>
      cases r
      obtain ⟨us, ru, ⟨ob, m, hob, hcl, _, hdt⟩, _⟩ := I.list (SqL.of hs)
      obtain ⟨as, hr, hn⟩ := Dq.readsAll h1 I ds _ us ha ru
      refine ⟨_, Reads.list hob hcl hdt hr, fun m => ?_⟩
      rcases List.mem_cons.mp m with e | m
      · exact not1 h1 I hs e
      · exact hn m
  | .tuple ds, _, _, h, r => by
    cases h with
    | tup hs ha =>
      cases r
      obtain ⟨us, ru, ⟨ob, hob, hcl, m, hdt⟩, _⟩ := I.tuple hs
      obtain ⟨as, hr, hn⟩ := Dq.readsAll h1 I ds _ us ha ru
      exact ⟨_, Reads.tuple hob hcl hdt hr, hn⟩
  | .dict kvs, _, _, h, r => by
    generalize e : PyData.dict kvs = z at h
    cases h with
    | dct hs =>
      cases r
      unfold pyI at e
      obtain rfl := PyData.dict.inj e
      obtain ⟨_, hne, vs, rel, o, es, ep, ho, hx, hd, _, hp, _⟩ := dk_of I.hok hs
      obtain ⟨r1, r2⟩ := ints_read (h := s.heap) hp rel
      refine ⟨_, Reads.dict ho hx.1 hd r1 r2, fun m => ?_⟩
      simp only [List.append_nil, List.mem_singleton] at m
      exact not1 h1 I hs m
    | _ => cases e
theorem Dq.readsAll (h1 : (X.K.lookup sysModules).isSome = true) (I : Inv X pins σ H s) : ∀ (ds : List PyData) (vs : List V) (us : List Value), DqAll X.K H vs ds → Vals vs us → ∃ as, ReadsAll s.heap us ds as ∧ sysModules ∉ as
  | [], _, _, h, r => by
    cases h
    cases r
    exact ⟨_, ReadsAll.nil, by simp⟩
  | d :: ds, _, _, h, r => by
    cases h with
    | cons g1 g2 =>
      cases r with
      | cons r1 r2 =>
        obtain ⟨as, q1, n1⟩ := Dq.reads h1 I d _ _ g1 r1
        obtain ⟨bs, q2, n2⟩ := Dq.readsAll h1 I ds _ _ g2 r2
        refine ⟨_, ReadsAll.cons q1 q2, fun m => ?_⟩
        rcases List.mem_append.mp m with m | m
        · exact n1 m
        · exact n2 m
end
end
section
variable {X : Cx}
def rRepQ (K : PySem.W.Frag) : List V → Hp → VK → Prop := fun xs H Q => ∃ (x : V) (d : PyData), xs = [x] ∧ Dq K H x d ∧ d.showable = true ∧ d.depth ≤ 60 ∧ d.shown.length ≤ sizeLine ∧ Q (.str d.shown) H
theorem call_reprQ (h1 : (X.K.lookup sysModules).isSome = true) (hg : X.A.guards = some []) (hu : X.A.units + 65 < cLine) : CallR X (.builtin "repr") (rRepQ X.K) := by
  intro pins s σ H vs us Q I r h
  obtain ⟨x, d, rfl, hd, hs, hdp, hz, q⟩ := h
  obtain ⟨u, rfl, rx⟩ := vals1 r
  have fin : ∀ h' t tk, (∀ b o, s.heap.get? b = some o → h'.get? b = some o) → EP X pins σ Q (.str d.shown t) { s with heap := h', toks := tk } := fun h' t tk k => ⟨.str d.shown, H, I.kept k, ⟨t, rfl⟩, q⟩
  cases x with
  | ref a =>
    cases rx
    obtain ⟨as, rd, hn⟩ := Dq.reads h1 I d _ _ hd rfl
    exact repr_of_reads' rd hs (fun _ => hn) hg (by omega) (fun _ _ z => z) (fun h' t tk k => fin h' t tk k) hz
  | non =>
    cases hd
    cases rx
    exact PySem.P.repr_of_none (fin s.heap s.toks (s.toks + 1) fun _ _ z => z)
  | bl b =>
    cases hd
    cases rx
    exact PySem.P.repr_of_bool (fin s.heap s.toks (s.toks + 1) fun _ _ z => z)
  | int i =>
    cases hd
    obtain ⟨t, rfl⟩ := rx
    exact PySem.P.repr_of_int (by simpa [PyData.showable] using hs) (fin s.heap s.toks (s.toks + 1) fun _ _ z => z)
  | str z =>
    cases hd
    obtain ⟨t, rfl⟩ := rx
    exact PySem.P.repr_of_str (fin s.heap s.toks (s.toks + 1) fun _ _ z => z) hz
  | _ => cases hd
def tDI (ps : List (Int × Int)) : TE := fun _ H Q => ∀ p, H p = none → Q (.ref p) (upd H p (dKI ps))
theorem pe_dI0 {pos : Pos} : PE X (.Dict [] [] pos) (tDI []) := pe_dnewK
theorem pe_dI1 {pos p1 p2 : Pos} {k1 k2 : Nat} {i j : Int} : PE X (.Dict [some (.Constant (.int i) k1 p1)] [.Constant (.int j) k2 p2] pos) (tDI [(i, j)]) := by
  have h := pe_disp (X := X) (pos := pos) (pps_cons (k := .Constant (.int i) k1 p1) (v := .Constant (.int j) k2 p2) pe_int pe_int pps_nil) (by rfl) (by rfl) (fun z => by cases z) (by show 1 ≤ 15; decide)
  refine ⟨fun pins s σ H Q I q => h.run pins s σ H Q I fun p hp => ?_⟩
  refine ⟨upd_same, [(Sum.inl i, .int j)], rfl, (by show 1 ≤ 15; decide), ?_⟩
  rw [upd_upd]
  exact q p hp
end
end LT

namespace LT
open PySem PySem.Spec PyProof.Rows L2
section
variable {X : Cx} {pins : List (Addr × Obj)} {σ : L2.St}
def SubL (H : Hp) (us : List V) (yss : List (List V)) : Prop := us.length = yss.length ∧ ∀ (i : Nat) (u : V) (ys : List V), us[i]? = some u → yss[i]? = some ys → ∃ x, u = .ref x ∧ H x = some (.lst ys)
theorem sumLoop {A : Around} {R : Result → Shared → Prop} {S it a b0 : Addr} {us : List V} {yss : List (List V)} {H0 : Hp} (hh : A.handled = none) (nS : S ≠ it) (na : a ≠ it)
    (ha : H0 a = some (.lst us)) (hu : SubL H0 us yss) (hz : yss.flatten.length ≤ sizeLine)
    (hend : ∀ s' H' t, Inv X pins σ H' s' → Sb H0 H' → (H0 t = none ∨ t = b0) → H' t = some (.lst yss.flatten) → R (.ok (.ret (.ref t))) s') :
    ∀ (k i : Nat) (s : Shared) (H : Hp) (t : Addr) (c : Nat), i + k = us.length → Inv X pins σ H s → FpOk X pins H S → FpOk X pins H it → Sb H0 H → s.heap.IsListIter it a i →
      s.heap.get? S = some (lstObj #[.ref t] c) → H t = some (.lst (yss.take i).flatten) → (H0 t = none ∨ t = b0) →
      codeAny (model X.prog X.w) A (.builtin "sum.loop" ⟨[.ref it, .ref S, rawInt 2, rawInt 0], []⟩) R s := by
  intro k
  induction k with
  | zero =>
    intro i s H t c hk I fS fI sb hit hS ht hb0
    obtain ⟨its, rv, p, _⟩ := I.list (SqL.of (sb _ _ ha))
    have l1 := rv.length
    refine codeAny_builtin F.entry_sum_loop ?_
    rw [Around.under_plainId F.plain_sum_loop _]
    show wpAny _ A.in1 (seqItems? (.ref S) >>= _) _ _ s
    refine wpAny_bind (wpAny_seqItems hS rfl ?_)
    show wpAny _ A.in1 (tryCatch (pyNext (.ref it)) _ >>= _) _ _ s
    refine wpAny_bind (wpAny_tryCatch (wpAny_pyNext_list_end (A := A.in1) hh hit p.isList (by simp; omega) fun h' he => ?_))
    have I2 : Inv X pins σ H { s with heap := h' } := I.turnedL (t' := s.toks) (ch := [it]) (fun q o hb e => he q o (fun x => hb (by simp [x])) e) (fun q hq => by rw [List.mem_singleton.mp hq]; exact fI)
    have e1 : (yss.take i).flatten = yss.flatten := by
      rw [List.take_of_length_le (by rw [← hu.1]; omega)]
    rw [e1] at ht
    exact wpAny_pure (hend _ H t I2 sb hb0 ht)
  | succ k ih =>
    intro i s H t c hk I fS fI sb hit hS ht hb0
    obtain ⟨its, rv, p, _⟩ := I.list (SqL.of (sb _ _ ha))
    have ix : i < us.length := by omega
    have iy : i < yss.length := by rw [← hu.1]; exact ix
    obtain ⟨x, ex, hx⟩ := hu.2 i _ _ (List.getElem?_eq_getElem ix) (List.getElem?_eq_getElem iy)
    obtain ⟨u, hu2, ru⟩ := rv.get (List.getElem?_eq_getElem ix)
    rw [ex] at ru
    cases ru
    have hx2 := sb _ _ hx
    have tk : yss.take (i + 1) = yss.take i ++ [yss[i]] := by rw [List.take_succ, List.getElem?_eq_getElem iy]; rfl
    have fl : (yss.take (i + 1)).flatten = (yss.take i).flatten ++ yss[i] := by rw [tk, List.flatten_append]; simp
    have szl : ((yss.take (i + 1)).flatten).length ≤ sizeLine := by
      have e := congrArg (fun z => z.flatten.length) (List.take_append_drop (i + 1) yss)
      simp only [List.flatten_append, List.length_append] at e
      omega
    refine codeAny_builtin F.entry_sum_loop ?_
    rw [Around.under_plainId F.plain_sum_loop _]
    show wpAny _ A.in1 (seqItems? (.ref S) >>= _) _ _ s
    refine wpAny_bind (wpAny_seqItems hS rfl ?_)
    show wpAny _ A.in1 (tryCatch (pyNext (.ref it)) _ >>= _) _ _ s
    refine wpAny_bind (wpAny_tryCatch (wpAny_pyNext_list_item (A := A.in1) hit p.isList (x := .ref x) (by simpa using hu2) fun h' hit' hs' => ?_))
    have kp : ∀ q o, q ≠ it → s.heap.get? q = some o → h'.get? q = some o := fun q o hq e => hs'.extBut q o hq e
    have I2 : Inv X pins σ H { s with heap := h' } := I.turnedL (t' := s.toks) (ch := [it]) (fun q o hb e => kp q o (fun x => hb (by simp [x])) e) (fun q hq => by rw [List.mem_singleton.mp hq]; exact fI)
    have hS' := kp _ _ nS hS
    show wpAny _ A.in1 ((holding [Value.ref x] (binaryOp .Add (.ref t) (.ref x))).attempt >>= _) _ _ _
    obtain ⟨z1, its1, n1, r1, q1, e1⟩ := I2.lstM ht
    obtain ⟨z2, its2, n2, r2, q2, e2⟩ := I2.lstM hx2
    refine wpAny_bind (wpAny_attempt (wpAny_holding ?_))
    refine PySem.P.add_list e1 e2 ?_ (by rw [List.size_toArray, List.size_toArray, ← q1, ← q2]; rw [fl, List.length_append] at szl; exact szl)
    have ea : its1.toArray ++ its2.toArray = (its1 ++ its2).toArray := by simp
    rw [ea]
    have J := I2.lnew (t' := s.toks) (r1.append r2) (by rw [← fl]; exact szl)
    have fr : H h'.objs.size = none := I2.fresh
    have lt : ∀ {q o}, h'.get? q = some o → q ≠ h'.objs.size := fun e => Nat.ne_of_lt (Heap.lt_size e)
    have nSl : S ≠ h'.objs.size := lt hS'
    have nIl : it ≠ h'.objs.size := by
      obtain ⟨o, e, _⟩ := hit'
      exact lt e
    have kp2 : ∀ q o, h'.get? q = some o → (h'.push { cls := .type "list", data := .seq (its1 ++ its2).toArray }).get? q = some o := fun q o e => Heap.get?_push_of_some _ e
    have hS2 := kp2 _ _ hS'
    show wpAny _ A.in1 (updateSeq S (fun _ => #[Value.ref h'.objs.size]) >>= _) _ _ _
    refine wpAny_bind ?_
    refine wpAny_updateSeq hS2 rfl ?_
    have hS3 := Heap.get?_update_self (Obj.mapSeq fun _ => #[Value.ref h'.objs.size]) hS2 rfl
    refine wpAny_bind (wpAny_letGo ?_)
    refine wpAny_bind ?_
    refine wpAny_updateSeq hS3 rfl (wpAny_pure ⟨plainId_quiet F.plain_sum_loop _, ?_⟩)
    have oth : ∀ q o, q ≠ S → (h'.push { cls := .type "list", data := .seq (its1 ++ its2).toArray }).get? q = some o → (((h'.push { cls := .type "list", data := .seq (its1 ++ its2).toArray }).update S (Obj.mapSeq fun _ => #[Value.ref h'.objs.size])).update S (Obj.mapSeq fun _ => #[Value.ref h'.objs.size])).get? q = some o := fun q o hq e => (Heap.get?_update_other _ _ (Ne.symm hq)).trans ((Heap.get?_update_other _ _ (Ne.symm hq)).trans e)
    have fS' := fpUpd (o := .lst ((yss.take i).flatten ++ yss[i])) fS nSl
    have fI' := fpUpd (o := .lst ((yss.take i).flatten ++ yss[i])) fI nIl
    have J2 : Inv X pins σ (upd H h'.objs.size (.lst ((yss.take i).flatten ++ yss[i]))) { s with heap := ((h'.push { cls := .type "list", data := .seq (its1 ++ its2).toArray }).update S (Obj.mapSeq fun _ => #[Value.ref h'.objs.size])).update S (Obj.mapSeq fun _ => #[Value.ref h'.objs.size]) } :=
      Inv.turnedL (s := { s with heap := h'.push { cls := .type "list", data := .seq (its1 ++ its2).toArray } }) (t' := s.toks) (ch := [S]) J (fun q o hb e => oth q o (fun x => hb (by simp [x])) e) (fun q hq => by rw [List.mem_singleton.mp hq]; exact fS')
    refine ih (i + 1) _ (upd H h'.objs.size (.lst ((yss.take i).flatten ++ yss[i]))) h'.objs.size _ (by omega) J2 fS' fI' (fun q o e => ?_) (hit'.at fun o e => oth _ o (Ne.symm nS) (kp2 _ _ e)) (Heap.get?_update_self _ hS3 rfl) ?_ (.inl ?_)
    · rw [upd_ne (fun x => by rw [x] at e; rw [sb _ _ e] at fr; cases fr)]
      exact sb q o e
    · rw [upd_same, fl]
    · cases z0 : H0 h'.objs.size with
      | none => rfl
      | some o =>
        rw [sb _ _ z0] at fr
        cases fr
def rSumL (vs : List V) (H : Hp) (Q : VK) : Prop := ∃ a b us yss, vs = [.ref a, .ref b] ∧ H a = some (.lst us) ∧ H b = some (.lst []) ∧ SubL H us yss ∧ yss.flatten.length ≤ sizeLine ∧
  ∀ H' l, Sb H H' → (H l = none ∨ l = b) → H' l = some (.lst yss.flatten) → Q (.ref l) H'
theorem args_sum2 (a b : Value) : argsOk "sum" ⟨[a, b], []⟩ := by unfold argsOk; kernel_rfl
theorem sub_l_str : isSubtype (.type "list") (.type "str") = pure false := by rw [isSubtype_type]; kernel_rfl
theorem sub_l_bytes : isSubtype (.type "list") (.type "bytes") = pure false := by rw [isSubtype_type]; kernel_rfl
theorem sub_l_bytearray : isSubtype (.type "list") (.type "bytearray") = pure false := by rw [isSubtype_type]; kernel_rfl
theorem cr_sumL (hc : X.calm = true) : CallR X (.builtin "sum") rSumL := by
  intro pins s σ H vs ws Q I r h
  obtain ⟨a, b, us, yss, rfl, ha, hb, hu, hz, q⟩ := h
  obtain ⟨x, y, rfl, rx, ry⟩ := vals2 r
  cases rx
  cases ry
  obtain ⟨its, rv, p, _⟩ := I.list (SqL.of ha)
  obtain ⟨z2, its2, n2, r2, q2, e2⟩ := I.lstM hb
  refine call_function_tree F.kind_sum F.plain_sum F.entry_sum (args_sum2 _ _) ?_
  unfold Builtin.«sum»
  simp only [List.length_cons, List.length_nil]
  rw [if_neg (by decide)]
  refine wpAny_bind (wpAny_of_eq (show Builtin.Builtins.bindParams "sum" ["start"] 0 ⟨[Value.ref b], []⟩ = pure [some (Value.ref b)] from rfl) ?_)
  refine wpAny_bind (wpAny_pyIter_list p.isList ?_)
  refine wpAny_bind (wpAny_pure ?_)
  simp only [List.forIn_cons, List.forIn_nil]
  have e3 : (s.heap.push { cls := .type "list_iterator", data := .fields #[.ref a, .int 0 0] }).get? b = some (lstObj its2.toArray n2) := Heap.get?_push_of_some _ e2
  have ty : ∀ tk, ({ s with heap := s.heap.push { cls := .type "list_iterator", data := .fields #[.ref a, .int 0 0] }, toks := tk } : Shared).TypeIs (.ref b) "list" := fun tk => ⟨_, e3, rfl⟩
  refine wpAny_bind (wpAny_bind (wpAny_bind (wpAny_isInstance (T := "list") (b := false) (ty _) sub_l_str ?_)))
  simp only [Bool.false_eq_true, if_false]
  refine wpAny_pure (wpAny_bind (wpAny_bind (wpAny_isInstance (T := "list") (b := false) (ty _) sub_l_bytes ?_)))
  simp only [Bool.false_eq_true, if_false]
  refine wpAny_pure (wpAny_bind (wpAny_bind (wpAny_isInstance (T := "list") (b := false) (ty _) sub_l_bytearray ?_)))
  simp only [Bool.false_eq_true, if_false]
  refine wpAny_pure (wpAny_pure ?_)
  refine wpAny_bind (wpAny_newObj_type ?_)
  have kp : ∀ q o, s.heap.get? q = some o → ((s.heap.push { cls := .type "list_iterator", data := .fields #[.ref a, .int 0 0] }).push { cls := .type "list", data := .seq #[Value.ref b] }).get? q = some o := fun q o e => Heap.get?_push_of_some _ (Heap.get?_push_of_some _ e)
  have s1 : (s.heap.push { cls := .type "list_iterator", data := .fields #[.ref a, .int 0 0] }).objs.size = s.heap.objs.size + 1 := Heap.size_push ..
  have n0 : ∀ c, s.heap.objs.size ≤ c → FpOk X pins H c := fun c hc => I.fpOk hc (I.hok.fresh hc)
  have la : a < s.heap.objs.size := p.lt
  have hI : ((s.heap.push { cls := .type "list_iterator", data := .fields #[.ref a, .int 0 0] }).push { cls := .type "list", data := .seq #[Value.ref b] }).IsListIter s.heap.objs.size a 0 := ⟨_, Heap.get?_push_of_some _ (Heap.get?_push_size _ rfl), rfl, rfl⟩
  refine wpAny_pure ⟨plainId_quiet F.plain_sum_loop _, ?_⟩
  have nS : (s.heap.push { cls := .type "list_iterator", data := .fields #[.ref a, .int 0 0] }).objs.size ≠ s.heap.objs.size := by rw [s1]; omega
  refine sumLoop (X := X) (pins := pins) (σ := σ) (A := X.A) (S := (s.heap.push { cls := .type "list_iterator", data := .fields #[.ref a, .int 0 0] }).objs.size) (it := s.heap.objs.size) (a := a) (b0 := b) (H0 := H) (I.ok.hd hc) nS (Nat.ne_of_lt la) ha hu hz ?_ us.length 0 _ H b 0 (by omega) (I.kept (t' := s.toks) kp) (n0 _ (by rw [s1]; omega)) (n0 _ (Nat.le_refl _)) (fun _ _ e => e) hI (Heap.get?_push_size _ rfl) (by simpa using hb) (.inr rfl)
  exact fun s' H' t J sb h0 ht => ⟨.ref t, H', J, rfl, q H' t sb h0 ht⟩
def rSumN (vs : List V) (H : Hp) (Q : VK) : Prop := match vs with
  | [v] => ([] : List V).length ≤ sizeLine ∧ ∀ p, H p = none → rSumL [v, .ref p] (upd H p (.lst [])) Q
  | _ => False
theorem pe_suml {e : Expr} {te : TE} {p pos p2 : Pos} (hc : X.calm = true) (gS : Gl X "sum") (mS : X.mg "sum" = none) (ha : PE X e te) (hs : starEach [e, .List [] p2] X.env = (false, eval e X.env) :: starEach [.List [] p2] X.env) (hp : (backTo pos (starEach [.List [] p2] X.env)).any (·.1) = false) :
    PE X (.Call (.Name "sum" p) [e, .List [] p2] [] pos) (fun σ H Q => (tCons te tNil) σ H fun vs H1 => rSumN vs H1 Q) :=
  pe_callB (cr_sumL hc) gS mS (by decide +kernel) (pa_cons ha (pa_cons (pe_lst pa_nil) pa_nil) hs) (by decide) rfl hs hp
theorem rSumN_of {v : V} {a : Addr} {us : List V} {yss : List (List V)} {H : Hp} {Q : VK} (e : v = .ref a) (h1 : H a = some (.lst us)) (h2 : SubL H us yss) (h3 : yss.flatten.length ≤ sizeLine)
    (q : ∀ H' l, Sb H H' → H l = none → H' l = some (.lst yss.flatten) → Q (.ref l) H') : rSumN [v] H Q := by
  subst e
  refine ⟨by decide, fun p hp => ?_⟩
  have up : Sb H (upd H p (.lst [])) := fun x o z => by
    rw [upd_ne (fun e => by rw [e, hp] at z; cases z)]
    exact z
  refine ⟨a, p, us, yss, rfl, up _ _ h1, upd_same, ⟨h2.1, fun i u ys e1 e2 => ?_⟩, h3, fun H' l sb h0 hl => q H' l (fun x o z => sb _ _ (up _ _ z)) ?_ hl⟩
  · obtain ⟨x, ex, hx⟩ := h2.2 i u ys e1 e2
    exact ⟨x, ex, up _ _ hx⟩
  · rcases h0 with h0 | h0
    · cases z : H l with
      | none => rfl
      | some o =>
        rw [up _ _ z] at h0
        cases h0
    · rw [h0]
      exact hp
end
end LT

namespace LT
open PySem PySem.Spec PyProof.Rows L2
section
variable {prog : Program} {w : World} {A : Around} {E : Value → Shared → Prop} {s : Shared} {K : PySem.W.Frag} {x C L f : Addr} {h₀ : Heap} {m : Str → Option Value} {ox : Obj} {od : Option Obj} {b tb : Value}
theorem ne_body {Q : Fin → Shared → Prop} (hu : A.units < cLine) (X : K.In s.heap) (I : PySem.W.InstAt s.heap x ox C od) (hs : PySem.W.findIn K (.ref C) "__eq__" = some (some (.ref f))) (hf : PySem.W.isFn K (.ref f) = true)
    (h : wpAny (model prog w) A (call (.ref f) [.ref x, b]) (fun v z => ∃ r, v = .bool r ∧ Q (.done (.ret (.bool (!r)))) z) E s) :
    wpAny (model prog w) A (Builtin.«object.__ne__» ⟨[.ref x, b], []⟩) Q E s := by
  obtain ⟨hp, g, d, t, os⟩ := s
  unfold Builtin.«object.__ne__»
  repeat (first
    | with_reducible refine wpAny_cRoomFor hu ?_
    | (refine wpAny_bind (m := callSpecialIfBound? (.ref x) (Str.ofString "__eq__") [b]) (PySem.W.ifBound_K X I hs hf (wpAny_mono h (fun u z hz => by
        obtain ⟨r, rfl, q⟩ := hz
        repeat (first | exact q | exact wpAny_pure q | exact wpAny_truthy_bool q | (refine wpAny_bind (m := truthy (.bool _)) (wpAny_truthy_bool ?_)) | wp_step)) fun _ _ e => e)))
    | wp_step)
theorem ne_try {Q : Value → Shared → Prop} (hu : A.units + 1 < cLine) (X : K.In s.heap) (I : PySem.W.InstAt s.heap x ox C od) (hne : PySem.W.findIn K (.ref C) "__ne__" = some (some (.builtin "object.__ne__")))
    (ho : PySem.W.mroIn K C (.type "object") = some true) (hs : PySem.W.findIn K (.ref C) "__eq__" = some (some (.ref f))) (hf : PySem.W.isFn K (.ref f) = true)
    (h : wpAny (model prog w) A.in1 (call (.ref f) [.ref x, b]) (fun v z => ∃ r, v = .bool r ∧ Q (.bool (!r)) z) E s) :
    wpAny (model prog w) A (tryCompare (.ref x) "__ne__" b) (fun r z => ∃ v, r = some v ∧ Q v z) E s := by
  have sub : PySem.W.Looks (model prog w) s.heap (isInstance (.ref x) (.type "object")) true := I.type.andThen (PySem.W.looks_mroIn X ho)
  have cal : wpAny (model prog w) A (call (.builtin "object.__ne__") [.ref x, b]) (fun v z => ∃ r, v = .bool r ∧ Q v z) E s :=
    wpAny_call (codeAny_call_builtin PySem.F.cmp_object.ne.plain PySem.F.cmpEntry_ne (PySem.W.check_slot PySem.F.cmpKind_ne PySem.F.cmpSplit_ne sub (PySem.F.cmpArgs_ne _ _)
      (ne_body (A := A.in1) (by simpa using hu) X I hs hf (wpAny_mono h (fun v z ⟨r, e, q⟩ => ⟨r, e, _, rfl, q⟩) fun _ _ e => e))))
  unfold tryCompare
  refine wpAny_bind ?_
  simp only [callSpecialIfBound?, bindSpecialIfBound?]
  refine wpAny_holding (wpAny_bind (wpAny_bind (wpAny_bind (I.type.here ((PySem.W.looks_findIn X hne).here ?_)))))
  refine wpAny_bind (wpAny_askSetting (wpAny_ite ?_))
  have fin : ∀ {Q2 : Option Value → Shared → Prop}, (∀ (r : Bool) z, Q (.bool r) z → Q2 (some (.bool r)) z) → wpAny (model prog w) A (call (.builtin "object.__ne__") ([.ref x] ++ [b]) >>= fun v => pure (some v)) Q2 E s := fun h2 =>
    wpAny_bind (wpAny_mono cal (fun v z ⟨r, e, q⟩ => wpAny_pure (by subst e; exact h2 r z q)) fun _ _ e => e)
  simp only [PySem.F.cmp_object.ne.bind]
  split
  · exact wpAny_bind (wpAny_pure (wpAny_pure (fin fun r z q => wpAny_pure ⟨_, rfl, q⟩)))
  · exact wpAny_tryCatch (wpAny_bind (wpAny_pure (wpAny_pure (fin fun r z q => wpAny_pure ⟨_, rfl, q⟩))))
theorem ne_K {Q : Value → Shared → Prop} (hu : A.units + 1 < cLine) (hF : PyProof.Rows.Fr h₀ L s.heap m) (X₀ : K.In h₀) (I : PySem.W.InstAt s.heap x ox C od) (hb : PySem.W.Looks (model prog w) s.heap (typeOf b) tb) (hn : PySem.W.notFirst K C tb = true)
    (hne : PySem.W.findIn K (.ref C) "__ne__" = some (some (.builtin "object.__ne__"))) (ho : PySem.W.mroIn K C (.type "object") = some true) (hs : PySem.W.findIn K (.ref C) "__eq__" = some (some (.ref f))) (hf : PySem.W.isFn K (.ref f) = true)
    (h : wpAny (model prog w) A.in1 (call (.ref f) [.ref x, b]) (fun v z => ∃ r, v = .bool r ∧ Q (.bool (!r)) z) E s) : wpAny (model prog w) A (richCompare .NotEq (.ref x) b) Q E s := by
  have X := X₀.keeps hF.keep
  have one := ne_try (Q := Q) hu X I hne ho hs hf h
  unfold richCompare
  simp only [oneThing_ref]
  refine wpAny_holding (wpAny_bind (wpAny_cRoomFor (Nat.lt_of_succ_lt hu) ?_))
  refine wpAny_bind (I.type.here (wpAny_bind (hb.here ?_)))
  split
  · rename_i q
    have e : PySem.W.subIn K tb (.ref C) = some false := by
      rcases Bool.or_eq_true_iff.mp hn with e | e
      · rw [beq_iff_eq.mp e] at q; simp at q
      · exact beq_iff_eq.mp e
    refine wpAny_bind ((PySem.W.looks_subIn X e).here ?_)
    simp only [Bool.false_eq_true, if_false]
    refine wpAny_bind (wpAny_mono one (fun r z hz => ?_) fun _ _ e => e)
    obtain ⟨v, rfl, hq⟩ := hz
    exact wpAny_pure hq
  · refine wpAny_bind (wpAny_pure ?_)
    simp only [Bool.false_eq_true, if_false]
    refine wpAny_bind (wpAny_mono one (fun r z hz => ?_) fun _ _ e => e)
    obtain ⟨v, rfl, hq⟩ := hz
    exact wpAny_pure hq
end
section
variable {X : Cx} {C f : Addr} {fd : FuncData} {ps : List Str} {k : Nat} {sp : Sp}
theorem looks_ty {pins : List (Addr × Obj)} {σ : L2.St} {H : Hp} {s : Shared} {x : V} {u t : Value} (I : Inv X pins σ H s) (rx : RelV x u) (ty : TyX X.K H x t) : PySem.W.Looks (model X.prog X.w) s.heap (typeOf u) t := by
  obtain ⟨P, Z, p, _⟩ := kit_of I rx ty
  exact Z.ty _ _ I.kIn p
def rOwnEq (K : PySem.W.Frag) (C : Addr) (sp : Sp) (ng : Bool) : R2 := fun x y H Q => ∃ a dx fs t, x = .ref a ∧ H a = some (.ins C dx fs) ∧ TyX K H y t ∧ PySem.W.notFirst K C t = true ∧
  sp [.ref a, y] H (fun v H' => ∃ b, v = .bl b ∧ Q (.bl (b != ng)) H') fun _ _ _ => False
def OpB (X : Cx) (f : Value → Value → Sem Value) (r : R2) : Prop := ∀ (pins : List (Addr × Obj)) (s : Shared) (σ : L2.St) (H : Hp) (x y : V) (v u : Value) (Q : VK), Inv X pins σ H s → RelV x v → RelV y u → r x y H Q →
  wpAny (model X.prog X.w) X.A (f v u) (fun c z => ∃ b H', c = .bool b ∧ Inv X pins σ H' z ∧ Q (.bl b) H') X.xe s
theorem OpB.op {f : Value → Value → Sem Value} {r : R2} (h : OpB X f r) : OpR X f r := fun pins s σ H x y v u Q I rx ry q =>
  wpAny_mono (h pins s σ H x y v u Q I rx ry q) (fun c z ⟨b, H', e, J, k⟩ => ⟨.bl b, H', J, e, k⟩) fun _ _ e => e
theorem pt_cmpB {op : CmpOp} {r : R2} {a b : Expr} {ta tb : TE} {pos : Pos} (ho : OpB X (compareOp op) r) (ha : PE X a ta) (hb : PE X b tb) (hm : behindInMarks op b = false) :
    PT X (.Compare a [op] [b] pos) (fun σ H Q => ta σ H fun x H1 => tb σ H1 fun y H2 => r x y H2 fun z H3 => ∃ k, TruV X.K z H3 k ∧ Q k H3) := by
  refine ⟨fun pins s σ H Q I h => ?_⟩
  refine wpAny_isTrue_Compare1 (thn (ha.run pins s σ H _ I h) fun v s1 ⟨x, H1, I1, r1, q1⟩ => thn (hb.run pins s1 σ H1 _ I1 q1) fun u s2 ⟨y, H2, I2, r2, q2⟩ =>
    thn (ho pins s2 σ H2 x y v u _ I2 r1 r2 q2) fun c s3 ⟨b, H3, e, I3, k, tr, q3⟩ => ?_) hm
  subst e
  obtain rfl : k = b := tr
  exact wpAny_truthy_bool ⟨H3, I3, q3⟩
theorem op_ownEq (hm : Meth X.K C "__eq__" f) (F : FnG X.prog X.w X.K X.mg X.base L2.CX0 k f fd ps (fun vs H Q _ => sp vs H Q fun _ _ _ => False)) (hr : Room (k + 1) X.A) (hgd : X.A.guards = some []) (hb : L2.Binds X.K fd ps []) :
    OpB X (compareOp .Eq) (rOwnEq X.K C sp false) := by
  intro pins s σ H x y v u Q I rx ry hq
  obtain ⟨a, dx, fs, t, rfl, ea, ty, nf, q⟩ := hq
  obtain rfl : v = Value.ref a := rx
  obtain ⟨mA, O, _, _, _, _⟩ := ins_get I.hok ea
  obtain ⟨od, J, _⟩ := O.look
  obtain ⟨m, Fr⟩ := I.fr
  show wpAny (model X.prog X.w) X.A (richCompare .Eq (.ref a) u) _ X.xe s
  refine PySem.W.cmp_K (op := .Eq) hr.units0 Fr I.ok.mod.kin J (looks_ty I ry ty) nf hm.at_ hm.fn (wpAny_call (codeAny_mono (run_at (E1 := fun _ _ _ => False) (us := [Value.ref a, u]) (vs := [V.ref a, y]) F (hr.mono (Nat.le_succ _)) hgd I.env0 hb .nil I (.cons rfl (.cons ry .nil)) q) fun z s' hz => ?_))
  cases z with
  | error e => exact False.elim hz
  | ok fl =>
    cases fl with
    | ret w =>
      obtain ⟨v, H', I3, rv, b, rfl, q3⟩ := hz
      obtain rfl : w = Value.bool b := rv
      exact ⟨b, H', rfl, I3, by cases b <;> exact q3⟩
    | _ => exact False.elim hz
theorem op_ownNe (hne : PySem.W.findIn X.K (.ref C) "__ne__" = some (some (.builtin "object.__ne__"))) (ho : PySem.W.mroIn X.K C (.type "object") = some true) (hm : Meth X.K C "__eq__" f)
    (F : FnG X.prog X.w X.K X.mg X.base L2.CX0 k f fd ps (fun vs H Q _ => sp vs H Q fun _ _ _ => False)) (hr : Room (k + 1) X.A) (hgd : X.A.guards = some []) (hb : L2.Binds X.K fd ps []) :
    OpB X (compareOp .NotEq) (rOwnEq X.K C sp true) := by
  intro pins s σ H x y v u Q I rx ry hq
  obtain ⟨a, dx, fs, t, rfl, ea, ty, nf, q⟩ := hq
  obtain rfl : v = Value.ref a := rx
  obtain ⟨mA, O, _, _, _, _⟩ := ins_get I.hok ea
  obtain ⟨od, J, _⟩ := O.look
  obtain ⟨m, Fr⟩ := I.fr
  show wpAny (model X.prog X.w) X.A (richCompare .NotEq (.ref a) u) _ X.xe s
  refine ne_K (by have := hr.un; omega) Fr I.ok.mod.kin J (looks_ty I ry ty) nf hne ho hm.at_ hm.fn (wpAny_call (codeAny_mono (run_at (E1 := fun _ _ _ => False) (us := [Value.ref a, u]) (vs := [V.ref a, y]) F hr.in1 hgd I.env0.in1 hb .nil I (.cons rfl (.cons ry .nil)) q) fun z s' hz => ?_))
  cases z with
  | error e => exact False.elim hz
  | ok fl =>
    cases fl with
    | ret w =>
      obtain ⟨v, H', I3, rv, b, rfl, q3⟩ := hz
      obtain rfl : w = Value.bool b := rv
      exact ⟨b, rfl, !b, H', rfl, I3, by cases b <;> exact q3⟩
    | _ => exact False.elim hz
end
end LT

namespace LT
open PySem PySem.Spec PyProof.Rows L2
theorem newEnumT {v : Value} {o : Obj} {H : Heap → Prop} (B : Begins v o H) :
    Meets (Builtin.«enumerate.__new__» ⟨[.type "enumerate", v], []⟩) (fun _ R s => H s.heap ∧
      R (.ok (.ret (.ref (s.heap.push o).objs.size))) { s with heap := (s.heap.push o).push { cls := .type "enumerate", data := .fields #[.none, .bool false, .ref s.heap.objs.size, rawInt 0, .none, .none] } }) :=
  .of_wp fun P w A R s z => by
    obtain ⟨hp, g, d, tk, os⟩ := s
    obtain ⟨z1, z⟩ := z
    have below := sub_enumerate
    have it : ∀ {A' : Around} {E : Value → Shared → Prop} {Q : Value → Shared → Prop}, Q (.ref hp.objs.size) ⟨hp.push o, g, d, tk, os⟩ → wpAny (model P w) A' (pyIter v) Q E ⟨hp, g, d, tk, os⟩ :=
      fun q => B.iter P w _ _ ⟨hp, g, d, tk, os⟩ _ z1 q
    wp_walk using it
    refine wpAny_stack_any fun st => wpAny_pure ?_
    split
    · rename_i c _ _ _ _ _
      cases (c == Value.type "enumerate")
      · wp_walk using it
        exact ⟨_, rfl, z⟩
      · wp_walk using it
        exact ⟨_, rfl, z⟩
    · wp_walk using it
      exact ⟨_, rfl, z⟩
section
variable {P : Program} {w : World} {A : Around} {E : Value → Shared → Prop} {s : Shared}
theorem callEnumT {v : Value} {o : Obj} {H : Heap → Prop} {Q : Value → Shared → Prop} (B : Begins v o H) (z1 : H s.heap)
    (z : ∀ h', IsEnum h' (s.heap.objs.size + 1) s.heap.objs.size 0 .none → h'.get? s.heap.objs.size = some o → (∀ b u, s.heap.get? b = some u → h'.get? b = some u) → Q (.ref (s.heap.objs.size + 1)) { s with heap := h' }) :
    wpAny (model P w) A (call (.type "enumerate") [v]) Q E s := by
  refine callType_new F.called_enumerate (by decide) (F.typeCall_enumerate_1 _) (F.newCall_enumerate_1 _) (fun obj => F.args_object_init_2 obj _) F.entry_enumerate_new (newEnumT B) ⟨z1, ?_⟩
  have hz : (s.heap.push o).objs.size = s.heap.objs.size + 1 := Heap.size_push ..
  show _ ∧ _
  rw [hz]
  have en : IsEnum ((s.heap.push o).push { cls := .type "enumerate", data := .fields #[.none, .bool false, .ref s.heap.objs.size, rawInt 0, .none, .none] }) (s.heap.objs.size + 1) s.heap.objs.size 0 .none := by
    have q := Heap.get?_push_size (s.heap.push o) (o := { cls := .type "enumerate", data := .fields #[.none, .bool false, .ref s.heap.objs.size, rawInt 0, .none, .none] }) rfl
    rw [hz] at q
    exact q
  exact ⟨⟨_, en, rfl⟩, z _ en (Heap.get?_push_of_some _ (Heap.get?_push_size _ B.free)) fun b u q => Heap.get?_push_of_some _ (Heap.get?_push_of_some _ q)⟩
end
def Iteu (K : PySem.W.Frag) (a : Addr) : It :=
  ⟨fun i H => ∃ (xs : List V) (x : V), SqT K H a xs ∧ xs[i]? = some x, fun i H v H' => ∃ T x, v = .ref T ∧ H T = none ∧ H' = upd H T (.tup [.int (i : Nat), x]) ∧ ∀ xs, SqT K H a xs → xs[i]? = some x, fun i H => ∃ xs : List V, SqT K H a xs ∧ xs.length ≤ i⟩
theorem turn_enumT {P : Program} {w : World} {K : PySem.W.Frag} {elts : List Expr} {kk : Nat} {tpos : Pos} (a e it : Addr) :
    Turn P w K (.Tuple elts kk tpos) (Iteu K a) [e, it] e (fun i h => (∃ old, IsEnum h e it ((i : Nat) : Int) old) ∧ h.IsTupleIter it a i ∧ e ≠ it) where
  mem := by simp
  obj := fun i h st b hb => by
    obtain ⟨⟨old, he⟩, ⟨o, ho, hc, hd⟩, _⟩ := st
    have e' : b = e ∨ b = it := by simpa using hb
    rcases e' with z | z
    · rw [z]
      exact ⟨_, he, fun v q => nomatch q⟩
    · rw [z]
      exact ⟨o, ho, fun v q => by rw [hd] at q; cases q⟩
  keep := fun i h h' st k => let ⟨⟨old, he⟩, hi, hne⟩ := st; ⟨⟨old, k e (by simp) _ he⟩, hi.at fun o q => k it (by simp) o q, hne⟩
  item := by
    intro X hP hw hK hc i pins s σ H E I hf st hg
    subst hP hw hK
    obtain ⟨⟨old, he⟩, hit, hne⟩ := st
    obtain ⟨xs, x, hq, hx⟩ := hg
    obtain ⟨its, rv, p, hz⟩ := I.tuple hq
    have pT : s.heap.IsTuple a its.toArray := p
    obtain ⟨u, hu, ru⟩ := rv.get hx
    have below : e < s.heap.objs.size := Heap.lt_size he
    have below2 : it < s.heap.objs.size := by obtain ⟨_, q, _⟩ := hit; exact Heap.lt_size q
    have ai : a ≠ it := fun z => by
      obtain ⟨o1, q1, c1, _⟩ := hit
      obtain ⟨o2, q2, c2, _⟩ := pT
      rw [z, q1] at q2
      cases q2
      rw [c1] at c2
      have c2 : Value.type "tuple_iterator" = Value.type "tuple" := c2
      exact absurd c2 (by decide)
    have ae : a ≠ e := fun z => by
      obtain ⟨o2, q2, c2, _⟩ := pT
      have he : s.heap.get? e = _ := he
      rw [z, he] at q2
      cases q2
      have c2 : Value.type "enumerate" = Value.type "tuple" := c2
      exact absurd c2 (by decide)
    have il : i < its.toArray.size := by
      have := (List.getElem?_eq_some_iff.mp hu).1
      simpa using this
    refine wpAny_pyNext_enum_itemD (Draws.tuple (A := X.A.in1) (show X.A.in1.handled = none from I.ok.hd hc) it a ai its.toArray) he ⟨hit, pT⟩ il hne (by simp [hne, ae.symm]) fun y h' tk py ho hst hT hsz hk => ?_
    have ey : y = u := by
      have q : its.toArray[i]? = some u := by simpa using hu
      rw [q] at py
      exact (Option.some.inj py).symm
    subst ey
    refine ⟨_, rfl, wpAny_letOwnedTupleGo_enum (s := { s with heap := h', toks := tk + 1 }) ho fun h'' he' sb => ?_⟩
    have hT2 : h''.get? s.heap.objs.size = some { cls := .type "tuple", data := .seq #[.int i tk, y] } := (sb.2 _ (Nat.ne_of_gt below)).trans hT
    have new : ObjOk X.prog X.w (upd H s.heap.objs.size (.tup [.int (i : Nat), x])) h'' s.heap.objs.size (.tup [.int (i : Nat), x]) :=
      ⟨by show 2 ≤ sizeLine; decide, [.int i tk, y], .cons ⟨_, rfl⟩ (.cons ru .nil), ⟨_, hT2, rfl, _, rfl⟩⟩
    have I1 : Inv X pins σ (upd H s.heap.objs.size (.tup [.int (i : Nat), x])) { s with heap := h'', toks := tk + 1 } :=
      I.turnedNew (ch := [e, it]) (fun b ob hb q => (sb.2 b (fun z => hb (by simp [z]))).trans (hk b ob (fun z => hb (by simp [z])) (fun z => hb (by simp [z])) q)) hf (Nat.le_refl _) new
    refine ⟨.ref s.heap.objs.size, _, I1, rfl, ⟨_, x, rfl, I.hok.fresh (Nat.le_refl _), rfl, fun ys hy => by rw [I.tuple_inj hy hq]; exact hx⟩, ⟨⟨y, ?_⟩, hst.1.at fun o q => (sb.2 it (Ne.symm hne)).trans q, hne⟩, fun b hb => ?_⟩
    · have e1 : ((i + 1 : Nat) : Int) = (i : Int) + 1 := by omega
      rw [e1]
      exact he'
    · have hb' : b < s.heap.objs.size := by
        have e' : b = e ∨ b = it := by simpa using hb
        rcases e' with z | z
        · rw [z]
          exact below
        · rw [z]
          exact below2
      rw [upd_ne (Nat.ne_of_lt hb')]
      exact (hf b hb).1
  done := by
    intro X hP hw hK hc i pins s σ H E I hf st hg
    subst hP hw hK
    obtain ⟨⟨old, he⟩, hit, hne⟩ := st
    obtain ⟨xs, hq, hx⟩ := hg
    obtain ⟨its, rv, p, hz⟩ := I.tuple hq
    have pT : s.heap.IsTuple a its.toArray := p
    obtain ⟨f0, f1, f2, f3, f4, f5⟩ := hf it (by simp)
    have hl := rv.length
    have ty : s.TypeIs (.ref e) "enumerate" := ⟨_, he, rfl⟩
    unfold pyNext
    refine wpAny_bind (wpAny_attempt (wpAny_callSpecial?_slot (name := Str.ofString "__next__") ty F.slot_enumerate_next (wpAny_call_entry F.slot_enumerate_next ty F.entry_enumerate_next ?_ (F.args_enumerate_next_1 _))))
    show wpAny _ _ (field (.ref e) 2 >>= _) _ _ s
    refine wpAny_bind (wpAny_field he rfl (x := .ref it) rfl ?_)
    refine wpAny_bind (wpAny_nextOf_tuple_end (I.ok.hd hc) hit pT (by simp; omega) fun h' x eb hx' => ?_)
    obtain ⟨o, ho, hc2⟩ := hx'
    refine wpAny_bind (wpAny_isInstance (T := "StopIteration") (b := true) ⟨o, ho, hc2⟩ isSubtype_stop ?_)
    exact wpAny_pure ⟨rfl, I.turned (t' := s.toks) (fun b o hb q => eb b o hb q) f0 f1 f3 f4 f5⟩
  self := fun A i s Q E st h => let ⟨⟨_, he⟩, _⟩ := st; wpAny_pyIter_enum he h
def iEnumT (K : PySem.W.Frag) (ta : TA) : TI := fun σ H R => ta σ H fun vs H1 => ∃ a xs, vs = [.ref a] ∧ SqT K H1 a xs ∧ R (Iteu K a) H1
theorem pi_enumT {X : Cx} {e : Expr} {ta : TA} {p pos tpos : Pos} {elts : List Expr} {kk : Nat} (hg : Gl X "enumerate") (hm : X.mg "enumerate" = none) (ha : PA X [e] ta) (hs : starEach [e] X.env = [(false, eval e X.env)]) :
    PI X (.Tuple elts kk tpos) (.Call (.Name "enumerate" p) [e] [] pos) (iEnumT X.K ta) := by
  refine ⟨fun pins s σ H R I h => ?_⟩
  refine Call_ (ld_blt I hg hm boot_enumerate (PyProof.Rows.callWith_type1 (thn (ha.run pos pins s σ H _ I h) fun us s1 ⟨vs, H1, I1, r1, q1⟩ => ?_) hs rfl))
  obtain ⟨a, xs, ex, hq, q⟩ := q1
  subst ex
  cases r1 with
  | cons r rr =>
    cases rr
    cases r
    obtain ⟨its, rv, p', hz⟩ := I1.tuple hq
    have pT : s1.heap.IsTuple a its.toArray := p'
    refine callEnumT (begins_tuple a its.toArray) pT fun h' he hit hk => wpAny_pyIter_enum he ?_
    have I2 : Inv X pins σ H1 { s1 with heap := h' } := I1.kept (t' := s1.toks) hk
    refine ⟨s1.heap.objs.size + 1, [s1.heap.objs.size + 1, s1.heap.objs.size], _, _, H1, rfl, I2, turn_enumT a (s1.heap.objs.size + 1) s1.heap.objs.size, ⟨⟨.none, he⟩, ⟨_, hit, rfl, rfl⟩, Nat.succ_ne_self _⟩, fun b hb => ?_, q⟩
    have e' : b = s1.heap.objs.size + 1 ∨ b = s1.heap.objs.size := by simpa using hb
    have hle : s1.heap.objs.size ≤ b := by
      rcases e' with z | z
      · rw [z]
        exact Nat.le_add_right _ _
      · rw [z]
        exact Nat.le_refl _
    exact I1.fpOk hle (I1.hok.fresh hle)
end LT

namespace LT
open PySem PySem.Spec PyProof.Rows L2

inductive Bt where
  | len | abs | max | min | int | list | tuple | sum | all | any | sorted | divmod
  deriving DecidableEq
def Bt.nm : Bt → Str
  | .len => "len" | .abs => "abs" | .max => "max" | .min => "min" | .int => "int" | .list => "list" | .tuple => "tuple"
  | .sum => "sum" | .all => "all" | .any => "any" | .sorted => "sorted" | .divmod => "divmod"
inductive Mt where
  | append | extend | insert
  deriving DecidableEq
def Mt.nm : Mt → Str
  | .append => "append" | .extend => "extend" | .insert => "insert"
def cnm : Nat → Str
  | 1 => "Book" | 2 => "Line" | 3 => "Visit" | 4 => "Rounds" | 5 => "Relay" | 6 => "Shop" | 7 => "Desk" | _ => "?"
def cfl : Nat → List Str
  | 1 => ["its_changes", "its_prices"]
  | 2 => ["its_book", "its_board", "its_sent"]
  | 3 => ["its_lines", "its_looks", "its_gaps", "its_start"]
  | 4 => ["its_period", "its_round"]
  | 5 => ["its_boards", "its_line"]
  | 6 => ["its_boards", "its_states", "its_deeds", "its_spot"]
  | 7 => ["its_shop"]
  | _ => []
def cfn (c k : Nat) : Str := (cfl c).getD k "?"
def allC : List Nat := [1, 2, 3, 4, 5, 6, 7]
abbrev ca (K : PySem.W.Frag) (c : Nat) : Addr := He.ga K (cnm c)
inductive Bty where
  | int | bool | tuple | list | str | dict
  deriving DecidableEq
def Bty.nm : Bty → String
  | .int => "int" | .bool => "bool" | .tuple => "tuple" | .list => "list" | .str => "str" | .dict => "dict"
inductive Ty where
  | b (n : Bty)
  | c (c : Nat)
  deriving DecidableEq
inductive Df where
  | non
  | unit
  deriving DecidableEq
inductive Prm where
  | repr
  | isi1 (t : Ty)
  | isi2 (t u : Ty)
  | fld (c k : Nat)
  | prop (c : Nat) (nm : Str) (i : Nat)
  | lenO (c i : Nat)
  | ixO (c i : Nat)
  | eqO (c i : Nat) (ng : Bool)
  | gint (x : Str) (i : Int)
  | lzip
  | lrng1
  | suml
  | lrng2
  | cb (f : Nat)
  | sset
  | dct (ps : List (Int × Int))
  deriving DecidableEq
def bTys : List String := ["int", "bool", "tuple", "list", "str", "dict", "NoneType"]
def presB (K : PySem.W.Frag) (c : Nat) : Bool := match PySem.W.nsIn K mainGlobals (cnm c) with
  | some (some (.ref _)) => true
  | _ => false
def clsB (K : PySem.W.Frag) (c : Nat) : Bool :=
  (He.Fa.cls (cnm c)).ok K && (((cfl c).all fun f => (He.Fa.noat (cnm c) f).ok K) && ((bTys.all fun T => decide (PySem.W.kitOne K (.ref (ca K c)) (.type T) = some false)) && ((bTys.all fun T => decide (PySem.W.kitOne K (.type T) (.ref (ca K c)) = some false)) &&
  ((allC.all fun c' => !presB K c' || decide (PySem.W.kitOne K (.ref (ca K c)) (.ref (ca K c')) = some (c == c'))) &&
  (He.eqO (PySem.W.findIn K (.ref (ca K c)) "__class__") (some (some (.builtin "object.__class__"))) && (He.eqO (PySem.W.specialIn K (.builtin "object.__class__") "__get__") (some (some (.builtin "getset_descriptor.__get__"))) &&
  (decide (PySem.W.takesIn K (.builtin "object.__class__") = some true) && (decide (PySem.W.mroIn K (ca K c) (.type "object") = some true) && He.eqO (PySem.W.findIn K (.ref (ca K c)) "__ne__") (some (some (.builtin "object.__ne__")))))))))))
def kOkB (K : PySem.W.Frag) : Bool := (K.lookup sysModules).isSome && allC.all fun c => !presB K c || clsB K c
structure ClsOk (K : PySem.W.Frag) (c : Nat) : Prop where
  all : kOkB K = true
  pres : presB K c = true
  mem : c ∈ allC
inductive CT where
  | name (i : Nat)
  | fld (i c k : Nat)
  | tup (ts : List CT)
mutual
def CT.slots : CT → List Nat
  | .name i => [i]
  | .fld i _ _ => [i]
  | .tup ts => CT.slotss ts
def CT.slotss : List CT → List Nat
  | [] => []
  | t :: ts => CT.slots t ++ CT.slotss ts
end
def tgIn (t : CT) (own : List (Str × Nat)) : Bool := t.slots.all fun i => (own.map (·.2)).contains i
mutual
inductive CE where
  | var (i : Nat)
  | cst (c : Const)
  | tup (es : List CE)
  | lst (es : List CE)
  | bin (op : Operator) (a b : CE)
  | neg (a : CE)
  | notV (a : CE)
  | andV (a b : CE)
  | orV (a b : CE)
  | ite (c : CB) (a b : CE)
  | cmp (op : CmpOp) (a b : CE)
  | chain (o1 o2 : CmpOp) (a b c : CE)
  | call (f : Nat) (es : List CE)
  | blt (b : Bt) (es : List CE)
  | ix (a b : CE)
  | slA (a : CE)
  | slF (a lo : CE)
  | slT (a hi : CE)
  | slFT (a lo hi : CE)
  | rev (a : CE)
  | bm (m : Mt) (o : CE) (es : List CE)
  | lc (elt : CE) (tg : CT) (it : CI) (own : List (Str × Nat))
  | lcIf (elt : CE) (tg : CT) (it : CI) (c : CB) (own : List (Str × Nat))
  | star (a : CE)
  | cold (a : CE)
  | lc2 (elt : CE) (tg : CT) (it : CI) (tg1 : CT) (it1 : CI) (own : List (Str × Nat))
  | lc2If (elt : CE) (tg : CT) (it : CI) (tg1 : CT) (it1 : CI) (c : CB) (own : List (Str × Nat))
  | ssc (elt : CE) (tg : CT) (it : CI) (own : List (Str × Nat))
  | prim (p : Prm) (es : List CE)
  | meth (c : Nat) (nm : Str) (i : Nat) (o : CE) (es : List CE)
  | make (c i : Nat) (es : List CE) (df : List Df)
inductive CB where
  | not (a : CB)
  | and (a b : CB)
  | or (a b : CB)
  | cmp (op : CmpOp) (a b : CE)
  | chain (o1 o2 : CmpOp) (a b c : CE)
  | tru (a : CE)
inductive CI where
  | seq (e : CE)
  | rng1 (a : CE)
  | rng2 (a b : CE)
  | enum (a : CE)
  | zip (a b : CE)
  | zip3 (a b c : CE)
  | rvs (a : CE)
end
def rMulS : R2 := fun x y H Q => ∃ (i : Str) (j : Int), x = .str i ∧ y = .int j ∧ MulOk i j ∧ Q (.str (Txt.mul i j)) H
def rBin (K : PySem.W.Frag) : Operator → R2
  | .Add => fun x y H Q => (rI0 fun i j => .int (i + j)) x y H Q ∨ rCat x y H Q ∨ rCatA K x y H Q ∨ (∃ i j : Str, x = .str i ∧ y = .str j ∧ i.length + j.length ≤ sizeLine ∧ Q (.str (i ++ j)) H)
  | .Sub => rI0 fun i j => .int (i - j)
  | .Mult => fun x y H Q => (rI CMulW fun i j => .int (i * j)) x y H Q ∨ (rI CMul fun i j => .int (i * j)) x y H Q ∨ rRep x y H Q ∨ rMulS x y H Q
  | .FloorDiv => rI CDivW fun i j => .int (i / j)
  | .Mod => rI (fun _ j => 0 < j) fun i j => .int (i % j)
  | .Pow => rI CPow fun i j => .int (i ^ j.toNat)
  | _ => fun _ _ _ _ => False
def rCmp (K : PySem.W.Frag) : CmpOp → R2
  | .Eq => fun x y H Q => rEq x y H Q ∨ rEqD K x y H Q
  | .NotEq => fun x y H Q => rNe x y H Q ∨ rNeD K x y H Q
  | .Lt => fun x y H Q => (rI0 fun i j => .bl (decide (i < j))) x y H Q ∨ rLtT K x y H Q
  | .LtE => rI0 fun i j => .bl (decide (i ≤ j))
  | .Gt => rI0 fun i j => .bl (decide (j < i))
  | .GtE => rI0 fun i j => .bl (decide (j ≤ i))
  | .Is => fun x y H Q => (y = .non ∧ Q (.bl (decide (x = .non))) H) ∨ rIsB x y H Q
  | .IsNot => fun x y H Q => (y = .non ∧ Q (.bl (!decide (x = .non))) H) ∨ rNotB x y H Q
  | .In => fun x y H Q => rIn K false x y H Q ∨ rInD K x y H Q
  | .NotIn => fun x y H Q => rIn K true x y H Q ∨ rNotInD K x y H Q
def max3 (a b c : Int) : Int := if b > a then (if c > b then c else b) else (if c > a then c else a)
def min3 (a b c : Int) : Int := if b < a then (if c < b then c else b) else (if c < a then c else a)
def rBlt (K : PySem.W.Frag) : Bt → List V → Hp → VK → Prop
  | .len => fun xs H Q => (∃ p ys, xs = [.ref p] ∧ (SqL K H p ys ∨ SqT K H p ys) ∧ Q (.int ys.length) H) ∨ ∃ z : Str, xs = [.str z] ∧ z.length ≤ sizeLine ∧ Q (.int z.length) H
  | .abs => fun xs H Q => ∃ i, xs = [.int i] ∧ Q (.int (if i < 0 then -i else i)) H
  | .max => fun xs H Q => (∃ i j, xs = [.int i, .int j] ∧ Q (.int (if j > i then j else i)) H) ∨ rMax K xs H Q ∨ ∃ i j k, xs = [.int i, .int j, .int k] ∧ Q (.int (max3 i j k)) H
  | .min => fun xs H Q => (∃ i j, xs = [.int i, .int j] ∧ Q (.int (if j < i then j else i)) H) ∨ rMin K xs H Q ∨ ∃ i j k, xs = [.int i, .int j, .int k] ∧ Q (.int (min3 i j k)) H
  | .int => fun xs H Q => (∃ i, xs = [.int i] ∧ Q (.int i) H) ∨ ∃ k, xs = [.bl k] ∧ Q (.int (if k then 1 else 0)) H
  | .list => fun xs H Q => ∃ p ys, xs = [.ref p] ∧ (SqL K H p ys ∨ SqT K H p ys) ∧ ∀ l, H l = none → Q (.ref l) (upd H l (.lst ys))
  | .tuple => fun xs H Q => ∃ p ys, xs = [.ref p] ∧ ((SqL K H p ys ∧ ∀ l, H l = none → Q (.ref l) (upd H l (.tup ys))) ∨ (SqT K H p ys ∧ Q (.ref p) H))
  | .sum => fun xs H Q => rSum K xs H Q ∨ rSumT K xs H Q
  | .all => rAll K
  | .any => rAny K
  | .sorted => fun xs H Q => rSortedI K xs H Q ∨ rSoP K xs H Q
  | .divmod => fun xs H Q => ∃ i j, xs = [.int i, .int j] ∧ CDivP i j ∧ ∀ p, H p = none → Q (.ref p) (upd H p (.tup [.int (i / j), .int (i % j)]))
def rInsL : V → List V → Hp → VK → Prop := fun x vs H Q => ∃ (l : Addr) (xs : List V) (i : Int) (y : V), x = .ref l ∧ vs = [.int i, y] ∧ H l = some (.lst xs) ∧ xs.length < sizeLine ∧ 0 ≤ i ∧ i < 2 ^ 63 ∧ Q .non (upd H l (.lst (xs.take i.toNat ++ [y] ++ xs.drop i.toNat)))
def rMt : Mt → V → List V → Hp → VK → Prop
  | .append => rAppend
  | .extend => rExtend
  | .insert => rInsL
def rSl (K : PySem.W.Frag) : V → Option Int → Option Int → Hp → VK → Prop := fun x lo hi H Q => rSlL K x lo hi H Q ∨ rSlA K x lo hi H Q ∨ rSlS x lo hi H Q
def W0 : WX := fun _ _ _ _ => False
def Df.v (K : PySem.W.Frag) (c : Nat) : Df → Nat → V
  | .non, _ => .non
  | .unit, j => .ref (He.dflAt (cnm c, some "__init__") j K)
def dfs (K : PySem.W.Frag) (c : Nat) : List Df → Nat → List V
  | [], _ => []
  | d :: ds, j => d.v K c j :: dfs K c ds (j + 1)
def Df.ok (K : PySem.W.Frag) (c : Nat) : Df → Nat → Prop
  | .non, _ => True
  | .unit, j => ∀ H : Hp, SqT K H (He.dflAt (cnm c, some "__init__") j K) []
def dfsOk (K : PySem.W.Frag) (c : Nat) : List Df → Nat → Prop
  | [], _ => True
  | d :: ds, j => d.ok K c j ∧ dfsOk K c ds (j + 1)
def tyV (K : PySem.W.Frag) : Ty → Value
  | .b n => .type n.nm
  | .c c => .ref (ca K c)
def tyW (K : PySem.W.Frag) : Ty → V
  | .b n => .ty n.nm
  | .c c => .ref (ca K c)
def tyOk (K : PySem.W.Frag) : Ty → Prop
  | .b _ => True
  | .c c => ClsOk K c
def spPr (Γ : Nat → Sp) (K : PySem.W.Frag) : Prm → Sp
  | .repr => fun vs H Q _ => rRepQ K vs H Q
  | .isi1 t => fun vs H Q _ => tyOk K t → rIsi K (vs ++ [tyW K t]) H Q
  | .isi2 t u => fun vs H Q _ => [tyW K t, tyW K u].length ≤ sizeLine ∧ ∀ p, H p = none → tyOk K t → tyOk K u → rIsiT K (vs ++ [.ref p]) (upd H p (.tup [tyW K t, tyW K u])) Q
  | .fld c k => fun vs H Q _ => match vs with
    | [x] => ∃ a C dx fs v, x = .ref a ∧ H a = some (.ins C dx fs) ∧ Cls K C ∧ NoAttr K C (cfn c k) ∧ fs.lookup (cfn c k) = some v ∧ Q v H
    | _ => False
  | .prop c _ i => fun vs H Q _ => match vs with
    | [x] => ∃ a dx fs, x = .ref a ∧ H a = some (.ins (ca K c) dx fs) ∧ Γ i [.ref a] H Q fun _ _ _ => False
    | _ => False
  | .lenO c i => fun vs H Q _ => ∃ a dx fs, vs = [.ref a] ∧ H a = some (.ins (ca K c) dx fs) ∧ Γ i [.ref a] H (fun v H' => ∃ n : Int, v = .int n ∧ 0 ≤ n ∧ n < 2 ^ 62 ∧ Q (.int n) H') fun _ _ _ => False
  | .ixO c i => fun vs H Q E => match vs with
    | [x, y] => ∃ a dx fs, x = .ref a ∧ H a = some (.ins (ca K c) dx fs) ∧ Γ i [.ref a, y] H Q E
    | _ => False
  | .eqO c i ng => fun vs H Q _ => match vs with
    | [x, y] => ClsOk K c → rOwnEq K (ca K c) (Γ i) ng x y H Q
    | _ => False
  | .gint _ i => fun vs H Q _ => match vs with
    | [] => Q (.int i) H
    | _ => False
  | .lzip => fun vs H Q _ => rLZip vs H Q
  | .lrng1 => fun vs H Q _ => ∃ j : Int, vs = [.int j] ∧ rLRng 0 j H Q
  | .lrng2 => fun vs H Q _ => ∃ i j : Int, vs = [.int i, .int j] ∧ rLRng i j H Q
  | .cb f => fun vs H Q E => Γ f vs H Q E
  | .sset => fun vs H Q _ => rSset K vs H Q
  | .suml => fun vs H Q _ => rSumN vs H Q
  | .dct ps => fun vs H Q _ => match vs with
    | [] => ∀ p, H p = none → Q (.ref p) (upd H p (dKI ps))
    | _ => False
def tCst : Const → TE
  | .int i => tC (.int i)
  | .bool b => tC (.bl b)
  | .none => tC .non
  | .str s => tC (.str s)
  | _ => fun _ _ _ => False
def tTru (K : PySem.W.Frag) (te : TE) : TT := fun σ H Q => te σ H fun x H' => ∃ k, TruV K x H' k ∧ Q k H'
def iSeq (K : PySem.W.Frag) (te : TE) : TI := fun σ H R => iList K te σ H R ∨ iTup K te σ H R ∨ iStr te σ H R
mutual
def semG (K : PySem.W.Frag) : CT → TG
  | .name i => gName i
  | .fld i c k => gFld K i (cfn c k)
  | .tup ts => fun v σ H Q => gTup K (CT.lens ts) (semGs K ts) v σ H Q ∨ gLst K (CT.lens ts) (semGs K ts) v σ H Q
def semGs (K : PySem.W.Frag) : List CT → TGs
  | [] => gNil
  | t :: ts => gCons (semG K t) (semGs K ts)
def CT.lens : List CT → Nat
  | [] => 0
  | _ :: ts => CT.lens ts + 1
end
mutual
def semE (Γ : Nat → Sp) (K : PySem.W.Frag) : CE → WX → TE
  | .var i, _ => tVar i
  | .cst c, _ => tCst c
  | .tup es, W => tTup (semA Γ K es W)
  | .lst es, W => tLst (semA Γ K es W)
  | .bin op a b, W => tOp (rBin K op) (semE Γ K a W) (semE Γ K b W)
  | .neg a, W => tUn (rU fun i => .int (-i)) (semE Γ K a W)
  | .notV a, W => fun σ H Q => semE Γ K a W σ H fun x H1 => ∃ k, TruV K x H1 k ∧ Q (.bl (!k)) H1
  | .andV a b, W => fun σ H Q => semE Γ K a W σ H fun x H1 => ∃ k, TruV K x H1 k ∧ if k = true then semE Γ K b W σ H1 Q else Q x H1
  | .orV a b, W => fun σ H Q => semE Γ K a W σ H fun x H1 => ∃ k, TruV K x H1 k ∧ if k = true then Q x H1 else semE Γ K b W σ H1 Q
  | .ite c a b, W => tIf (semB Γ K c W) (semE Γ K a W) (semE Γ K b W)
  | .cmp op a b, W => tOp (rCmp K op) (semE Γ K a W) (semE Γ K b W)
  | .chain o1 o2 a b c, W => tChain (rCmp K o1) (rCmp K o2) (semE Γ K a W) (semE Γ K b W) (semE Γ K c W)
  | .call f es, W => tCallSD (Γ f) [] (WE W) (semA Γ K es W)
  | .blt b es, W => tCB (rBlt K b) (semA Γ K es W)
  | .ix a b, W => tOp (rIx K) (semE Γ K a W) (semE Γ K b W)
  | .slA a, W => tSl (rSl K) (semE Γ K a W) tNoPart tNoPart
  | .slF a lo, W => tSl (rSl K) (semE Γ K a W) (tPart (semE Γ K lo W)) tNoPart
  | .slT a hi, W => tSl (rSl K) (semE Γ K a W) tNoPart (tPart (semE Γ K hi W))
  | .slFT a lo hi, W => tSl (rSl K) (semE Γ K a W) (tPart (semE Γ K lo W)) (tPart (semE Γ K hi W))
  | .rev a, W => tRevL K (semE Γ K a W)
  | .bm m o es, W => tBM K "list" (rMt m) (semE Γ K o W) (semA Γ K es W)
  | .lc elt tg it own, W => tLc (semI Γ K it W) (semG K tg) tYes (semE Γ K elt W0) (own.map (·.2))
  | .lcIf elt tg it c own, W => tLc (semI Γ K it W) (semG K tg) (semB Γ K c W0) (semE Γ K elt W0) (own.map (·.2))
  | .star _, _ => fun _ _ _ => False
  | .cold a, W => semE Γ K a W
  | .lc2 elt tg it tg1 it1 own, W => tLc2 (semI Γ K it W) (semG K tg) tYes (semI Γ K it1 W0) (semG K tg1) tYes (semE Γ K elt W0) (own.map (·.2)) tg1.slots
  | .lc2If elt tg it tg1 it1 c own, W => tLc2 (semI Γ K it W) (semG K tg) tYes (semI Γ K it1 W0) (semG K tg1) (semB Γ K c W0) (semE Γ K elt W0) (own.map (·.2)) tg1.slots
  | .ssc elt tg it own, W => tSsc (semI Γ K it W) (semG K tg) tYes (semE Γ K elt W0) (own.map (·.2))
  | .prim p es, W => fun σ H Q => semA Γ K es W σ H fun vs H1 => spPr Γ K p vs H1 Q (WE W σ)
  | .meth c nm i o es, W => tMethSD (ca K c) (cfl c) (Γ i) (WE W) (semE Γ K o W) (semA Γ K es W)
  | .make c i es df, W => fun σ H Q => ClsOk K c → dfsOk K c df 0 → tMakeSD (ca K c) (Γ i) (dfs K c df 0) (WE W) (semA Γ K es W) σ H Q
def semA (Γ : Nat → Sp) (K : PySem.W.Frag) : List CE → WX → TA
  | [], _ => tNil
  | .star a :: es, W => StX.tStar K (semE Γ K a W) (semA Γ K es W)
  | e :: es, W => tCons (semE Γ K e W) (semA Γ K es W)
def semB (Γ : Nat → Sp) (K : PySem.W.Frag) : CB → WX → TT
  | .not a, W => tNot (semB Γ K a W)
  | .and a b, W => tAnd (semB Γ K a W) (semB Γ K b W)
  | .or a b, W => tOr (semB Γ K a W) (semB Γ K b W)
  | .cmp op a b, W => tTest (tOp (rCmp K op) (semE Γ K a W) (semE Γ K b W))
  | .chain o1 o2 a b c, W => tTest (tChain (rCmp K o1) (rCmp K o2) (semE Γ K a W) (semE Γ K b W) (semE Γ K c W))
  | .tru a, W => tTru K (semE Γ K a W)
def semI (Γ : Nat → Sp) (K : PySem.W.Frag) : CI → WX → TI
  | .seq e, W => iSeq K (semE Γ K e W)
  | .rng1 a, W => jRng1 (tCons (semE Γ K a W) tNil)
  | .rng2 a b, W => jRng2 (tCons (semE Γ K a W) (tCons (semE Γ K b W) tNil))
  | .enum a, W => fun σ H R => iEnum K (tCons (semE Γ K a W) tNil) σ H R ∨ iEnumT K (tCons (semE Γ K a W) tNil) σ H R
  | .zip a b, W => iZip K (tCons (semE Γ K a W) (tCons (semE Γ K b W) tNil))
  | .zip3 a b c, W => iZip3 K (tCons (semE Γ K a W) (tCons (semE Γ K b W) (tCons (semE Γ K c W) tNil)))
  | .rvs a, W => iRev K (tCons (semE Γ K a W) tNil)
end
def rIp (K : PySem.W.Frag) : Operator → TIp
  | .Add => fun x y H Q => (ipI fun i j => i + j) x y H Q ∨ rExt2 x y H Q
  | .Sub => ipI fun i j => i - j
  | _ => fun _ _ _ _ => False
end LT

namespace LT
open PySem PySem.Spec PyProof.Rows L2
theorem and2 {a b : Bool} (h : (a && b) = true) : a = true ∧ b = true := Bool.and_eq_true_iff.mp h
theorem zip_lookup {n : Str} : ∀ {ps : List Str} {us : List Value}, us.length = ps.length → n ∈ ps → ((ps.zip us).lookup n).isSome = true
  | [], _, _, h => by cases h
  | p :: ps, [], h, _ => by cases h
  | p :: ps, u :: us, hl, h => by
    show (List.lookup n ((p, u) :: ps.zip us)).isSome = true
    rw [List.lookup_cons]
    cases e : n == p with
    | true => rfl
    | false =>
      rcases List.mem_cons.mp h with q | q
      · rw [q] at e
        simp at e
      · exact zip_lookup (Nat.succ.inj hl) q
theorem zip_back : ∀ {ps : List Str} {us : List Value} (pre : List (Str × Value)), us.length = ps.length → ps.Nodup → (∀ q ∈ pre, q.1 ∉ ps) → ps.filterMap (fun n => ((pre ++ ps.zip us).lookup n).map (n, ·)) = ps.zip us
  | [], us, _, _, _, _ => by cases us <;> rfl
  | p :: ps, [], _, h, _, _ => by cases h
  | p :: ps, u :: us, pre, hl, nd, hp => by
    have hno : ∀ (l : List (Str × Value)), (∀ q ∈ l, q.1 ≠ p) → (l ++ (p, u) :: ps.zip us).lookup p = some u := by
      intro l
      induction l with
      | nil =>
        intro _
        show List.lookup p ((p, u) :: ps.zip us) = some u
        rw [List.lookup_cons]
        simp
      | cons q l ih =>
        intro hq
        show List.lookup p (q :: (l ++ (p, u) :: ps.zip us)) = some u
        obtain ⟨a, b⟩ := q
        rw [List.lookup_cons]
        have : (p == a) = false := by
          have := hq (a, b) List.mem_cons_self
          simpa using fun e : p = a => this e.symm
        rw [this]
        exact ih fun q hm => hq q (List.mem_cons_of_mem _ hm)
    have e1 : (pre ++ (p, u) :: ps.zip us).lookup p = some u := hno pre fun q hq e => hp q hq (by rw [e]; exact List.mem_cons_self)
    show List.filterMap (fun n => ((pre ++ (p, u) :: ps.zip us).lookup n).map (n, ·)) (p :: ps) = (p, u) :: ps.zip us
    rw [List.filterMap_cons, e1]
    have ih := zip_back (ps := ps) (us := us) (pre ++ [(p, u)]) (Nat.succ.inj hl) (List.nodup_cons.mp nd).2 (fun q hq => by
      rcases List.mem_append.mp hq with h | h
      · exact fun z => hp q h (List.mem_cons_of_mem _ z)
      · rw [List.mem_singleton.mp h]
        exact (List.nodup_cons.mp nd).1)
    rw [List.append_assoc] at ih
    show (p, u) :: _ = _
    rw [show (pre ++ (p, u) :: ps.zip us) = (pre ++ ([(p, u)] ++ ps.zip us)) from rfl, ih]
def plainArgs (a : Arguments) (ps : List Str) : Bool :=
  a.posonlyargs.isEmpty && (decide (a.args.map (·.arg) = ps) && (a.vararg.isNone && (a.kwonlyargs.isEmpty && (a.kwarg.isNone && decide ps.Nodup))))
theorem bind_plain {x qual : Str} {params : Arguments} {body : List Stmt} {scope : Scope} {kV doc pm : Value} {an : Option Addr} {cdv ct : Value} {ps : List Str} (h : plainArgs params ps = true) {us : List Value} (hl : us.length = ps.length) :
    bindArgs (PySem.W.fnOf x qual params body scope .none kV doc pm an cdv ct) ⟨us, []⟩ = pure (ps.zip us) := by
  obtain ⟨h1, h2⟩ := and2 h
  obtain ⟨h2, h3⟩ := and2 h2
  obtain ⟨h3, h4⟩ := and2 h3
  obtain ⟨h4, h5⟩ := and2 h4
  obtain ⟨h5, h6⟩ := and2 h5
  have e1 : params.posonlyargs = [] := List.isEmpty_iff.mp h1
  have e2 : params.args.map (·.arg) = ps := of_decide_eq_true h2
  have e3 : params.vararg = none := Option.isNone_iff_eq_none.mp h3
  have e4 : params.kwonlyargs = [] := List.isEmpty_iff.mp h4
  have e5 : params.kwarg = none := Option.isNone_iff_eq_none.mp h5
  have nd : ps.Nodup := of_decide_eq_true h6
  have m1 : ps.filter (fun n => ((ps.zip us).lookup n).isNone) = [] := by
    rw [List.filter_eq_nil_iff]
    intro n hn
    have := zip_lookup hl hn
    simp [Option.isSome_iff_exists] at this
    obtain ⟨a, ha⟩ := this
    rw [ha]
    simp
  have m2 := zip_back (ps := ps) (us := us) [] hl nd (by simp)
  simp only [List.nil_append] at m2
  unfold bindArgs
  simp only [PySem.W.fnOf, e1, e2, e3, e4, e5, List.map_nil, List.nil_append, List.append_nil]
  simp [seqItems?, hl, m1, m2]
  rfl
theorem lookup_out {n : Str} : ∀ {l : List (Str × Value)}, (∀ q ∈ l, q.1 ≠ n) → l.lookup n = none
  | [], _ => rfl
  | (a, b) :: l, h => by
    rw [List.lookup_cons]
    have : (n == a) = false := by
      have := h (a, b) List.mem_cons_self
      simpa using fun e : n = a => this e.symm
    rw [this]
    exact lookup_out fun q hq => h q (List.mem_cons_of_mem _ hq)
section
variable {x qual : Str} {params : Arguments} {body : List Stmt} {scope : Scope} {kV doc pm : Value} {an : Option Addr} {cdv ct : Value} {ps qs : List Str} {z : Str}
theorem bind_dfl (h : plainArgs params (qs ++ [z]) = true) (T : Addr) {us : List Value} (d : Value) (hl : us.length = qs.length) :
    ∃ k, bindArgs (PySem.W.fnOf x qual params body scope (.ref T) kV doc pm an cdv ct) ⟨us, []⟩ = seqItems? (.ref T) >>= k ∧ k (some [d].toArray) = pure ((qs ++ [z]).zip (us ++ [d])) := by
  obtain ⟨h1, h2⟩ := and2 h
  obtain ⟨h2, h3⟩ := and2 h2
  obtain ⟨h3, h4⟩ := and2 h3
  obtain ⟨h4, h5⟩ := and2 h4
  obtain ⟨h5, h6⟩ := and2 h5
  have e1 : params.posonlyargs = [] := List.isEmpty_iff.mp h1
  have e2 : params.args.map (·.arg) = qs ++ [z] := of_decide_eq_true h2
  have e3 : params.vararg = none := Option.isNone_iff_eq_none.mp h3
  have e4 : params.kwonlyargs = [] := List.isEmpty_iff.mp h4
  have e5 : params.kwarg = none := Option.isNone_iff_eq_none.mp h5
  have nd : (qs ++ [z]).Nodup := of_decide_eq_true h6
  have nq : z ∉ qs := fun hz => by
    rw [List.nodup_append] at nd
    exact nd.2.2 z hz z (by simp) rfl
  have ez : (qs ++ [z]).zip us = qs.zip us := by
    have : (qs ++ [z]).zip (us ++ []) = qs.zip us ++ [z].zip [] := List.zip_append hl.symm
    simpa using this
  have ez2 : (qs ++ [z]).zip (us ++ [d]) = qs.zip us ++ [(z, d)] := List.zip_append hl.symm
  have m1 : qs.filter (fun n => ((qs.zip us).lookup n).isNone) = [] := by
    rw [List.filter_eq_nil_iff]
    intro n hn
    have := zip_lookup hl hn
    obtain ⟨a, ha⟩ := Option.isSome_iff_exists.mp this
    rw [ha]
    simp
  have m2 : (qs.zip us).lookup z = none := lookup_out fun q hq e => nq (by rw [← e]; exact (List.of_mem_zip hq).1)
  have m3 := zip_back (ps := qs ++ [z]) (us := us ++ [d]) [] (by simp [hl]) nd (by simp)
  rw [List.nil_append, ez2] at m3
  apply Exists.intro
  apply And.intro
  · unfold bindArgs
    simp only [PySem.W.fnOf, e1, e2, e3, e4, e5, List.map_nil, List.nil_append, List.append_nil, ez]
    rfl
  · simp only [Option.getD_some, ez2]
    have t1 : (qs ++ [z]).take ((qs ++ [z]).length - 1) = qs := by simp
    have t2 : (qs ++ [z]).drop ((qs ++ [z]).length - 1) = [z] := by simp
    simp [hl, m1, m2]
    rw [if_neg (by omega)]
    congr 1
    simpa using m3
theorem bind_all (h : plainArgs params (qs ++ [z]) = true) (T : Addr) {us : List Value} (d : Value) (hl : us.length = qs.length + 1) :
    ∃ k, bindArgs (PySem.W.fnOf x qual params body scope (.ref T) kV doc pm an cdv ct) ⟨us, []⟩ = seqItems? (.ref T) >>= k ∧ k (some [d].toArray) = pure ((qs ++ [z]).zip us) := by
  obtain ⟨h1, h2⟩ := and2 h
  obtain ⟨h2, h3⟩ := and2 h2
  obtain ⟨h3, h4⟩ := and2 h3
  obtain ⟨h4, h5⟩ := and2 h4
  obtain ⟨h5, h6⟩ := and2 h5
  have e1 : params.posonlyargs = [] := List.isEmpty_iff.mp h1
  have e2 : params.args.map (·.arg) = qs ++ [z] := of_decide_eq_true h2
  have e3 : params.vararg = none := Option.isNone_iff_eq_none.mp h3
  have e4 : params.kwonlyargs = [] := List.isEmpty_iff.mp h4
  have e5 : params.kwarg = none := Option.isNone_iff_eq_none.mp h5
  have nd : (qs ++ [z]).Nodup := of_decide_eq_true h6
  have hl2 : us.length = (qs ++ [z]).length := by simp [hl]
  have sm : ∀ n ∈ qs ++ [z], ∃ a, ((qs ++ [z]).zip us).lookup n = some a := fun n hn => Option.isSome_iff_exists.mp (zip_lookup hl2 hn)
  have m1 : qs.filter (fun n => (((qs ++ [z]).zip us).lookup n).isNone) = [] := by
    rw [List.filter_eq_nil_iff]
    intro n hn
    obtain ⟨a, ha⟩ := sm n (List.mem_append_left _ hn)
    rw [ha]
    simp
  obtain ⟨a, m2⟩ := sm z (by simp)
  have m3 := zip_back (ps := qs ++ [z]) (us := us) [] hl2 nd (by simp)
  rw [List.nil_append] at m3
  apply Exists.intro
  apply And.intro
  · unfold bindArgs
    simp only [PySem.W.fnOf, e1, e2, e3, e4, e5, List.map_nil, List.nil_append, List.append_nil]
    rfl
  · simp only [Option.getD_some]
    simp [hl, m1, m2]
    congr 1
    simpa [m2] using m3
end
end LT

namespace LT
open PySem PySem.Spec PyProof.Rows L2

def isStar : Expr → Bool
  | .Starred _ _ => true
  | _ => false
def isSet : Expr → Bool
  | .Set _ _ _ => true
  | _ => false
def isSlice : Expr → Bool
  | .Slice _ _ _ _ => true
  | _ => false
def isCall0 : Expr → Bool
  | .Call (.Name _ _) [] [] _ => true
  | _ => false
def plainTest : Expr → Bool
  | .UnaryOp .Not _ _ => false
  | .BoolOp _ _ _ => false
  | .IfExp _ _ _ _ => false
  | .Compare _ _ _ _ => false
  | _ => true
def isLComp : Expr → Bool
  | .ListComp _ _ _ _ => true
  | .SetComp _ _ _ _ => true
  | .DictComp _ _ _ _ _ => true
  | _ => false
def visB (sc : Scope) (x : Str) : Bool := match sc.names.lookup x with
  | some .local => true
  | some .cell => true
  | some .free => true
  | _ => false
def locB (sc : Scope) (x : Str) : Bool := match sc.names.lookup x with
  | some .local => true
  | some .cell => true
  | _ => false
def lclB (sc : Scope) (x : Str) : Bool := match sc.names.lookup x with
  | some .local => true
  | _ => false
def glB (sc : Scope) (x : Str) : Bool := match sc.names.lookup x with
  | some .globalImplicit => true
  | _ => false
def okName (x : Str) : Bool := !(x == ("__debug__" : Str)) && !(x == ("__classdict__" : Str))
theorem visB_ok {sc : Scope} {x : Str} (h : visB sc x = true) : Vis sc x := by
  unfold visB at h
  unfold Vis
  split at h <;> first | (rename_i e; rw [e]; simp) | cases h
theorem locB_ok {sc : Scope} {x : Str} (h : locB sc x = true) : L2.Loc sc x := by
  unfold locB at h
  unfold L2.Loc
  split at h <;> first | (rename_i e; rw [e]; simp) | cases h
theorem lclB_ok {sc : Scope} {x : Str} (h : lclB sc x = true) : sc.names.lookup x = some .local := by
  unfold lclB at h
  split at h <;> first | assumption | cases h
theorem glB_ok {sc : Scope} {x : Str} (h : glB sc x = true) : sc.names.lookup x = some .globalImplicit := by
  unfold glB at h
  split at h <;> first | assumption | cases h

def noStar : List Expr → Bool
  | [] => true
  | e :: es => !isStar e && noStar es
inductive Fk where
  | fn (x : Str)
  | mt (c : Nat) (x : Str) (dfl : List Df)
  | pr (c : Nat) (x : Str)
  deriving DecidableEq
structure Fx where
  f : Nat → Option Fk
  cs : Nat → Bool
  gi : Str → Option Int
def beqOp (a b : Operator) : Bool := decide (a = b)
def beqCmp (a b : CmpOp) : Bool := decide (a = b)
def notInB : CmpOp → Bool
  | .In => false
  | .NotIn => false
  | _ => true
mutual
def chkT (N : List Str) (fb : Str → Bool) (sc : Scope) : CT → Expr → Bool
  | .name i, e => match e with
    | .Name x _ => decide (N[i]? = some x) && (locB sc x && (fb x || lclB sc x))
    | _ => false
  | .fld i c k, e => match e with
    | .Attribute (.Name x _) f _ => decide (N[i]? = some x) && (visB sc x && (okName x && decide (f = cfn c k)))
    | _ => false
  | .tup ts, e => match e with
    | .Tuple es _ _ => chkTs N fb sc ts es
    | _ => false
def chkTs (N : List Str) (fb : Str → Bool) (sc : Scope) : List CT → List Expr → Bool
  | [], es => match es with
    | [] => true
    | _ => false
  | t :: ts, es => match es with
    | [] => false
    | e :: es => chkT N fb sc t e && chkTs N fb sc ts es
end
def relab (scope sc : Scope) : Scope := { scope with names := scope.names.map fun (n, k) => if (k == .free && sc.kind == .function && sc.names.lookup n == some .cell) then (n, .cell) else (n, k) }
def fbOf (scope : Scope) (x : Str) : Bool := scope.names.lookup x == some .cell
def tyN : Ty → Str
  | .b n => Str.ofString n.nm
  | .c c => cnm c
def tyB (F : Fx) : Ty → Bool
  | .b _ => true
  | .c c => F.cs c
inductive Ar where
  | no
  | nil
  | one (a : Expr)
  | two (a b : Expr)
def Ar.isNil : Ar → Bool
  | .nil => true
  | _ => false
def argsL : Prm → Expr → Ar
  | .repr, .Call _ [a] [] _ => .one a
  | .isi1 _, .Call _ [a, _] [] _ => .one a
  | .isi2 _ _, .Call _ [a, _] [] _ => .one a
  | .fld _ _, .Attribute a _ _ => .one a
  | .prop _ _ _, .Attribute a _ _ => .one a
  | .lenO _ _, .Call _ [a] [] _ => .one a
  | .gint _ _, .Name _ _ => .nil
  | .dct _, .Dict _ _ _ => .nil
  | .ixO _ _, .Subscript a b _ => .two a b
  | .eqO _ _ _, .Compare a [_] [b] _ => .two a b
  | .lzip, .Call _ [.Call _ [a, b] [] _] [] _ => .two a b
  | .lrng1, .Call _ [.Call _ [a] [] _] [] _ => .one a
  | .lrng2, .Call _ [.Call _ [a, b] [] _] [] _ => .two a b
  | .sset, .Call _ [.Call _ [a] [] _] [] _ => .one a
  | .suml, .Call _ [a, .List [] _] [] _ => .one a
  | .cb _, .Call _ [a] [] _ => .one a
  | .cb _, .Call _ [a, b] [] _ => .two a b
  | _, _ => .no
def pOk (F : Fx) (sc : Scope) : Prm → Expr → Bool
  | .repr, .Call (.Name x _) [a] [] _ => decide (x = "repr") && (glB sc x && !isStar a)
  | .isi1 t, .Call (.Name x _) [a, .Name y _] [] _ => decide (x = "isinstance") && (glB sc x && (!isStar a && (decide (y = tyN t) && (glB sc y && tyB F t))))
  | .isi2 t u, .Call (.Name x _) [a, .Tuple [.Name y _, .Name z _] _ _] [] _ => decide (x = "isinstance") && (glB sc x && (!isStar a && (decide (y = tyN t) && (glB sc y && (tyB F t && (decide (z = tyN u) && (glB sc z && tyB F u)))))))
  | .fld c k, .Attribute a f _ => decide (f = cfn c k) && !isCall0 a
  | .prop c nm i, .Attribute a f _ => decide (f = nm) && (!isCall0 a && (decide (F.f i = some (.pr c nm)) && F.cs c))
  | .lenO c i, .Call (.Name x _) [a] [] _ => decide (x = "len") && (glB sc x && (!isStar a && (decide (F.f i = some (.mt c "__len__" [])) && F.cs c)))
  | .gint x i, .Name y _ => decide (y = x) && (glB sc y && (okName y && decide (F.gi x = some i)))
  | .dct [], .Dict [] [] _ => true
  | .dct [(i, j)], .Dict [some (.Constant (.int i2) _ _)] [.Constant (.int j2) _ _] _ => decide (i = i2) && decide (j = j2)
  | .ixO c i, .Subscript _ b _ => !isSlice b && (decide (F.f i = some (.mt c "__getitem__" [])) && F.cs c)
  | .eqO c i ng, .Compare _ [op] [b] _ => beqCmp op (if ng then .NotEq else .Eq) && (!isSet b && (decide (F.f i = some (.mt c "__eq__" [])) && F.cs c))
  | .lzip, .Call (.Name x _) [.Call (.Name y _) [a, b] [] _] [] _ => decide (x = "list") && (glB sc x && (decide (y = "zip") && (glB sc y && (!isStar a && !isStar b))))
  | .lrng1, .Call (.Name x _) [.Call (.Name y _) [a] [] _] [] _ => decide (x = "list") && (glB sc x && (decide (y = "range") && (glB sc y && !isStar a)))
  | .lrng2, .Call (.Name x _) [.Call (.Name y _) [a, b] [] _] [] _ => decide (x = "list") && (glB sc x && (decide (y = "range") && (glB sc y && (!isStar a && !isStar b))))
  | .sset, .Call (.Name x _) [.Call (.Name y _) [a] [] _] [] _ => decide (x = "sorted") && (glB sc x && (decide (y = "set") && (glB sc y && !isStar a)))
  | .suml, .Call (.Name x _) [a, .List [] _] [] _ => decide (x = "sum") && (glB sc x && !isStar a)
  | .cb f, .Call (.Name x _) (a :: r) [] _ => decide (F.f f = some (.fn x)) && (glB sc x && (okName x && noStar (a :: r)))
  | _, _ => false
def isEqO : CE → Bool
  | .prim (.eqO _ _ _) _ => true
  | _ => false
mutual
def chkE (F : Fx) (N : List Str) : CE → Scope → Expr → Bool
  | .var i, sc, e => match e with
    | .Name x _ => decide (N[i]? = some x) && (visB sc x && okName x)
    | _ => false
  | .cst c, sc, e => match e with
    | .Constant c' _ _ => decide (c = c')
    | _ => false
  | .tup es, sc, e => match e with
    | .Tuple es' _ _ => chkA F N es sc es'
    | _ => false
  | .lst es, sc, e => match e with
    | .List es' _ => chkA F N es sc es'
    | _ => false
  | .bin op a b, sc, e => match e with
    | .BinOp a' op' b' _ => beqOp op op' && (chkE F N a sc a' && chkE F N b sc b')
    | _ => false
  | .neg a, sc, e => match e with
    | .UnaryOp .USub a' _ => chkE F N a sc a'
    | _ => false
  | .notV a, sc, e => match e with
    | .UnaryOp .Not a' _ => chkE F N a sc a'
    | _ => false
  | .andV a b, sc, e => match e with
    | .BoolOp .And [a', b'] _ => chkE F N a sc a' && chkE F N b sc b'
    | .BoolOp .And (a' :: b' :: c' :: rest) p => chkE F N a sc a' && chkE F N b sc (.BoolOp .And (b' :: c' :: rest) p)
    | _ => false
  | .orV a b, sc, e => match e with
    | .BoolOp .Or [a', b'] _ => chkE F N a sc a' && chkE F N b sc b'
    | .BoolOp .Or (a' :: b' :: c' :: rest) p => chkE F N a sc a' && chkE F N b sc (.BoolOp .Or (b' :: c' :: rest) p)
    | _ => false
  | .ite c a b, sc, e => match e with
    | .IfExp c' a' b' _ => chkB F N c sc c' && (chkE F N a sc a' && chkE F N b sc b')
    | _ => false
  | .cmp op a b, sc, e => match e with
    | .Compare a' [op'] [b'] _ => beqCmp op op' && (!isSet b' && (chkE F N a sc a' && chkE F N b sc b'))
    | _ => false
  | .chain o1 o2 a b c, sc, e => match e with
    | .Compare a' [p1, p2] [b', c'] _ => beqCmp o1 p1 && (beqCmp o2 p2 && (!isSet c' && (chkE F N a sc a' && (chkE F N b sc b' && chkE F N c sc c'))))
    | _ => false
  | .call f es, sc, e => match e with
    | .Call (.Name x _) (e1 :: es') [] _ => decide (F.f f = some (.fn x)) && (glB sc x && (okName x && (noStar (e1 :: es') && chkA F N es sc (e1 :: es'))))
    | _ => false
  | .blt b es, sc, e => match e with
    | .Call (.Name x _) (e1 :: es') [] _ => decide (b.nm = x) && (glB sc x && (noStar (e1 :: es') && chkA F N es sc (e1 :: es')))
    | _ => false
  | .ix a b, sc, e => match e with
    | .Subscript a' b' _ => !isSlice b' && (chkE F N a sc a' && chkE F N b sc b')
    | _ => false
  | .slA a, sc, e => match e with
    | .Subscript a' (.Slice none none none _) _ => chkE F N a sc a'
    | _ => false
  | .slF a lo, sc, e => match e with
    | .Subscript a' (.Slice (some lo') none none _) _ => chkE F N a sc a' && chkE F N lo sc lo'
    | _ => false
  | .slT a hi, sc, e => match e with
    | .Subscript a' (.Slice none (some hi') none _) _ => chkE F N a sc a' && chkE F N hi sc hi'
    | _ => false
  | .slFT a lo hi, sc, e => match e with
    | .Subscript a' (.Slice (some lo') (some hi') none _) _ => chkE F N a sc a' && (chkE F N lo sc lo' && chkE F N hi sc hi')
    | _ => false
  | .rev a, sc, e => match e with
    | .Subscript a' (.Slice none none (some (.UnaryOp .USub (.Constant c _ _) _)) _) _ => decide (c = .int 1) && chkE F N a sc a'
    | _ => false
  | .bm m o es, sc, e => match e with
    | .Call (.Attribute o' x p1) (e1 :: es') [] p2 => decide (m.nm = x) && (!isCall0 o' && ((p1.endLine == p2.line) && (decide (es'.length < 20) && (chkE F N o sc o' && (noStar (e1 :: es') && chkA F N es sc (e1 :: es'))))))
    | _ => false
  | .lc elt tg it own, sc, e => match e with
    | .ListComp elt' [⟨tg', it', [], as⟩] scope _ => decide (as = 0) && (!isSet it' && (blkC N sc scope own && (chkT N (fbOf scope) (relab scope sc) tg tg' && (chkI F N it sc tg' it' && chkE F N elt (relab scope sc) elt'))))
    | _ => false
  | .cold a, sc, e => !isLComp e && chkE F N a sc e
  | .lc2 elt tg it tg1 it1 own, sc, e => match e with
    | .ListComp elt' [⟨tg', it', [], as⟩, ⟨tg1', it1', [], as1⟩] scope _ => decide (as = 0) && (decide (as1 = 0) && (!isSet it' && (!isSet it1' && (blkC N sc scope own && (tgIn tg1 own && (chkT N (fbOf scope) (relab scope sc) tg tg' && (chkT N (fbOf scope) (relab scope sc) tg1 tg1' && (chkI F N it sc tg' it' && (chkI F N it1 (relab scope sc) tg1' it1' && chkE F N elt (relab scope sc) elt')))))))))
    | _ => false
  | .lc2If elt tg it tg1 it1 c own, sc, e => match e with
    | .ListComp elt' [⟨tg', it', [], as⟩, ⟨tg1', it1', [c'], as1⟩] scope _ => decide (as = 0) && (decide (as1 = 0) && (!isSet it' && (!isSet it1' && (blkC N sc scope own && (tgIn tg1 own && (chkT N (fbOf scope) (relab scope sc) tg tg' && (chkT N (fbOf scope) (relab scope sc) tg1 tg1' && (chkI F N it sc tg' it' && (chkI F N it1 (relab scope sc) tg1' it1' && (chkB F N c (relab scope sc) c' && chkE F N elt (relab scope sc) elt'))))))))))
    | _ => false
  | .ssc elt tg it own, sc, e => match e with
    | .Call (.Name x _) [.SetComp elt' [⟨tg', it', [], as⟩] scope _] [] _ => decide (x = "sorted") && (glB sc x && (decide (as = 0) && (!isSet it' && (blkC N sc scope own && (chkT N (fbOf scope) (relab scope sc) tg tg' && (chkI F N it sc tg' it' && chkE F N elt (relab scope sc) elt'))))))
    | _ => false
  | .lcIf elt tg it c own, sc, e => match e with
    | .ListComp elt' [⟨tg', it', [c'], as⟩] scope _ => decide (as = 0) && (!isSet it' && (blkC N sc scope own && (chkT N (fbOf scope) (relab scope sc) tg tg' && (chkI F N it sc tg' it' && (chkB F N c (relab scope sc) c' && chkE F N elt (relab scope sc) elt')))))
    | _ => false
  | .star _, _, _ => false
  | .prim p es, sc, e => match es with
    | [] => pOk F sc p e && (argsL p e).isNil
    | [a] => pOk F sc p e && (match argsL p e with
      | .one a' => chkE F N a sc a'
      | _ => false)
    | [a, b] => pOk F sc p e && (match argsL p e with
      | .two a' b' => chkE F N a sc a' && chkE F N b sc b'
      | _ => false)
    | _ => false
  | .meth c nm i o es, sc, e => match e with
    | .Call (.Attribute o' x p1) es' [] p2 => decide (x = nm) && (!(cfl c).contains nm && (decide (F.f i = some (.mt c nm [])) && (F.cs c && (!isCall0 o' && ((p1.endLine == p2.line) && (decide (es'.length < 20) && (chkE F N o sc o' && (noStar es' && chkA F N es sc es'))))))))
    | _ => false
  | .make c i es df, sc, e => match e with
    | .Call (.Name x _) (e1 :: es') [] _ => decide (x = cnm c) && (glB sc x && (okName x && (F.cs c && ((match F.f i with
        | some (.mt c' y dfl) => decide (c' = c) && (decide (y = "__init__") && (decide (df = []) || decide (df = dfl)))
        | _ => false) && (noStar (e1 :: es') && chkA F N es sc (e1 :: es'))))))
    | _ => false
def chkA (F : Fx) (N : List Str) : List CE → Scope → List Expr → Bool
  | [], sc, es => match es with
    | [] => true
    | _ => false
  | .star a :: cs, sc, es => match es with
    | .Starred e _ :: es => chkE F N a sc e && chkA F N cs sc es
    | _ => false
  | c :: cs, sc, es => match es with
    | [] => false
    | e :: es => !isStar e && (chkE F N c sc e && chkA F N cs sc es)
def chkB (F : Fx) (N : List Str) : CB → Scope → Expr → Bool
  | .not a, sc, e => match e with
    | .UnaryOp .Not a' _ => chkB F N a sc a'
    | _ => false
  | .and a b, sc, e => match e with
    | .BoolOp .And [a', b'] _ => chkB F N a sc a' && chkB F N b sc b'
    | .BoolOp .And (a' :: b' :: c' :: rest) p => chkB F N a sc a' && chkB F N b sc (.BoolOp .And (b' :: c' :: rest) p)
    | _ => false
  | .or a b, sc, e => match e with
    | .BoolOp .Or [a', b'] _ => chkB F N a sc a' && chkB F N b sc b'
    | .BoolOp .Or (a' :: b' :: c' :: rest) p => chkB F N a sc a' && chkB F N b sc (.BoolOp .Or (b' :: c' :: rest) p)
    | _ => false
  | .cmp op a b, sc, e => match e with
    | .Compare a' [op'] [b'] _ => beqCmp op op' && (!isSet b' && (chkE F N a sc a' && chkE F N b sc b'))
    | _ => false
  | .chain o1 o2 a b c, sc, e => match e with
    | .Compare a' [p1, p2] [b', c'] _ => beqCmp o1 p1 && (beqCmp o2 p2 && (!isSet c' && (chkE F N a sc a' && (chkE F N b sc b' && chkE F N c sc c'))))
    | _ => false
  | .tru a, sc, e => (plainTest e || isEqO a) && chkE F N a sc e
def chkI (F : Fx) (N : List Str) : CI → Scope → Expr → Expr → Bool
  | .seq a, sc, tg, e => chkE F N a sc e
  | .rng1 a, sc, tg, e => match e with
    | .Call (.Name x _) [a'] [] _ => decide (x = "range") && (glB sc x && (!isStar a' && chkE F N a sc a'))
    | _ => false
  | .rng2 a b, sc, tg, e => match e with
    | .Call (.Name x _) [a', b'] [] _ => decide (x = "range") && (glB sc x && (!isStar a' && (!isStar b' && (chkE F N a sc a' && chkE F N b sc b'))))
    | _ => false
  | .enum a, sc, tg, e => match tg, e with
    | .Tuple _ _ _, .Call (.Name x _) [a'] [] _ => decide (x = "enumerate") && (glB sc x && (!isStar a' && chkE F N a sc a'))
    | _, _ => false
  | .zip a b, sc, tg, e => match tg, e with
    | .Tuple _ _ _, .Call (.Name x _) [a', b'] [] _ => decide (x = "zip") && (glB sc x && (!isStar a' && (!isStar b' && (chkE F N a sc a' && chkE F N b sc b'))))
    | _, _ => false
  | .zip3 a b c, sc, tg, e => match tg, e with
    | .Tuple _ _ _, .Call (.Name x _) [a', b', c'] [] _ => decide (x = "zip") && (glB sc x && (!isStar a' && (!isStar b' && (!isStar c' && (chkE F N a sc a' && (chkE F N b sc b' && chkE F N c sc c'))))))
    | _, _ => false
  | .rvs a, sc, tg, e => match e with
    | .Call (.Name x _) [a'] [] _ => decide (x = "reversed") && (glB sc x && (!isStar a' && chkE F N a sc a'))
    | _ => false
end

structure Cok (X : Cx) (Γ : Nat → Sp) (F : Fx) (N : List Str) (k : Nat) (sc : Scope) : Prop where
  scope : X.env.scope = sc
  hN : X.N = N
  nd : N.Nodup
  calm : X.calm = true
  room : Room (k + 1) X.A
  gd : X.A.guards = some []
  blt : ∀ b : Bt, X.mg b.nm = none
  rng : X.mg "range" = none
  enu : X.mg "enumerate" = none
  zip : X.mg "zip" = none
  set : X.mg "set" = none
  rvd : X.mg "reversed" = none
  isi : X.mg "isinstance" = none
  rep : X.mg "repr" = none
  tys : ∀ n : Bty, X.mg (Str.ofString n.nm) = none
  fns : ∀ i x, F.f i = some (.fn x) → ∃ (f : Addr) (fd : FuncData) (ps : List Str), FnG X.prog X.w X.K X.mg X.base (L2.CX X.prog X.w) k f fd ps (Γ i) ∧ X.mg x = some (.ref f) ∧ PySem.W.keepIn X.K (.ref f) = true ∧ L2.Binds X.K fd ps []
  mts : ∀ i c x dfl, F.f i = some (.mt c x dfl) → ∃ (f : Addr) (fd : FuncData) (ps : List Str), FnG X.prog X.w X.K X.mg X.base (L2.CX X.prog X.w) k f fd ps (Γ i) ∧ L2.Meth X.K (ca X.K c) x f ∧ PySem.W.fnIn X.K f = true ∧ L2.Binds X.K fd ps [] ∧
    (x = "__init__" → L2.Mk X.K (ca X.K c) f ∧ dfsOk X.K c dfl 0 ∧ ∃ ds, Vals (dfs X.K c dfl 0) ds ∧ L2.Binds X.K fd ps ds)
  prs : ∀ i c x, F.f i = some (.pr c x) → ∃ (q f : Addr) (fd : FuncData) (ps : List Str), FnG X.prog X.w X.K X.mg X.base (L2.CX X.prog X.w) k f fd ps (Γ i) ∧ PropOf X.K (ca X.K c) x q f ∧ L2.Binds X.K fd ps []
  cls : ∀ c, F.cs c = true → ClsOk X.K c ∧ X.mg (cnm c) = some (.ref (ca X.K c))
  gis : ∀ x i, F.gi x = some i → ∃ t, X.mg x = some (.int i t)
  sys : (X.K.lookup sysModules).isSome = true

theorem okName_ok {x : Str} (h : okName x = true) : (x == ("__debug__" : Str)) = false ∧ (x == ("__classdict__" : Str)) = false := by
  unfold okName at h
  obtain ⟨h1, h2⟩ := and2 h
  exact ⟨by simpa using h1, by simpa using h2⟩
theorem star_of {e : Expr} {es : List Expr} {env : Env} (h : isStar e = false) : starEach (e :: es) env = (false, eval e env) :: starEach es env := by
  cases e <;> first | rfl | cases h
theorem plain_of {pos : Pos} {env : Env} : ∀ {es : List Expr}, noStar es = true → (backTo pos (starEach es env)).any (·.1) = false
  | [], _ => rfl
  | e :: es, h => by
    obtain ⟨h1, h2⟩ := and2 (show (!isStar e && noStar es) = true from h)
    rw [star_of (by simpa using h1)]
    show (false || (backTo pos (starEach es env)).any (·.1)) = false
    rw [plain_of h2]
    rfl
theorem all_of {pos : Pos} {env : Env} : ∀ {es : List Expr}, noStar es = true → (backTo pos (starEach es env)).all (fun x => !x.1) = true
  | [], _ => rfl
  | e :: es, h => by
    obtain ⟨h1, h2⟩ := and2 (show (!isStar e && noStar es) = true from h)
    rw [star_of (by simpa using h1)]
    show ((!false) && (backTo pos (starEach es env)).all (fun x => !x.1)) = true
    rw [all_of h2]
    rfl
theorem base_of {o : Expr} {f : Str} {env : Env} (h : isCall0 o = false) : attributeBase o f env (eval o env) = eval o env := by
  unfold attributeBase
  cases o with
  | Call fe as ks p =>
    cases fe with
    | Name x q =>
      cases as with
      | nil =>
        cases ks with
        | nil => cases h
        | cons _ _ => rfl
      | cons _ _ => rfl
    | _ => rfl
  | _ => rfl
theorem plainIx_of {b : Expr} (h : isSlice b = false) : PlainIx b := by
  intro o i
  cases b <;> first | rfl | cases h
theorem noset_of {b : Expr} {op : CmpOp} (h : isSet b = false) : behindInMarks op b = false := by
  cases b <;> first | rfl | cases h
theorem noset2_of {b c : Expr} {o1 o2 : CmpOp} (h : isSet c = false) : lastMarks [o1, o2] [b, c] = false := by
  cases c <;> first | rfl | cases h
theorem fold_of {it : Expr} {env : Env} (h : isSet it = false) (x : Value) : foldedSetIterable it env x = pure x := by
  cases it <;> first | rfl | cases h
theorem test_of {e : Expr} {env : Env} (h : plainTest e = true) (whole : Sem Value) : isTrue e env whole = (do let v ← whole; standAt e.pos; holding [v] (truthy v)) := by
  cases e with
  | UnaryOp op a p => cases op <;> first | rfl | cases h
  | _ => first | rfl | cases h

theorem PE.imp {X : Cx} {e : Expr} {t t' : TE} (h : PE X e t) (i : ∀ σ H Q, t' σ H Q → t σ H Q) : PE X e t' := ⟨fun pins s σ H Q I q => h.run pins s σ H Q I (i σ H Q q)⟩
theorem PI.or {X : Cx} {tg it : Expr} {w w' : TI} (h : PI X tg it w) (h' : PI X tg it w') : PI X tg it (fun σ H R => w σ H R ∨ w' σ H R) := ⟨fun pins s σ H R I q => by
  rcases q with q | q
  · exact h.run pins s σ H R I q
  · exact h'.run pins s σ H R I q⟩
theorem PG.or {X : Cx} {tg : Expr} {g g' : TG} (h : PG X tg g) (h' : PG X tg g') : PG X tg (fun v σ H Q => g v σ H Q ∨ g' v σ H Q) := ⟨fun pins s σ H v u Q I r q => by
  rcases q with q | q
  · exact h.run pins s σ H v u Q I r q
  · exact h'.run pins s σ H v u Q I r q⟩
theorem vals3 {x y z : V} {us : List Value} (r : Vals [x, y, z] us) : ∃ u v w, us = [u, v, w] ∧ RelV x u ∧ RelV y v ∧ RelV z w := by
  cases r with
  | cons r1 r2 =>
    obtain ⟨v, w, rfl, r3, r4⟩ := vals2 r2
    exact ⟨_, _, _, rfl, r1, r3, r4⟩
theorem call_max3 {X : Cx} (hc : X.calm = true) : CallR X (.builtin "max") (fun xs H Q => ∃ i j k, xs = [.int i, .int j, .int k] ∧ Q (.int (max3 i j k)) H) := by
  intro pins s σ H xs us Q I r h
  obtain ⟨i, j, k, rfl, q⟩ := h
  obtain ⟨u, v, w, rfl, ⟨t, rfl⟩, ⟨t', rfl⟩, ⟨t2, rfl⟩⟩ := vals3 r
  refine max_three_ints (I.ok.hd hc) fun h' tk kk => ⟨_, H, I.kept kk, ?_, q⟩
  unfold max3
  split <;> split <;> exact ⟨_, rfl⟩
theorem call_min3 {X : Cx} (hc : X.calm = true) : CallR X (.builtin "min") (fun xs H Q => ∃ i j k, xs = [.int i, .int j, .int k] ∧ Q (.int (min3 i j k)) H) := by
  intro pins s σ H xs us Q I r h
  obtain ⟨i, j, k, rfl, q⟩ := h
  obtain ⟨u, v, w, rfl, ⟨t, rfl⟩, ⟨t', rfl⟩, ⟨t2, rfl⟩⟩ := vals3 r
  refine min_three_ints (I.ok.hd hc) fun h' tk kk => ⟨_, H, I.kept kk, ?_, q⟩
  unfold min3
  split <;> split <;> exact ⟨_, rfl⟩
theorem bltR {X : Cx} (hc : X.calm = true) (b : Bt) : ∃ u, bootBuiltins b.nm = some u ∧ (u = .type "int" ∨ u = .type "list" ∨ u = .type "tuple" ∨ ∃ id, u = .builtin id) ∧ CallR X u (rBlt X.K b) := by
  cases b with
  | len => exact ⟨_, boot_len, .inr (.inr (.inr ⟨_, rfl⟩)), call_len_seq.or call_len_str⟩
  | abs => exact ⟨.builtin "abs", by decide +kernel, .inr (.inr (.inr ⟨_, rfl⟩)), call_abs⟩
  | max => exact ⟨.builtin "max", by decide +kernel, .inr (.inr (.inr ⟨_, rfl⟩)), (call_max2 hc).or ((cr_max hc).or (call_max3 hc))⟩
  | min => exact ⟨.builtin "min", by decide +kernel, .inr (.inr (.inr ⟨_, rfl⟩)), (call_min2 hc).or ((cr_min hc).or (call_min3 hc))⟩
  | int => exact ⟨.type "int", by decide +kernel, .inl rfl, call_int1⟩
  | list => exact ⟨.type "list", by decide +kernel, .inr (.inl rfl), call_list_of⟩
  | tuple => exact ⟨.type "tuple", by decide +kernel, .inr (.inr (.inl rfl)), call_tuple_of⟩
  | sum => exact ⟨.builtin "sum", by decide +kernel, .inr (.inr (.inr ⟨_, rfl⟩)), (cr_sum hc).or (cr_sumT hc)⟩
  | all => exact ⟨.builtin "all", by decide +kernel, .inr (.inr (.inr ⟨_, rfl⟩)), cr_all hc⟩
  | any => exact ⟨.builtin "any", by decide +kernel, .inr (.inr (.inr ⟨_, rfl⟩)), cr_any hc⟩
  | sorted => exact ⟨.builtin "sorted", by decide +kernel, .inr (.inr (.inr ⟨_, rfl⟩)), cr_sortedI.or cr_soP⟩
  | divmod => exact ⟨.builtin "divmod", by decide +kernel, .inr (.inr (.inr ⟨_, rfl⟩)), call_divmodW⟩
theorem op_mulS {X : Cx} : OpR X (binaryOp .Mult) rMulS := by
  intro pins s σ H x y v u Q I rx ry h
  obtain ⟨i, j, rfl, rfl, hj, q⟩ := h
  obtain ⟨t, rfl⟩ := rx
  obtain ⟨t2, rfl⟩ := ry
  exact SB.mul hj fun t' k => ⟨.str (Txt.mul i j), H, I.tok _, ⟨_, rfl⟩, q⟩
theorem binR {X : Cx} (op : Operator) : OpR X (binaryOp op) (rBin X.K op) := by
  cases op with
  | Add => exact op_add.or (op_cat.or (op_catA.or op_add_str))
  | Sub => exact op_sub
  | Mult => exact op_mulW.or (op_mul.or (op_rep.or op_mulS))
  | FloorDiv => exact op_fdivW
  | Mod => exact op_mod
  | Pow => exact op_pow
  | _ => exact fun _ _ _ _ _ _ _ _ _ _ _ _ h => h.elim
theorem cmpR {X : Cx} {k : Nat} (hr : Room k X.A) (op : CmpOp) : OpR X (compareOp op) (rCmp X.K op) := by
  have h1 := hr.units0
  have h2 : X.A.units + 65 < cLine := by have := hr.un; omega
  cases op with
  | Eq => exact op_eq.or (op_eqD hr.units)
  | NotEq => exact op_ne.or (op_neD hr.units)
  | Lt => exact op_lt.or (op_ltT h1)
  | LtE => exact op_le
  | Gt => exact op_gt
  | GtE => exact op_ge
  | Is => exact op_isN.or op_isB
  | IsNot => exact op_notN.or op_notB
  | In => exact op_in_seq.or (op_inD h2)
  | NotIn => exact op_notIn_seq.or (op_notInD h2)
theorem Cok.blk {X : Cx} {Γ : Nat → Sp} {F : Fx} {N : List Str} {k : Nat} {sc : Scope} (c : Cok X Γ F N k sc) (s : Shared) (H : Hp) (scope : Scope) (C : Addr) (cl : List (Str × Addr)) (fp : List Addr) :
    Cok (X.blk s H scope (compEnvC scope cl C X.env) fp) Γ F N k (relab scope sc) where
  scope := by
    show relabel scope X.env = relab scope sc
    unfold relabel relab Env.kindOf
    rw [c.scope]
  hN := c.hN
  nd := c.nd
  calm := c.calm
  room := c.room
  blt := c.blt
  rng := c.rng
  enu := c.enu
  zip := c.zip
  set := c.set
  rvd := c.rvd
  gd := c.gd
  isi := c.isi
  rep := c.rep
  tys := c.tys
  fns := c.fns
  mts := c.mts
  prs := c.prs
  cls := c.cls
  gis := c.gis
  sys := c.sys

section
variable {Γ : Nat → Sp} {F : Fx} {N : List Str} {k : Nat}
theorem Cok.gl {X : Cx} {sc : Scope} (c : Cok X Γ F N k sc) {x : Str} (h : glB sc x = true) : Gl X x := by
  unfold Gl Env.kindOf
  rw [c.scope]
  exact glB_ok h
theorem blt_ok {X : Cx} {sc : Scope} (c : Cok X Γ F N k sc) (b : Bt) {e : Expr} {es : List Expr} {t : TA} {p pos : Pos} (hg : Gl X b.nm) (hs : isStar e = false) (hn : noStar es = true) (ha : PA X (e :: es) t) :
    PE X (.Call (.Name b.nm p) (e :: es) [] pos) (tCB (rBlt X.K b) t) := by
  obtain ⟨u, h1, h2, h3⟩ := bltR c.calm b
  have n1 : b.nm ≠ "__name__" := by cases b <;> decide +kernel
  have n2 : (b.nm == ("__debug__" : Str)) = false := by cases b <;> decide +kernel
  rcases h2 with rfl | rfl | rfl | ⟨id, rfl⟩
  · exact pe_callTy h3 hg (c.blt b) h1 ha n1 n2 (star_of hs) (plain_of hn)
  · exact pe_callTy h3 hg (c.blt b) h1 ha n1 n2 (star_of hs) (plain_of hn)
  · exact pe_callTy h3 hg (c.blt b) h1 ha n1 n2 (star_of hs) (plain_of hn)
  · exact pe_callB h3 hg (c.blt b) h1 ha n1 n2 (star_of hs) (plain_of hn)
theorem bnot {b : Bool} (h : (!b) = true) : b = false := by cases b <;> first | rfl | cases h
mutual
theorem okT {X : Cx} {sc : Scope} {fb : Str → Bool} (c : Cok X Γ F N k sc) (hfb : ∀ x, fb x = true → X.fn x = true) : ∀ (t : CT) (e : Expr), chkT N fb sc t e = true → PG X e (semG X.K t)
  | .name i, e, h => by
    cases e with
    | Name x p =>
      obtain ⟨h1, h2⟩ := and2 (show (decide (N[i]? = some x) && (locB sc x && (fb x || lclB sc x))) = true from h)
      obtain ⟨h2, h4⟩ := and2 h2
      have h3 := locB_ok h2
      refine pg_name (by rw [c.hN]; exact c.nd) (by rw [c.hN]; exact of_decide_eq_true h1) (by rw [c.scope]; exact h3) ?_
      rw [c.scope]
      rcases Bool.or_eq_true_iff.mp h4 with h5 | h5
      · exact .inl (hfb x h5)
      · exact .inr (lclB_ok h5)
    | _ => cases h
  | .fld i c1 k1, e, h => by
    cases e with
    | Attribute a f p =>
      cases a with
      | Name x p' =>
        obtain ⟨h1, h2⟩ := and2 (show (decide (N[i]? = some x) && (visB sc x && (okName x && decide (f = cfn c1 k1)))) = true from h)
        obtain ⟨g2, h3⟩ := and2 h2
        obtain ⟨g3, h4⟩ := and2 h3
        obtain ⟨h5, h6⟩ := okName_ok g3
        have e1 : f = cfn c1 k1 := of_decide_eq_true h4
        rw [e1]
        exact pg_fld (pe_var (by rw [c.hN]; exact of_decide_eq_true h1) (by rw [c.scope]; exact visB_ok g2) h5 h6)
      | _ => cases h
    | _ => cases h
  | .tup ts, e, h => by
    cases e with
    | Tuple es k2 p =>
      have h1 : chkTs N fb sc ts es = true := h
      have hl := chkTs_len c ts es h1
      exact PG.or (pg_tup c.calm (okTs c hfb ts es h1) hl.1 hl.2) (pg_lst c.calm (okTs c hfb ts es h1) hl.1 hl.2)
    | _ => cases h
theorem okTs {X : Cx} {sc : Scope} {fb : Str → Bool} (c : Cok X Γ F N k sc) (hfb : ∀ x, fb x = true → X.fn x = true) : ∀ (ts : List CT) (es : List Expr), chkTs N fb sc ts es = true → PGs X es (semGs X.K ts)
  | [], es, h => by
    cases es with
    | nil => exact pgs_nil
    | cons _ _ => cases h
  | t :: ts, es, h => by
    cases es with
    | nil => cases h
    | cons e es =>
      obtain ⟨h1, h2⟩ := and2 (show (chkT N fb sc t e && chkTs N fb sc ts es) = true from h)
      have hg := okT c hfb t e h1
      refine pgs_cons hg (okTs c hfb ts es h2) ?_
      cases t with
      | name i => cases e <;> first | rfl | cases h1
      | fld _ _ _ => cases e <;> first | rfl | cases h1
      | tup _ => cases e <;> first | rfl | cases h1
theorem chkTs_len {X : Cx} {sc : Scope} {fb : Str → Bool} (c : Cok X Γ F N k sc) : ∀ (ts : List CT) (es : List Expr), chkTs N fb sc ts es = true → (assignEach es X.env).length = CT.lens ts ∧ (assignEach es X.env).findIdx? (·.1) = none
  | [], es, h => by
    cases es with
    | nil => exact ⟨rfl, rfl⟩
    | cons _ _ => cases h
  | t :: ts, es, h => by
    cases es with
    | nil => cases h
    | cons e es =>
      obtain ⟨h1, h2⟩ := and2 (show (chkT N fb sc t e && chkTs N fb sc ts es) = true from h)
      obtain ⟨i1, i2⟩ := chkTs_len c ts es h2
      have e1 : assignEach (e :: es) X.env = (false, assign e X.env) :: assignEach es X.env := by
        cases t with
        | name i => cases e <;> first | rfl | cases h1
        | fld _ _ _ => cases e <;> first | rfl | cases h1
        | tup _ => cases e <;> first | rfl | cases h1
      rw [e1]
      refine ⟨?_, ?_⟩
      · show (assignEach es X.env).length + 1 = CT.lens ts + 1
        rw [i1]
      · rw [List.findIdx?_cons]
        simp [i2]
end
end
end LT

namespace LT
open PySem PySem.Spec PyProof.Rows L2
section
variable {Γ : Nat → Sp} {F : Fx} {N : List Str} {k : Nat}
theorem mt_ok {X : Cx} (m : Mt) {o e : Expr} {es : List Expr} {to : TE} {t : TA} {apos cpos : Pos} (ho : PE X o to) (ha : PA X (e :: es) t) (hb : isCall0 o = false) (hl : (apos.endLine == cpos.line) = true) (hs : isStar e = false) (hn : noStar es = true) (hz : es.length < 20) :
    PE X (.Call (.Attribute o m.nm apos) (e :: es) [] cpos) (tBM X.K "list" (rMt m) to t) := by
  have hfew : ((backTo cpos (starEach (e :: es) X.env)).all (fun x => !x.1) && (backToKw cpos (keywordEach [] X.env)).all (fun x => x.1.isSome)
      && decide ((e :: es).length + ([] : List Keyword).length + (if ([] : List Keyword).isEmpty then 0 else 1) < 30)) = true := by
    have h1 : (backTo cpos (starEach (e :: es) X.env)).all (fun x => !x.1) = true := all_of (by show (!isStar e && noStar es) = true; rw [hs, hn]; rfl)
    rw [h1]
    show (true && true && decide ((e :: es).length + 0 + 0 < 30)) = true
    rw [decide_eq_true (by show es.length + 1 + 0 + 0 < 30; omega)]
    rfl
  cases m with
  | append => exact pe_bm PySem.F.plainAttrs_list PySem.F.slot_list_append PySem.F.type_list_append mt_append ho ha (base_of hb) hfew hl (star_of hs) (plain_of hn)
  | extend => exact pe_bm PySem.F.plainAttrs_list PySem.F.slot_list_extend PySem.F.type_list_extend mt_extend ho ha (base_of hb) hfew hl (star_of hs) (plain_of hn)
  | insert => exact pe_bm PySem.F.plainAttrs_list PySem.F.slot_list_insert PySem.F.type_list_insert mt_insert ho ha (base_of hb) hfew hl (star_of hs) (plain_of hn)
theorem meth_eval {o : Expr} {m : Str} {apos pos : Pos} {as : List Expr} {env : PySem.Env} (hb : isCall0 o = false) (hl : (apos.endLine == pos.line) = true) (hn : noStar as = true) (hz : as.length < 20) :
    eval (.Call (.Attribute o m apos) as [] pos) env = (eval o env >>= fun ov => standAt apos.atName >>= fun _ => holding [ov] (getMethod ov m (do return (← importBound o env).getD true)) >>= fun q =>
      callWith pos q.1 q.2 (backTo pos (starEach as env)) (backToKw pos (keywordEach [] env))) := by
  have hform : methodCallForm (as.length + ([] : List Keyword).length) (backTo pos (starEach as env)) (backToKw pos (keywordEach [] env)) = true := by
    unfold methodCallForm
    rw [all_of hn]
    show (true && true && decide (as.length + 0 + 0 < 30)) = true
    rw [decide_eq_true (by omega)]
    rfl
  have hpos : methodCallPos true o env apos pos = pure pos := by
    unfold methodCallPos
    rw [hl]
    rfl
  show (attributeBase o m env (eval o env) >>= fun ov => standAt apos.atName >>= fun _ => methodCall o m apos pos env ov (as.length + ([] : List Keyword).length) (backTo pos (starEach as env)) (backToKw pos (keywordEach [] env))) = _
  rw [base_of hb]
  unfold methodCall
  rw [hform, hpos]
  rfl
theorem calmG {P : Program} {w : World} {K : PySem.W.Frag} {mg : Str → Option Value} {base : Heap} {j : Nat} {f : Addr} {fd : FuncData} {ps : List Str} {sp : Sp} (Fn : FnG P w K mg base (L2.CX P w) j f fd ps sp) :
    FnG P w K mg base CX0 j f fd ps (fun vs H Q _ => sp vs H Q fun _ _ _ => False) := by
  refine ⟨fun vs H Q E h => Fn.len _ _ _ _ h, fun hr hg he hb hv hs => codeAny_mono (Fn.run hr hg he hb hv hs) fun r s' h => ?_⟩
  cases r with
  | ok fl => cases fl <;> exact h
  | error e =>
    obtain ⟨_, _, _, _, _, _, _, _, _, _, _, _, z⟩ := h
    exact z.elim
theorem clsOf {K : PySem.W.Frag} {c : Nat} (h : ClsOk K c) : clsB K c = true := by
  have := List.all_eq_true.mp (and2 (show ((K.lookup sysModules).isSome && allC.all fun c => !presB K c || clsB K c) = true from h.all)).2 c h.mem
  rw [h.pres] at this
  exact this
theorem ClsOk.cls {K : PySem.W.Frag} {c : Nat} (h : ClsOk K c) : Cls K (ca K c) := He.cls_ok (and2 (clsOf h)).1
theorem ClsOk.noat {K : PySem.W.Frag} {c : Nat} (h : ClsOk K c) {f : Str} (hf : f ∈ cfl c) : NoAttr K (ca K c) f := He.noat_ok (List.all_eq_true.mp (and2 (and2 (clsOf h)).2).1 f hf)
theorem ClsOk.k1 {K : PySem.W.Frag} {c : Nat} (h : ClsOk K c) {T : String} (hT : T ∈ bTys) : PySem.W.kitOne K (.ref (ca K c)) (.type T) = some false := of_decide_eq_true (List.all_eq_true.mp (and2 (and2 (and2 (clsOf h)).2).2).1 T hT)
theorem ClsOk.k2 {K : PySem.W.Frag} {c : Nat} (h : ClsOk K c) {T : String} (hT : T ∈ bTys) : PySem.W.kitOne K (.type T) (.ref (ca K c)) = some false := of_decide_eq_true (List.all_eq_true.mp (and2 (and2 (and2 (and2 (clsOf h)).2).2).2).1 T hT)
theorem ClsOk.k3 {K : PySem.W.Frag} {c c' : Nat} (h : ClsOk K c) (h' : ClsOk K c') : PySem.W.kitOne K (.ref (ca K c)) (.ref (ca K c')) = some (c == c') := by
  have := List.all_eq_true.mp (and2 (and2 (and2 (and2 (and2 (clsOf h)).2).2).2).2).1 c' h'.mem
  rw [h'.pres] at this
  exact of_decide_eq_true this
theorem ClsOk.ty {K : PySem.W.Frag} {c : Nat} (h : ClsOk K c) {H : Hp} {a dx : Addr} {fs : List (Str × V)} (e : H a = some (.ins (ca K c) dx fs)) : TyX K H (.ref a) (.ref (ca K c)) := by
  obtain ⟨h1, h2⟩ := and2 (and2 (and2 (and2 (and2 (and2 (clsOf h)).2).2).2).2).2
  obtain ⟨h2, h3⟩ := and2 h2
  obtain ⟨h3, h4⟩ := and2 h3
  obtain ⟨h4, _⟩ := and2 h4
  exact .base (.ins e h.cls (He.eqO_ok h1) (He.eqO_ok h2) (of_decide_eq_true h3) (of_decide_eq_true h4))
theorem ClsOk.ne {K : PySem.W.Frag} {c : Nat} (h : ClsOk K c) : PySem.W.findIn K (.ref (ca K c)) "__ne__" = some (some (.builtin "object.__ne__")) ∧ PySem.W.mroIn K (ca K c) (.type "object") = some true := by
  obtain ⟨h1, h2⟩ := and2 (and2 (and2 (and2 (and2 (and2 (clsOf h)).2).2).2).2).2
  obtain ⟨h2, h3⟩ := and2 h2
  obtain ⟨h3, h4⟩ := and2 h3
  obtain ⟨h4, h5⟩ := and2 h4
  exact ⟨He.eqO_ok h5, of_decide_eq_true h4⟩
theorem tyPE {X : Cx} {sc : Scope} (c : Cok X Γ F N k sc) {t : Ty} {p : Pos} (hg : glB sc (tyN t) = true) (ht : tyB F t = true) : PE X (.Name (tyN t) p) (tC (tyW X.K t)) ∧ tyOk X.K t := by
  cases t with
  | c cc =>
    obtain ⟨h1, h2⟩ := c.cls cc ht
    refine ⟨pe_glob (c.gl hg) h2 rfl ?_, h1⟩
    have hm := h1.mem
    simp only [allC, List.mem_cons, List.not_mem_nil, or_false] at hm
    rcases hm with rfl | rfl | rfl | rfl | rfl | rfl | rfl <;> decide +kernel
  | b n =>
    have h0 := c.tys n
    refine ⟨?_, trivial⟩
    have hg' := c.gl hg
    cases n with
    | int => exact pe_bltn (v := .ty "int") (u := .type "int") hg' h0 (by decide +kernel) rfl (by decide +kernel) (by decide +kernel)
    | bool => exact pe_bltn (v := .ty "bool") (u := .type "bool") hg' h0 (by decide +kernel) rfl (by decide +kernel) (by decide +kernel)
    | tuple => exact pe_bltn (v := .ty "tuple") (u := .type "tuple") hg' h0 (by decide +kernel) rfl (by decide +kernel) (by decide +kernel)
    | list => exact pe_bltn (v := .ty "list") (u := .type "list") hg' h0 (by decide +kernel) rfl (by decide +kernel) (by decide +kernel)
    | str => exact pe_bltn (v := .ty "str") (u := .type "str") hg' h0 (by decide +kernel) rfl (by decide +kernel) (by decide +kernel)
    | dict => exact pe_bltn (v := .ty "dict") (u := .type "dict") hg' h0 (by decide +kernel) rfl (by decide +kernel) (by decide +kernel)
theorem tyCls (K : PySem.W.Frag) (t : Ty) : ClsV (tyW K t) (tyV K t) := by
  cases t with
  | b n => exact .ty _
  | c c => exact .own _
theorem pr_one {X : Cx} {sc : Scope} {W : WX} (c : Cok X Γ F N k sc) (tk : Takes X W) {p : Prm} {e a : Expr} {ta : TE} (h : argsL p e = .one a) (ho : pOk F sc p e = true) (ha : PE X a ta) :
    PE X e (fun σ H Q => ta σ H fun x H1 => spPr Γ X.K p [x] H1 Q (WE W σ)) := by
  cases p with
  | repr =>
    cases e with
    | Call fe as ks pos =>
      match fe, as, ks, h, ho with
      | .Name x q, [a1], [], h, ho =>
        cases h
        obtain ⟨h1, h2⟩ := and2 (show (decide (x = "repr") && (glB sc x && !isStar a)) = true from ho)
        obtain ⟨g2, g3⟩ := and2 h2
        obtain rfl : x = "repr" := of_decide_eq_true h1
        exact pe_callB (call_reprQ c.sys c.gd (by have := c.room.un; omega)) (c.gl g2) c.rep (by decide +kernel) (pa_cons ha pa_nil (star_of (bnot g3))) (by decide +kernel) (by decide +kernel) (star_of (bnot g3)) (plain_of rfl)
    | _ => cases h
  | isi1 t =>
    cases e with
    | Call fe as ks pos =>
      match fe, as, ks, h, ho with
      | .Name x q, [a1, .Name y q2], [], h, ho =>
        cases h
        obtain ⟨h1, h2⟩ := and2 (show (decide (x = "isinstance") && (glB sc x && (!isStar a && (decide (y = tyN t) && (glB sc y && tyB F t))))) = true from ho)
        obtain ⟨g2, h3⟩ := and2 h2
        obtain ⟨g3, h4⟩ := and2 h3
        obtain ⟨g4, h5⟩ := and2 h4
        obtain ⟨g5, g6⟩ := and2 h5
        have e1 : x = "isinstance" := of_decide_eq_true h1
        have e2 : y = tyN t := of_decide_eq_true g4
        rw [e1] at g2 ⊢
        rw [e2] at g5 ⊢
        obtain ⟨k1, k2⟩ := tyPE c (p := q2) g5 g6
        have cr : CallR X (.builtin "isinstance") (fun xs H Q => tyOk X.K t → rIsi X.K xs H Q) := fun pins s σ H xs us Q I r z => call_isi pins s σ H xs us Q I r (z k2)
        exact pe_callB cr (c.gl g2) c.isi (by decide +kernel) (pa_cons ha (pa_cons k1 pa_nil) (star_of (bnot g3))) (by decide +kernel) (by decide +kernel) (star_of (bnot g3)) (plain_of rfl)
    | _ => cases h
  | isi2 t u =>
    cases e with
    | Call fe as ks pos =>
      match fe, as, ks, h, ho with
      | .Name x q, [a1, .Tuple [.Name y q2, .Name z q3] n1 q4], [], h, ho =>
        cases h
        obtain ⟨h1, h2⟩ := and2 (show (decide (x = "isinstance") && (glB sc x && (!isStar a && (decide (y = tyN t) && (glB sc y && (tyB F t && (decide (z = tyN u) && (glB sc z && tyB F u)))))))) = true from ho)
        obtain ⟨g2, h3⟩ := and2 h2
        obtain ⟨g3, h4⟩ := and2 h3
        obtain ⟨g4, h5⟩ := and2 h4
        obtain ⟨g5, h6⟩ := and2 h5
        obtain ⟨g6, h7⟩ := and2 h6
        obtain ⟨g7, h8⟩ := and2 h7
        obtain ⟨g8, g9⟩ := and2 h8
        have e1 : x = "isinstance" := of_decide_eq_true h1
        have e2 : y = tyN t := of_decide_eq_true g4
        have e3 : z = tyN u := of_decide_eq_true g7
        rw [e1] at g2 ⊢
        rw [e2] at g5 ⊢
        rw [e3] at g8 ⊢
        obtain ⟨k1, k2⟩ := tyPE c (p := q2) g5 g6
        obtain ⟨k3, k4⟩ := tyPE c (p := q3) g8 g9
        have cr : CallR X (.builtin "isinstance") (fun xs H Q => tyOk X.K t → tyOk X.K u → rIsiT X.K xs H Q) := fun pins s σ H xs us Q I r z => call_isiT pins s σ H xs us Q I r (z k2 k4)
        exact pe_callB cr (c.gl g2) c.isi (by decide +kernel) (pa_cons ha (pa_cons (pe_tup (pa_cons k1 (pa_cons k3 pa_nil))) pa_nil) (star_of (bnot g3))) (by decide +kernel) (by decide +kernel) (star_of (bnot g3)) (plain_of rfl)
    | _ => cases h
  | fld c1 k1 =>
    cases e with
    | Attribute a1 f pos =>
      cases h
      obtain ⟨h1, h2⟩ := and2 (show (decide (f = cfn c1 k1) && !isCall0 a) = true from ho)
      rw [show f = cfn c1 k1 from of_decide_eq_true h1]
      exact pe_fld ha (base_of (bnot h2))
    | _ => cases h
  | prop c1 nm i =>
    cases e with
    | Attribute a1 f pos =>
      cases h
      obtain ⟨h1, h2⟩ := and2 (show (decide (f = nm) && (!isCall0 a && (decide (F.f i = some (.pr c1 nm)) && F.cs c1))) = true from ho)
      obtain ⟨g2, h3⟩ := and2 h2
      obtain ⟨g3, g4⟩ := and2 h3
      rw [show f = nm from of_decide_eq_true h1]
      obtain ⟨q, f1, fd, ps, k1, k2, k3⟩ := c.prs i c1 nm (of_decide_eq_true g3)
      exact pe_propG (sp := Γ i) ha (c.cls c1 g4).1.cls k2 (calmG k1) c.room c.gd k3 (base_of (bnot g2))
    | _ => cases h
  | lenO c1 i =>
    cases e with
    | Call fe as ks pos =>
      match fe, as, ks, h, ho with
      | .Name x q, [a1], [], h, ho =>
        cases h
        obtain ⟨h1, h2⟩ := and2 (show (decide (x = "len") && (glB sc x && (!isStar a && (decide (F.f i = some (.mt c1 "__len__" [])) && F.cs c1)))) = true from ho)
        obtain ⟨g2, h3⟩ := and2 h2
        obtain ⟨g3, h4⟩ := and2 h3
        obtain ⟨g4, g5⟩ := and2 h4
        obtain rfl : x = "len" := of_decide_eq_true h1
        obtain ⟨f1, fd, ps, k1, k2, _, k4, _⟩ := c.mts i c1 _ _ (of_decide_eq_true g4)
        exact pe_callB (call_lenO (sp := Γ i) (c.cls c1 g5).1.cls k2 (calmG k1) c.room c.gd k4) (c.gl g2) (c.blt .len) (by decide +kernel) (pa_cons ha pa_nil (star_of (bnot g3))) (by decide +kernel) (by decide +kernel) (star_of (bnot g3)) (plain_of rfl)
    | _ => cases h
  | cb f =>
    cases e with
    | Call fe as ks pos =>
      match fe, as, ks, h, ho with
      | .Name x q, [a1], [], h, ho =>
        cases h
        obtain ⟨h1, h2⟩ := and2 (show (decide (F.f f = some (.fn x)) && (glB sc x && (okName x && noStar [a]))) = true from ho)
        obtain ⟨g2, h3⟩ := and2 h2
        obtain ⟨g3, g4⟩ := and2 h3
        obtain ⟨s1, s2⟩ := and2 (show (!isStar a && noStar []) = true from g4)
        obtain ⟨fa, fd, ps, k1, k2, k3, k4⟩ := c.fns f x (of_decide_eq_true h1)
        exact pe_callG k1 (c.room.mono (Nat.le_succ _)) c.gd (c.gl g2) k2 k3 k4 .nil (fun σ => passAt tk σ) (pa_cons ha pa_nil (star_of (bnot s1))) (okName_ok g3).1 (star_of (bnot s1)) (plain_of s2)
      | .Name x q, [a1, b1], [], h, ho => cases h
    | _ => cases h
  | gint _ _ => cases e <;> cases h
  | dct _ => exact absurd h (by unfold argsL; split <;> simp_all)
  | ixO _ _ => cases e <;> cases h
  | eqO _ _ _ =>
    cases e with
    | Compare a' ops bs pos =>
      match ops, bs, h with
      | [], _, h => cases h
      | [_], [], h => cases h
      | [_], [_], h => cases h
      | [_], _ :: _ :: _, h => cases h
      | _ :: _ :: _, _, h => cases h
    | _ => cases h
  | lzip => exact absurd h (by unfold argsL; split <;> simp_all)
  | sset =>
    match e, h, ho with
    | .Call (.Name x q1) [.Call (.Name y q2) [a1] [] p2] [] p1, h, ho =>
      cases h
      obtain ⟨h1, h2⟩ := and2 (show (decide (x = "sorted") && (glB sc x && (decide (y = "set") && (glB sc y && !isStar a)))) = true from ho)
      obtain ⟨g1, h3⟩ := and2 h2
      obtain ⟨h4, h5⟩ := and2 h3
      obtain ⟨g2, g3⟩ := and2 h5
      obtain rfl : x = "sorted" := of_decide_eq_true h1
      obtain rfl : y = "set" := of_decide_eq_true h4
      exact pe_sset c.calm (c.gl g1) (c.blt .sorted) (c.gl g2) c.set (pa_cons ha pa_nil (star_of (bnot g3))) (star_of (bnot g3))
  | lrng2 => exact absurd h (by unfold argsL; split <;> simp_all)
  | suml =>
    match e, h, ho with
    | .Call (.Name x q1) [a1, .List [] p2] [] p1, h, ho =>
      cases h
      obtain ⟨h1, h2⟩ := and2 (show (decide (x = "sum") && (glB sc x && !isStar a)) = true from ho)
      obtain ⟨g1, g3⟩ := and2 h2
      obtain rfl : x = "sum" := of_decide_eq_true h1
      exact pe_suml c.calm (c.gl g1) (c.blt .sum) ha (star_of (bnot g3)) (plain_of rfl)
  | lrng1 =>
    match e, h, ho with
    | .Call (.Name x q1) [.Call (.Name y q2) [a1] [] p2] [] p1, h, ho =>
      cases h
      obtain ⟨h1, h2⟩ := and2 (show (decide (x = "list") && (glB sc x && (decide (y = "range") && (glB sc y && !isStar a)))) = true from ho)
      obtain ⟨g1, h3⟩ := and2 h2
      obtain ⟨h4, h5⟩ := and2 h3
      obtain ⟨g2, g3⟩ := and2 h5
      obtain rfl : x = "list" := of_decide_eq_true h1
      obtain rfl : y = "range" := of_decide_eq_true h4
      exact pe_lrng1 c.calm (c.gl g1) (c.blt .list) (c.gl g2) c.rng (pa_cons ha pa_nil (star_of (bnot g3))) (star_of (bnot g3))
theorem subsO {b : Expr} (h : isSlice b = false) : ∀ i o, subscripted b true (.ref o) i = runValue (.builtin "lifetime.subscript" ⟨[.ref o, i], []⟩) := by
  intro i o
  cases b <;> first | rfl | cases h
theorem semA_cons {K : PySem.W.Frag} {ce : CE} {cs : List CE} {W : WX} (h : ∀ a, ce ≠ .star a) : semA Γ K (ce :: cs) W = tCons (semE Γ K ce W) (semA Γ K cs W) := by
  cases ce <;> first | (simp only [semA]; done) | exact absurd rfl (h _)
theorem no_star {sc : Scope} {ce : CE} {e : Expr} (h : chkE F N ce sc e = true) : ∀ a, ce ≠ .star a := by
  rintro a rfl
  simp only [chkE] at h
  cases h
theorem slots_in {t : CT} {own : List (Str × Nat)} (h : tgIn t own = true) : ∀ i ∈ t.slots, i ∈ own.map (·.2) := fun i hi => by
  have := List.all_eq_true.mp h i hi
  simpa using this
def isBO : Expr → Bool
  | .BoolOp _ _ _ => true
  | _ => false
theorem pr_nil {X : Cx} {sc : Scope} {W : WX} (c : Cok X Γ F N k sc) {p : Prm} {e : Expr} (h : (argsL p e).isNil = true) (ho : pOk F sc p e = true) : PE X e (fun σ H Q => spPr Γ X.K p [] H Q (WE W σ)) := by
  cases p with
  | gint x i =>
    cases e with
    | Name y q =>
      obtain ⟨h1, h2⟩ := and2 (show (decide (y = x) && (glB sc y && (okName y && decide (F.gi x = some i)))) = true from ho)
      obtain ⟨g2, h3⟩ := and2 h2
      obtain ⟨g3, g4⟩ := and2 h3
      obtain rfl : y = x := of_decide_eq_true h1
      obtain ⟨t, ht⟩ := c.gis y i (of_decide_eq_true g4)
      exact pe_glob (v := .int i) (c.gl g2) ht ⟨t, rfl⟩ (okName_ok g3).1
    | _ => cases h
  | dct ps =>
    match ps, e, ho with
    | [], .Dict [] [] _, _ => exact pe_dI0
    | [(i, j)], .Dict [some (.Constant (.int i2) _ _)] [.Constant (.int j2) _ _] _, ho =>
      obtain ⟨h1, h2⟩ := and2 (show (decide (i = i2) && decide (j = j2)) = true from ho)
      obtain rfl : i = i2 := of_decide_eq_true h1
      obtain rfl : j = j2 := of_decide_eq_true h2
      exact pe_dI1
  | _ => exact absurd h (by unfold argsL; split <;> simp_all [Ar.isNil])
theorem eqO_op {X : Cx} {sc : Scope} (c : Cok X Γ F N k sc) {op : CmpOp} {c1 i : Nat} {ng : Bool} (e1 : op = if ng then CmpOp.NotEq else .Eq) (g2 : decide (F.f i = some (.mt c1 "__eq__" [])) = true) (g3 : F.cs c1 = true) :
    OpB X (compareOp op) (fun x y H Q => ClsOk X.K c1 → rOwnEq X.K (ca X.K c1) (Γ i) ng x y H Q) := by
  obtain ⟨f1, fd, ps, k1, k2, k3, k4, _⟩ := c.mts i c1 _ _ (of_decide_eq_true g2)
  obtain ⟨cl, _⟩ := c.cls c1 g3
  intro pins s σ H x y v u Q I rx ry z
  cases ng with
  | false =>
    rw [e1]
    exact op_ownEq k2 (calmG k1) c.room c.gd k4 pins s σ H x y v u Q I rx ry (z cl)
  | true =>
    rw [e1]
    exact op_ownNe cl.ne.1 cl.ne.2 k2 (calmG k1) c.room c.gd k4 pins s σ H x y v u Q I rx ry (z cl)
theorem pr_two {X : Cx} {sc : Scope} {W : WX} (c : Cok X Γ F N k sc) (tk : Takes X W) {p : Prm} {e a b : Expr} {ta tb : TE} (h : argsL p e = .two a b) (ho : pOk F sc p e = true) (ha : PE X a ta) (hb : PE X b tb) :
    PE X e (fun σ H Q => ta σ H fun x H1 => tb σ H1 fun y H2 => spPr Γ X.K p [x, y] H2 Q (WE W σ)) := by
  cases p with
  | ixO c1 i =>
    cases e with
    | Subscript a' b' pos =>
      cases h
      obtain ⟨h1, h2⟩ := and2 (show (!isSlice b && (decide (F.f i = some (.mt c1 "__getitem__" [])) && F.cs c1)) = true from ho)
      obtain ⟨g2, g3⟩ := and2 h2
      obtain ⟨f1, fd, ps, k1, k2, k3, k4, _⟩ := c.mts i c1 _ _ (of_decide_eq_true g2)
      exact ix_own k2 k1 c.room c.gd k4 k3 ha hb (subsO (bnot h1)) (fun σ => passAt tk σ)
    | _ => cases h
  | eqO c1 i ng =>
    cases e with
    | Compare a' ops bs pos =>
      match ops, bs, h, ho with
      | [op], [b'], h, ho =>
        cases h
        obtain ⟨h1, h2⟩ := and2 (show (beqCmp op (if ng then .NotEq else .Eq) && (!isSet b && (decide (F.f i = some (.mt c1 "__eq__" [])) && F.cs c1))) = true from ho)
        obtain ⟨g1, h3⟩ := and2 h2
        obtain ⟨g2, g3⟩ := and2 h3
        exact pe_cmpR (eqO_op c (of_decide_eq_true h1) g2 g3).op ha hb (noset_of (bnot g1))
      | [], _, h, _ => cases h
      | _ :: _ :: _, _, h, _ => cases h
      | [_], [], h, _ => cases h
      | [_], _ :: _ :: _, h, _ => cases h
    | _ => cases h
  | lzip =>
    match e, h, ho with
    | .Call (.Name x q1) [.Call (.Name y q2) [a1, b1] [] p2] [] p1, h, ho =>
      cases h
      obtain ⟨h1, h2⟩ := and2 (show (decide (x = "list") && (glB sc x && (decide (y = "zip") && (glB sc y && (!isStar a && !isStar b))))) = true from ho)
      obtain ⟨g1, h3⟩ := and2 h2
      obtain ⟨h4, h5⟩ := and2 h3
      obtain ⟨g2, h6⟩ := and2 h5
      obtain ⟨g3, g4⟩ := and2 h6
      obtain rfl : x = "list" := of_decide_eq_true h1
      obtain rfl : y = "zip" := of_decide_eq_true h4
      exact pe_lzip c.calm (c.gl g1) (c.blt .list) (c.gl g2) c.zip (pa_cons ha (pa_cons hb pa_nil (star_of (bnot g4))) (star_of (bnot g3))) (star_of (bnot g3)) (plain_of (by show (!isStar b && true) = true; rw [bnot g4]; rfl))
  | lrng2 =>
    match e, h, ho with
    | .Call (.Name x q1) [.Call (.Name y q2) [a1, b1] [] p2] [] p1, h, ho =>
      cases h
      obtain ⟨h1, h2⟩ := and2 (show (decide (x = "list") && (glB sc x && (decide (y = "range") && (glB sc y && (!isStar a && !isStar b))))) = true from ho)
      obtain ⟨g1, h3⟩ := and2 h2
      obtain ⟨h4, h5⟩ := and2 h3
      obtain ⟨g2, h6⟩ := and2 h5
      obtain ⟨g3, g4⟩ := and2 h6
      obtain rfl : x = "list" := of_decide_eq_true h1
      obtain rfl : y = "range" := of_decide_eq_true h4
      exact pe_lrng2 c.calm (c.gl g1) (c.blt .list) (c.gl g2) c.rng (pa_cons ha (pa_cons hb pa_nil (star_of (bnot g4))) (star_of (bnot g3))) (by rw [star_of (bnot g3), star_of (bnot g4)] <;> rfl) (star_of (bnot g4))
  | cb f =>
    cases e with
    | Call fe as ks pos =>
      match fe, as, ks, h, ho with
      | .Name x q, [a1, b1], [], h, ho =>
        cases h
        obtain ⟨h1, h2⟩ := and2 (show (decide (F.f f = some (.fn x)) && (glB sc x && (okName x && noStar [a, b]))) = true from ho)
        obtain ⟨g2, h3⟩ := and2 h2
        obtain ⟨g3, g4⟩ := and2 h3
        obtain ⟨s1, s2⟩ := and2 (show (!isStar a && noStar [b]) = true from g4)
        obtain ⟨s3, s4⟩ := and2 (show (!isStar b && noStar []) = true from s2)
        obtain ⟨fa, fd, ps, k1, k2, k3, k4⟩ := c.fns f x (of_decide_eq_true h1)
        exact pe_callG k1 (c.room.mono (Nat.le_succ _)) c.gd (c.gl g2) k2 k3 k4 .nil (fun σ => passAt tk σ) (pa_cons ha (pa_cons hb pa_nil (star_of (bnot s3))) (star_of (bnot s1))) (okName_ok g3).1 (star_of (bnot s1)) (plain_of s2)
      | .Name x q, [a1], [], h, ho => cases h
    | _ => cases h
  | _ => exact absurd h (by unfold argsL; split <;> simp_all)
end
end LT

namespace LT
open PySem PySem.Spec PyProof.Rows L2
section
variable {Γ : Nat → Sp} {F : Fx} {N : List Str} {k : Nat}
theorem argsL_eq {c i : Nat} {ng : Bool} {e : Expr} : argsL (.eqO c i ng) e = .no ∨ ∃ a b, argsL (.eqO c i ng) e = .two a b := by
  cases e with
  | Compare a ops bs pos =>
    match ops, bs with
    | [], _ => exact .inl rfl
    | [_], [] => exact .inl rfl
    | [_], [b] => exact .inr ⟨_, _, rfl⟩
    | [_], _ :: _ :: _ => exact .inl rfl
    | _ :: _ :: _, _ => exact .inl rfl
  | _ => exact .inl rfl
mutual
theorem okE {X : Cx} {sc : Scope} {W : WX} (c : Cok X Γ F N k sc) (tk : Takes X W) : ∀ (ce : CE) (e : Expr), chkE F N ce sc e = true → PE X e (semE Γ X.K ce W)
  | .var i, e, h => by
    cases e with
    | Name x p =>
      obtain ⟨h1, h2⟩ := and2 (show (decide (N[i]? = some x) && (visB sc x && okName x)) = true from h)
      obtain ⟨h2, h3⟩ := and2 h2
      obtain ⟨h4, h5⟩ := okName_ok h3
      exact pe_var (by rw [c.hN]; exact of_decide_eq_true h1) (by rw [c.scope]; exact visB_ok h2) h4 h5
    | _ => cases h
  | .cst cc, e, h => by
    cases e with
    | Constant c2 i p =>
      have e1 : cc = c2 := of_decide_eq_true h
      subst e1
      cases cc with
      | int i => exact pe_int
      | bool b => exact pe_bl
      | none => exact pe_non
      | str s => exact pe_str
      | _ => exact ⟨fun _ _ _ _ _ _ z => z.elim⟩
    | _ => cases h
  | .tup es, e, h => by
    cases e with
    | Tuple es' i p => exact pe_tup (okA c tk es es' h)
    | _ => cases h
  | .lst es, e, h => by
    cases e with
    | List es' p => exact pe_lst (okA c tk es es' h)
    | _ => cases h
  | .bin op a b, e, h => by
    cases e with
    | BinOp a' op' b' p =>
      obtain ⟨h1, h2⟩ := and2 (show (beqOp op op' && (chkE F N a sc a' && chkE F N b sc b')) = true from h)
      obtain ⟨h2, h3⟩ := and2 h2
      have e1 : op = op' := of_decide_eq_true h1
      subst e1
      exact pe_op (binR op) (okE c tk a a' h2) (okE c tk b b' h3)
    | _ => cases h
  | .neg a, e, h => by
    cases e with
    | UnaryOp op a' p =>
      cases op with
      | USub => exact pe_un un_neg (okE c tk a a' h)
      | _ => cases h
    | _ => cases h
  | .notV a, e, h => by
    cases e with
    | UnaryOp op a' p =>
      cases op with
      | Not => exact pe_notT (okE c tk a a' h)
      | _ => cases h
    | _ => cases h
  | .andV a b, e, h => by
    cases e with
    | BoolOp op vs p =>
      cases op with
      | And =>
        match vs, h with
        | [a', b'], h =>
          obtain ⟨h1, h2⟩ := and2 (show (chkE F N a sc a' && chkE F N b sc b') = true from h)
          exact pe_andT (okE c tk a a' h1) (pe_one (okE c tk b b' h2))
        | a' :: b' :: c' :: rest, h =>
          obtain ⟨h1, h2⟩ := and2 (show (chkE F N a sc a' && chkE F N b sc (.BoolOp .And (b' :: c' :: rest) p)) = true from h)
          exact pe_andT (okE c tk a a' h1) (okE c tk b _ h2)
        | [], h => cases h
        | [_], h => cases h
      | Or => cases h
    | _ => cases h
  | .orV a b, e, h => by
    cases e with
    | BoolOp op vs p =>
      cases op with
      | Or =>
        match vs, h with
        | [a', b'], h =>
          obtain ⟨h1, h2⟩ := and2 (show (chkE F N a sc a' && chkE F N b sc b') = true from h)
          exact pe_orT (okE c tk a a' h1) (pe_one (okE c tk b b' h2))
        | a' :: b' :: c' :: rest, h =>
          obtain ⟨h1, h2⟩ := and2 (show (chkE F N a sc a' && chkE F N b sc (.BoolOp .Or (b' :: c' :: rest) p)) = true from h)
          exact pe_orT (okE c tk a a' h1) (okE c tk b _ h2)
        | [], h => cases h
        | [_], h => cases h
      | And => cases h
    | _ => cases h
  | .ite t a b, e, h => by
    cases e with
    | IfExp t' a' b' p =>
      obtain ⟨h1, h2⟩ := and2 (show (chkB F N t sc t' && (chkE F N a sc a' && chkE F N b sc b')) = true from h)
      obtain ⟨h2, h3⟩ := and2 h2
      exact pe_ifExp (okB c tk t t' h1).1 (okE c tk a a' h2) (okE c tk b b' h3)
    | _ => cases h
  | .cmp op a b, e, h => by
    cases e with
    | Compare a' ops bs p =>
      match ops, bs, h with
      | [op'], [b'], h =>
        obtain ⟨h1, h2⟩ := and2 (show (beqCmp op op' && (!isSet b' && (chkE F N a sc a' && chkE F N b sc b'))) = true from h)
        obtain ⟨h2, h3⟩ := and2 h2
        obtain ⟨h3, h4⟩ := and2 h3
        have e1 : op = op' := of_decide_eq_true h1
        subst e1
        exact pe_cmpR (cmpR c.room op) (okE c tk a a' h3) (okE c tk b b' h4) (noset_of (bnot h2))
      | [], _, h => cases h
      | _ :: _ :: _, _, h => cases h
      | [_], [], h => cases h
      | [_], _ :: _ :: _, h => cases h
    | _ => cases h
  | .chain o1 o2 a b d, e, h => by
    cases e with
    | Compare a' ops bs p =>
      match ops, bs, h with
      | [p1, p2], [b', d'], h =>
        obtain ⟨h1, h2⟩ := and2 (show (beqCmp o1 p1 && (beqCmp o2 p2 && (!isSet d' && (chkE F N a sc a' && (chkE F N b sc b' && chkE F N d sc d'))))) = true from h)
        obtain ⟨h2, h3⟩ := and2 h2
        obtain ⟨h3, h4⟩ := and2 h3
        obtain ⟨h4, h5⟩ := and2 h4
        obtain ⟨h5, h6⟩ := and2 h5
        have e1 : o1 = p1 := of_decide_eq_true h1
        have e2 : o2 = p2 := of_decide_eq_true h2
        subst e1 e2
        exact pe_chain (cmpR c.room o1) (cmpR c.room o2) (okE c tk a a' h4) (okE c tk b b' h5) (okE c tk d d' h6) (noset2_of (bnot h3))
      | [], _, h => cases h
      | [_], _, h => cases h
      | _ :: _ :: _ :: _, _, h => cases h
      | [_, _], [], h => cases h
      | [_, _], [_], h => cases h
      | [_, _], _ :: _ :: _ :: _, h => cases h
    | _ => cases h
  | .call f es, e, h => by
    cases e with
    | Call fe as ks p =>
      match fe, as, ks, h with
      | .Name x q, e1 :: es', [], h =>
        obtain ⟨h1, h2⟩ := and2 (show (decide (F.f f = some (.fn x)) && (glB sc x && (okName x && (noStar (e1 :: es') && chkA F N es sc (e1 :: es'))))) = true from h)
        obtain ⟨h2, h3⟩ := and2 h2
        obtain ⟨h3, h4⟩ := and2 h3
        obtain ⟨h4, h5⟩ := and2 h4
        obtain ⟨fa, fd, ps, g1, g2, g3, g4⟩ := c.fns f x (of_decide_eq_true h1)
        obtain ⟨s1, s2⟩ := and2 (show (!isStar e1 && noStar es') = true from h4)
        exact pe_callG g1 (c.room.mono (Nat.le_succ _)) c.gd (c.gl h2) g2 g3 g4 .nil (fun σ => passAt tk σ) (okA c tk es (e1 :: es') h5) (okName_ok h3).1 (star_of (bnot s1)) (plain_of s2)
    | _ => cases h
  | .blt b es, e, h => by
    cases e with
    | Call fe as ks p =>
      match fe, as, ks, h with
      | .Name x q, e1 :: es', [], h =>
        obtain ⟨h1, h2⟩ := and2 (show (decide (b.nm = x) && (glB sc x && (noStar (e1 :: es') && chkA F N es sc (e1 :: es')))) = true from h)
        obtain ⟨h2, h3⟩ := and2 h2
        obtain ⟨hs, h4⟩ := and2 h3
        have e2 : b.nm = x := of_decide_eq_true h1
        subst e2
        obtain ⟨s1, s2⟩ := and2 (show (!isStar e1 && noStar es') = true from hs)
        exact blt_ok c b (c.gl h2) (bnot s1) s2 (okA c tk es (e1 :: es') h4)
    | _ => cases h
  | .ix a b, e, h => by
    cases e with
    | Subscript a' b' p =>
      obtain ⟨h1, h2⟩ := and2 (show (!isSlice b' && (chkE F N a sc a' && chkE F N b sc b')) = true from h)
      obtain ⟨h2, h3⟩ := and2 h2
      exact pe_ix ix_seq (okE c tk a a' h2) (okE c tk b b' h3) (plainIx_of (bnot h1))
    | _ => cases h
  | .slA a, e, h => by
    cases e with
    | Subscript a' s p =>
      match s, h with
      | .Slice none none none q, h => exact pe_slice (sl_list.or (sl_tupA.or sl_str)) (okE c tk a a' h) po_none po_none
    | _ => cases h
  | .slF a lo, e, h => by
    cases e with
    | Subscript a' s p =>
      match s, h with
      | .Slice (some lo') none none q, h =>
        obtain ⟨h1, h2⟩ := and2 (show (chkE F N a sc a' && chkE F N lo sc lo') = true from h)
        exact pe_slice (sl_list.or (sl_tupA.or sl_str)) (okE c tk a a' h1) (po_some (okE c tk lo lo' h2)) po_none
    | _ => cases h
  | .slT a hi, e, h => by
    cases e with
    | Subscript a' s p =>
      match s, h with
      | .Slice none (some hi') none q, h =>
        obtain ⟨h1, h2⟩ := and2 (show (chkE F N a sc a' && chkE F N hi sc hi') = true from h)
        exact pe_slice (sl_list.or (sl_tupA.or sl_str)) (okE c tk a a' h1) po_none (po_some (okE c tk hi hi' h2))
    | _ => cases h
  | .slFT a lo hi, e, h => by
    cases e with
    | Subscript a' s p =>
      match s, h with
      | .Slice (some lo') (some hi') none q, h =>
        obtain ⟨h1, h2⟩ := and2 (show (chkE F N a sc a' && (chkE F N lo sc lo' && chkE F N hi sc hi')) = true from h)
        obtain ⟨h2, h3⟩ := and2 h2
        exact pe_slice (sl_list.or (sl_tupA.or sl_str)) (okE c tk a a' h1) (po_some (okE c tk lo lo' h2)) (po_some (okE c tk hi hi' h3))
    | _ => cases h
  | .rev a, e, h => by
    cases e with
    | Subscript a' s p =>
      match s, h with
      | .Slice none none (some (.UnaryOp .USub (.Constant cc i p1) p2)) q, h =>
        obtain ⟨h1, h2⟩ := and2 (show (decide (cc = .int 1) && chkE F N a sc a') = true from h)
        have e1 : cc = .int 1 := of_decide_eq_true h1
        subst e1
        exact pe_revL (okE c tk a a' h2)
    | _ => cases h
  | .bm m o es, e, h => by
    cases e with
    | Call fe as ks p =>
      match fe, as, ks, h with
      | .Attribute o' x p1, e1 :: es', [], h =>
        obtain ⟨h1, h2⟩ := and2 (show (decide (m.nm = x) && (!isCall0 o' && ((p1.endLine == p.line) && (decide (es'.length < 20) && (chkE F N o sc o' && (noStar (e1 :: es') && chkA F N es sc (e1 :: es'))))))) = true from h)
        obtain ⟨h2, h3⟩ := and2 h2
        obtain ⟨h3, h4⟩ := and2 h3
        obtain ⟨h4, h5⟩ := and2 h4
        obtain ⟨h5, h6⟩ := and2 h5
        obtain ⟨hs, h6⟩ := and2 h6
        have e2 : m.nm = x := of_decide_eq_true h1
        subst e2
        obtain ⟨s1, s2⟩ := and2 (show (!isStar e1 && noStar es') = true from hs)
        exact mt_ok m (okE c tk o o' h5) (okA c tk es (e1 :: es') h6) (bnot h2) h3 (bnot s1) s2 (of_decide_eq_true h4)
    | _ => cases h
  | .lc elt tg it own, e, h => by
    cases e with
    | ListComp elt' gs scope p =>
      match gs, h with
      | [⟨tg', it', [], as⟩], h =>
        obtain ⟨h2, h3⟩ := and2 (show (decide (as = 0) && (!isSet it' && (blkC N sc scope own && (chkT N (fbOf scope) (relab scope sc) tg tg' && (chkI F N it sc tg' it' && chkE F N elt (relab scope sc) elt'))))) = true from h)
        obtain ⟨h3, h4⟩ := and2 h3
        obtain ⟨h4, h5⟩ := and2 h4
        obtain ⟨h5, h6⟩ := and2 h5
        obtain ⟨h6, h7⟩ := and2 h6
        have e2 : as = 0 := of_decide_eq_true h2
        subst e2
        exact pe_lc c.calm (by rw [c.hN]; exact c.nd) (okI c tk it tg' it' h6) (by rw [c.hN, c.scope]; exact blkOk_by h4) (fun s H C cl fp => okT (c.blk s H scope C cl fp) (fun _ z => z) tg tg' h5)
          (fun _ _ _ _ _ => pts_nil) (fun s H C cl fp => okE (W := W0) (c.blk s H scope C cl fp) takes0 elt elt' h7) (fun x => fold_of (bnot h3) x)
    | _ => cases h
  | .lcIf elt tg it t own, e, h => by
    cases e with
    | ListComp elt' gs scope p =>
      match gs, h with
      | [⟨tg', it', [t'], as⟩], h =>
        obtain ⟨h2, h3⟩ := and2 (show (decide (as = 0) && (!isSet it' && (blkC N sc scope own && (chkT N (fbOf scope) (relab scope sc) tg tg' && (chkI F N it sc tg' it' && (chkB F N t (relab scope sc) t' && chkE F N elt (relab scope sc) elt')))))) = true from h)
        obtain ⟨h3, h4⟩ := and2 h3
        obtain ⟨h4, h5⟩ := and2 h4
        obtain ⟨h5, h6⟩ := and2 h5
        obtain ⟨h6, h7⟩ := and2 h6
        obtain ⟨h7, h8⟩ := and2 h7
        have e2 : as = 0 := of_decide_eq_true h2
        subst e2
        exact pe_lc c.calm (by rw [c.hN]; exact c.nd) (okI c tk it tg' it' h6) (by rw [c.hN, c.scope]; exact blkOk_by h4) (fun s H C cl fp => okT (c.blk s H scope C cl fp) (fun _ z => z) tg tg' h5)
          (fun s H C cl fp => pts_one (okB (W := W0) (c.blk s H scope C cl fp) takes0 t t' h7).1) (fun s H C cl fp => okE (W := W0) (c.blk s H scope C cl fp) takes0 elt elt' h8) (fun x => fold_of (bnot h3) x)
    | _ => cases h
  | .cold a, e, h => okE c tk a e (and2 (show (!isLComp e && chkE F N a sc e) = true from h)).2
  | .lc2 elt tg it tg1 it1 own, e, h => by
    cases e with
    | ListComp elt' gs scope p =>
      match gs, h with
      | [⟨tg', it', [], as⟩, ⟨tg1', it1', [], as1⟩], h =>
        obtain ⟨h2, h3⟩ := and2 (show (decide (as = 0) && (decide (as1 = 0) && (!isSet it' && (!isSet it1' && (blkC N sc scope own && (tgIn tg1 own && (chkT N (fbOf scope) (relab scope sc) tg tg' && (chkT N (fbOf scope) (relab scope sc) tg1 tg1' && (chkI F N it sc tg' it' && (chkI F N it1 (relab scope sc) tg1' it1' && chkE F N elt (relab scope sc) elt')))))))))) = true from h)
        obtain ⟨h1, h3⟩ := and2 h3
        obtain ⟨h4, h5⟩ := and2 h3
        obtain ⟨h6, h7⟩ := and2 h5
        obtain ⟨h8, h9⟩ := and2 h7
        obtain ⟨k0, k1⟩ := and2 h9
        obtain ⟨k2, k3⟩ := and2 k1
        obtain ⟨k4, k5⟩ := and2 k3
        obtain ⟨k6, k7⟩ := and2 k5
        obtain ⟨k8, k9⟩ := and2 k7
        obtain rfl : as = 0 := of_decide_eq_true h2
        obtain rfl : as1 = 0 := of_decide_eq_true h1
        exact pe_lc2 c.calm (by rw [c.hN]; exact c.nd) (okI c tk it tg' it' k6) (by rw [c.hN, c.scope]; exact blkOk_by h8) (slots_in k0) (fun s H C cl fp => okT (c.blk s H scope C cl fp) (fun _ z => z) tg tg' k2)
          (fun _ _ _ _ _ => pts_nil) (fun s H C cl fp => okI (W := W0) (c.blk s H scope C cl fp) takes0 it1 tg1' it1' k8) (fun s H C cl fp => okT (c.blk s H scope C cl fp) (fun _ z => z) tg1 tg1' k4) (fun _ _ _ _ _ => pts_nil) (fun s H C cl fp => okE (W := W0) (c.blk s H scope C cl fp) takes0 elt elt' k9) (fun x => fold_of (bnot h4) x) (fun _ x => fold_of (bnot h6) x)
    | _ => cases h
  | .lc2If elt tg it tg1 it1 t own, e, h => by
    cases e with
    | ListComp elt' gs scope p =>
      match gs, h with
      | [⟨tg', it', [], as⟩, ⟨tg1', it1', [t'], as1⟩], h =>
        obtain ⟨h2, h3⟩ := and2 (show (decide (as = 0) && (decide (as1 = 0) && (!isSet it' && (!isSet it1' && (blkC N sc scope own && (tgIn tg1 own && (chkT N (fbOf scope) (relab scope sc) tg tg' && (chkT N (fbOf scope) (relab scope sc) tg1 tg1' && (chkI F N it sc tg' it' && (chkI F N it1 (relab scope sc) tg1' it1' && (chkB F N t (relab scope sc) t' && chkE F N elt (relab scope sc) elt'))))))))))) = true from h)
        obtain ⟨h1, h3⟩ := and2 h3
        obtain ⟨h4, h5⟩ := and2 h3
        obtain ⟨h6, h7⟩ := and2 h5
        obtain ⟨h8, h9⟩ := and2 h7
        obtain ⟨k0, k1⟩ := and2 h9
        obtain ⟨k2, k3⟩ := and2 k1
        obtain ⟨k4, k5⟩ := and2 k3
        obtain ⟨k6, k7⟩ := and2 k5
        obtain ⟨k8, k9⟩ := and2 k7
        obtain ⟨j1, j2⟩ := and2 k9
        obtain rfl : as = 0 := of_decide_eq_true h2
        obtain rfl : as1 = 0 := of_decide_eq_true h1
        exact pe_lc2 c.calm (by rw [c.hN]; exact c.nd) (okI c tk it tg' it' k6) (by rw [c.hN, c.scope]; exact blkOk_by h8) (slots_in k0) (fun s H C cl fp => okT (c.blk s H scope C cl fp) (fun _ z => z) tg tg' k2)
          (fun _ _ _ _ _ => pts_nil) (fun s H C cl fp => okI (W := W0) (c.blk s H scope C cl fp) takes0 it1 tg1' it1' k8) (fun s H C cl fp => okT (c.blk s H scope C cl fp) (fun _ z => z) tg1 tg1' k4) (fun s H C cl fp => pts_one (okB (W := W0) (c.blk s H scope C cl fp) takes0 t t' j1).1) (fun s H C cl fp => okE (W := W0) (c.blk s H scope C cl fp) takes0 elt elt' j2) (fun x => fold_of (bnot h4) x) (fun _ x => fold_of (bnot h6) x)
    | _ => cases h
  | .ssc elt tg it own, e, h => by
    cases e with
    | Call fe as ks p =>
      match fe, as, ks, h with
      | .Name x q, [.SetComp elt' [⟨tg', it', [], as⟩] scope p2], [], h =>
        obtain ⟨h1, h2⟩ := and2 (show (decide (x = "sorted") && (glB sc x && (decide (as = 0) && (!isSet it' && (blkC N sc scope own && (chkT N (fbOf scope) (relab scope sc) tg tg' && (chkI F N it sc tg' it' && chkE F N elt (relab scope sc) elt'))))))) = true from h)
        obtain ⟨g1, z2⟩ := and2 h2
        obtain ⟨z3, z4⟩ := and2 z2
        obtain ⟨z5, z6⟩ := and2 z4
        obtain ⟨z7, z8⟩ := and2 z6
        obtain ⟨z9, y1⟩ := and2 z8
        obtain ⟨y2, y3⟩ := and2 y1
        obtain rfl : x = "sorted" := of_decide_eq_true h1
        obtain rfl : as = 0 := of_decide_eq_true z3
        exact pe_ssc c.calm (c.gl g1) (c.blt .sorted) (by rw [c.hN]; exact c.nd) (okI c tk it tg' it' y2) (by rw [c.hN, c.scope]; exact blkOk_by z7) (fun s H C cl fp => okT (c.blk s H scope C cl fp) (fun _ z => z) tg tg' z9)
          (fun _ _ _ _ _ => pts_nil) (fun s H C cl fp => okE (W := W0) (c.blk s H scope C cl fp) takes0 elt elt' y3) (fun x => fold_of (bnot z5) x)
    | _ => cases h
  | .star a, e, h => by
    simp only [chkE] at h
    cases h
  | .prim p [], e, h => by
    obtain ⟨h1, h2⟩ := and2 (show (pOk F sc p e && (argsL p e).isNil) = true from h)
    exact pr_nil c h2 h1
  | .prim p [a], e, h => by
    obtain ⟨h1, h2⟩ := and2 (show (pOk F sc p e && (match argsL p e with
      | .one a' => chkE F N a sc a'
      | _ => false)) = true from h)
    cases q : argsL p e with
    | one a' =>
      rw [q] at h2
      simp only [semE, semA_cons (no_star h2), semA]
      exact pr_one c tk q h1 (okE c tk a a' h2)
    | _ =>
      rw [q] at h2
      cases h2
  | .prim p [a, b], e, h => by
    obtain ⟨h1, h2⟩ := and2 (show (pOk F sc p e && (match argsL p e with
      | .two a' b' => chkE F N a sc a' && chkE F N b sc b'
      | _ => false)) = true from h)
    cases q : argsL p e with
    | two a' b' =>
      rw [q] at h2
      obtain ⟨h3, h4⟩ := and2 (show (chkE F N a sc a' && chkE F N b sc b') = true from h2)
      simp only [semE, semA_cons (no_star h3), semA_cons (no_star h4), semA]
      exact pr_two c tk q h1 (okE c tk a a' h3) (okE c tk b b' h4)
    | _ =>
      rw [q] at h2
      cases h2
  | .prim p (_ :: _ :: _ :: _), e, h => by cases h
  | .meth c1 nm i o es, e, h => by
    cases e with
    | Call fe as ks p =>
      match fe, ks, h with
      | .Attribute o' x p1, [], h =>
        obtain ⟨h1, h2⟩ := and2 (show (decide (x = nm) && (!(cfl c1).contains nm && (decide (F.f i = some (.mt c1 nm [])) && (F.cs c1 && (!isCall0 o' && ((p1.endLine == p.line) && (decide (as.length < 20) && (chkE F N o sc o' && (noStar as && chkA F N es sc as))))))))) = true from h)
        obtain ⟨g1, h2⟩ := and2 h2
        have hfl : nm ∉ cfl c1 := by simpa using bnot g1
        obtain ⟨g2, h3⟩ := and2 h2
        obtain ⟨g3, h4⟩ := and2 h3
        obtain ⟨u1, h4⟩ := and2 h4
        obtain ⟨u2, h4⟩ := and2 h4
        obtain ⟨u3, h4⟩ := and2 h4
        obtain ⟨g4, h5⟩ := and2 h4
        obtain ⟨g5, g6⟩ := and2 h5
        obtain ⟨f1, fd, ps, k1, k2, _, k4, _⟩ := c.mts i c1 _ _ (of_decide_eq_true g2)
        rw [show x = nm from of_decide_eq_true h1]
        cases as with
        | nil =>
          cases es with
          | nil => exact pe_methSD0 hfl (okE c tk o o' g4) (c.cls c1 g3).1.cls k2 k1 (c.room.mono (Nat.le_succ _)) c.gd k4 (fun σ => passAt tk σ) (meth_eval (bnot u1) u2 g5 (of_decide_eq_true u3))
          | cons q qs => exact absurd g6 (by cases q <;> simp [chkA])
        | cons e1 es' =>
          obtain ⟨s1, s2⟩ := and2 (show (!isStar e1 && noStar es') = true from g5)
          exact pe_methSD hfl (okE c tk o o' g4) (c.cls c1 g3).1.cls k2 k1 (c.room.mono (Nat.le_succ _)) c.gd k4 (fun σ => passAt tk σ) (okA c tk es (e1 :: es') g6) (star_of (bnot s1)) (plain_of s2) (meth_eval (bnot u1) u2 g5 (of_decide_eq_true u3))
    | _ => cases h
  | .make c1 i es df, e, h => by
    cases e with
    | Call fe as ks p =>
      match fe, as, ks, h with
      | .Name x q, e1 :: es', [], h =>
        obtain ⟨h1, h2⟩ := and2 (show (decide (x = cnm c1) && (glB sc x && (okName x && (F.cs c1 && ((match F.f i with
          | some (.mt c' y dfl) => decide (c' = c1) && (decide (y = "__init__") && (decide (df = []) || decide (df = dfl)))
          | _ => false) && (noStar (e1 :: es') && chkA F N es sc (e1 :: es'))))))) = true from h)
        obtain ⟨g2, h3⟩ := and2 h2
        obtain ⟨g3, h4⟩ := and2 h3
        obtain ⟨g4, h5⟩ := and2 h4
        obtain ⟨g5, h6⟩ := and2 h5
        obtain ⟨g6, g7⟩ := and2 h6
        obtain ⟨s1, s2⟩ := and2 (show (!isStar e1 && noStar es') = true from g6)
        obtain ⟨k1, k2⟩ := c.cls c1 g4
        cases hf : F.f i with
        | none =>
          rw [hf] at g5
          cases g5
        | some fk =>
          rw [hf] at g5
          cases fk with
          | mt c' y dfl =>
            obtain ⟨j1, j2⟩ := and2 (show (decide (c' = c1) && (decide (y = "__init__") && (decide (df = []) || decide (df = dfl)))) = true from g5)
            obtain ⟨j2, j3⟩ := and2 j2
            obtain rfl : c' = c1 := of_decide_eq_true j1
            obtain rfl : y = "__init__" := of_decide_eq_true j2
            obtain ⟨f1, fd, ps, l1, l2, l3, l4, l5⟩ := c.mts i _ _ _ hf
            obtain ⟨l6, l7, ds, l8, l9⟩ := l5 rfl
            have key : ∃ ds, Vals (dfs X.K c' df 0) ds ∧ L2.Binds X.K fd ps ds ∧ dfsOk X.K c' df 0 := by
              rcases Bool.or_eq_true_iff.mp j3 with z | z
              · rw [show df = [] from of_decide_eq_true z]
                exact ⟨[], .nil, l4, trivial⟩
              · rw [show df = dfl from of_decide_eq_true z]
                exact ⟨ds, l8, l9, l7⟩
            obtain ⟨ds2, m1, m2, m3⟩ := key
            have hx : x = cnm c' := of_decide_eq_true h1
            exact PE.imp (pe_makeSD l6 l1 c.room c.gd (c.gl g2) (by rw [hx]; exact k2) m2 m1 (fun σ => passAt tk σ) (okA c tk es (e1 :: es') g7) (okName_ok g3).1 (star_of (bnot s1)) (plain_of s2)) fun σ H Q z => z k1 m3
          | _ => cases g5
    | _ => cases h
theorem okA {X : Cx} {sc : Scope} {W : WX} (c : Cok X Γ F N k sc) (tk : Takes X W) : ∀ (cs : List CE) (es : List Expr), chkA F N cs sc es = true → PA X es (semA Γ X.K cs W)
  | [], es, h => by
    cases es with
    | nil => exact pa_nil
    | cons _ _ => cases h
  | ce :: cs, es, h => by
    by_cases hs : ∃ a, ce = .star a
    · obtain ⟨a, rfl⟩ := hs
      cases es with
      | nil => cases h
      | cons e es =>
        cases e with
        | Starred e' p =>
          obtain ⟨h1, h2⟩ := and2 (show (chkE F N a sc e' && chkA F N cs sc es) = true from h)
          exact StX.pa_star (okE c tk a e' h1) (okA c tk cs es h2)
        | _ => cases h
    · have hn : ∀ a, ce ≠ .star a := fun a z => hs ⟨a, z⟩
      rw [semA_cons hn]
      cases es with
      | nil => exact absurd h (by cases ce <;> first | exact absurd rfl (hn _) | simp [chkA])
      | cons e es =>
        have h' : (!isStar e && (chkE F N ce sc e && chkA F N cs sc es)) = true := by
          cases ce <;> first | exact absurd rfl (hn _) | simpa only [chkA] using h
        obtain ⟨h1, h2⟩ := and2 h'
        obtain ⟨h2, h3⟩ := and2 h2
        exact pa_cons (okE c tk ce e h2) (okA c tk cs es h3) (star_of (bnot h1))
theorem okB {X : Cx} {sc : Scope} {W : WX} (c : Cok X Γ F N k sc) (tk : Takes X W) : ∀ (ce : CB) (e : Expr), chkB F N ce sc e = true → PT X e (semB Γ X.K ce W) ∧ (isBO e = true → PW X e (semB Γ X.K ce W))
  | .not a, e, h => by
    cases e with
    | UnaryOp op a' p =>
      cases op with
      | Not => exact ⟨pt_not (okB c tk a a' h).1, fun z => nomatch z⟩
      | _ => cases h
    | _ => cases h
  | .and a b, e, h => by
    cases e with
    | BoolOp op vs p =>
      cases op with
      | And =>
        have key : PW X (.BoolOp .And vs p) (tAnd (semB Γ X.K a W) (semB Γ X.K b W)) := by
          match vs, h with
          | [a', b'], h =>
            obtain ⟨h1, h2⟩ := and2 (show (chkB F N a sc a' && chkB F N b sc b') = true from h)
            exact pw_and (okB c tk a a' h1).1 (pw_and1 (okB c tk b b' h2).1)
          | a' :: b' :: c' :: rest, h =>
            obtain ⟨h1, h2⟩ := and2 (show (chkB F N a sc a' && chkB F N b sc (.BoolOp .And (b' :: c' :: rest) p)) = true from h)
            exact pw_and (okB c tk a a' h1).1 ((okB c tk b _ h2).2 rfl)
          | [], h => cases h
          | [_], h => cases h
        exact ⟨key.pt, fun _ => key⟩
      | Or => cases h
    | _ => cases h
  | .or a b, e, h => by
    cases e with
    | BoolOp op vs p =>
      cases op with
      | Or =>
        have key : PW X (.BoolOp .Or vs p) (tOr (semB Γ X.K a W) (semB Γ X.K b W)) := by
          match vs, h with
          | [a', b'], h =>
            obtain ⟨h1, h2⟩ := and2 (show (chkB F N a sc a' && chkB F N b sc b') = true from h)
            exact pw_or (okB c tk a a' h1).1 (pw_or1 (okB c tk b b' h2).1)
          | a' :: b' :: c' :: rest, h =>
            obtain ⟨h1, h2⟩ := and2 (show (chkB F N a sc a' && chkB F N b sc (.BoolOp .Or (b' :: c' :: rest) p)) = true from h)
            exact pw_or (okB c tk a a' h1).1 ((okB c tk b _ h2).2 rfl)
          | [], h => cases h
          | [_], h => cases h
        exact ⟨key.pt, fun _ => key⟩
      | And => cases h
    | _ => cases h
  | .cmp op a b, e, h => by
    cases e with
    | Compare a' ops bs p =>
      match ops, bs, h with
      | [op'], [b'], h =>
        obtain ⟨h1, h2⟩ := and2 (show (beqCmp op op' && (!isSet b' && (chkE F N a sc a' && chkE F N b sc b'))) = true from h)
        obtain ⟨h2, h3⟩ := and2 h2
        obtain ⟨h3, h4⟩ := and2 h3
        have e1 : op = op' := of_decide_eq_true h1
        subst e1
        exact ⟨pt_cmpR (cmpR c.room op) (okE c tk a a' h3) (okE c tk b b' h4) (noset_of (bnot h2)), fun z => nomatch z⟩
      | [], _, h => cases h
      | _ :: _ :: _, _, h => cases h
      | [_], [], h => cases h
      | [_], _ :: _ :: _, h => cases h
    | _ => cases h
  | .chain o1 o2 a b d, e, h => by
    cases e with
    | Compare a' ops bs p =>
      match ops, bs, h with
      | [p1, p2], [b', d'], h =>
        obtain ⟨h1, h2⟩ := and2 (show (beqCmp o1 p1 && (beqCmp o2 p2 && (!isSet d' && (chkE F N a sc a' && (chkE F N b sc b' && chkE F N d sc d'))))) = true from h)
        obtain ⟨h2, h3⟩ := and2 h2
        obtain ⟨h3, h4⟩ := and2 h3
        obtain ⟨h4, h5⟩ := and2 h4
        obtain ⟨h5, h6⟩ := and2 h5
        have e1 : o1 = p1 := of_decide_eq_true h1
        have e2 : o2 = p2 := of_decide_eq_true h2
        subst e1 e2
        exact ⟨pt_chain (cmpR c.room o1) (cmpR c.room o2) (okE c tk a a' h4) (okE c tk b b' h5) (okE c tk d d' h6) (noset2_of (bnot h3)), fun z => nomatch z⟩
      | [], _, h => cases h
      | [_], _, h => cases h
      | _ :: _ :: _ :: _, _, h => cases h
      | [_, _], [], h => cases h
      | [_, _], [_], h => cases h
      | [_, _], _ :: _ :: _ :: _, h => cases h
    | _ => cases h
  | .tru a, e, h => by
    obtain ⟨h1, h2⟩ := and2 (show ((plainTest e || isEqO a) && chkE F N a sc e) = true from h)
    rcases Bool.or_eq_true_iff.mp h1 with h1 | h1
    · refine ⟨pt_truth (okE c tk a e h2) (test_of h1), fun z => ?_⟩
      cases e <;> first | (cases h1; done) | (cases z; done)
    · match a, e, h1, h2 with
      | .prim (.eqO c1 i ng) [a1, b1], .Compare a' [op] [b'] pos, _, h2 =>
        obtain ⟨h2, h3⟩ := and2 (show (pOk F sc (.eqO c1 i ng) (.Compare a' [op] [b'] pos) && (chkE F N a1 sc a' && chkE F N b1 sc b')) = true from h2)
        obtain ⟨h3, h4⟩ := and2 h3
        obtain ⟨g1, g2⟩ := and2 (show (beqCmp op (if ng then .NotEq else .Eq) && (!isSet b' && (decide (F.f i = some (.mt c1 "__eq__" [])) && F.cs c1))) = true from h2)
        obtain ⟨g2, g3⟩ := and2 g2
        obtain ⟨g3, g4⟩ := and2 g3
        refine ⟨?_, fun z => nomatch z⟩
        have q := pt_cmpB (pos := pos) (eqO_op c (of_decide_eq_true g1) g3 g4) (okE c tk a1 a' h3) (okE c tk b1 b' h4) (noset_of (bnot g2))
        simp only [semB, semE, semA_cons (no_star h3), semA_cons (no_star h4), semA]
        exact q
      | .prim (.eqO c1 i ng) [], e, _, h2 =>
        obtain ⟨_, z⟩ := and2 (show (pOk F sc (.eqO c1 i ng) e && (argsL (.eqO c1 i ng) e).isNil) = true from h2)
        rcases argsL_eq (c := c1) (i := i) (ng := ng) (e := e) with q | ⟨_, _, q⟩ <;> (rw [q] at z; cases z)
      | .prim (.eqO c1 i ng) [a1], e, _, h2 =>
        obtain ⟨_, z⟩ := and2 (show (pOk F sc (.eqO c1 i ng) e && (match argsL (.eqO c1 i ng) e with
          | .one a' => chkE F N a1 sc a'
          | _ => false)) = true from h2)
        rcases argsL_eq (c := c1) (i := i) (ng := ng) (e := e) with q | ⟨_, _, q⟩ <;> (rw [q] at z; cases z)
      | .prim (.eqO _ _ _) (_ :: _ :: _ :: _), _, _, h2 => cases h2
theorem okI {X : Cx} {sc : Scope} {W : WX} (c : Cok X Γ F N k sc) (tk : Takes X W) : ∀ (ci : CI) (tg e : Expr), chkI F N ci sc tg e = true → PI X tg e (semI Γ X.K ci W)
  | .seq a, tg, e, h => PI.or (pi_list (okE c tk a e h)) (PI.or (pi_tup (okE c tk a e h)) (pi_str (okE c tk a e h)))
  | .rng1 a, tg, e, h => by
    cases e with
    | Call fe as ks p =>
      match fe, as, ks, h with
      | .Name x q, [a'], [], h =>
        obtain ⟨h1, h2⟩ := and2 (show (decide (x = "range") && (glB sc x && (!isStar a' && chkE F N a sc a'))) = true from h)
        obtain ⟨h2, h3⟩ := and2 h2
        obtain ⟨h3, h4⟩ := and2 h3
        have e2 : x = "range" := of_decide_eq_true h1
        subst e2
        exact pj_range1 (c.gl h2) c.rng (pa_cons (okE c tk a a' h4) pa_nil (star_of (bnot h3))) (star_of (bnot h3))
    | _ => cases h
  | .rng2 a b, tg, e, h => by
    cases e with
    | Call fe as ks p =>
      match fe, as, ks, h with
      | .Name x q, [a', b'], [], h =>
        obtain ⟨h1, h2⟩ := and2 (show (decide (x = "range") && (glB sc x && (!isStar a' && (!isStar b' && (chkE F N a sc a' && chkE F N b sc b'))))) = true from h)
        obtain ⟨h2, h3⟩ := and2 h2
        obtain ⟨h3, h4⟩ := and2 h3
        obtain ⟨h4, h5⟩ := and2 h4
        obtain ⟨h5, h6⟩ := and2 h5
        have e2 : x = "range" := of_decide_eq_true h1
        subst e2
        exact pj_range2 (c.gl h2) c.rng (pa_cons (okE c tk a a' h5) (pa_cons (okE c tk b b' h6) pa_nil (star_of (bnot h4))) (star_of (bnot h3))) (by rw [star_of (bnot h3), star_of (bnot h4)] <;> rfl) (star_of (bnot h4))
    | _ => cases h
  | .enum a, tg, e, h => by
    cases tg with
    | Tuple elts kk tpos =>
      cases e with
      | Call fe as ks p =>
        match fe, as, ks, h with
        | .Name x q, [a'], [], h =>
          obtain ⟨h1, h2⟩ := and2 (show (decide (x = "enumerate") && (glB sc x && (!isStar a' && chkE F N a sc a'))) = true from h)
          obtain ⟨h2, h3⟩ := and2 h2
          obtain ⟨h3, h4⟩ := and2 h3
          have e2 : x = "enumerate" := of_decide_eq_true h1
          subst e2
          have pa := pa_cons (okE c tk a a' h4) pa_nil (star_of (bnot h3))
          exact PI.or (pi_enum (c.gl h2) c.enu pa (star_of (bnot h3))) (pi_enumT (c.gl h2) c.enu pa (star_of (bnot h3)))
      | _ => cases h
    | _ => cases h
  | .zip a b, tg, e, h => by
    cases tg with
    | Tuple elts kk tpos =>
      cases e with
      | Call fe as ks p =>
        match fe, as, ks, h with
        | .Name x q, [a', b'], [], h =>
          obtain ⟨h1, h2⟩ := and2 (show (decide (x = "zip") && (glB sc x && (!isStar a' && (!isStar b' && (chkE F N a sc a' && chkE F N b sc b'))))) = true from h)
          obtain ⟨h2, h3⟩ := and2 h2
          obtain ⟨h3, h4⟩ := and2 h3
          obtain ⟨h4, h5⟩ := and2 h4
          obtain ⟨h5, h6⟩ := and2 h5
          have e2 : x = "zip" := of_decide_eq_true h1
          subst e2
          exact pi_zip (c.gl h2) c.zip (pa_cons (okE c tk a a' h5) (pa_cons (okE c tk b b' h6) pa_nil (star_of (bnot h4))) (star_of (bnot h3))) (star_of (bnot h3)) (plain_of (by show (!isStar b' && true) = true; rw [bnot h4]; rfl))
      | _ => cases h
    | _ => cases h
  | .zip3 a b d, tg, e, h => by
    cases tg with
    | Tuple elts kk tpos =>
      cases e with
      | Call fe as ks p =>
        match fe, as, ks, h with
        | .Name x q, [a', b', d'], [], h =>
          obtain ⟨h1, h2⟩ := and2 (show (decide (x = "zip") && (glB sc x && (!isStar a' && (!isStar b' && (!isStar d' && (chkE F N a sc a' && (chkE F N b sc b' && chkE F N d sc d'))))))) = true from h)
          obtain ⟨h2, h3⟩ := and2 h2
          obtain ⟨h3, h4⟩ := and2 h3
          obtain ⟨h4, h5⟩ := and2 h4
          obtain ⟨h5, h6⟩ := and2 h5
          obtain ⟨h6, h7⟩ := and2 h6
          obtain ⟨h7, h8⟩ := and2 h7
          have e2 : x = "zip" := of_decide_eq_true h1
          subst e2
          exact pi_zip3 (c.gl h2) c.zip (pa_cons (okE c tk a a' h6) (pa_cons (okE c tk b b' h7) (pa_cons (okE c tk d d' h8) pa_nil (star_of (bnot h5))) (star_of (bnot h4))) (star_of (bnot h3))) (star_of (bnot h3)) (plain_of (by show (!isStar b' && (!isStar d' && true)) = true; rw [bnot h4, bnot h5]; rfl))
      | _ => cases h
    | _ => cases h
  | .rvs a, tg, e, h => by
    cases e with
    | Call fe as ks p =>
      match fe, as, ks, h with
      | .Name x q, [a'], [], h =>
        obtain ⟨h1, h2⟩ := and2 (show (decide (x = "reversed") && (glB sc x && (!isStar a' && chkE F N a sc a'))) = true from h)
        obtain ⟨h2, h3⟩ := and2 h2
        obtain ⟨h3, h4⟩ := and2 h3
        have e2 : x = "reversed" := of_decide_eq_true h1
        subst e2
        exact pi_reversed (c.gl h2) c.rvd (pa_cons (okE c tk a a' h4) pa_nil (star_of (bnot h3))) (star_of (bnot h3))
    | _ => cases h
end
end
end LT

namespace LT
open PySem PySem.Spec PyProof.Rows L2

def swS (sc : Scope) (targets : List Expr) (value : Expr) : Sem (Option (List Str)) := do
  let some (ts, vs) := (match targets, value with
    | [.Tuple ts _ _], .Tuple vs _ _ | [.List ts _], .Tuple vs _ _ => some (ts, vs)
    | _, _ => none) | return none
  if !(ts.length == 2 || ts.length == 3) || vs.length != ts.length || (if sc.kind.isAnnotationScope then ScopeKind.function else sc.kind) != .function then return none
  if vs.any fun | .Starred .. => true | _ => false then return none
  let line := (ts.head?.map (·.pos.line)).getD 0
  let names := ts.filterMap fun
    | .Name id pos => if sc.names.lookup id == some .local && pos.line == line then some id else none
    | _ => none
  if names.length != ts.length || names.eraseDups.length != names.length then return none
  if vs.all (foldedForSure 8) then return none
  if vs.all (constantsAlone 8) then unsupported "assign.tuple-of-constant-expressions:order-of-the-stores"
  return some names
theorem swS_eq (env : Env) (ts : List Expr) (v : Expr) : swappedStores ts v env = swS env.scope ts v := rfl
def swNone (sc : Scope) (t v : Expr) : Bool := match t, v with
  | .Tuple ts _ _, .Tuple vs _ _ =>
    let names := ts.filterMap fun
      | .Name id pos => if sc.names.lookup id == some .local && pos.line == (ts.head?.map (·.pos.line)).getD 0 then some id else none
      | _ => none
    !(ts.length == 2 || ts.length == 3) || vs.length != ts.length || (names.length != ts.length || names.eraseDups.length != names.length) || vs.all (foldedForSure 8)
  | .List _ _, .Tuple _ _ _ => false
  | _, _ => true
theorem swNone_ok {env : Env} {t v : Expr} (h : swNone env.scope t v = true) : swappedStores [t] v env = pure none := by
  rw [swS_eq]
  unfold swS
  cases t with
  | Tuple ts k p =>
    cases v with
    | Tuple vs k2 p2 =>
      simp only [swNone] at h
      simp only []
      by_cases h1 : (!(ts.length == 2 || ts.length == 3) || vs.length != ts.length || (if env.scope.kind.isAnnotationScope then ScopeKind.function else env.scope.kind) != .function) = true
      · rw [if_pos h1]
      · rw [if_neg h1]
        by_cases h2 : (vs.any fun | .Starred .. => true | _ => false) = true
        · rw [if_pos h2]
        · rw [if_neg h2]
          simp only [Bool.or_eq_true, not_or] at h1
          simp only [Bool.or_eq_true] at h
          rcases h with ((h | h) | h) | h
          · exact absurd (by simpa using h) h1.1.1
          · exact absurd h h1.1.2
          · rw [if_pos (by simpa using h)]
          · by_cases h3 : ((ts.filterMap fun
              | .Name id pos => if env.scope.names.lookup id == some .local && pos.line == (ts.head?.map (·.pos.line)).getD 0 then some id else none
              | _ => none).length != ts.length || (ts.filterMap fun
              | .Name id pos => if env.scope.names.lookup id == some .local && pos.line == (ts.head?.map (·.pos.line)).getD 0 then some id else none
              | _ => none).eraseDups.length != (ts.filterMap fun
              | .Name id pos => if env.scope.names.lookup id == some .local && pos.line == (ts.head?.map (·.pos.line)).getD 0 then some id else none
              | _ => none).length) = true
            · rw [if_pos h3]
            · rw [if_neg h3, if_pos h]
    | _ => rfl
  | List ts p => cases v <;> first | rfl | cases h
  | _ => cases v <;> rfl
def swSome (sc : Scope) (xs : List (Str × Pos)) (vs : List Expr) : Bool :=
  (match sc.kind with | .function => true | _ => false) && (noStar vs && ((xs.all fun q => (sc.names.lookup q.1 == some .local) && q.2.line == (xs.head?.map (·.2.line)).getD 0) && (((xs.map (·.1)).eraseDups.length == xs.length) && (!vs.all (foldedForSure 8) && !vs.all (constantsAlone 8)))))
theorem anyStar {vs : List Expr} (h : noStar vs = true) : (vs.any fun | .Starred .. => true | _ => false) = false := by
  induction vs with
  | nil => rfl
  | cons v vs ih =>
    obtain ⟨h1, h2⟩ := and2 (show (!isStar v && noStar vs) = true from h)
    rw [List.any_cons, ih h2]
    cases v <;> first | rfl | cases h1
theorem sw2 {env : Env} {x y : Str} {px py pt p2 : Pos} {kt k2 : Nat} {a b : Expr} (h : swSome env.scope [(x, px), (y, py)] [a, b] = true) :
    swappedStores [.Tuple [.Name x px, .Name y py] kt pt] (.Tuple [a, b] k2 p2) env = pure (some [x, y]) := by
  obtain ⟨h1, h2⟩ := and2 h
  obtain ⟨h2, h3⟩ := and2 h2
  obtain ⟨h3, h4⟩ := and2 h3
  obtain ⟨h4, h5⟩ := and2 h4
  obtain ⟨h5, h6⟩ := and2 h5
  have hk : env.scope.kind = .function := by
    split at h1
    · assumption
    · cases h1
  rw [swS_eq]
  unfold swS
  simp only [List.all_cons, List.all_nil, Bool.and_true, List.head?_cons, Option.map_some, Option.getD_some] at h3
  obtain ⟨q1, q2⟩ := and2 h3
  have e3 : ([Expr.Name x px, Expr.Name y py].filterMap fun
      | .Name id pos => if env.scope.names.lookup id == some .local && pos.line == (([Expr.Name x px, Expr.Name y py].head?.map (·.pos.line)).getD 0) then some id else none
      | _ => none) = [x, y] := by
    show (List.filterMap _ [Expr.Name x px, Expr.Name y py]) = _
    rw [List.filterMap_cons, List.filterMap_cons, List.filterMap_nil]
    simp only [show (([Expr.Name x px, Expr.Name y py].head?.map (·.pos.line)).getD 0) = px.line from rfl, q1, q2, if_true]
  simp only []
  rw [e3, anyStar h2]
  have e4 : [x, y].eraseDups.length = 2 := by simpa using h4
  simp only [hk, e4, bnot h5, bnot h6]
  rfl
theorem sw3 {env : Env} {x y z : Str} {px py pz pt p2 : Pos} {kt k2 : Nat} {a b c : Expr} (h : swSome env.scope [(x, px), (y, py), (z, pz)] [a, b, c] = true) :
    swappedStores [.Tuple [.Name x px, .Name y py, .Name z pz] kt pt] (.Tuple [a, b, c] k2 p2) env = pure (some [x, y, z]) := by
  obtain ⟨h1, h2⟩ := and2 h
  obtain ⟨h2, h3⟩ := and2 h2
  obtain ⟨h3, h4⟩ := and2 h3
  obtain ⟨h4, h5⟩ := and2 h4
  obtain ⟨h5, h6⟩ := and2 h5
  have hk : env.scope.kind = .function := by
    split at h1
    · assumption
    · cases h1
  rw [swS_eq]
  unfold swS
  simp only [List.all_cons, List.all_nil, Bool.and_true, List.head?_cons, Option.map_some, Option.getD_some] at h3
  obtain ⟨q1, q2⟩ := and2 h3
  obtain ⟨q2, q3⟩ := and2 q2
  have e3 : ([Expr.Name x px, Expr.Name y py, Expr.Name z pz].filterMap fun
      | .Name id pos => if env.scope.names.lookup id == some .local && pos.line == (([Expr.Name x px, Expr.Name y py, Expr.Name z pz].head?.map (·.pos.line)).getD 0) then some id else none
      | _ => none) = [x, y, z] := by
    show (List.filterMap _ [Expr.Name x px, Expr.Name y py, Expr.Name z pz]) = _
    rw [List.filterMap_cons, List.filterMap_cons, List.filterMap_cons, List.filterMap_nil]
    simp only [show (([Expr.Name x px, Expr.Name y py, Expr.Name z pz].head?.map (·.pos.line)).getD 0) = px.line from rfl, q1, q2, q3, if_true]
  simp only []
  rw [e3, anyStar h2]
  have e4 : [x, y, z].eraseDups.length = 3 := by simpa using h4
  simp only [hk, e4, bnot h5, bnot h6]
  rfl
end LT

namespace LT
open PySem PySem.Spec PyProof.Rows L2
inductive CS where
  | pass
  | expr (e : CE)
  | ret (e : CE)
  | retN
  | ifs (c : CB) (a b : List CS)
  | asg (t : CT) (e : CE)
  | asgO (i : Nat) (e : CE)
  | fz (is : List Nat)
  | asgP (os : List Bool) (is : List Nat) (es : List CE)
  | par2 (oi oj : Bool) (i j : Nat) (a b : CE)
  | par3 (oi oj ol : Bool) (i j l : Nat) (a b c : CE)
  | aug (i : Nat) (op : Operator) (e : CE)
  | setIx (o i e : CE)
  | augIx (o i : CE) (op : Operator) (e : CE)
  | forS (t : CT) (it : CI) (body : List CS)
  | nev

mutual
def semS (Γ : Nat → Sp) (K : PySem.W.Frag) : CS → WX → TS
  | .pass, _ => tNext
  | .expr e, W => tDrop (semE Γ K e W)
  | .ret e, W => tRet (semE Γ K e W)
  | .retN, _ => tRetN
  | .ifs c a b, W => tIfS (semB Γ K c W) (semSs Γ K a W) (semSs Γ K b W)
  | .asg t e, W => tAsg (semE Γ K e W) (semG K t)
  | .asgO i e, W => tAsg (semE Γ K e W) (gName i)
  | .fz _, _ => tNext
  | .asgP _ is es, W => tAsg (tTup (semA Γ K es W)) (semG K (.tup (is.map CT.name)))
  | .par2 _ _ i j a b, W => tPar i j (semA Γ K [a, b] W)
  | .par3 _ _ _ i j l a b c, W => tPar3 i j l (semA Γ K [a, b, c] W)
  | .aug i op e, W => tAug i (semE Γ K e W) (rIp K op)
  | .setIx o i e, W => tAsg (semE Γ K e W) (gSub (semE Γ K o W) (semE Γ K i W) rSetL)
  | .augIx o i op e, W => tAugS (semE Γ K o W) (semE Γ K i W) (semE Γ K e W) (rIxL K) (rIp K op) rSetL
  | .forS t it body, W => tFor (semI Γ K it W) (semG K t) (semSs Γ K body W)
  | .nev, _ => fun _ _ _ => False
def semSs (Γ : Nat → Sp) (K : PySem.W.Frag) : List CS → WX → TS
  | [], _ => tNext
  | s :: ss, W => tSeq (semS Γ K s W) (semSs Γ K ss W)
end
def fbT : Str → Bool := fun _ => true
def ipOp : Operator → Bool
  | .Add => true
  | .Sub => true
  | _ => false
def ltB (n m : Nat) : Bool := n != m
def noL2 : CE → Bool
  | _ => true
mutual
def chkS (F : Fx) (N : List Str) (sc : Scope) : CS → Stmt → Bool
  | .pass, s => match s with
    | .Pass _ => true
    | _ => false
  | .expr e, s => match s with
    | .Expr e' _ => !isLComp e' && chkE F N e sc e'
    | _ => false
  | .ret e, s => match s with
    | .Return (some e') _ => chkE F N e sc e'
    | _ => false
  | .retN, s => match s with
    | .Return none _ => true
    | _ => false
  | .ifs c a b, s => match s with
    | .If c' a' b' _ => chkB F N c sc c' && (chkSs F N sc a a' && chkSs F N sc b b')
    | _ => false
  | .asg t e, s => match s with
    | .Assign [t'] e' _ => chkT N fbT sc t t' && (swNone sc t' e' && (noL2 e && chkE F N e sc e'))
    | _ => false
  | .asgO i e, s => match s with
    | .Assign [.Name x _] e' _ => decide (N[i]? = some x) && (locB sc x && (noL2 e && chkE F N e sc e'))
    | _ => false
  | .fz _, s => false
  | .asgP _ is es, s => match s with
    | .Assign [t'] (.Tuple es' k p) _ => chkT N fbT sc (.tup (is.map CT.name)) t' && (swNone sc t' (.Tuple es' k p) && chkA F N es sc es')
    | _ => false
  | .par2 _ _ i j a b, s => match s with
    | .Assign [.Tuple [.Name x px, .Name y py] _ _] (.Tuple [a', b'] _ _) _ => decide (N[i]? = some x) && (decide (N[j]? = some y) && (ltB i j && (lclB sc x && (lclB sc y && (swSome sc [(x, px), (y, py)] [a', b'] && chkA F N [a, b] sc [a', b'])))))
    | _ => false
  | .par3 _ _ _ i j l a b c, s => match s with
    | .Assign [.Tuple [.Name x px, .Name y py, .Name z pz] _ _] (.Tuple [a', b', c'] _ _) _ => decide (N[i]? = some x) && (decide (N[j]? = some y) && (decide (N[l]? = some z) && (ltB i j && (ltB i l && (ltB j l && (lclB sc x && (lclB sc y && (lclB sc z && (swSome sc [(x, px), (y, py), (z, pz)] [a', b', c'] && chkA F N [a, b, c] sc [a', b', c'])))))))))
    | _ => false
  | .aug i op e, s => match s with
    | .AugAssign (.Name x _) op' e' _ => decide (N[i]? = some x) && (locB sc x && (beqOp op op' && (ipOp op && chkE F N e sc e')))
    | _ => false
  | .setIx o i e, s => match s with
    | .Assign [.Subscript o' i' _] e' _ => !isSlice i' && (chkE F N o sc o' && (chkE F N i sc i' && chkE F N e sc e'))
    | _ => false
  | .augIx o i op e, s => match s with
    | .AugAssign (.Subscript o' i' _) op' e' _ => !isSlice i' && (beqOp op op' && (ipOp op && (chkE F N o sc o' && (chkE F N i sc i' && chkE F N e sc e'))))
    | _ => false
  | .nev, _ => true
  | .forS t it body, s => match s with
    | .For t' it' body' [] _ => !isSet it' && (chkT N fbT sc t t' && (chkI F N it sc t' it' && chkSs F N sc body body'))
    | _ => false
def chkSs (F : Fx) (N : List Str) (sc : Scope) : List CS → List Stmt → Bool
  | [], ss => match ss with
    | [] => true
    | _ => false
  | c :: cs, ss => match c with
    | .fz _ => chkSs F N sc cs ss
    | _ => match ss with
      | [] => false
      | s :: ss => chkS F N sc c s && chkSs F N sc cs ss
end
theorem get_list {X : Cx} : PGet X (fun x y H Q => rIxL X.K x y H Q) := by
  intro pins s σ H x y v u Q I rx ry h
  obtain ⟨p, xs, i, z, rfl, rfl, hq, he, q⟩ := h
  cases rx
  obtain ⟨t, rfl⟩ := ry
  obtain ⟨its, r, pl, hz⟩ := I.list hq
  obtain ⟨j, h1, h2, h3, h4, h5⟩ := atI_get he
  obtain ⟨w, ew, rw'⟩ := r.get h2
  have hl := r.length
  have hn := line63
  have fin : EP X pins σ Q w s := ⟨z, H, I, rw', q⟩
  by_cases h0 : 0 ≤ i
  · have hj : i.toNat = j := by
      rw [seqIndex_of h0 h5] at h1
      exact Option.some.inj h1
    exact wpAny_getItem_list pl.isList h0 (by omega) (by rw [hj]; simpa using ew) fin
  · have hj : (i + (its.toArray.size : Int)).toNat = j := by
      rw [seqIndex_neg (by omega) h4] at h1
      rw [List.size_toArray, ← hl]
      exact Option.some.inj h1
    exact wpAny_getItem_list_neg pl.isList (by omega) (by rw [List.size_toArray] <;> omega) (by omega) (by rw [hj]; simpa using ew) fin
theorem ipR {X : Cx} (op : Operator) : PIp X op (rIp X.K op) := by
  cases op with
  | Add =>
    intro pins s σ H x y v u Q I rx ry h
    rcases h with h | h
    · exact ip_add pins s σ H x y v u Q I rx ry h
    · exact iop_ext pins s σ H x y v u Q I rx ry h
  | Sub => exact ip_sub
  | _ => exact fun _ _ _ _ _ _ _ _ _ _ _ _ h => h.elim
theorem aug_of {i : Expr} (h : isSlice i = false) (ov iv new : Value) : augStore i ov iv new = (do holding [new, ov, iv] (setItem ov iv new); release [new, ov, iv] []; pure .next) := by
  cases i <;> first | rfl | cases h
theorem asg_of {o i : Expr} {p : Pos} {env : Env} (h : isSlice i = false) (v : Value) : assign (.Subscript o i p) env v = (do
      let ov ← holding [v] (eval o env)
      let iv ← holding [v, ov] (eval i env)
      standAt p
      holding [v, ov, iv] (setItem ov iv v)
      release [v, ov, iv] []) := by
  cases i <;> first | rfl | cases h
theorem swSole_of {t e : Expr} {l : Nat} {env : Env} (h : (match t with | .Name _ _ => false | _ => true) = true) : swapsWithSole [t] e l env = pure false := by
  unfold swapsWithSole swapsWith
  cases t <;> first | (cases h; done) | (cases e <;> rfl)
theorem swE_of {e : Expr} {l : Nat} {env : Env} (h : isLComp e = false) (t : Option Expr) : swapsWith e t l env = pure false := by
  unfold swapsWith
  cases e <;> first | rfl | cases h
section
variable {Γ : Nat → Sp} {F : Fx} {N : List Str} {k : Nat}
theorem prim_no {sc : Scope} {p : Prm} {e : Expr} (h : isLComp e = true) : pOk F sc p e = false := by
  cases e <;> first | (cases h; done) | (cases p <;> first | rfl | (rename_i ps; rcases ps with _ | ⟨⟨i, j⟩, _ | ⟨q, qs⟩⟩ <;> rfl))
theorem prim_chk {sc : Scope} {p : Prm} {es : List CE} {e : Expr} (h : isLComp e = true) (hc : chkE F N (.prim p es) sc e = true) : False := by
  have h0 := prim_no (F := F) (sc := sc) (p := p) h
  match es, hc with
  | [], hc => rw [(and2 (show (pOk F sc p e && _) = true from hc)).1] at h0; cases h0
  | [a], hc => rw [(and2 (show (pOk F sc p e && _) = true from hc)).1] at h0; cases h0
  | [a, b], hc => rw [(and2 (show (pOk F sc p e && _) = true from hc)).1] at h0; cases h0
  | _ :: _ :: _ :: _, hc => cases hc
theorem cold_chk {sc : Scope} {a : CE} {e : Expr} (h : isLComp e = true) (hc : chkE F N (.cold a) sc e = true) : False := by
  have := (and2 (show (!isLComp e && chkE F N a sc e) = true from hc)).1
  rw [h] at this; cases this
theorem ok_set {X : Cx} {sc : Scope} {W : WX} (c : Cok X Γ F N k sc) (tk : Takes X W) (hfb : ∀ x, X.fn x = true) (hblk : X.env.scope.kind = .function) {i : Nat} {x : Str} {p' pos : Pos} {ce : CE} {e : Expr} (hN : N[i]? = some x) (hx : L2.Loc sc x) (h9 : noL2 ce = true) (h : chkE F N ce sc e = true) :
    PS X (.Assign [.Name x p'] e pos) (tAsg (semE Γ X.K ce W) (gName i)) := by
  have plain : swapsWith e (some (.Name x p')) pos.line X.env = pure false → PS X (.Assign [.Name x p'] e pos) (tAsg (semE Γ X.K ce W) (gName i)) := fun hs =>
    ps_set (by rw [c.hN]; exact c.nd) (by rw [c.hN]; exact hN) (by rw [c.scope]; exact hx) (okE c tk ce e h) hs (.inl (hfb x))
  cases he : isLComp e with
  | false => exact plain (swE_of he _)
  | true =>
    cases e with
    | ListComp elt' gs scope p =>
      cases hb : (X.env.blockKind == .function && X.env.kindOf x == some .local && p'.line == p.line && !(scope.names.any fun (n, k) => n == x && (k == .local || k == .cell))) with
      | false => exact plain (by unfold swapsWith; show (pure _ : Sem Bool) = pure false; exact congrArg pure hb)
      | true =>
        have hsw : swapsWith (.ListComp elt' gs scope p) (some (.Name x p')) pos.line X.env = pure true := by unfold swapsWith; show (pure _ : Sem Bool) = pure true; exact congrArg pure hb
        have hloc : X.env.scope.names.lookup x = some .local := by
          simp only [Bool.and_eq_true] at hb
          have := hb.1.1.2
          simpa [Env.kindOf] using this
        cases ce with
        | lc elt tg it own =>
          match gs, h, hsw with
          | [⟨tg', it', [], as⟩], h, hsw =>
            obtain ⟨h2, h3⟩ := and2 (show (decide (as = 0) && (!isSet it' && (blkC N sc scope own && (chkT N (fbOf scope) (relab scope sc) tg tg' && (chkI F N it sc tg' it' && chkE F N elt (relab scope sc) elt'))))) = true from h)
            obtain ⟨h3, h4⟩ := and2 h3
            obtain ⟨h4, h5⟩ := and2 h4
            obtain ⟨h5, h6⟩ := and2 h5
            obtain ⟨h6, h7⟩ := and2 h6
            have e2 : as = 0 := of_decide_eq_true h2
            subst e2
            exact ps_setLc c.calm (by rw [c.hN]; exact c.nd) (by rw [c.hN]; exact hN) hloc hsw (okI c tk it tg' it' h6) (by rw [c.hN, c.scope]; exact blkOk_by h4) (fun s H C cl fp => okT (c.blk s H scope C cl fp) (fun _ z => z) tg tg' h5)
              (fun _ _ _ _ _ => pts_nil) (fun s H C cl fp => okE (W := W0) (c.blk s H scope C cl fp) takes0 elt elt' h7) (fun x => fold_of (bnot h3) x)
        | lcIf elt tg it t own =>
          match gs, h, hsw with
          | [⟨tg', it', [t'], as⟩], h, hsw =>
            obtain ⟨h2, h3⟩ := and2 (show (decide (as = 0) && (!isSet it' && (blkC N sc scope own && (chkT N (fbOf scope) (relab scope sc) tg tg' && (chkI F N it sc tg' it' && (chkB F N t (relab scope sc) t' && chkE F N elt (relab scope sc) elt')))))) = true from h)
            obtain ⟨h3, h4⟩ := and2 h3
            obtain ⟨h4, h5⟩ := and2 h4
            obtain ⟨h5, h6⟩ := and2 h5
            obtain ⟨h6, h7⟩ := and2 h6
            obtain ⟨h7, h8⟩ := and2 h7
            have e2 : as = 0 := of_decide_eq_true h2
            subst e2
            exact ps_setLc c.calm (by rw [c.hN]; exact c.nd) (by rw [c.hN]; exact hN) hloc hsw (okI c tk it tg' it' h6) (by rw [c.hN, c.scope]; exact blkOk_by h4) (fun s H C cl fp => okT (c.blk s H scope C cl fp) (fun _ z => z) tg tg' h5)
              (fun s H C cl fp => pts_one (okB (W := W0) (c.blk s H scope C cl fp) takes0 t t' h7).1) (fun s H C cl fp => okE (W := W0) (c.blk s H scope C cl fp) takes0 elt elt' h8) (fun x => fold_of (bnot h3) x)
        | prim p1 es1 => exact (prim_chk rfl h).elim
        | cold a1 => exact (cold_chk rfl h).elim
        | lc2 elt tg it tg1 it1 own =>
          match gs, h, hsw with
          | [⟨tg', it', [], as⟩, ⟨tg1', it1', [], as1⟩], h, hsw =>
            obtain ⟨h2, h3⟩ := and2 (show (decide (as = 0) && (decide (as1 = 0) && (!isSet it' && (!isSet it1' && (blkC N sc scope own && (tgIn tg1 own && (chkT N (fbOf scope) (relab scope sc) tg tg' && (chkT N (fbOf scope) (relab scope sc) tg1 tg1' && (chkI F N it sc tg' it' && (chkI F N it1 (relab scope sc) tg1' it1' && chkE F N elt (relab scope sc) elt')))))))))) = true from h)
            obtain ⟨h1, h3⟩ := and2 h3
            obtain ⟨h4, h5⟩ := and2 h3
            obtain ⟨h6, h7⟩ := and2 h5
            obtain ⟨h8, h9'⟩ := and2 h7
            obtain ⟨k0, k1⟩ := and2 h9'
            obtain ⟨k2, k3⟩ := and2 k1
            obtain ⟨k4, k5⟩ := and2 k3
            obtain ⟨k6, k7⟩ := and2 k5
            obtain ⟨k8, k9⟩ := and2 k7
            obtain rfl : as = 0 := of_decide_eq_true h2
            obtain rfl : as1 = 0 := of_decide_eq_true h1
            exact ps_setLc2 c.calm (by rw [c.hN]; exact c.nd) (by rw [c.hN]; exact hN) hloc hsw (okI c tk it tg' it' k6) (by rw [c.hN, c.scope]; exact blkOk_by h8) (slots_in k0) (fun s H C cl fp => okT (c.blk s H scope C cl fp) (fun _ z => z) tg tg' k2)
              (fun _ _ _ _ _ => pts_nil) (fun s H C cl fp => okI (W := W0) (c.blk s H scope C cl fp) takes0 it1 tg1' it1' k8) (fun s H C cl fp => okT (c.blk s H scope C cl fp) (fun _ z => z) tg1 tg1' k4) (fun _ _ _ _ _ => pts_nil) (fun s H C cl fp => okE (W := W0) (c.blk s H scope C cl fp) takes0 elt elt' k9) (fun x => fold_of (bnot h4) x) (fun _ x => fold_of (bnot h6) x)
        | lc2If elt tg it tg1 it1 t own =>
          match gs, h, hsw with
          | [⟨tg', it', [], as⟩, ⟨tg1', it1', [t'], as1⟩], h, hsw =>
            obtain ⟨h2, h3⟩ := and2 (show (decide (as = 0) && (decide (as1 = 0) && (!isSet it' && (!isSet it1' && (blkC N sc scope own && (tgIn tg1 own && (chkT N (fbOf scope) (relab scope sc) tg tg' && (chkT N (fbOf scope) (relab scope sc) tg1 tg1' && (chkI F N it sc tg' it' && (chkI F N it1 (relab scope sc) tg1' it1' && (chkB F N t (relab scope sc) t' && chkE F N elt (relab scope sc) elt'))))))))))) = true from h)
            obtain ⟨h1, h3⟩ := and2 h3
            obtain ⟨h4, h5⟩ := and2 h3
            obtain ⟨h6, h7⟩ := and2 h5
            obtain ⟨h8, h9'⟩ := and2 h7
            obtain ⟨k0, k1⟩ := and2 h9'
            obtain ⟨k2, k3⟩ := and2 k1
            obtain ⟨k4, k5⟩ := and2 k3
            obtain ⟨k6, k7⟩ := and2 k5
            obtain ⟨k8, k9⟩ := and2 k7
            obtain ⟨j1, j2⟩ := and2 k9
            obtain rfl : as = 0 := of_decide_eq_true h2
            obtain rfl : as1 = 0 := of_decide_eq_true h1
            exact ps_setLc2 c.calm (by rw [c.hN]; exact c.nd) (by rw [c.hN]; exact hN) hloc hsw (okI c tk it tg' it' k6) (by rw [c.hN, c.scope]; exact blkOk_by h8) (slots_in k0) (fun s H C cl fp => okT (c.blk s H scope C cl fp) (fun _ z => z) tg tg' k2)
              (fun _ _ _ _ _ => pts_nil) (fun s H C cl fp => okI (W := W0) (c.blk s H scope C cl fp) takes0 it1 tg1' it1' k8) (fun s H C cl fp => okT (c.blk s H scope C cl fp) (fun _ z => z) tg1 tg1' k4) (fun s H C cl fp => pts_one (okB (W := W0) (c.blk s H scope C cl fp) takes0 t t' j1).1) (fun s H C cl fp => okE (W := W0) (c.blk s H scope C cl fp) takes0 elt elt' j2) (fun x => fold_of (bnot h4) x) (fun _ x => fold_of (bnot h6) x)
        | _ => cases h
    | _ => first | (cases he; done) | (cases ce <;> first | exact (prim_chk rfl h).elim | exact (cold_chk rfl h).elim | cases h)
theorem neB {n m : Nat} (h : ltB n m = true) : n ≠ m := by
  unfold ltB at h
  simpa using h
mutual
theorem okS {X : Cx} {sc : Scope} {W : WX} (c : Cok X Γ F N k sc) (tk : Takes X W) (po : PassesOwn (model X.prog X.w) X.A X.env X.xe) (hfb : ∀ x, X.fn x = true) (hblk : X.env.scope.kind = .function) : ∀ (cs : CS) (st : Stmt), chkS F N sc cs st = true → PS X st (semS Γ X.K cs W)
  | .pass, st, h => by
    cases st with
    | Pass p => exact ps_pass
    | _ => cases h
  | .expr e, st, h => by
    cases st with
    | Expr e' p =>
      obtain ⟨h1, h2⟩ := and2 (show (!isLComp e' && chkE F N e sc e') = true from h)
      exact ps_expr (okE c tk e e' h2) (swE_of (bnot h1) _)
    | _ => cases h
  | .ret e, st, h => by
    cases st with
    | Return v p =>
      cases v with
      | some e' => exact ps_ret (okE c tk e e' h)
      | none => cases h
    | _ => cases h
  | .retN, st, h => by
    cases st with
    | Return v p =>
      cases v with
      | some e' => cases h
      | none => exact ps_retN
    | _ => cases h
  | .ifs t a b, st, h => by
    cases st with
    | If t' a' b' p =>
      obtain ⟨h1, h2⟩ := and2 (show (chkB F N t sc t' && (chkSs F N sc a a' && chkSs F N sc b b')) = true from h)
      obtain ⟨h2, h3⟩ := and2 h2
      exact ps_if (okB c tk t t' h1).1 (okSs c tk po hfb hblk a a' h2) (okSs c tk po hfb hblk b b' h3)
    | _ => cases h
  | .asg t e, st, h => by
    cases st with
    | Assign ts e' p =>
      match ts, h with
      | [t'], h =>
        obtain ⟨h1, h2⟩ := and2 (show (chkT N fbT sc t t' && (swNone sc t' e' && (noL2 e && chkE F N e sc e'))) = true from h)
        obtain ⟨h2, h3⟩ := and2 h2
        obtain ⟨h9, h3⟩ := and2 h3
        cases t with
        | name i =>
          cases t' with
          | Name x p' =>
            obtain ⟨g1, g2⟩ := and2 (show (decide (N[i]? = some x) && (locB sc x && (fbT x || lclB sc x))) = true from h1)
            exact ok_set c tk hfb hblk (of_decide_eq_true g1) (locB_ok (and2 g2).1) h9 h3
          | _ => cases h1
        | fld i1 c1 k1 =>
          cases t' with
          | Attribute a1 f1 p1 => exact ps_asg (okE c tk e e' h3) (okT c (fb := fbT) (fun x _ => hfb x) (.fld i1 c1 k1) _ h1) (swSole_of rfl) (swNone_ok (by rw [c.scope]; exact h2)) rfl
          | _ => cases h1
        | tup tts =>
          cases t' with
          | Tuple es' k2 p2 => exact ps_asg (okE c tk e e' h3) (okT c (fb := fbT) (fun x _ => hfb x) (.tup tts) _ h1) (swSole_of rfl) (swNone_ok (by rw [c.scope]; exact h2)) rfl
          | _ => cases h1
    | _ => cases h
  | .asgO i e, st, h => by
    cases st with
    | Assign ts e' p =>
      match ts, h with
      | [.Name x p'], h =>
        obtain ⟨h1, h2⟩ := and2 (show (decide (N[i]? = some x) && (locB sc x && (noL2 e && chkE F N e sc e'))) = true from h)
        obtain ⟨h2, h3⟩ := and2 h2
        obtain ⟨h9, h3⟩ := and2 h3
        exact ok_set c tk hfb hblk (of_decide_eq_true h1) (locB_ok h2) h9 h3
    | _ => cases h
  | .fz _, st, h => by cases h
  | .asgP os is es, st, h => by
    cases st with
    | Assign ts e' p =>
      match ts, e', h with
      | [t'], .Tuple es' k1 p1, h =>
        obtain ⟨h1, h2⟩ := and2 (show (chkT N fbT sc (.tup (is.map CT.name)) t' && (swNone sc t' (.Tuple es' k1 p1) && chkA F N es sc es')) = true from h)
        obtain ⟨h2, h3⟩ := and2 h2
        cases t' with
        | Tuple ts' k2 p2 => exact ps_asg (pe_tup (okA c tk es es' h3)) (okT c (fb := fbT) (fun x _ => hfb x) (.tup (is.map CT.name)) _ h1) (swSole_of rfl) (swNone_ok (by rw [c.scope]; exact h2)) rfl
        | _ => cases h1
    | _ => cases h
  | .par2 _ _ i j a b, st, h => by
    cases st with
    | Assign ts e' p =>
      match ts, e', h with
      | [.Tuple [.Name x px, .Name y py] kt pt], .Tuple [a', b'] k2 p2, h =>
        obtain ⟨h1, h2⟩ := and2 (show (decide (N[i]? = some x) && (decide (N[j]? = some y) && (ltB i j && (lclB sc x && (lclB sc y && (swSome sc [(x, px), (y, py)] [a', b'] && chkA F N [a, b] sc [a', b'])))))) = true from h)
        obtain ⟨h2, h3⟩ := and2 h2
        obtain ⟨h3, h4⟩ := and2 h3
        obtain ⟨h4, h5⟩ := and2 h4
        obtain ⟨h5, h6⟩ := and2 h5
        obtain ⟨h6, h7⟩ := and2 h6
        exact ps_par c.calm (by rw [c.hN]; exact c.nd) (by rw [c.hN]; exact of_decide_eq_true h1) (by rw [c.hN]; exact of_decide_eq_true h2) (neB h3) (by rw [c.scope]; exact lclB_ok h4) (by rw [c.scope]; exact lclB_ok h5) (okA c tk [a, b] [a', b'] h7) (sw2 (by rw [c.scope]; exact h6)) (swSole_of rfl)
    | _ => cases h
  | .par3 _ _ _ i j l a b d, st, h => by
    cases st with
    | Assign ts e' p =>
      match ts, e', h with
      | [.Tuple [.Name x px, .Name y py, .Name z pz] kt pt], .Tuple [a', b', d'] k2 p2, h =>
        obtain ⟨h1, h2⟩ := and2 (show (decide (N[i]? = some x) && (decide (N[j]? = some y) && (decide (N[l]? = some z) && (ltB i j && (ltB i l && (ltB j l && (lclB sc x && (lclB sc y && (lclB sc z && (swSome sc [(x, px), (y, py), (z, pz)] [a', b', d'] && chkA F N [a, b, d] sc [a', b', d'])))))))))) = true from h)
        obtain ⟨h2, h3⟩ := and2 h2
        obtain ⟨h3, h4⟩ := and2 h3
        obtain ⟨h4, h5⟩ := and2 h4
        obtain ⟨h5, h6⟩ := and2 h5
        obtain ⟨h6, h7⟩ := and2 h6
        obtain ⟨h7, h8⟩ := and2 h7
        obtain ⟨h8, h9⟩ := and2 h8
        obtain ⟨h9, h10⟩ := and2 h9
        obtain ⟨h10, h11⟩ := and2 h10
        exact ps_par3 c.calm (by rw [c.hN]; exact c.nd) (by rw [c.hN]; exact of_decide_eq_true h1) (by rw [c.hN]; exact of_decide_eq_true h2) (by rw [c.hN]; exact of_decide_eq_true h3) (neB h4) (neB h5) (neB h6) (by rw [c.scope]; exact lclB_ok h7) (by rw [c.scope]; exact lclB_ok h8) (by rw [c.scope]; exact lclB_ok h9) (okA c tk [a, b, d] [a', b', d'] h11) (sw3 (by rw [c.scope]; exact h10)) (swSole_of rfl)
    | _ => cases h
  | .aug i op e, st, h => by
    cases st with
    | AugAssign t' op' e' p =>
      cases t' with
      | Name x p' =>
        obtain ⟨h1, h2⟩ := and2 (show (decide (N[i]? = some x) && (locB sc x && (beqOp op op' && (ipOp op && chkE F N e sc e')))) = true from h)
        obtain ⟨h2, h3⟩ := and2 h2
        obtain ⟨h3, h4⟩ := and2 h3
        obtain ⟨h4, h5⟩ := and2 h4
        have e1 : op = op' := of_decide_eq_true h3
        have g2 := locB_ok h2
        have g5 := okE c tk e e' h5
        subst e1
        exact ps_aug (by rw [c.hN]; exact c.nd) (by rw [c.hN]; exact of_decide_eq_true h1) (by rw [c.scope]; exact g2) g5 (ipR op) (.inl (hfb x))
      | _ => cases h
    | _ => cases h
  | .setIx o i e, st, h => by
    cases st with
    | Assign ts e' p =>
      match ts, h with
      | [.Subscript o' i' p'], h =>
        obtain ⟨h1, h2⟩ := and2 (show (!isSlice i' && (chkE F N o sc o' && (chkE F N i sc i' && chkE F N e sc e'))) = true from h)
        obtain ⟨h2, h3⟩ := and2 h2
        obtain ⟨h3, h4⟩ := and2 h3
        exact ps_asg (okE c tk e e' h4) (pg_sub (okE c tk o o' h2) (okE c tk i i' h3) set_list (asg_of (bnot h1))) (swSole_of rfl) (swNone_ok (by cases e' <;> rfl)) rfl
    | _ => cases h
  | .augIx o i op e, st, h => by
    cases st with
    | AugAssign t' op' e' p =>
      cases t' with
      | Subscript o' i' p' =>
        obtain ⟨h1, h2⟩ := and2 (show (!isSlice i' && (beqOp op op' && (ipOp op && (chkE F N o sc o' && (chkE F N i sc i' && chkE F N e sc e'))))) = true from h)
        obtain ⟨h2, h3⟩ := and2 h2
        obtain ⟨h3, h4⟩ := and2 h3
        obtain ⟨h4, h5⟩ := and2 h4
        obtain ⟨h5, h6⟩ := and2 h5
        have e1 : op = op' := of_decide_eq_true h2
        subst e1
        exact ps_augS (okE c tk o o' h4) (okE c tk i i' h5) get_list (okE c tk e e' h6) (ipR op) set_list (aug_of (bnot h1))
      | _ => cases h
    | _ => cases h
  | .nev, st, h => ⟨fun _ _ _ _ _ _ z => z.elim⟩
  | .forS t it body, st, h => by
    cases st with
    | For t' it' body' els p =>
      match els, h with
      | [], h =>
        obtain ⟨h1, h2⟩ := and2 (show (!isSet it' && (chkT N fbT sc t t' && (chkI F N it sc t' it' && chkSs F N sc body body'))) = true from h)
        obtain ⟨h2, h3⟩ := and2 h2
        obtain ⟨h3, h4⟩ := and2 h3
        exact ps_for po c.calm (okI c tk it t' it' h3) (okT c (fb := fbT) (fun x _ => hfb x) t t' h2) (okSs c tk po hfb hblk body body' h4) (fun x => fold_of (bnot h1) x)
    | _ => cases h
theorem okSs {X : Cx} {sc : Scope} {W : WX} (c : Cok X Γ F N k sc) (tk : Takes X W) (po : PassesOwn (model X.prog X.w) X.A X.env X.xe) (hfb : ∀ x, X.fn x = true) (hblk : X.env.scope.kind = .function) : ∀ (cs : List CS) (sts : List Stmt), chkSs F N sc cs sts = true → PSs X sts (semSs Γ X.K cs W)
  | [], sts, h => by
    cases sts with
    | nil => exact pss_nil
    | cons _ _ => cases h
  | cs :: css, sts, h => by
    by_cases hz : ∃ is, cs = .fz is
    · obtain ⟨is, rfl⟩ := hz
      have h2 : chkSs F N sc css sts = true := h
      exact okSs c tk po hfb hblk css sts h2
    · cases sts with
      | nil => cases cs <;> first | (exact absurd ⟨_, rfl⟩ hz) | cases h
      | cons s ss =>
        have h' : (chkS F N sc cs s && chkSs F N sc css ss) = true := by
          cases cs <;> first | (exact absurd ⟨_, rfl⟩ hz) | exact h
        obtain ⟨h1, h2⟩ := and2 h'
        exact pss_cons (okS c tk po hfb hblk cs s h1) (okSs c tk po hfb hblk css ss h2)
end
end
end LT

namespace LT
open PySem PySem.Spec PyProof.Rows L2
structure Fd where
  id : Nat
  name : Str
  cls : Nat := 0
  prop : Bool := false
  dfl : List Df := []
  N : List Str
  ps : List Str
  body : List CS
def Fd.fk (d : Fd) : Fk := if d.cls = 0 then .fn d.name else if d.prop = true then .pr d.cls d.name else .mt d.cls d.name d.dfl
def Fd.qual (d : Fd) : Str := if d.cls = 0 then d.name else cnm d.cls ++ ("." ++ d.name)
def fxOf (cs : List Nat) (gi : List (Str × Int)) (pre : List Fd) : Fx where
  f := fun i => (pre.find? fun d => d.id == i).map Fd.fk
  cs := fun c => cs.contains c
  gi := fun x => gi.lookup x
def scopeB (N ps : List Str) (sc : Scope) : Bool :=
  (match sc.kind with | .function => true | _ => false) && (!sc.isCoroutine && (!sc.isGenerator && (decide N.Nodup && (decide (N.take ps.length = ps) && ((ps.all fun x => locB sc x) && sc.names.all fun y => match y.2 with | .free => false | _ => true)))))
theorem scopeB_ok {N ps : List Str} {sc : Scope} (h : scopeB N ps sc = true) : FnScope N ps sc := by
  obtain ⟨h1, h2⟩ := and2 h
  obtain ⟨h2, h3⟩ := and2 h2
  obtain ⟨h3, h4⟩ := and2 h3
  obtain ⟨h4, h5⟩ := and2 h4
  obtain ⟨h5, h6⟩ := and2 h5
  obtain ⟨h6, h7⟩ := and2 h6
  refine ⟨?_, bnot h2, bnot h3, of_decide_eq_true h4, of_decide_eq_true h5, fun x hx => locB_ok (List.all_eq_true.mp h6 x hx), fun y hy e => ?_⟩
  · split at h1
    · assumption
    · cases h1
  · have := List.all_eq_true.mp h7 y hy
    rw [e] at this
    cases this
def dflsB (d : Fd) : Bool := match d.dfl with
  | [] => true
  | [_] => !d.ps.isEmpty
  | _ => false
def chkFd (cs : List Nat) (gi : List (Str × Int)) (pre : List Fd) (d : Fd) (st : Stmt) : Bool :=
  scopeB d.N d.ps (defScope st) && (plainArgs (defArgs st) d.ps && (dflsB d && chkSs (fxOf cs gi pre) d.N (defScope st) d.body (defBody st)))
def chkTab (top : Nat → Stmt) (cs : List Nat) (gi : List (Str × Int)) : List Fd → List Fd → Bool
  | _, [] => true
  | pre, d :: ds => chkFd cs gi pre d (top d.id) && chkTab top cs gi (pre ++ [d]) ds
def Obl (Γ : Nat → Sp) (K : PySem.W.Frag) (d : Fd) : Prop := ∀ (vs : List V) (H : Hp) (Q : VK) (E : XK), Γ d.id vs H Q E → vs.length = d.ps.length ∧ semSs Γ K d.body (fun cls dd _ H => E cls dd H) { nx := fun _ H' => Q .non H', rt := Q } (start d.N vs) H
def Stands (K : PySem.W.Frag) (mg : Str → Option Value) (d : Fd) (f : Addr) : Prop :=
  (d.cls = 0 → mg d.name = some (.ref f)) ∧ (d.cls ≠ 0 → d.prop = false → L2.Meth K (ca K d.cls) d.name f ∧ (d.name = "__init__" → L2.Mk K (ca K d.cls) f ∧ dfsOk K d.cls d.dfl 0)) ∧ (d.cls ≠ 0 → d.prop = true → ∃ q, PropOf K (ca K d.cls) d.name q f)
section
variable {P : Program} {w : World} {K : PySem.W.Frag} {mg : Str → Option Value} {base : Heap} {Γ : Nat → Sp}
def Good (P : Program) (w : World) (K : PySem.W.Frag) (mg : Str → Option Value) (base : Heap) (Γ : Nat → Sp) (n : Nat) (d : Fd) : Prop :=
  ∃ (f : Addr) (fd : FuncData), FnG P w K mg base (L2.CX P w) n f fd d.ps (Γ d.id) ∧ Stands K mg d f ∧ PySem.W.keepIn K (.ref f) = true ∧ L2.Binds K fd d.ps [] ∧ (∃ ds, Vals (dfs K d.cls d.dfl 0) ds ∧ L2.Binds K fd d.ps ds) ∧ ∃ oc od osl, K.lookup f = some ⟨oc, od, .func fd, osl⟩
theorem Good.mono {n m : Nat} {d : Fd} (h : Good P w K mg base Γ n d) (l : n ≤ m) : Good P w K mg base Γ m d := by
  obtain ⟨f, fd, h1, h2, h3, h4⟩ := h
  exact ⟨f, fd, h1.mono l, h2, h3, h4⟩
structure Free (K : PySem.W.Frag) (mg : Str → Option Value) (cs : List Nat) (gi : List (Str × Int)) : Prop where
  blt : ∀ b : Bt, mg b.nm = none
  rng : mg "range" = none
  enu : mg "enumerate" = none
  zip : mg "zip" = none
  set : mg "set" = none
  rvd : mg "reversed" = none
  isi : mg "isinstance" = none
  rep : mg "repr" = none
  tys : ∀ n : Bty, mg (Str.ofString n.nm) = none
  cls : ∀ c ∈ cs, ClsOk K c ∧ mg (cnm c) = some (.ref (ca K c))
  gis : ∀ x i, gi.lookup x = some i → ∃ t, mg x = some (.int i t)
  sys : (K.lookup sysModules).isSome = true
def FdAt (K : PySem.W.Frag) (mg : Str → Option Value) (d : Fd) (st : Stmt) : Prop := ∃ (f : Addr) (fd : FuncData), FunD K d.name d.qual (defArgs st) (defBody st) (defScope st) (dfs K d.cls d.dfl 0) [] f fd ∧ Stands K mg d f
theorem binds_of {d : Fd} {st : Stmt} {f : Addr} {fd : FuncData} (hF : FunD K d.name d.qual (defArgs st) (defBody st) (defScope st) (dfs K d.cls d.dfl 0) [] f fd) (h2 : plainArgs (defArgs st) d.ps = true) (h3 : dflsB d = true) :
    L2.Binds K fd d.ps [] ∧ ∃ ds, Vals (dfs K d.cls d.dfl 0) ds ∧ L2.Binds K fd d.ps ds := by
  cases hd : d.dfl with
  | nil =>
    rw [hd] at hF
    have b := hF.bindsN fun _ _ _ _ _ _ us hl => bind_plain h2 hl
    exact ⟨b, [], .nil, b⟩
  | cons x l =>
    cases l with
    | cons y l =>
      unfold dflsB at h3
      rw [hd] at h3
      cases h3
    | nil =>
      unfold dflsB at h3
      rw [hd] at h3 hF
      obtain ⟨qs, z, hps⟩ : ∃ qs z, d.ps = qs ++ [z] := by
        have hne : d.ps ≠ [] := by
          intro e
          rw [e] at h3
          cases h3
        exact ⟨d.ps.dropLast, d.ps.getLast hne, (List.dropLast_concat_getLast hne).symm⟩
      rw [hps] at h2 ⊢
      have one : ∀ its : List Value, its.length = [x.v K d.cls 0].length → ∃ v, its = [v] := fun its hl => by
        match its, hl with
        | [v], _ => exact ⟨v, rfl⟩
      obtain ⟨ds1, _, b1⟩ := hF.binds1 (ps := qs ++ [z]) (qs.length + 1) 1 (by simp [dfs]) (by simp [dfs]) fun T kV doc pm an cdv ct us its hu hi => by
        obtain ⟨v, rfl⟩ := one its hi
        obtain ⟨k, e1, e2⟩ := bind_all (x := d.name) (qual := d.qual) (body := defBody st) (scope := defScope st) (kV := kV) (doc := doc) (pm := pm) (an := an) (cdv := cdv) (ct := ct) h2 T v hu
        exact ⟨k, e1, by simpa using e2⟩
      obtain ⟨ds2, v2, b2⟩ := hF.binds1 (ps := qs ++ [z]) qs.length 0 (by simp [dfs]) (by simp [dfs]) fun T kV doc pm an cdv ct us its hu hi => by
        obtain ⟨v, rfl⟩ := one its hi
        obtain ⟨k, e1, e2⟩ := bind_dfl (x := d.name) (qual := d.qual) (body := defBody st) (scope := defScope st) (kV := kV) (doc := doc) (pm := pm) (an := an) (cdv := cdv) (ct := ct) h2 T v hu
        exact ⟨k, e1, by simpa using e2⟩
      refine ⟨?_, ds2, by simpa using v2, b2⟩
      rename_i hv
      have e : ds1 = [] := by
        cases hv
        rfl
      rw [e] at b1
      exact b1
theorem fd_ok {cs : List Nat} {gi : List (Str × Int)} {n : Nat} {pre : List Fd} {d : Fd} {st : Stmt} (fr : Free K mg cs gi) (hp : ∀ e ∈ pre, Good P w K mg base Γ n e) (hc : chkFd cs gi pre d st = true) (ha : FdAt K mg d st) (ho : Obl Γ K d) : Good P w K mg base Γ (n + 2) d := by
  obtain ⟨h1, h2⟩ := and2 hc
  obtain ⟨h2, h3⟩ := and2 h2
  obtain ⟨h3, h4⟩ := and2 h3
  obtain ⟨f, fd, hF, hm⟩ := ha
  obtain ⟨b1, b2⟩ := binds_of hF h2 h3
  refine ⟨f, fd, funG (k := n + 1) hF (scopeB_ok h1) (fun vs H Q E h => (ho vs H Q E h).1) (fun cdv A outer s H vs Q E hr hg h => ⟨_, ?_, (ho vs H Q E h).2⟩), hm, hF.kp, b1, b2, ?_⟩
  rotate_left
  · obtain ⟨oc, od, dV, kV, doc, pm, an, cdv, ct, osl, e, lk, _⟩ := hF.ex
    exact ⟨oc, od, osl, lk⟩
  have find : ∀ i fk, (fxOf cs gi pre).f i = some fk → ∃ g ∈ pre, g.id = i ∧ g.fk = fk := fun i fk hi => by
    have hi' : (pre.find? fun d => d.id == i).map Fd.fk = some fk := hi
    cases e : pre.find? (fun d => d.id == i) with
    | none =>
      rw [e] at hi'
      cases hi'
    | some g =>
      rw [e] at hi'
      exact ⟨g, List.mem_of_find?_eq_some e, by simpa using List.find?_some e, Option.some.inj hi'⟩
  have ck : Cok (cxOf (L2.CX P w) P w K mg base d.N d.qual (defScope st) f cdv A outer s H E) Γ (fxOf cs gi pre) d.N n (defScope st) := {
    scope := rfl
    hN := rfl
    nd := (scopeB_ok h1).nd
    calm := rfl
    room := hr
    gd := hg
    blt := fr.blt
    rng := fr.rng
    enu := fr.enu
    zip := fr.zip
    set := fr.set
    rvd := fr.rvd
    isi := fr.isi
    rep := fr.rep
    tys := fr.tys
    cls := fun c z => fr.cls c (by simpa [fxOf] using z)
    gis := fr.gis
    sys := fr.sys
    fns := fun i x hi => by
      obtain ⟨g, hg, rfl, hk⟩ := find i _ hi
      obtain ⟨f', fd', g1, g2, g3, g4, _⟩ := hp g hg
      unfold Fd.fk at hk
      split at hk
      · rename_i h0
        cases hk
        exact ⟨f', fd', g.ps, g1, g2.1 h0, g3, g4⟩
      · split at hk <;> cases hk
    mts := fun i c x dfl hi => by
      obtain ⟨g, hg, rfl, hk⟩ := find i _ hi
      obtain ⟨f', fd', g1, g2, g3, g4, g5, oc, od, osl, g6⟩ := hp g hg
      unfold Fd.fk at hk
      split at hk
      · cases hk
      · rename_i h0
        split at hk
        · cases hk
        · rename_i hpr
          cases hk
          obtain ⟨m1, m2⟩ := g2.2.1 h0 (by simpa using hpr)
          have g7 : PySem.W.fnIn K f' = true := by
            unfold PySem.W.fnIn
            rw [g6]
          exact ⟨f', fd', g.ps, g1, m1, g7, g4, fun e => ⟨(m2 e).1, (m2 e).2, g5⟩⟩
    prs := fun i c x hi => by
      obtain ⟨g, hg, rfl, hk⟩ := find i _ hi
      obtain ⟨f', fd', g1, g2, g3, g4, _⟩ := hp g hg
      unfold Fd.fk at hk
      split at hk
      · cases hk
      · rename_i h0
        split at hk
        · rename_i hpr
          cases hk
          obtain ⟨q, m1⟩ := g2.2.2 h0 hpr
          exact ⟨q, f', fd', g.ps, g1, m1, g4⟩
        · cases hk }
  exact okSs ck (takes_of rfl rfl rfl rfl) (passes_of rfl) (fun _ => rfl) (scopeB_ok h1).kind d.body (defBody st) h4
theorem tab_ok {top : Nat → Stmt} {cs : List Nat} {gi : List (Str × Int)} (fr : Free K mg cs gi) : ∀ (ds pre : List Fd) (n : Nat), (∀ e ∈ pre, Good P w K mg base Γ n e) → chkTab top cs gi pre ds = true → (∀ d ∈ ds, FdAt K mg d (top d.id)) → (∀ d ∈ ds, Obl Γ K d) → ∀ e ∈ pre ++ ds, Good P w K mg base Γ (n + 2 * ds.length) e
  | [], pre, n, hp, _, _, _, e, he => hp e (by simpa using he)
  | d :: ds, pre, n, hp, hc, ha, ho, e, he => by
    obtain ⟨h1, h2⟩ := and2 (show (chkFd cs gi pre d (top d.id) && chkTab top cs gi (pre ++ [d]) ds) = true from hc)
    have g := fd_ok fr hp h1 (ha d List.mem_cons_self) (ho d List.mem_cons_self)
    have r := tab_ok fr ds (pre ++ [d]) (n + 2) (fun x hx => by
      rcases List.mem_append.mp hx with q | q
      · exact (hp x q).mono (by omega)
      · rw [List.mem_singleton.mp q]
        exact g) h2 (fun x hx => ha x (List.mem_cons_of_mem _ hx)) (fun x hx => ho x (List.mem_cons_of_mem _ hx)) e (by simpa using he)
    exact r.mono (by rw [List.length_cons]; omega)
end
end LT

namespace LT
open PySem PySem.Spec PyProof.Rows L2
def prG (K : PySem.W.Frag) (p : Addr) : Addr := match PySem.W.recIn K p "property" with
  | some (.ref g :: _) => g
  | _ => 0
def adrOf (K : PySem.W.Frag) (d : Fd) : Addr := if d.cls = 0 then He.ga K d.name else if d.prop = true then prG K (He.ma K (ca K d.cls) d.name) else He.ma K (ca K d.cls) d.name
def fnAt (K : PySem.W.Frag) (a : Addr) : He.FnW := match K.lookup a with
  | some ⟨_, _, .func g, _⟩ => some (g.name, g.qualname, g.params, g.body, g.scope, g.globals, g.closure, g.builtins)
  | _ => none
def fnVal (st : Stmt) (d : Fd) : He.FnW := some (d.name, d.qual, defArgs st, .stmts (defBody st), defScope st, mainGlobals, [], builtinsNs)
def codeAt (K : PySem.W.Frag) (d : Fd) (a : Addr) : Bool := match K.lookup a with
  | some ⟨_, _, .func g, _⟩ => PySem.W.codeIn K g.code d.qual && (He.dflB K g.defaults (dfs K d.cls d.dfl 0) && He.kwdB K g.kwdefaults [])
  | _ => false
def unitB (K : PySem.W.Frag) (a : Addr) : Bool := match K.lookup a with
  | some ⟨.type t, _, .seq its _, _⟩ => decide (t = "tuple") && its.isEmpty
  | _ => false
def dfB (K : PySem.W.Frag) (c : Nat) : List Df → Nat → Bool
  | [], _ => true
  | .non :: ds, j => dfB K c ds (j + 1)
  | .unit :: ds, j => unitB K (He.dflAt (cnm c, some "__init__") j K) && dfB K c ds (j + 1)
def prB (K : PySem.W.Frag) (c : Nat) (m : Str) : Bool :=
  He.eqO (PySem.W.findIn K (.ref (ca K c)) m) (some (some (.ref (He.ma K (ca K c) m)))) && (He.eqO (PySem.W.specialIn K (.ref (He.ma K (ca K c) m)) "__get__") (some (some (.builtin "property.__get__"))) &&
    (decide (PySem.W.takesIn K (.ref (He.ma K (ca K c) m)) = some true) && (match PySem.W.recIn K (He.ma K (ca K c) m) "property" with
      | some (.ref _ :: _) => true
      | _ => false)))
def standB (K : PySem.W.Frag) (d : Fd) : Bool := if d.cls = 0 then (He.Fa.glo d.name).ok K else if d.prop = true then prB K d.cls d.name else
  (He.Fa.meth (cnm d.cls) d.name).ok K && (if d.name = "__init__" then (He.Fa.mkr (cnm d.cls)).ok K && dfB K d.cls d.dfl 0 else true)
def allBt : List Bt := [.len, .abs, .max, .min, .int, .list, .tuple, .sum, .all, .any, .sorted, .divmod]
theorem allBt_mem (b : Bt) : b ∈ allBt := by cases b <;> decide
def freeM : List Str := ["range", "enumerate", "zip", "set", "reversed", "isinstance", "repr", "bool", "str", "dict"]
def freeN : List Str := allBt.map Bt.nm ++ freeM
def bits (cs : List Nat) (gi : List (Str × Int)) (tab : List Fd) (K : PySem.W.Frag) : Bool :=
  (freeN.all fun x => (He.Fa.free x).ok K) && (kOkB K && ((cs.all fun c => allC.contains c && (presB K c && (He.Fa.glo (cnm c)).ok K)) && ((gi.all fun q => (He.Fa.int q.1 q.2).ok K) && (tab.all fun d => standB K d && (PySem.W.keepIn K (.ref (adrOf K d)) && codeAt K d (adrOf K d))))))
abbrev AlL : Type := Bool × List He.FnW
def obsL (cs : List Nat) (gi : List (Str × Int)) (tab : List Fd) (K : PySem.W.Frag) : AlL := (bits cs gi tab K, tab.map fun d => fnAt K (adrOf K d))
def valL (top : Nat → Stmt) (tab : List Fd) : AlL := (true, tab.map fun d => fnVal (top d.id) d)
def obsG7 (n : Nat) (cs : List Nat) (gi : List (Str × Int)) (tab : List Fd) (g : Addr → Option Obj) : AlL := obsL cs gi tab (He.frG g (He.asD g n))
def hookL (n : Nat) (top : Nat → Stmt) (cs : List Nat) (gi : List (Str × Int)) (tab : List Fd) : PySem.W.Hook where
  α := AlL
  obs := fun s => obsG7 n cs gi tab s.heap.get?
  val := fun _ => valL top tab
  says := fun _ h => ∃ K : PySem.W.Frag, K.In h ∧ obsL cs gi tab K = valL top tab
  of := fun _ _ e => ⟨_, He.frG_in, e⟩
  keeps := fun _ _ _ ⟨K, hK, c⟩ k => ⟨K, PySem.W.Frag.In.keeps hK k, c⟩
theorem obsG7_eq {n : Nat} {top : Nat → Stmt} {cs : List Nat} {gi : List (Str × Int)} {tab : List Fd} {g : Addr → Option Obj} {s : Shared} (h : ∀ a, g a = s.heap.get? a) : obsG7 n cs gi tab g = (hookL n top cs gi tab).obs s := by
  have e : g = s.heap.get? := funext h
  rw [e]
  rfl
section
variable {K : PySem.W.Frag} {h : Heap} {mg : Str → Option Value} {top : Nat → Stmt} {cs : List Nat} {gi : List (Str × Int)} {tab : List Fd}
theorem says_bits (c : obsL cs gi tab K = valL top tab) : bits cs gi tab K = true := congrArg Prod.fst c
theorem says_fn (c : obsL cs gi tab K = valL top tab) {d : Fd} (hd : d ∈ tab) : fnAt K (adrOf K d) = fnVal (top d.id) d := by
  obtain ⟨i, hi⟩ := List.mem_iff_getElem?.mp hd
  have e : tab.map (fun d => fnAt K (adrOf K d)) = tab.map fun d => fnVal (top d.id) d := congrArg Prod.snd c
  have e2 := congrArg (fun l => l[i]?) e
  simp only [List.getElem?_map, hi] at e2
  exact Option.some.inj e2
theorem free_of (X : K.In h) (G : h.Ns mainGlobals mg) (c : obsL cs gi tab K = valL top tab) : Free K mg cs gi := by
  obtain ⟨h1, h2⟩ := and2 (says_bits c)
  obtain ⟨h2, h3⟩ := and2 h2
  obtain ⟨h3, h4⟩ := and2 h3
  obtain ⟨h4, h5⟩ := and2 h4
  have fr : ∀ x ∈ freeN, mg x = none := fun x hx => He.free_ok X G (List.all_eq_true.mp h1 x hx)
  refine ⟨fun b => fr _ (List.mem_append_left _ (List.mem_map_of_mem (allBt_mem b))), fr _ (List.mem_append_right _ (by simp [freeM])), fr _ (List.mem_append_right _ (by simp [freeM])), fr _ (List.mem_append_right _ (by simp [freeM])), fr _ (List.mem_append_right _ (by simp [freeM])), fr _ (List.mem_append_right _ (by simp [freeM])), fr _ (List.mem_append_right _ (by simp [freeM])), fr _ (List.mem_append_right _ (by simp [freeM])), fun n => ?_, fun c1 hc => ?_, fun x i hx => ?_, (and2 (show ((K.lookup sysModules).isSome && allC.all fun c => !presB K c || clsB K c) = true from h2)).1⟩
  · cases n with
    | int => exact fr _ (List.mem_append_left _ (List.mem_map_of_mem (allBt_mem .int)))
    | bool => exact fr _ (List.mem_append_right _ (by simp [freeM, Bty.nm]))
    | tuple => exact fr _ (List.mem_append_left _ (List.mem_map_of_mem (allBt_mem .tuple)))
    | list => exact fr _ (List.mem_append_left _ (List.mem_map_of_mem (allBt_mem .list)))
    | str => exact fr _ (List.mem_append_right _ (by simp [freeM, Bty.nm]))
    | dict => exact fr _ (List.mem_append_right _ (by simp [freeM, Bty.nm]))
  · obtain ⟨g1, g2⟩ := and2 (List.all_eq_true.mp h3 c1 hc)
    obtain ⟨g2, g3⟩ := and2 g2
    exact ⟨⟨h2, g2, by simpa using g1⟩, He.glo_ok X G g3⟩
  · have key : ∀ l : List (Str × Int), l.lookup x = some i → (x, i) ∈ l := by
      intro l
      induction l with
      | nil => intro z; cases z
      | cons q qs ih =>
        intro z
        obtain ⟨a, b⟩ := q
        rw [List.lookup_cons] at z
        split at z
        · rename_i e
          cases z
          rw [show x = a by simpa using e]
          exact List.mem_cons_self
        · exact List.mem_cons_of_mem _ (ih z)
    exact He.int_ok X G (List.all_eq_true.mp h4 (x, i) (key gi hx))
theorem dfsOk_of {c : Nat} : ∀ {l : List Df} {j : Nat}, dfB K c l j = true → dfsOk K c l j
  | [], _, _ => trivial
  | .non :: l, j, z => ⟨trivial, dfsOk_of (l := l) (j := j + 1) z⟩
  | .unit :: l, j, z => by
    obtain ⟨z1, z2⟩ := and2 (show (unitB K (He.dflAt (cnm c, some "__init__") j K) && dfB K c l (j + 1)) = true from z)
    refine ⟨fun H => ?_, dfsOk_of (l := l) (j := j + 1) z2⟩
    unfold unitB at z1
    split at z1
    · rename_i t o its n sl e
      obtain ⟨y1, y2⟩ := and2 z1
      obtain rfl : t = "tuple" := of_decide_eq_true y1
      have e2 : its = #[] := Array.isEmpty_iff.mp y2
      subst e2
      exact .inr ⟨_, #[], n, e, rfl, rfl, Nat.zero_le _, .nil⟩
    · cases z1
theorem stands_of (X : K.In h) (G : h.Ns mainGlobals mg) {d : Fd} (z : standB K d = true) : Stands K mg d (adrOf K d) := by
  unfold standB at z
  refine ⟨fun h0 => ?_, fun h0 h1 => ?_, fun h0 h1 => ?_⟩
  · rw [if_pos h0] at z
    unfold adrOf
    rw [if_pos h0]
    exact He.glo_ok X G z
  · rw [if_neg h0, if_neg (by rw [h1]; decide)] at z
    obtain ⟨z1, z2⟩ := and2 z
    unfold adrOf
    rw [if_neg h0, if_neg (by rw [h1]; decide)]
    refine ⟨He.meth_ok z1, fun e => ?_⟩
    rw [if_pos e] at z2
    obtain ⟨z2, z3⟩ := and2 z2
    rw [e]
    exact ⟨He.mkr_ok z2, dfsOk_of z3⟩
  · rw [if_neg h0, if_pos h1] at z
    obtain ⟨z1, z2⟩ := and2 z
    obtain ⟨z2, z3⟩ := and2 z2
    obtain ⟨z3, z4⟩ := and2 z3
    unfold adrOf
    rw [if_neg h0, if_pos h1]
    refine ⟨_, He.eqO_ok z1, He.eqO_ok z2, of_decide_eq_true z3, ?_⟩
    unfold prG
    split at z4
    · rename_i g r e
      rw [e]
      exact ⟨r, rfl⟩
    · cases z4
theorem fdAt_of (X : K.In h) (G : h.Ns mainGlobals mg) (c : obsL cs gi tab K = valL top tab) (d : Fd) (hd : d ∈ tab) : FdAt K mg d (top d.id) := by
  obtain ⟨_, h5⟩ := and2 (and2 (and2 (and2 (says_bits c)).2).2).2
  obtain ⟨z1, z2⟩ := and2 (List.all_eq_true.mp h5 d hd)
  obtain ⟨z2, z3⟩ := and2 z2
  have e := says_fn c hd
  unfold fnAt fnVal at e
  unfold codeAt at z3
  cases q : K.lookup (adrOf K d) with
  | none =>
    rw [q] at z3
    cases z3
  | some o =>
    obtain ⟨oc, od, dt, osl⟩ := o
    rw [q] at z3 e
    cases dt with
    | func g =>
      obtain ⟨n1, n2, n3, n4, n5, n6, n7, n8, n9, n10, n11, n12, n13, n14, n15⟩ := g
      simp only [Option.some.injEq, Prod.mk.injEq] at e
      obtain ⟨rfl, rfl, rfl, rfl, rfl, rfl, rfl, rfl⟩ := e
      obtain ⟨y1, y2⟩ := and2 z3
      obtain ⟨y2, y3⟩ := and2 y2
      exact ⟨_, _, ⟨⟨oc, od, n8, n9, n10, n11, n12, n13, n14, osl, rfl, q, y1, He.dflB_ok y2, He.kwdB_ok y3⟩, z2⟩, stands_of X G z1⟩
    | _ => cases z3
end
theorem whole {l : PySem.W.OpenLaw} {w : World} {K : PySem.W.Frag} {h : Heap} {mg : Str → Option Value} {top : Nat → Stmt} {cs : List Nat} {gi : List (Str × Int)} {tab : List Fd} {Γ : Nat → Sp} {f : Addr} {x : Str} (d : Fd) (hd : d ∈ tab) (h0 : d.cls = 0) (hps : d.ps = [x]) (hdf : d.dfl = []) (X : K.In h) (G : h.Ns mainGlobals mg) (hfa : mg d.name = some (.ref f))
    (c : obsL cs gi tab K = valL top tab) (hc : chkTab top cs gi [] tab = true) (ho : ∀ e ∈ tab, Obl Γ K e) :
    ∃ fd : FuncData, (∀ (s : Shared) (v : Value), BindsTo s fd ⟨[v], []⟩ [(x, v)]) ∧ ∀ base : Heap, K.In base → base.Ns mainGlobals mg → FnG l.prog w K mg base CX0 (2 * tab.length) f fd [x] (fun vs H Q _ => Γ d.id vs H Q fun _ _ _ => False) := by
  obtain ⟨f', fd, hF, hm⟩ := fdAt_of X G c d hd
  have e := hfa.symm.trans (hm.1 h0)
  cases e
  have hpl : plainArgs (defArgs (top d.id)) d.ps = true := by
    have key : ∀ (ds pre : List Fd), chkTab top cs gi pre ds = true → d ∈ ds → ∃ pre', chkFd cs gi pre' d (top d.id) = true := by
      intro ds
      induction ds with
      | nil => intro _ _ z; cases z
      | cons a ds ih =>
        intro pre h1 h2
        obtain ⟨g1, g2⟩ := and2 (show (chkFd cs gi pre a (top a.id) && chkTab top cs gi (pre ++ [a]) ds) = true from h1)
        rcases List.mem_cons.mp h2 with q | q
        · subst q
          exact ⟨pre, g1⟩
        · exact ih _ g2 q
    obtain ⟨pre', g⟩ := key tab [] hc hd
    exact (and2 (and2 g).2).1
  rw [hdf] at hF
  refine ⟨fd, fun s v => ?_, fun base KB GB => ?_⟩
  · have := hF.bindsA (ps := d.ps) (fun _ _ _ _ _ _ us hl => bind_plain hpl hl) s [v] (by rw [hps]; rfl)
    rw [hps] at this
    exact this
  · obtain ⟨f2, fd2, g1, g2, g3, g4, g5, oc, od, osl, g6⟩ := tab_ok (P := l.prog) (w := w) (base := base) (Γ := Γ) (free_of X G c) tab [] 0 (by simp) hc (fun e he => fdAt_of X G c e he) ho d (by simpa using hd)
    have e2 := (hm.1 h0).symm.trans (g2.1 h0)
    cases e2
    obtain ⟨oc', od', _, _, _, _, _, _, _, osl', _, lk, _⟩ := hF.ex
    rw [lk] at g6
    cases g6
    have r := calmG g1
    rw [hps] at r
    simpa using r
end LT

namespace LT
open PySem PySem.Spec PyProof.Rows L2
def obsR (n : Nat) (cs : List Nat) (gi : List (Str × Int)) (tab : List Fd) (g : Addr → Option Obj) : AlL := obsL cs gi tab (He.frG g (List.range n))
def hookR (n : Nat) (top : Nat → Stmt) (cs : List Nat) (gi : List (Str × Int)) (tab : List Fd) : PySem.W.Hook where
  α := AlL
  obs := fun s => obsR n cs gi tab s.heap.get?
  val := fun _ => valL top tab
  says := fun _ h => ∃ K : PySem.W.Frag, K.In h ∧ obsL cs gi tab K = valL top tab
  of := fun _ _ e => ⟨_, He.frG_in, e⟩
  keeps := fun _ _ _ ⟨K, hK, c⟩ k => ⟨K, PySem.W.Frag.In.keeps hK k, c⟩
theorem obsR_eq {n : Nat} {top : Nat → Stmt} {cs : List Nat} {gi : List (Str × Int)} {tab : List Fd} {g : Addr → Option Obj} {s : Shared} (h : ∀ a, g a = s.heap.get? a) : obsR n cs gi tab g = (hookR n top cs gi tab).obs s := by
  have e : g = s.heap.get? := funext h
  rw [e]
  rfl
end LT

namespace LT
open PySem PySem.Spec PyProof.Rows L2
def d9 : Fd := { id := 9, name := "_law_bag", N := ["_law_script", "_law_cell"], ps := ["_law_script"], body := [
  .ret (.lst [(.cst (.int 0)), (.cst (.int 1234567891)), (.cst (.int 0)), (.lc (.blt .abs [(.var 1)]) (.name 1) (.seq (.slT (.var 0) (.cst (.int 63)))) [("_law_cell", 1)])])] }
def d10 : Fd := { id := 10, name := "_law_take", N := ["_law_bag_here", "_law_many", "_law_cell", "_law_mixed", "_law_drawn", "_law_early", "_law_second"], ps := ["_law_bag_here", "_law_many"], body := [
  .ifs (.cmp .Eq (.ix (.var 0) (.cst (.int 0))) (.cst (.int 0))) [.asg (.name 2) (.cst (.int 0)), .ifs (.cmp .Lt (.ix (.var 0) (.cst (.int 2))) (.blt .len [(.ix (.var 0) (.cst (.int 3)))])) [.asg (.name 2) (.ix (.ix (.var 0) (.cst (.int 3))) (.ix (.var 0) (.cst (.int 2))))] [], .augIx (.var 0) (.cst (.int 2)) .Add (.cst (.int 1)), .ifs (.cmp .GtE (.var 2) (.cst (.int 1000000000000000000))) [.setIx (.var 0) (.cst (.int 0)) (.var 2)] [], .asg (.name 3) (.bin .Add (.bin .Add (.bin .Mult (.ix (.var 0) (.cst (.int 1))) (.cst (.int 48271))) (.bin .Mod (.blt .int [(.var 2)]) (.cst (.int 2147483647)))) (.bin .Mult (.cst (.int 7919)) (.ix (.var 0) (.cst (.int 2))))), .setIx (.var 0) (.cst (.int 1)) (.bin .Mod (.blt .int [(.var 3)]) (.cst (.int 2147483647)))] [],
  .ifs (.cmp .Gt (.ix (.var 0) (.cst (.int 0))) (.cst (.int 0))) [.asg (.name 4) (.bin .Mod (.blt .int [(.ix (.var 0) (.cst (.int 0)))]) (.var 1)), .setIx (.var 0) (.cst (.int 0)) (.bin .FloorDiv (.ix (.var 0) (.cst (.int 0))) (.var 1)), .ret (.var 4)] [],
  .asg (.name 5) (.bin .Mod (.blt .int [(.bin .Mult (.bin .Add (.ix (.var 0) (.cst (.int 1))) (.cst (.int 1))) (.cst (.int 39373)))]) (.cst (.int 1000000007))),
  .asg (.name 6) (.bin .Mod (.blt .int [(.bin .Mult (.bin .Mod (.blt .int [(.bin .Mult (.var 5) (.var 5))]) (.cst (.int 998244353))) (.cst (.int 30011)))]) (.cst (.int 998244353))),
  .ret (.bin .Mod (.blt .int [(.bin .FloorDiv (.var 6) (.cst (.int 7)))]) (.var 1))] }
def d87 : Fd := { id := 87, name := "_law_price", N := ["_law_bag_here", "_law_way"], ps := ["_law_bag_here"], body := [
  .asg (.name 1) (.call 10 [(.var 0), (.cst (.int 6))]),
  .ifs (.cmp .Lt (.var 1) (.cst (.int 4))) [.ret (.call 10 [(.var 0), (.ix (.lst [(.cst (.int 2)), (.cst (.int 4)), (.cst (.int 8)), (.cst (.int 100))]) (.var 1))])] [],
  .ret (.bin .Add (.ix (.lst [(.bin .Pow (.cst (.int 10)) (.cst (.int 9))), (.bin .Pow (.cst (.int 10)) (.cst (.int 29)))]) (.bin .Sub (.var 1) (.cst (.int 4)))) (.call 10 [(.var 0), (.cst (.int 3))]))] }
def d16 : Fd := { id := 16, name := "_law_gap_of", N := ["_law_bag_here", "_law_way"], ps := ["_law_bag_here"], body := [
  .asg (.name 1) (.call 10 [(.var 0), (.cst (.int 8))]),
  .ifs (.cmp .Lt (.var 1) (.cst (.int 6))) [.ret (.bin .Add (.cst (.int 1)) (.call 10 [(.var 0), (.ix (.lst [(.cst (.int 1)), (.cst (.int 2)), (.cst (.int 3)), (.cst (.int 5)), (.cst (.int 9)), (.cst (.int 30))]) (.var 1))]))] [],
  .ret (.bin .Add (.ix (.lst [(.bin .Pow (.cst (.int 10)) (.cst (.int 4))), (.bin .Pow (.cst (.int 10)) (.cst (.int 9))), (.bin .Pow (.cst (.int 10)) (.cst (.int 17))), (.bin .Pow (.cst (.int 10)) (.cst (.int 28)))]) (.call 10 [(.var 0), (.cst (.int 4))])) (.call 10 [(.var 0), (.cst (.int 5))]))] }
def d273 : Fd := { id := 273, name := "_law_round", N := ["_law_bag_here", "_law_most", "_law_moment", "_law_changes", "_law_k", "_law_price_here"], ps := ["_law_bag_here", "_law_most"], body := [
  .par2 false true 2 3 (.call 10 [(.var 0), (.cst (.int 4))]) (.lst []),
  .forS (.name 4) (.rng1 (.bin .Add (.cst (.int 1)) (.call 10 [(.var 0), (.var 1)]))) [.asg (.name 5) (.ite (.cmp .Gt (.call 10 [(.var 0), (.cst (.int 3))]) (.cst (.int 0))) (.call 10 [(.var 0), (.cst (.int 4))]) (.call 87 [(.var 0)])), .expr (.bm .append (.var 3) [(.tup [(.var 2), (.var 5)])]), .asg (.name 2) (.bin .Add (.var 2) (.ix (.lst [(.bin .Add (.cst (.int 1)) (.call 10 [(.var 0), (.cst (.int 3))])), (.call 16 [(.var 0)])]) (.call 10 [(.var 0), (.cst (.int 2))])))],
  .fz [3],
  .ret (.tup [(.bin .Add (.bin .Add (.ix (.ix (.var 3) (.neg (.cst (.int 1)))) (.cst (.int 0))) (.cst (.int 1))) (.call 10 [(.var 0), (.cst (.int 4))])), (.var 3)])] }
def d40 : Fd := { id := 40, name := "is_integer", N := ["thing"], ps := ["thing"], body := [
  .ret (.andV (.prim (.isi1 (.b .int)) [(.var 0)]) (.notV (.prim (.isi1 (.b .bool)) [(.var 0)])))] }
def d41 : Fd := { id := 41, name := "is_price", N := ["thing"], ps := ["thing"], body := [
  .ret (.andV (.call 40 [(.var 0)]) (.cmp .GtE (.var 0) (.cst (.int 0))))] }
def d43 : Fd := { id := 43, name := "is_change", N := ["thing"], ps := ["thing"], body := [
  .ret (.andV (.prim (.isi1 (.b .tuple)) [(.var 0)]) (.andV (.cmp .Eq (.blt .len [(.var 0)]) (.cst (.int 2))) (.andV (.call 40 [(.ix (.var 0) (.cst (.int 0)))]) (.call 41 [(.ix (.var 0) (.cst (.int 1)))]))))] }
def d100291 : Fd := { id := 100291, name := "__init__", cls := 4, N := ["self", "period", "changes", "one", "index", "change"], ps := ["self", "period", "changes"], body := [
  .ifs (.or (.not (.tru (.call 41 [(.var 1)]))) (.cmp .Eq (.var 1) (.cst (.int 0)))) [.nev] [],
  .ifs (.or (.not (.tru (.prim (.isi2 (.b .list) (.b .tuple)) [(.var 2)]))) (.or (.cmp .Eq (.blt .len [(.var 2)]) (.cst (.int 0))) (.not (.tru (.blt .all [(.lc (.call 43 [(.var 3)]) (.name 3) (.seq (.var 2)) [("one", 3)])]))))) [.nev] [],
  .forS (.name 4) (.rng2 (.cst (.int 1)) (.blt .len [(.var 2)])) [.ifs (.cmp .LtE (.ix (.ix (.var 2) (.var 4)) (.cst (.int 0))) (.ix (.ix (.var 2) (.bin .Sub (.var 4) (.cst (.int 1)))) (.cst (.int 0)))) [.nev] []],
  .forS (.tup [(.name 4), (.name 5)]) (.enum (.var 2)) [.ifs (.not (.chain .LtE .Lt (.cst (.int 0)) (.ix (.var 5) (.cst (.int 0))) (.var 1))) [.nev] []],
  .asg (.tup [(.fld 0 4 0), (.fld 0 4 1)]) (.tup [(.var 1), (.blt .tuple [(.var 2)])])] }
def d200295 : Fd := { id := 200295, name := "changes", cls := 4, N := ["self"], ps := ["self"], body := [
  .ret (.blt .list [(.prim (.fld 4 1) [(.var 0)])])] }
def d15 : Fd := { id := 15, name := "_law_alike", N := ["_law_found", "_law_due"], ps := ["_law_found", "_law_due"], body := [
  .ret (.andV (.cmp .Eq (.var 0) (.var 1)) (.cmp .Eq (.prim .repr [(.var 0)]) (.prim .repr [(.var 1)])))] }
def d293 : Fd := { id := 293, name := "__len__", cls := 4, N := ["self"], ps := ["self"], body := [
  .ret (.blt .len [(.prim (.fld 4 1) [(.var 0)])])] }
def d292 : Fd := { id := 292, name := "period", cls := 4, prop := true, N := ["self"], ps := ["self"], body := [
  .ret (.prim (.fld 4 0) [(.var 0)])] }
def d691 : Fd := { id := 691, name := "_law_number_by", N := ["_law_rounds", "_law_moment", "_law_turns", "_law_rest", "_law_one_here"], ps := ["_law_rounds", "_law_moment"], body := [
  .asg (.name 2) (.bin .FloorDiv (.var 1) (.ix (.var 0) (.cst (.int 0)))),
  .asg (.name 3) (.bin .Sub (.var 1) (.bin .Mult (.var 2) (.ix (.var 0) (.cst (.int 0))))),
  .ret (.bin .Sub (.bin .Add (.bin .Mult (.var 2) (.blt .len [(.ix (.var 0) (.cst (.int 1)))])) (.blt .len [(.lcIf (.var 4) (.name 4) (.seq (.ix (.var 0) (.cst (.int 1)))) (.cmp .LtE (.ix (.var 4) (.cst (.int 0))) (.var 3)) [("_law_one_here", 4)])])) (.cst (.int 1)))] }
def d11 : Fd := { id := 11, name := "_law_one", N := ["_law_bag_here", "_law_things"], ps := ["_law_bag_here", "_law_things"], body := [
  .ret (.ix (.var 1) (.call 10 [(.var 0), (.blt .len [(.var 1)])]))] }
def d688 : Fd := { id := 688, name := "_law_told_at", N := ["_law_rounds", "_law_number", "_law_period", "_law_changes", "_law_turns"], ps := ["_law_rounds", "_law_number"], body := [
  .asg (.tup [(.name 2), (.name 3)]) (.var 0),
  .asg (.name 4) (.bin .FloorDiv (.var 1) (.blt .len [(.var 3)])),
  .ret (.bin .Add (.bin .Mult (.var 4) (.var 2)) (.ix (.ix (.var 3) (.bin .Sub (.var 1) (.bin .Mult (.var 4) (.blt .len [(.var 3)])))) (.cst (.int 0))))] }
def d296 : Fd := { id := 296, name := "price_of", cls := 4, N := ["self", "number"], ps := ["self", "number"], body := [
  .ret (.ix (.ix (.prim (.fld 4 1) [(.var 0)]) (.bin .Mod (.blt .int [(.var 1)]) (.blt .len [(.prim (.fld 4 1) [(.var 0)])]))) (.cst (.int 1)))] }
def d297 : Fd := { id := 297, name := "told_at", cls := 4, N := ["self", "number", "turns", "spot"], ps := ["self", "number"], body := [
  .asg (.tup [(.name 2), (.name 3)]) (.blt .divmod [(.blt .int [(.var 1)]), (.blt .len [(.prim (.fld 4 1) [(.var 0)])])]),
  .ret (.bin .Add (.bin .Mult (.var 2) (.prim (.fld 4 0) [(.var 0)])) (.ix (.ix (.prim (.fld 4 1) [(.var 0)]) (.var 3)) (.cst (.int 0))))] }
def d689 : Fd := { id := 689, name := "_law_price_at", N := ["_law_rounds", "_law_number"], ps := ["_law_rounds", "_law_number"], body := [
  .ret (.ix (.ix (.ix (.var 0) (.cst (.int 1))) (.bin .Sub (.var 1) (.bin .Mult (.bin .FloorDiv (.var 1) (.blt .len [(.ix (.var 0) (.cst (.int 1)))])) (.blt .len [(.ix (.var 0) (.cst (.int 1)))])))) (.cst (.int 1)))] }
def d298 : Fd := { id := 298, name := "number_at", cls := 4, N := ["self", "moment", "turns", "rest", "one"], ps := ["self", "moment"], body := [
  .asg (.tup [(.name 2), (.name 3)]) (.blt .divmod [(.blt .int [(.var 1)]), (.prim (.fld 4 0) [(.var 0)])]),
  .ret (.bin .Sub (.bin .Add (.bin .Mult (.var 2) (.blt .len [(.prim (.fld 4 1) [(.var 0)])])) (.blt .len [(.lcIf (.var 4) (.name 4) (.seq (.prim (.fld 4 1) [(.var 0)])) (.cmp .LtE (.ix (.var 4) (.cst (.int 0))) (.var 3)) [("one", 4)])])) (.cst (.int 1)))] }
def d690 : Fd := { id := 690, name := "_law_round_moment", N := ["_law_bag_here", "_law_rounds", "_law_number"], ps := ["_law_bag_here", "_law_rounds"], body := [
  .asg (.name 2) (.ix (.lst [(.bin .Sub (.call 10 [(.var 0), (.cst (.int 30))]) (.cst (.int 15))), (.bin .Sub (.call 10 [(.var 0), (.bin .Pow (.cst (.int 10)) (.cst (.int 20)))]) (.bin .Pow (.cst (.int 10)) (.cst (.int 19))))]) (.call 10 [(.var 0), (.cst (.int 2))])),
  .ifs (.cmp .Gt (.blt .abs [(.call 688 [(.var 1), (.var 2)])]) (.bin .Mult (.cst (.int 9)) (.bin .Pow (.cst (.int 10)) (.cst (.int 29))))) [.asg (.name 2) (.call 10 [(.var 0), (.cst (.int 9))])] [],
  .ret (.bin .Add (.call 688 [(.var 1), (.var 2)]) (.call 11 [(.var 0), (.lst [(.cst (.int 0)), (.cst (.int 0)), (.cst (.int 1)), (.neg (.cst (.int 1))), (.cst (.int 3))])]))] }
def d582 : Fd := { id := 582, name := "_law_is_whole", N := ["_law_thing"], ps := ["_law_thing"], body := [
  .ret (.andV (.prim (.isi1 (.b .int)) [(.var 0)]) (.notV (.prim (.isi1 (.b .bool)) [(.var 0)])))] }
def d692 : Fd := { id := 692, name := "_law_right", N := ["_law_bag_here", "_law_made", "_law_rounds", "_law_period", "_law_changes", "_law_again", "_law_told", "_law_k", "_law_far", "_law_number", "_law_moment"], ps := ["_law_bag_here", "_law_made", "_law_rounds"], body := [
  .asg (.tup [(.name 3), (.name 4)]) (.var 2),
  .forS (.name 5) (.rng1 (.cst (.int 3))) [.asgO 6 (.meth 4 "changes" 200295 (.var 1) []), .ifs (.not (.tru (.cold (.call 15 [(.lst [(.var 6), (.prim (.lenO 4 293) [(.var 1)]), (.prim (.prop 4 "period" 292) [(.var 1)])]), (.lst [(.var 4), (.blt .len [(.var 4)]), (.var 3)])])))) [.ret (.cst (.bool false))] [], .expr (.bm .append (.var 6) [(.cst .none)])],
  .forS (.name 7) (.rng1 (.cst (.int 8))) [.asg (.name 8) (.lst [(.call 691 [(.var 2), (.bin .Mult (.cst (.int 9)) (.bin .Pow (.cst (.int 10)) (.cst (.int 29))))]), (.call 691 [(.var 2), (.bin .Mult (.neg (.cst (.int 9))) (.bin .Pow (.cst (.int 10)) (.cst (.int 29))))])]), .asg (.name 9) (.call 11 [(.var 0), (.bin .Add (.var 8) (.lst [(.bin .Sub (.call 10 [(.var 0), (.cst (.int 40))]) (.cst (.int 20)))]))]), .asg (.name 10) (.call 688 [(.var 2), (.var 9)]), .ifs (.not (.tru (.call 15 [(.lst [(.meth 4 "price_of" 296 (.var 1) [(.var 9)]), (.meth 4 "told_at" 297 (.var 1) [(.var 9)])]), (.lst [(.call 689 [(.var 2), (.var 9)]), (.var 10)])]))) [.ret (.cst (.bool false))] [], .ifs (.not (.tru (.call 15 [(.lst [(.meth 4 "number_at" 298 (.var 1) [(.var 10)]), (.meth 4 "number_at" 298 (.var 1) [(.bin .Sub (.var 10) (.cst (.int 1)))])]), (.lst [(.var 9), (.bin .Sub (.var 9) (.cst (.int 1)))])]))) [.ret (.cst (.bool false))] [], .asg (.name 10) (.call 690 [(.var 0), (.var 2)]), .asg (.name 9) (.meth 4 "number_at" 298 (.var 1) [(.var 10)]), .ifs (.or (.not (.tru (.call 582 [(.var 9)]))) (.cmp .Gt (.call 688 [(.var 2), (.var 9)]) (.var 10))) [.ret (.cst (.bool false))] [], .ifs (.cmp .LtE (.call 688 [(.var 2), (.bin .Add (.var 9) (.cst (.int 1)))]) (.var 10)) [.ret (.cst (.bool false))] []],
  .ret (.cst (.bool true))] }
def d693 : Fd := { id := 693, name := "_law_other", N := ["_law_bag_here", "_law_rounds", "_law_period", "_law_changes", "_law_way", "_law_at"], ps := ["_law_bag_here", "_law_rounds"], body := [
  .par2 false true 2 3 (.ix (.var 1) (.cst (.int 0))) (.blt .list [(.ix (.var 1) (.cst (.int 1)))]),
  .par2 false false 4 5 (.call 10 [(.var 0), (.cst (.int 5))]) (.call 10 [(.var 0), (.blt .len [(.ix (.var 1) (.cst (.int 1)))])]),
  .ifs (.cmp .Eq (.var 4) (.cst (.int 0))) [.fz [3], .ret (.tup [(.bin .Add (.var 2) (.cst (.int 1))), (.var 3)])] [],
  .ifs (.cmp .Eq (.var 4) (.cst (.int 1))) [.setIx (.var 3) (.var 5) (.tup [(.ix (.ix (.var 3) (.var 5)) (.cst (.int 0))), (.bin .Add (.ix (.ix (.var 3) (.var 5)) (.cst (.int 1))) (.cst (.int 1)))])] [],
  .ifs (.and (.cmp .Eq (.var 4) (.cst (.int 2))) (.cmp .Gt (.blt .len [(.var 3)]) (.cst (.int 1)))) [.ret (.tup [(.var 2), (.bin .Add (.slT (.var 3) (.var 5)) (.slF (.var 3) (.bin .Add (.var 5) (.cst (.int 1)))))])] [],
  .ifs (.and (.cmp .Eq (.var 4) (.cst (.int 3))) (.cmp .Lt (.bin .Add (.ix (.ix (.var 3) (.var 5)) (.cst (.int 0))) (.cst (.int 1))) (.ix (.ix (.bin .Add (.var 3) (.lst [(.tup [(.var 2), (.cst (.int 0))])])) (.bin .Add (.var 5) (.cst (.int 1)))) (.cst (.int 0))))) [.setIx (.var 3) (.var 5) (.tup [(.bin .Add (.ix (.ix (.var 3) (.var 5)) (.cst (.int 0))) (.cst (.int 1))), (.ix (.ix (.var 3) (.var 5)) (.cst (.int 1)))])] [],
  .fz [3],
  .ret (.tup [(.var 2), (.var 3)])] }
def d294 : Fd := { id := 294, name := "__eq__", cls := 4, N := ["self", "other"], ps := ["self", "other"], body := [
  .ifs (.not (.tru (.prim (.isi1 (.c 4)) [(.var 1)]))) [.ret (.cst (.bool false))] [],
  .ret (.andV (.cmp .Eq (.prim (.fld 4 0) [(.var 0)]) (.prim (.fld 4 0) [(.var 1)])) (.cmp .Eq (.prim (.fld 4 1) [(.var 0)]) (.prim (.fld 4 1) [(.var 1)])))] }
def d694 : Fd := { id := 694, name := "law", N := ["_law_script", "_law_bag_here", "_law_turn", "_law_rounds", "_law_handed", "_law_made", "_law_k", "_law_other_here", "_law_its", "_law_same"], ps := ["_law_script"], body := [
  .asg (.name 1) (.call 9 [(.var 0)]),
  .forS (.name 2) (.rng1 (.cst (.int 3))) [.asg (.name 3) (.call 273 [(.var 1), (.cst (.int 6))]), .asgO 4 (.blt .list [(.ix (.var 3) (.cst (.int 1)))]), .asg (.name 5) (.cold (.make 4 100291 [(.ix (.var 3) (.cst (.int 0))), (.ite (.cmp .Eq (.call 10 [(.var 1), (.cst (.int 2))]) (.cst (.int 0))) (.var 4) (.blt .tuple [(.var 4)]))] [])), .expr (.bm .append (.var 4) [(.tup [(.ix (.var 3) (.cst (.int 0))), (.cst (.int 5))])]), .ifs (.not (.tru (.call 692 [(.var 1), (.var 5), (.var 3)]))) [.ret (.cst (.bool false))] [], .forS (.name 6) (.rng1 (.cst (.int 2))) [.asg (.name 7) (.call 693 [(.var 1), (.var 3)]), .par2 false false 8 9 (.make 4 100291 [(.ix (.var 7) (.cst (.int 0))), (.ix (.var 7) (.cst (.int 1)))] []) (.cmp .Eq (.var 7) (.var 3)), .ifs (.not (.tru (.call 15 [(.lst [(.prim (.eqO 4 294 false) [(.var 5), (.var 8)]), (.prim (.eqO 4 294 false) [(.var 8), (.var 5)]), (.prim (.eqO 4 294 true) [(.var 5), (.var 8)])]), (.lst [(.var 9), (.var 9), (.notV (.var 9))])]))) [.ret (.cst (.bool false))] []], .ifs (.not (.tru (.call 15 [(.lst [(.prim (.eqO 4 294 false) [(.var 5), (.var 3)]), (.prim (.eqO 4 294 false) [(.var 5), (.cst .none)]), (.prim (.eqO 4 294 false) [(.var 5), (.ix (.var 3) (.cst (.int 1)))])]), (.lst [(.cst (.bool false)), (.cst (.bool false)), (.cst (.bool false))])]))) [.ret (.cst (.bool false))] []],
  .ret (.cst (.bool true))] }
def tab0 : List Fd := [d9, d10, d87, d16, d273, d40, d41, d43, d100291, d200295, d15, d293, d292, d691, d11, d688, d296, d297, d689, d298, d690, d582, d692, d693, d294, d694]
def tab : List Fd := tab0
def csL : List Nat := [4]
def giL : List (Str × Int) := []
end LT

namespace LT
open PySem PySem.Spec PyProof.Rows L2
def topAt (i : Nat) : Stmt := PySem.Challenge.pw_labeltill_k80_rounds_told.main.body.getD i (.Pass ⟨0, 0, 0, 0⟩)
def clsBody : Stmt → List Stmt
  | .ClassDef _ _ _ b _ _ _ _ _ _ _ => b
  | _ => []
def top : Nat → Stmt
  | 9 => topAt 13
  | 10 => topAt 14
  | 87 => topAt 18
  | 16 => topAt 17
  | 273 => topAt 20
  | 40 => topAt 7
  | 41 => topAt 8
  | 43 => topAt 9
  | 100291 => (clsBody (topAt 11)).getD 0 (.Pass ⟨0, 0, 0, 0⟩)
  | 200295 => (clsBody (topAt 11)).getD 4 (.Pass ⟨0, 0, 0, 0⟩)
  | 15 => topAt 15
  | 293 => (clsBody (topAt 11)).getD 2 (.Pass ⟨0, 0, 0, 0⟩)
  | 292 => (clsBody (topAt 11)).getD 1 (.Pass ⟨0, 0, 0, 0⟩)
  | 691 => topAt 24
  | 11 => topAt 16
  | 688 => topAt 21
  | 296 => (clsBody (topAt 11)).getD 5 (.Pass ⟨0, 0, 0, 0⟩)
  | 297 => (clsBody (topAt 11)).getD 6 (.Pass ⟨0, 0, 0, 0⟩)
  | 689 => topAt 22
  | 298 => (clsBody (topAt 11)).getD 7 (.Pass ⟨0, 0, 0, 0⟩)
  | 690 => topAt 23
  | 582 => topAt 19
  | 692 => topAt 25
  | 693 => topAt 26
  | 294 => (clsBody (topAt 11)).getD 3 (.Pass ⟨0, 0, 0, 0⟩)
  | 694 => topAt 27
  | _ => .Pass ⟨0, 0, 0, 0⟩
theorem chk : chkTab top csL giL [] tab = true := by kernel_rfl
end LT

namespace LT
open PySem PySem.Spec PyProof.Rows L2
abbrev RL : PySem.W.OpenRow := PySem.W.OpenLaw.row PySem.Challenge.rw_labeltill_k80_rounds_told
abbrev hkL : PySem.W.Hook := hookR 3000 top csL giL tab
def obL (s : PySem.W.SharedT) : AlL := obsR 3000 csL giL tab (HandSHeadRun.getT s)
theorem obeL (s : PySem.W.SharedT) : obL s = hkL.obs s.abs := obsR_eq (HandSHeadRun.getT_eq s)
def looseL : List Str := (["_wall", "LabelError", "Wrong", "NotLater", "Outside", "is_integer", "is_price", "is_change", "Rounds", "_law_bag", "_law_take", "_law_alike"] : List Str) ++ (["_law_one", "_law_gap_of", "_law_price", "_law_is_whole", "_law_round", "_law_told_at", "_law_price_at", "_law_round_moment", "_law_number_by", "_law_right", "_law_other"] : List Str)
theorem runL (w : World) : HandSHeadRun.RunEq RL (PySem.W.view RL.prog [27]) hkL obL 20000 looseL w := by
  intro os
  kernel_rfl
end LT

namespace LT
open PySem PySem.Spec PyProof.Rows L2

inductive D where
  | non
  | bl (b : Bool)
  | int (i : Int)
  | str (s : Str)
  | tup (xs : List D)
  | lst (xs : List D)
  | dct (kvs : List (D × D))
  | obj (c : Nat) (fs : List D)
  | bag
  deriving Inhabited
structure BS where
  c : Int
  s : Int
  i : Int
  xs : List Int
  cell : Addr
  deriving DecidableEq
inductive Sl where
  | d (x : D)
  | own (xs : List D)
  | slf (x : Addr) (c : Nat) (fs : List D)
abbrev Env := List (Option Sl)
abbrev Mir := List D → BS → Option (D × BS)

mutual
def D.eq : D → D → Bool
  | .non, .non => true
  | .bl a, .bl b => a == b
  | .bl a, .int j => (if a then 1 else 0) == j
  | .int i, .bl b => i == (if b then 1 else 0)
  | .int i, .int j => i == j
  | .str x, .str y => x == y
  | .lst xs, .lst ys => D.eqs xs ys
  | .tup xs, .tup ys => D.eqs xs ys
  | _, _ => false
def D.eqs : List D → List D → Bool
  | [], [] => true
  | x :: xs, y :: ys => D.eq x y && D.eqs xs ys
  | _, _ => false
end
def pairI : List (D × D) → List (Int × Int)
  | (.int i, .int j) :: r => (i, j) :: pairI r
  | _ => []
def dctD (ps : List (Int × Int)) : D := .dct (ps.map fun p => (.int p.1, .int p.2))
theorem pairI_map : ∀ ps : List (Int × Int), pairI (ps.map fun p => (D.int p.1, D.int p.2)) = ps
  | [] => rfl
  | (i, j) :: ps => by rw [List.map_cons, pairI, pairI_map ps]
mutual
def D.py : D → PyData
  | .non => .none
  | .bl b => .bool b
  | .int i => .int i
  | .str s => .str s
  | .tup xs => .tuple (D.pys xs)
  | .lst xs => .list (D.pys xs)
  | .dct kvs => .dict ((pairI kvs).map fun p => (.int p.1, .int p.2))
  | .obj _ _ => .none
  | .bag => .none
def D.pys : List D → List PyData
  | [] => []
  | x :: xs => D.py x :: D.pys xs
end
mutual
def D.ok : D → Nat → Bool
  | .tup xs, n => match n with
    | 0 => false
    | n + 1 => D.oks xs n
  | .lst xs, n => match n with
    | 0 => false
    | n + 1 => D.oks xs n
  | .dct _, _ => false
  | .obj _ _, _ => false
  | .bag, _ => false
  | .non, _ => true
  | .bl _, _ => true
  | .int _, _ => true
  | .str s, _ => PyData.strOk s
def D.oks : List D → Nat → Bool
  | [], _ => true
  | x :: xs, n => D.ok x n && D.oks xs n
end
mutual
def D.okq : D → Nat → Bool
  | .tup xs, n => match n with
    | 0 => false
    | n + 1 => D.okqs xs n
  | .lst xs, n => match n with
    | 0 => false
    | n + 1 => D.okqs xs n
  | .dct _, n => decide (3 ≤ n)
  | .obj _ _, _ => false
  | .bag, _ => false
  | .non, _ => true
  | .bl _, _ => true
  | .int _, _ => true
  | .str s, _ => PyData.strOk s
def D.okqs : List D → Nat → Bool
  | [], _ => true
  | x :: xs, n => D.okq x n && D.okqs xs n
end
mutual
def D.lf : D → Bool
  | .lst _ => false
  | .bag => false
  | .tup xs => D.lfs xs
  | .obj _ fs => D.lfs fs
  | _ => true
def D.lfs : List D → Bool
  | [] => true
  | x :: xs => D.lf x && D.lfs xs
end
def big : Nat := 10 ^ 100
def dBin : Operator → D → D → Option D
  | .Add, .int x, .int y => some (.int (x + y))
  | .Add, .lst x, .lst y => if x.length + y.length ≤ 1000000 then some (.lst (x ++ y)) else none
  | .Add, .tup x, .tup y => if x.length + y.length ≤ 1000000 then some (.tup (x ++ y)) else none
  | .Add, .str x, .str y => if x.length + y.length ≤ 1000000 then some (.str (x ++ y)) else none
  | .Sub, .int x, .int y => some (.int (x - y))
  | .Mult, .int x, .int y => if (x.natAbs < big ∧ y.natAbs < big) ∨ x.natAbs < 2 ^ 64 ∨ y.natAbs < 2 ^ 64 then some (.int (x * y)) else none
  | .Mult, .lst x, .int y => if 0 ≤ y ∧ y ≤ 100000 ∧ x.length * y.toNat ≤ 1000000 then some (.lst (List.replicate y.toNat x).flatten) else none
  | .Mult, .str x, .int y => if 1 ≤ y ∧ y ≤ 10000 ∧ x.length ≤ 10 then some (.str (Txt.mul x y)) else none
  | .FloorDiv, .int x, .int y => if 0 < y ∧ y.natAbs < big then some (.int (x / y)) else none
  | .Mod, .int x, .int y => if 0 < y then some (.int (x % y)) else none
  | .Pow, .int x, .int y => if 0 ≤ y ∧ y ≤ 1000 ∧ x.natAbs < 2 ^ 64 then some (.int (x ^ y.toNat)) else none
  | _, _, _ => none
def dTru : D → Option Bool
  | .non => some false
  | .bl b => some b
  | .int i => some (i != 0)
  | .lst xs => some (!xs.isEmpty)
  | .tup xs => some (!xs.isEmpty)
  | .str s => if s.length ≤ 1000000 then some ((s.length : Int) != 0) else none
  | _ => none
def isNon : D → Bool
  | .non => true
  | _ => false
def dCmp : CmpOp → D → D → Option Bool
  | .Eq, x, y => if x.ok 60 && y.ok 60 then some (D.eq x y) else none
  | .NotEq, x, y => if x.ok 60 && y.ok 60 then some (!D.eq x y) else none
  | .Lt, .int x, .int y => some (decide (x < y))
  | .LtE, .int x, .int y => some (decide (x ≤ y))
  | .Gt, .int x, .int y => some (decide (y < x))
  | .GtE, .int x, .int y => some (decide (y ≤ x))
  | .Is, x, .non => some (isNon x)
  | .IsNot, x, .non => some (!isNon x)
  | .Is, .bl a, .bl b => some (a == b)
  | .IsNot, .bl a, .bl b => some (a != b)
  | .In, x, .lst ys => if x.ok 60 && (D.lst ys).ok 60 then some (ys.any fun y => D.eq y x) else none
  | .NotIn, x, .lst ys => if x.ok 60 && (D.lst ys).ok 60 then some (!ys.any fun y => D.eq y x) else none
  | _, _, _ => none
def intsD : List D → Option (List Int)
  | [] => some []
  | .int i :: r => (intsD r).map (i :: ·)
  | _ :: _ => none
def boolsD : List D → Option (List Bool)
  | [] => some []
  | .bl i :: r => (boolsD r).map (i :: ·)
  | _ :: _ => none
def maxI : List Int → Option Int
  | [] => none
  | x :: r => some (r.foldl (fun a b => if b > a then b else a) x)
def minI : List Int → Option Int
  | [] => none
  | x :: r => some (r.foldl (fun a b => if b < a then b else a) x)
def insI (x : Int) : List Int → List Int
  | [] => [x]
  | y :: r => if x ≤ y then x :: y :: r else y :: insI x r
def ddI : List Int → List Int
  | [] => []
  | x :: r => if x ∈ r then ddI r else x :: ddI r
def sortI : List Int → List Int
  | [] => []
  | x :: r => insI x (sortI r)
def pairsD : List D → Option (List (Int × Int))
  | [] => some []
  | .tup [.int i, .int j] :: xs => (pairsD xs).map ((i, j) :: ·)
  | _ => none
def leB (a b : Int × Int) : Bool := decide (a.1 < b.1) || (decide (a.1 = b.1) && decide (a.2 ≤ b.2))
def insP (x : Int × Int) : List (Int × Int) → List (Int × Int)
  | [] => [x]
  | y :: r => if leB x y = true then x :: y :: r else y :: insP x r
def sortP : List (Int × Int) → List (Int × Int)
  | [] => []
  | x :: r => insP x (sortP r)
def pD (a : Int × Int) : D := .tup [.int a.1, .int a.2]
def sortD (xs : List D) : Option D := match intsD xs with
  | some l => some (.lst ((sortI l).map .int))
  | none => (pairsD xs).map fun l => .lst ((sortP l).map pD)
def lstsD : List D → Option (List (List D))
  | [] => some []
  | .lst ys :: xs => (lstsD xs).map fun l => ys :: l
  | _ => none
def dBlt : Bt → List D → Option D
  | .len, [.lst xs] => some (.int xs.length)
  | .len, [.tup xs] => some (.int xs.length)
  | .len, [.str s] => if s.length ≤ 1000000 then some (.int s.length) else none
  | .abs, [.int i] => some (.int (if i < 0 then -i else i))
  | .max, [.int i, .int j] => some (.int (if j > i then j else i))
  | .max, [.int i, .int j, .int k] => some (.int (max3 i j k))
  | .max, [.lst xs] => ((intsD xs).bind maxI).map .int
  | .min, [.int i, .int j] => some (.int (if j < i then j else i))
  | .min, [.int i, .int j, .int k] => some (.int (min3 i j k))
  | .min, [.lst xs] => ((intsD xs).bind minI).map .int
  | .int, [.int i] => some (.int i)
  | .int, [.bl k] => some (.int (if k then 1 else 0))
  | .tuple, [.lst xs] => some (.tup xs)
  | .tuple, [.tup xs] => some (.tup xs)
  | .sum, [.lst xs] => (intsD xs).map fun l => .int l.sum
  | .all, [.lst xs] => (boolsD xs).map fun l => .bl (l.all id)
  | .any, [.lst xs] => (boolsD xs).map fun l => .bl (l.any id)
  | .list, [.lst xs] => some (.lst xs)
  | .list, [.tup xs] => some (.lst xs)
  | .sorted, [.lst xs] => sortD xs
  | .sum, [.tup xs] => (intsD xs).map fun l => .int l.sum
  | .divmod, [.int i, .int j] => if 0 < j ∧ j.natAbs < big then some (.tup [.int (i / j), .int (i % j)]) else none
  | _, _ => none
def dIx : D → D → Option D
  | .lst xs, .int i => atI xs i
  | .tup xs, .int i => atI xs i
  | _, _ => none
def cutD (xs : List D) (lo hi : Option Int) : List D := (xs.drop (HT.sIx xs.length 0 lo)).take (HT.sIx xs.length xs.length hi - HT.sIx xs.length 0 lo)
def dSl : D → Option Int → Option Int → Option D
  | .lst xs, lo, hi => some (.lst (cutD xs lo hi))
  | .tup xs, lo, hi => some (.tup (cutD xs lo hi))
  | _, _, _ => none
def dInt : D → Option Int
  | .int i => some i
  | _ => none
def D.flat : D → Bool
  | .non => true
  | .bl _ => true
  | .int _ => true
  | .str _ => true
  | _ => false
def tyIs : Ty → D → Option Bool
  | .b t, .non => some false
  | .b t, .bl _ => some (t == .bool || t == .int)
  | .b t, .int _ => some (t == .int)
  | .b t, .str _ => some (t == .str)
  | .b t, .tup _ => some (t == .tuple)
  | .b t, .lst _ => some (t == .list)
  | .b t, .obj _ _ => some false
  | .b t, .dct _ => some (t == .dict)
  | .c c, .dct _ => some false
  | .c c, .obj c' _ => some (c' == c)
  | .c c, .non => some false
  | .c c, .bl _ => some false
  | .c c, .int _ => some false
  | .c c, .str _ => some false
  | .c c, .tup _ => some false
  | .c c, .lst _ => some false
  | _, _ => none
def D.fits (x : D) : Bool := x.okq 60 && (x.py.showable && decide (x.py.shown.length ≤ 1000000))
def dRepr (x : D) : Option D := if x.fits then some (.str x.py.shown) else none
def Df.d : Df → D
  | .non => .non
  | .unit => .tup []
def rangeD (lo : Int) (n : Nat) : List D := (List.range n).map fun k => .int (lo + (k : Nat))
def enumD (xs : List D) : List D := xs.zipIdx.map fun p => .tup [.int (p.2 : Nat), p.1]
def zip3D (xs ys zs : List D) : List D := (xs.zip (ys.zip zs)).map fun p => .tup [p.1, p.2.1, p.2.2]
def zipD (xs ys : List D) : List D := (xs.zip ys).map fun p => .tup [p.1, p.2]
def dPr (M : Nat → Mir) : Prm → List D → BS → Option (D × BS)
  | .repr, [x], β => (dRepr x).map (·, β)
  | .isi1 t, [x], β => (tyIs t x).map (.bl ·, β)
  | .isi2 t u, [x], β => (tyIs t x).bind fun a => (tyIs u x).map fun b => (.bl (a || b), β)
  | .fld c k, [.obj c' fs], β => if c' = c then (fs[k]?).map (·, β) else none
  | .prop c _ i, [.obj c' fs], β => if c' = c ∧ i < 100000 then M i [.obj c' fs] β else none
  | .lenO c i, [.obj c' fs], β => if c' = c ∧ i < 100000 then (M i [.obj c' fs] β).bind fun r => match r.1 with
    | .int n => if 0 ≤ n ∧ n < 2 ^ 62 then some (.int n, r.2) else none
    | _ => none
    else none
  | .ixO c i, [.obj c' fs, .int y], β => if c' = c ∧ i < 100000 then M i [.obj c' fs, .int y] β else none
  | .eqO c i ng, [.obj c' fs, y], β => if c' = c ∧ i < 100000 then (tyIs (.c c) y).bind fun _ => (M i [.obj c' fs, y] β).bind fun q => match q.1 with
    | .bl b => if q.2 = β then some (.bl (b != ng), β) else none
    | _ => none
    else none
  | .gint _ i, [], β => some (.int i, β)
  | .dct ps, [], β => some (dctD ps, β)
  | .lzip, [.lst xs, .lst ys], β => if xs.length ≤ 1000000 then some (.lst (zipD xs ys), β) else none
  | .suml, [.lst xs], β => (lstsD xs).bind fun l => if l.flatten.length ≤ 1000000 then some (.lst l.flatten, β) else none
  | .lrng1, [.int j], β => if -(2 ^ 62) ≤ j ∧ j ≤ 1000000 then some (.lst (rangeD 0 j.toNat), β) else none
  | .lrng2, [.int i, .int j], β => if -(2 ^ 61) ≤ i ∧ i ≤ 2 ^ 61 ∧ -(2 ^ 62) ≤ j ∧ j - i ≤ 1000000 then some (.lst (rangeD i (j - i).toNat), β) else none
  | .sset, [.lst xs], β => (intsD xs).bind fun ns => if ns.length ≤ 1000 ∨ (ns.length ≤ 100000 ∧ (ddI ns).length ≤ 4000) then some (.lst ((sortI (ddI ns)).map .int), β) else none
  | .cb f, ds, β => if f < 100000 then (M f ds β).bind fun q => if q.2 = β ∧ q.1.flat = true then some q else none else none
  | _, _, _ => none
mutual
def bindT : CT → D → Env → Option Env
  | .name i, x, env => some (env.set i (some (.d x)))
  | .fld _ _ _, _, _ => none
  | .tup ts, x, env => match x with
    | .tup xs => bindTs ts xs env
    | .lst xs => bindTs ts xs env
    | _ => none
def bindTs : List CT → List D → Env → Option Env
  | [], xs, env => match xs with
    | [] => some env
    | _ => none
  | t :: ts, xs, env => match xs with
    | [] => none
    | x :: xs => (bindT t x env).bind (bindTs ts xs)
end
def noOwn (env : Env) (own : List (Str × Nat)) : Bool := (own.map (·.2)).all fun (i : Nat) => match env[i]? with
  | some (some (.own _)) => false
  | some (some (.slf _ _ _)) => false
  | _ => true
def wipeE (env : Env) : List Nat → Env
  | [] => env
  | v :: vs => (wipeE env vs).set v none
def peek (env : Env) : CE → Option (List D)
  | .var i => match env[i]? with
    | some (some (.own xs)) => some xs
    | _ => none
  | _ => none
def pk (env : Env) (c : CE) (ev : Option (D × BS)) (β : BS) : Option (D × BS) := match peek env c with
  | some xs => some (.lst xs, β)
  | none => ev
def mapE (f : D → BS → Option (D × BS)) : List D → BS → Option (List D × BS)
  | [], β => some ([], β)
  | x :: xs, β => (f x β).bind fun r => (mapE f xs r.2).map fun q => (r.1 :: q.1, q.2)
def mapIf (t : D → BS → Option (Bool × BS)) (f : D → BS → Option (D × BS)) : List D → BS → Option (List D × BS)
  | [], β => some ([], β)
  | x :: xs, β => (t x β).bind fun b => match b.1 with
    | true => (f x b.2).bind fun r => (mapIf t f xs r.2).map fun q => (r.1 :: q.1, q.2)
    | false => mapIf t f xs b.2
def coldE : Env → Env
  | [] => []
  | some (.own xs) :: e => some (.d (.lst xs)) :: coldE e
  | s :: e => s :: coldE e
def allD : Env → Bool
  | [] => true
  | none :: e => allD e
  | some (.d _) :: e => allD e
  | _ :: _ => false
def flatE (f : D → BS → Option (List D × BS)) : List D → BS → Option (List D × BS)
  | [], β => some ([], β)
  | x :: xs, β => (f x β).bind fun r => (flatE f xs r.2).map fun q => (r.1 ++ q.1, q.2)
def ssD (xs : List D) (β : BS) : Option (D × BS) := (intsD xs).bind fun ns => if ns.length ≤ 1000 ∨ (ns.length ≤ 100000 ∧ (ddI ns).length ≤ 4000) then some (.lst ((sortI (ddI ns)).map .int), β) else none
mutual
def evP (M : Nat → Mir) : CE → Env → BS → Option (D × BS)
  | .var i, env, β => match env[i]? with
    | some (some (.d x)) => some (x, β)
    | _ => none
  | .cst c, _, β => match c with
    | .int i => some (.int i, β)
    | .bool b => some (.bl b, β)
    | .none => some (.non, β)
    | .str s => some (.str s, β)
    | _ => none
  | .tup es, env, β => (evA M es env β).bind fun r => if r.1.length ≤ 1000000 then some (.tup r.1, r.2) else none
  | .lst es, env, β => (evA M es env β).bind fun r => if r.1.length ≤ 1000000 then some (.lst r.1, r.2) else none
  | .bin op a b, env, β => (pk env a (evP M a env β) β).bind fun r => (pk env b (evP M b env r.2) r.2).bind fun q => (dBin op r.1 q.1).map (·, q.2)
  | .neg a, env, β => (evP M a env β).bind fun r => match r.1 with
    | .int i => some (.int (-i), r.2)
    | _ => none
  | .notV a, env, β => (pk env a (evP M a env β) β).bind fun r => (dTru r.1).map fun t => (.bl (!t), r.2)
  | .andV a b, env, β => (evP M a env β).bind fun r => (dTru r.1).bind fun t => match t with
    | true => evP M b env r.2
    | false => some r
  | .orV a b, env, β => (evP M a env β).bind fun r => (dTru r.1).bind fun t => match t with
    | true => some r
    | false => evP M b env r.2
  | .ite c a b, env, β => (evB M c env β).bind fun r => match r.1 with
    | true => evP M a env r.2
    | false => evP M b env r.2
  | .cmp op a b, env, β => (pk env a (evP M a env β) β).bind fun r => (pk env b (evP M b env r.2) r.2).bind fun q => (dCmp op r.1 q.1).map (.bl ·, q.2)
  | .chain o1 o2 a b c, env, β => (evP M a env β).bind fun r => (evP M b env r.2).bind fun q => (dCmp o1 r.1 q.1).bind fun t => match t with
    | true => (evP M c env q.2).bind fun z => (dCmp o2 q.1 z.1).map (.bl ·, z.2)
    | false => some (.bl false, q.2)
  | .call f es, env, β => (evA M es env β).bind fun r => if f < 100000 then M f r.1 r.2 else none
  | .star _, _, _ => none
  | .prim p es, env, β => (evV M es env β).bind fun r => dPr M p r.1 r.2
  | .meth c _ i o es, env, β => (evP M o env β).bind fun r => match r.1 with
    | .obj c' fs => if c' = c ∧ i < 100000 then (evA M es env r.2).bind fun q => M i (.obj c' fs :: q.1) q.2 else none
    | _ => none
  | .make c i es df, env, β => (evA M es env β).bind fun r => if 100000 ≤ i ∧ i < 200000 then (M i (r.1 ++ df.map Df.d) r.2).bind fun q => match q.1 with
    | .obj c' _ => if c' = c then some q else none
    | _ => none
    else none
  | .blt b es, env, β => (evV M es env β).bind fun r => (dBlt b r.1).map (·, r.2)
  | .ix a b, env, β => (pk env a (evP M a env β) β).bind fun r => (evP M b env r.2).bind fun q => (dIx r.1 q.1).map (·, q.2)
  | .slA a, env, β => (pk env a (evP M a env β) β).bind fun r => (dSl r.1 none none).map (·, r.2)
  | .slF a lo, env, β => (pk env a (evP M a env β) β).bind fun r => (evP M lo env r.2).bind fun q => (dInt q.1).bind fun i => (dSl r.1 (some i) none).map (·, q.2)
  | .slT a hi, env, β => (pk env a (evP M a env β) β).bind fun r => (evP M hi env r.2).bind fun q => (dInt q.1).bind fun i => (dSl r.1 none (some i)).map (·, q.2)
  | .slFT a lo hi, env, β => (pk env a (evP M a env β) β).bind fun r => (evP M lo env r.2).bind fun q => (dInt q.1).bind fun i => (evP M hi env q.2).bind fun z => (dInt z.1).bind fun j => (dSl r.1 (some i) (some j)).map (·, z.2)
  | .rev a, env, β => (pk env a (evP M a env β) β).bind fun r => match r.1 with
    | .lst xs => some (.lst xs.reverse, r.2)
    | _ => none
  | .bm _ _ _, _, _ => none
  | .cold a, env, β => (evP M a (coldE env) β).bind fun r => if r.2.cell = β.cell ∧ (r.1.flat = true ∨ r.1.lf = true) then some r else none
  | .lc2 elt tg it tg1 it1 own, env, β => match tgIn tg own && (tgIn tg1 own && noOwn env own) with
    | true => (evI M it env β).bind fun r => if r.1.length ≤ 1000000 then (flatE (fun x β1 => (bindT tg x (wipeE env (own.map (·.2)))).bind fun e1 => if allD e1 = true then (evI M it1 e1 β1).bind fun s => mapE (fun y β2 => (bindT tg1 y (wipeE e1 tg1.slots)).bind fun e2 => evP M elt e2 β2) s.1 s.2 else none) r.1 r.2).bind fun q => if q.1.length ≤ 1000000 then some (.lst q.1, q.2) else none else none
    | false => none
  | .lc2If elt tg it tg1 it1 c own, env, β => match tgIn tg own && (tgIn tg1 own && noOwn env own) with
    | true => (evI M it env β).bind fun r => if r.1.length ≤ 1000000 then (flatE (fun x β1 => (bindT tg x (wipeE env (own.map (·.2)))).bind fun e1 => if allD e1 = true then (evI M it1 e1 β1).bind fun s => mapIf (fun y β2 => (bindT tg1 y (wipeE e1 tg1.slots)).bind fun e2 => evB M c e2 β2) (fun y β2 => (bindT tg1 y (wipeE e1 tg1.slots)).bind fun e2 => evP M elt e2 β2) s.1 s.2 else none) r.1 r.2).bind fun q => if q.1.length ≤ 1000000 then some (.lst q.1, q.2) else none else none
    | false => none
  | .ssc elt tg it own, env, β => match tgIn tg own && noOwn env own with
    | true => (evI M it env β).bind fun r => if r.1.length ≤ 1000000 then (mapE (fun x β1 => (bindT tg x (wipeE env (own.map (·.2)))).bind fun e1 => evP M elt e1 β1) r.1 r.2).bind fun q => ssD q.1 q.2 else none
    | false => none
  | .lc elt tg it own, env, β => match tgIn tg own && noOwn env own with
    | true => (evI M it env β).bind fun r => if r.1.length ≤ 1000000 then (mapE (fun x β1 => (bindT tg x (wipeE env (own.map (·.2)))).bind fun e1 => evP M elt e1 β1) r.1 r.2).map fun q => (.lst q.1, q.2) else none
    | false => none
  | .lcIf elt tg it c own, env, β => match tgIn tg own && noOwn env own with
    | true => (evI M it env β).bind fun r => if r.1.length ≤ 1000000 then (mapIf (fun x β1 => (bindT tg x (wipeE env (own.map (·.2)))).bind fun e1 => evB M c e1 β1) (fun x β1 => (bindT tg x (wipeE env (own.map (·.2)))).bind fun e1 => evP M elt e1 β1) r.1 r.2).map fun q => (.lst q.1, q.2) else none
    | false => none
def evA (M : Nat → Mir) : List CE → Env → BS → Option (List D × BS)
  | [], _, β => some ([], β)
  | .star a :: es, env, β => (pk env a (evP M a env β) β).bind fun r => match r.1 with
    | .lst xs => (evA M es env r.2).map fun q => (xs ++ q.1, q.2)
    | .tup xs => (evA M es env r.2).map fun q => (xs ++ q.1, q.2)
    | _ => none
  | e :: es, env, β => (evP M e env β).bind fun r => (evA M es env r.2).map fun q => (r.1 :: q.1, q.2)
def evV (M : Nat → Mir) : List CE → Env → BS → Option (List D × BS)
  | [], _, β => some ([], β)
  | e :: es, env, β => (pk env e (evP M e env β) β).bind fun r => (evV M es env r.2).map fun q => (r.1 :: q.1, q.2)
def evB (M : Nat → Mir) : CB → Env → BS → Option (Bool × BS)
  | .not a, env, β => (evB M a env β).map fun r => (!r.1, r.2)
  | .and a b, env, β => (evB M a env β).bind fun r => match r.1 with
    | true => evB M b env r.2
    | false => some (false, r.2)
  | .or a b, env, β => (evB M a env β).bind fun r => match r.1 with
    | true => some (true, r.2)
    | false => evB M b env r.2
  | .cmp op a b, env, β => (pk env a (evP M a env β) β).bind fun r => (pk env b (evP M b env r.2) r.2).bind fun q => (dCmp op r.1 q.1).map (·, q.2)
  | .chain o1 o2 a b c, env, β => (evP M a env β).bind fun r => (evP M b env r.2).bind fun q => (dCmp o1 r.1 q.1).bind fun t => match t with
    | true => (evP M c env q.2).bind fun z => (dCmp o2 q.1 z.1).map (·, z.2)
    | false => some (false, q.2)
  | .tru a, env, β => (pk env a (evP M a env β) β).bind fun r => (dTru r.1).map (·, r.2)
def evI (M : Nat → Mir) : CI → Env → BS → Option (List D × BS)
  | .seq a, env, β => (pk env a (evP M a env β) β).bind fun r => match r.1 with
    | .lst xs => some (xs, r.2)
    | .tup xs => some (xs, r.2)
    | _ => none
  | .rng1 a, env, β => (evP M a env β).bind fun r => match r.1 with
    | .int j => some (rangeD 0 j.toNat, r.2)
    | _ => none
  | .rng2 a b, env, β => (evP M a env β).bind fun r => (evP M b env r.2).bind fun q => match r.1, q.1 with
    | .int i, .int j => some (rangeD i (j - i).toNat, q.2)
    | _, _ => none
  | .enum a, env, β => (pk env a (evP M a env β) β).bind fun r => match r.1 with
    | .lst xs => some (enumD xs, r.2)
    | .tup xs => some (enumD xs, r.2)
    | _ => none
  | .zip a b, env, β => (pk env a (evP M a env β) β).bind fun r => (pk env b (evP M b env r.2) r.2).bind fun q => match r.1, q.1 with
    | .lst xs, .lst ys => some (zipD xs ys, q.2)
    | _, _ => none
  | .zip3 a b c, env, β => (pk env a (evP M a env β) β).bind fun r => (pk env b (evP M b env r.2) r.2).bind fun q => (pk env c (evP M c env q.2) q.2).bind fun z => match r.1, q.1, z.1 with
    | .lst xs, .lst ys, .lst zs => some (zip3D xs ys zs, z.2)
    | _, _, _ => none
  | .rvs a, env, β => (pk env a (evP M a env β) β).bind fun r => match r.1 with
    | .lst xs => some (xs.reverse, r.2)
    | _ => none
end
def evF (M : Nat → Mir) : CE → Env → BS → Option (List D × BS)
  | .lst es, env, β => (evA M es env β).bind fun r => if r.1.length ≤ 1000000 then some r else none
  | .blt .list [e], env, β => (pk env e (evP M e env β) β).bind fun r => match r.1 with
    | .lst xs => some (xs, r.2)
    | .tup xs => some (xs, r.2)
    | _ => none
  | .bin .Add a b, env, β => (pk env a (evP M a env β) β).bind fun r => (pk env b (evP M b env r.2) r.2).bind fun q => match r.1, q.1 with
    | .lst xs, .lst ys => if xs.length + ys.length ≤ 1000000 then some (xs ++ ys, q.2) else none
    | _, _ => none
  | .lc elt tg it own, env, β => match tgIn tg own && noOwn env own with
    | true => (evI M it env β).bind fun r => if r.1.length ≤ 1000000 then mapE (fun x β1 => (bindT tg x (wipeE env (own.map (·.2)))).bind fun e1 => evP M elt e1 β1) r.1 r.2 else none
    | false => none
  | .lcIf elt tg it c own, env, β => match tgIn tg own && noOwn env own with
    | true => (evI M it env β).bind fun r => if r.1.length ≤ 1000000 then mapIf (fun x β1 => (bindT tg x (wipeE env (own.map (·.2)))).bind fun e1 => evB M c e1 β1) (fun x β1 => (bindT tg x (wipeE env (own.map (·.2)))).bind fun e1 => evP M elt e1 β1) r.1 r.2 else none
    | false => none
  | .ssc elt tg it own, env, β => match tgIn tg own && noOwn env own with
    | true => (evI M it env β).bind fun r => if r.1.length ≤ 1000000 then (mapE (fun x β1 => (bindT tg x (wipeE env (own.map (·.2)))).bind fun e1 => evP M elt e1 β1) r.1 r.2).bind fun q => (ssD q.1 q.2).bind fun z => match z.1 with
      | .lst xs => some (xs, z.2)
      | _ => none
      else none
    | false => none
  | .prim .sset es, env, β => (evV M es env β).bind fun r => (dPr M .sset r.1 r.2).bind fun q => match q.1 with
    | .lst xs => some (xs, q.2)
    | _ => none
  | .call f es, env, β => (evA M es env β).bind fun r => if 200000 ≤ f then (M f r.1 r.2).bind fun q => match q.1 with
    | .lst xs => some (xs, q.2)
    | _ => none
    else none
  | .meth c _ i o es, env, β => (evP M o env β).bind fun r => match r.1 with
    | .obj c' fs => if c' = c ∧ 200000 ≤ i then (evA M es env r.2).bind fun q => (M i (.obj c' fs :: q.1) q.2).bind fun z => match z.1 with
      | .lst xs => some (xs, z.2)
      | _ => none
      else none
    | _ => none
  | _, _, _ => none
def evFr (M : Nat → Mir) (e : CE) (env : Env) (β : BS) : Option (List D × BS) := match peek env e with
  | some xs => some (xs, β)
  | none => evF M e env β
def evOwn (M : Nat → Mir) (e : CE) (env : Env) (β : BS) : Option (Sl × BS) := match e with
  | .call f es => (evA M es env β).bind fun r => if 200000 ≤ f then (M f r.1 r.2).bind fun q => match q.1 with
    | .lst xs => some (.own xs, q.2)
    | .non => some (.d .non, q.2)
    | _ => none
    else none
  | e => (evF M e env β).map fun r => (.own r.1, r.2)
def evO (M : Nat → Mir) (o : Bool) (e : CE) (env : Env) (β : BS) : Option (Sl × BS) := match o with
  | true => (evF M e env β).map fun r => (.own r.1, r.2)
  | false => (evP M e env β).map fun r => (.d r.1, r.2)
def evOs (M : Nat → Mir) : List Bool → List CE → Env → BS → Option (List Sl × BS)
  | [], [], _, β => some ([], β)
  | o :: os, e :: es, env, β => (evO M o e env β).bind fun r => (evOs M os es env r.2).map fun q => (r.1 :: q.1, q.2)
  | _, _, _, _ => none
def setAll : List Nat → List Sl → Env → Env
  | i :: is, s :: ss, env => setAll is ss (env.set i (some s))
  | _, _, env => env
mutual
def CT.isF : CT → Bool
  | .name _ => false
  | .fld _ _ _ => true
  | .tup ts => CT.isFs ts
def CT.isFs : List CT → Bool
  | [] => false
  | [t] => CT.isF t
  | t :: ts => CT.isF t && CT.isFs ts
end
def bindFs : List CT → List D → Env → Option Env
  | [], [], env => some env
  | .fld i c k :: ts, x :: xs, env => match env[i]? with
    | some (some (.slf y c' fs)) => if c' = c ∧ fs.length = k ∧ k < (cfl c).length then bindFs ts xs (env.set i (some (.slf y c (fs ++ [x])))) else none
    | _ => none
  | _, _, _ => none
def bindF : CT → D → Env → Option Env
  | .fld i c k, x, env => bindFs [.fld i c k] [x] env
  | .tup ts, .tup xs, env => bindFs ts xs env
  | _, _, _ => none
inductive Out where
  | nx (env : Env) (β : BS)
  | ret (x : D) (β : BS)
def frz1 (i : Nat) (env : Env) : Env := match env[i]? with
  | some (some (.own xs)) => env.set i (some (.d (.lst xs)))
  | _ => env
def frz : List Nat → Env → Env
  | [], env => env
  | i :: is, env => frz is (frz1 i env)
def forE (t : CT) (f : Env → BS → Option Out) : List D → Env → BS → Option Out
  | [], env, β => some (.nx env β)
  | x :: xs, env, β => (bindT t x env).bind fun e1 => (f e1 β).bind fun o => match o with
    | .nx e2 β2 => forE t f xs e2 β2
    | .ret y β2 => some (.ret y β2)
def noPk (env : Env) : CI → Bool
  | .seq a => (peek env a).isNone
  | .enum a => (peek env a).isNone
  | .zip a b => (peek env a).isNone && (peek env b).isNone
  | .zip3 a b c => (peek env a).isNone && ((peek env b).isNone && (peek env c).isNone)
  | .rvs a => (peek env a).isNone
  | _ => true
mutual
def evS (M : Nat → Mir) : CS → Env → BS → Option Out
  | .pass, env, β => some (.nx env β)
  | .fz is, env, β => some (.nx (frz is env) β)
  | .expr e, env, β => match e with
    | .bm .append (.var i) [a] => match env[i]? with
      | some (some (.own xs)) => (evP M a env β).bind fun r => if xs.length < 1000000 then some (.nx (env.set i (some (.own (xs ++ [r.1])))) r.2) else none
      | _ => none
    | .bm .extend (.var i) [a] => match env[i]? with
      | some (some (.own xs)) => (evP M a env β).bind fun r => match r.1 with
        | .lst ys => if xs.length + ys.length ≤ 1000000 then some (.nx (env.set i (some (.own (xs ++ ys)))) r.2) else none
        | _ => none
      | _ => none
    | .bm .insert (.var i) [a, b] => match env[i]? with
      | some (some (.own xs)) => (evP M a env β).bind fun r => (evP M b env r.2).bind fun q => match r.1 with
        | .int k => if xs.length < 1000000 ∧ 0 ≤ k ∧ k ≤ 1000000 then some (.nx (env.set i (some (.own (xs.take k.toNat ++ [q.1] ++ xs.drop k.toNat)))) q.2) else none
        | _ => none
      | _ => none
    | e => (evP M e env β).map fun r => .nx env r.2
  | .ret e, env, β => (evP M e env β).map fun r => .ret r.1 r.2
  | .retN, _, β => some (.ret .non β)
  | .ifs c a b, env, β => (evB M c env β).bind fun r => match r.1 with
    | true => evSs M a env r.2
    | false => evSs M b env r.2
  | .asg t e, env, β => (evP M e env β).bind fun r => match t.isF with
    | true => (bindF t r.1 env).map fun e1 => .nx e1 r.2
    | false => (bindT t r.1 env).map fun e1 => .nx e1 r.2
  | .nev, _, _ => none
  | .asgP os is es, env, β => (evOs M os es env β).bind fun r => if r.1.length = is.length ∧ r.1.length ≤ 1000000 then some (.nx (setAll is r.1 env) r.2) else none
  | .asgO i e, env, β => (evOwn M e env β).map fun r => .nx (env.set i (some r.1)) r.2
  | .par2 oi oj i j a b, env, β => (evO M oi a env β).bind fun r => (evO M oj b env r.2).map fun q => .nx ((env.set i (some r.1)).set j (some q.1)) q.2
  | .par3 oi oj ol i j l a b c, env, β => (evO M oi a env β).bind fun r => (evO M oj b env r.2).bind fun q => (evO M ol c env q.2).map fun z => .nx (((env.set i (some r.1)).set j (some q.1)).set l (some z.1)) z.2
  | .aug i op e, env, β => match env[i]? with
    | some (some (.d (.int x))) => (evP M e env β).bind fun r => match op, r.1 with
      | .Add, .int y => some (.nx (env.set i (some (.d (.int (x + y))))) r.2)
      | .Sub, .int y => some (.nx (env.set i (some (.d (.int (x - y))))) r.2)
      | _, _ => none
    | _ => none
  | .setIx o a e, env, β => match o with
    | .var i => match env[i]? with
      | some (some (.own xs)) => (evP M e env β).bind fun r => (evP M a env r.2).bind fun q => match q.1 with
        | .int k => (ixN xs.length k).map fun j => .nx (env.set i (some (.own (xs.set j r.1)))) q.2
        | _ => none
      | _ => none
    | _ => none
  | .augIx _ _ _ _, _, _ => none
  | .forS t it body, env, β => match noPk env it with
    | true => (evI M it env β).bind fun r => forE t (fun e1 β1 => evSs M body e1 β1) r.1 env r.2
    | false => none
def evSs (M : Nat → Mir) : List CS → Env → BS → Option Out
  | [], env, β => some (.nx env β)
  | s :: ss, env, β => (evS M s env β).bind fun o => match o with
    | .nx e1 β1 => evSs M ss e1 β1
    | .ret x β1 => some (.ret x β1)
end
def evFd (M : Nat → Mir) (d : Fd) : Mir := fun ds β => if ds.length = d.ps.length ∧ d.ps.length ≤ d.N.length then
  (evSs M d.body (ds.map (fun x => some (.d x)) ++ List.replicate (d.N.length - ds.length) none) β).map fun o => match o with
    | .nx _ β1 => (.non, β1)
    | .ret x β1 => (x, β1)
  else none
def evFdO (M : Nat → Mir) (d : Fd) : Mir := fun ds β => if ds.length = d.ps.length ∧ d.ps.length ≤ d.N.length then
  (evSs M d.body.dropLast (ds.map (fun x => some (.d x)) ++ List.replicate (d.N.length - ds.length) none) β).bind fun o => match o, d.body.getLast? with
    | .nx e1 β1, some (.ret e) => (evFr M e e1 β1).map fun r => (.lst r.1, r.2)
    | .ret .non β1, some (.ret _) => some (.non, β1)
    | _, _ => none
  else none
def evFdI (M : Nat → Mir) (d : Fd) (x : Addr) : Mir := fun ds β => if ds.length + 1 = d.ps.length ∧ d.ps.length ≤ d.N.length then
  (evSs M d.body (some (.slf x d.cls []) :: (ds.map (fun x => some (.d x)) ++ List.replicate (d.N.length - (ds.length + 1)) none)) β).bind fun o => match o with
    | .nx (some (.slf y c fs) :: _) β1 => if y = x ∧ c = d.cls ∧ fs.length = (cfl c).length then some (.obj c fs, β1) else none
    | _ => none
  else none
end LT

namespace LT
open PySem PySem.Spec PyProof.Rows L2
abbrev Sub (G H : Hp) : Prop := ∀ a o, G a = some o → H a = some o
theorem Sub.refl (G : Hp) : Sub G G := fun _ _ h => h
theorem Sub.trans {G H I : Hp} (a : Sub G H) (b : Sub H I) : Sub G I := fun x o h => b x o (a x o h)
mutual
inductive Den (K : PySem.W.Frag) (B : Addr) (G : Hp) : V → D → Prop
  | non : Den K B G .non .non
  | bl (b : Bool) : Den K B G (.bl b) (.bl b)
  | int (i : Int) : Den K B G (.int i) (.int i)
  | str (s : Str) : Den K B G (.str s) (.str s)
  | tup {a : Addr} {xs : List V} {ds : List D} : SqT K G a xs → DenAll K B G xs ds → Den K B G (.ref a) (.tup ds)
  | lst {a : Addr} {xs : List V} {ds : List D} : G a = some (.lst xs) → DenAll K B G xs ds → Den K B G (.ref a) (.lst ds)
  | obj {a dx : Addr} {c : Nat} {vs : List V} {ds : List D} : ClsOk K c → G a = some (.ins (ca K c) dx ((cfl c).zip vs)) → G dx = some (.own a) → vs.length = (cfl c).length → DenAll K B G vs ds → Den K B G (.ref a) (.obj c ds)
  | dct {a : Addr} {ps : List (Int × Int)} : G a = some (dKI ps) → Den K B G (.ref a) (dctD ps)
  | bag : Den K B G (.ref B) .bag
inductive DenAll (K : PySem.W.Frag) (B : Addr) (G : Hp) : List V → List D → Prop
  | nil : DenAll K B G [] []
  | cons {v : V} {d : D} {vs : List V} {ds : List D} : Den K B G v d → DenAll K B G vs ds → DenAll K B G (v :: vs) (d :: ds)
end
theorem sub_rd {G H : Hp} {a : Addr} {u : HO} (e : Sub G H) (h : Rd G a u) : Rd H a u := by
  rcases h with h | ⟨o, h⟩
  · exact Or.inl (e a _ h)
  · exact Or.inr ⟨o, e a _ h⟩
theorem sub_t {K : PySem.W.Frag} {G H : Hp} {a : Addr} {xs : List V} (e : Sub G H) (h : SqT K G a xs) : SqT K H a xs := by
  rcases h with h | h
  · exact Or.inl (sub_rd e h)
  · exact Or.inr h
mutual
theorem Den.mono {K : PySem.W.Frag} {B : Addr} {G H : Hp} (e : Sub G H) : ∀ {v : V} {d : D}, Den K B G v d → Den K B H v d
  | _, _, .non => .non
  | _, _, .bl b => .bl b
  | _, _, .int i => .int i
  | _, _, .str s => .str s
  | _, _, .tup h t => .tup (sub_t e h) (DenAll.mono e t)
  | _, _, .lst h t => .lst (e _ _ h) (DenAll.mono e t)
  | _, _, .obj hc h h2 hl t => .obj hc (e _ _ h) (e _ _ h2) hl (DenAll.mono e t)
  | _, _, .dct h => .dct (e _ _ h)
  | _, _, .bag => .bag
theorem DenAll.mono {K : PySem.W.Frag} {B : Addr} {G H : Hp} (e : Sub G H) : ∀ {vs : List V} {ds : List D}, DenAll K B G vs ds → DenAll K B H vs ds
  | _, _, .nil => .nil
  | _, _, .cons h t => .cons (Den.mono e h) (DenAll.mono e t)
end
section
variable {K : PySem.W.Frag} {B : Addr} {G H : Hp}
theorem DenAll.length {vs : List V} {ds : List D} (h : DenAll K B G vs ds) : vs.length = ds.length := by
  induction vs generalizing ds with
  | nil => cases h; rfl
  | cons v vs ih =>
    cases h with
    | cons _ t => rw [List.length_cons, List.length_cons, ih t]
theorem DenAll.app {vs ws : List V} {ds es : List D} (h : DenAll K B G vs ds) (h2 : DenAll K B G ws es) : DenAll K B G (vs ++ ws) (ds ++ es) := by
  induction vs generalizing ds with
  | nil => cases h; exact h2
  | cons v vs ih =>
    cases h with
    | cons a t => exact .cons a (ih t)
theorem DenAll.get {vs : List V} {ds : List D} (h : DenAll K B G vs ds) {j : Nat} {d : D} (e : ds[j]? = some d) : ∃ v, vs[j]? = some v ∧ Den K B G v d := by
  induction vs generalizing ds j with
  | nil => cases h; simp at e
  | cons v vs ih =>
    cases h with
    | cons a t =>
      cases j with
      | zero =>
        simp at e
        subst e
        exact ⟨v, rfl, a⟩
      | succ j => exact ih t (by simpa using e)
theorem DenAll.get' {vs : List V} {ds : List D} (h : DenAll K B G vs ds) {j : Nat} {v : V} (e : vs[j]? = some v) : ∃ d, ds[j]? = some d ∧ Den K B G v d := by
  induction vs generalizing ds j with
  | nil => simp at e
  | cons w vs ih =>
    cases h with
    | cons a t =>
      cases j with
      | zero =>
        simp at e
        subst e
        exact ⟨_, rfl, a⟩
      | succ j => exact ih t (by simpa using e)
theorem DenAll.set {vs : List V} {ds : List D} (h : DenAll K B G vs ds) {j : Nat} {v : V} {d : D} (hv : Den K B G v d) : DenAll K B G (vs.set j v) (ds.set j d) := by
  induction vs generalizing ds j with
  | nil => cases h; exact .nil
  | cons w vs ih =>
    cases h with
    | cons a t =>
      cases j with
      | zero => exact .cons hv t
      | succ j => exact .cons a (ih t)
theorem DenAll.drop {vs : List V} {ds : List D} (h : DenAll K B G vs ds) (n : Nat) : DenAll K B G (vs.drop n) (ds.drop n) := by
  induction vs generalizing ds n with
  | nil => cases h; simp; exact .nil
  | cons w vs ih =>
    cases h with
    | cons a t =>
      cases n with
      | zero => exact .cons a t
      | succ n => exact ih t n
theorem DenAll.take {vs : List V} {ds : List D} (h : DenAll K B G vs ds) (n : Nat) : DenAll K B G (vs.take n) (ds.take n) := by
  induction vs generalizing ds n with
  | nil => cases h; simp; exact .nil
  | cons w vs ih =>
    cases h with
    | cons a t =>
      cases n with
      | zero => exact .nil
      | succ n => exact .cons a (ih t n)
theorem DenAll.rev {vs : List V} {ds : List D} (h : DenAll K B G vs ds) : DenAll K B G vs.reverse ds.reverse := by
  induction vs generalizing ds with
  | nil => cases h; exact .nil
  | cons w vs ih =>
    cases h with
    | cons a t =>
      rw [List.reverse_cons, List.reverse_cons]
      exact (ih t).app (.cons a .nil)
theorem DenAll.rep {vs : List V} {ds : List D} (h : DenAll K B G vs ds) (n : Nat) : DenAll K B G (List.replicate n vs).flatten (List.replicate n ds).flatten := by
  induction n with
  | zero => exact .nil
  | succ n ih =>
    rw [List.replicate_succ, List.replicate_succ, List.flatten_cons, List.flatten_cons]
    exact h.app ih
theorem DenAll.ints {vs : List V} {ds : List D} (h : DenAll K B G vs ds) {ns : List Int} (e : intsD ds = some ns) : vs = ns.map V.int := by
  induction vs generalizing ds ns with
  | nil =>
    cases h
    cases e
    rfl
  | cons v vs ih =>
    cases h with
    | @cons _ d _ ds a t =>
      cases d <;> first | (cases e; done) | skip
      rename_i i
      cases a
      have e2 : (intsD ds).map (i :: ·) = some ns := e
      obtain ⟨ms, h1, h2⟩ := Option.map_eq_some_iff.mp e2
      subst h2
      rw [List.map_cons, ih t h1]
theorem DenAll.bools {vs : List V} {ds : List D} (h : DenAll K B G vs ds) {ns : List Bool} (e : boolsD ds = some ns) : vs = ns.map V.bl := by
  induction vs generalizing ds ns with
  | nil =>
    cases h
    cases e
    rfl
  | cons v vs ih =>
    cases h with
    | @cons _ d _ ds a t =>
      cases d <;> first | (cases e; done) | skip
      rename_i i
      cases a
      have e2 : (boolsD ds).map (i :: ·) = some ns := e
      obtain ⟨ms, h1, h2⟩ := Option.map_eq_some_iff.mp e2
      subst h2
      rw [List.map_cons, ih t h1]
theorem denInts (ns : List Int) : DenAll K B G (ns.map V.int) (ns.map D.int) := by
  induction ns with
  | nil => exact .nil
  | cons n ns ih => exact .cons (.int n) ih
end
mutual
theorem D.eq_py : ∀ (d e : D) (n m : Nat), d.ok n = true → e.ok m = true → D.eq d e = PyData.eqv d.py e.py
  | .non, e, n, m, h1, h2 => by cases e <;> first | (simp [D.eq, D.py, PyData.eqv]; done) | (simp [D.ok] at h2)
  | .bl b, e, n, m, h1, h2 => by cases e <;> first | (simp [D.eq, D.py, PyData.eqv]; done) | (simp [D.ok] at h2)
  | .int b, e, n, m, h1, h2 => by cases e <;> first | (simp [D.eq, D.py, PyData.eqv]; done) | (simp [D.ok] at h2)
  | .str b, e, n, m, h1, h2 => by cases e <;> first | (simp [D.eq, D.py, PyData.eqv]; done) | (simp [D.ok] at h2)
  | .tup xs, e, n, m, h1, h2 => by
    cases e with
    | tup ys =>
      cases n with
      | zero => simp [D.ok] at h1
      | succ n =>
        cases m with
        | zero => simp [D.ok] at h2
        | succ m =>
          simp only [D.eq, D.py, PyData.eqv]
          exact D.eqs_py xs ys n m (by simpa [D.ok] using h1) (by simpa [D.ok] using h2)
    | _ => first | (simp [D.eq, D.py, PyData.eqv]; done) | (simp [D.ok] at h2)
  | .lst xs, e, n, m, h1, h2 => by
    cases e with
    | lst ys =>
      cases n with
      | zero => simp [D.ok] at h1
      | succ n =>
        cases m with
        | zero => simp [D.ok] at h2
        | succ m =>
          simp only [D.eq, D.py, PyData.eqv]
          exact D.eqs_py xs ys n m (by simpa [D.ok] using h1) (by simpa [D.ok] using h2)
    | _ => first | (simp [D.eq, D.py, PyData.eqv]; done) | (simp [D.ok] at h2)
  | .dct _, e, n, m, h1, h2 => by simp [D.ok] at h1
  | .obj _ _, e, n, m, h1, h2 => by simp [D.ok] at h1
  | .bag, e, n, m, h1, h2 => by simp [D.ok] at h1
theorem D.eqs_py : ∀ (ds es : List D) (n m : Nat), D.oks ds n = true → D.oks es m = true → D.eqs ds es = PyData.eqvAll (D.pys ds) (D.pys es)
  | [], es, n, m, h1, h2 => by cases es <;> simp [D.eqs, D.pys, PyData.eqvAll]
  | d :: ds, es, n, m, h1, h2 => by
    cases es with
    | nil => simp [D.eqs, D.pys, PyData.eqvAll]
    | cons e es =>
      obtain ⟨a1, a2⟩ := and2 (show (D.ok d n && D.oks ds n) = true by simpa [D.oks] using h1)
      obtain ⟨b1, b2⟩ := and2 (show (D.ok e m && D.oks es m) = true by simpa [D.oks] using h2)
      simp only [D.eqs, D.pys, PyData.eqvAll]
      rw [D.eq_py d e n m a1 b1, D.eqs_py ds es n m a2 b2]
end
mutual
theorem D.ok_shape : ∀ (d : D) (n : Nat), d.ok n = true → d.py.canLay0 = true ∧ d.py.depth ≤ n
  | .non, n, h => ⟨by simp [D.py, PyData.canLay0], by simp [D.py, PyData.depth]⟩
  | .bl b, n, h => ⟨by simp [D.py, PyData.canLay0], by simp [D.py, PyData.depth]⟩
  | .int b, n, h => ⟨by simp [D.py, PyData.canLay0], by simp [D.py, PyData.depth]⟩
  | .str b, n, h => ⟨by simpa [D.py, PyData.canLay0, D.ok] using h, by simp [D.py, PyData.depth]⟩
  | .tup xs, n, h => by
    cases n with
    | zero => simp [D.ok] at h
    | succ n =>
      obtain ⟨h1, h2⟩ := D.oks_shape xs n (by simpa [D.ok] using h)
      exact ⟨by simpa [D.py, PyData.canLay0] using h1, by simp only [D.py, PyData.depth]; omega⟩
  | .lst xs, n, h => by
    cases n with
    | zero => simp [D.ok] at h
    | succ n =>
      obtain ⟨h1, h2⟩ := D.oks_shape xs n (by simpa [D.ok] using h)
      exact ⟨by simpa [D.py, PyData.canLay0] using h1, by simp only [D.py, PyData.depth]; omega⟩
  | .dct _, n, h => by simp [D.ok] at h
  | .obj _ _, n, h => by simp [D.ok] at h
  | .bag, n, h => by simp [D.ok] at h
theorem D.oks_shape : ∀ (ds : List D) (n : Nat), D.oks ds n = true → PyData.canLayAll0 (D.pys ds) = true ∧ PyData.depthAll (D.pys ds) ≤ n
  | [], n, h => ⟨by simp [D.pys, PyData.canLayAll0], by simp [D.pys, PyData.depthAll]⟩
  | d :: ds, n, h => by
    obtain ⟨a1, a2⟩ := and2 (show (D.ok d n && D.oks ds n) = true by simpa [D.oks] using h)
    obtain ⟨h1, h2⟩ := D.ok_shape d n a1
    obtain ⟨h3, h4⟩ := D.oks_shape ds n a2
    refine ⟨by simp [D.pys, PyData.canLayAll0, h1, h3], ?_⟩
    simp only [D.pys, PyData.depthAll]
    omega
end
theorem D.ok_shaped {d : D} (h : d.ok 60 = true) : SeqAt.shaped d.py = true := by
  obtain ⟨h1, h2⟩ := D.ok_shape d 60 h
  unfold SeqAt.shaped
  rw [h1, decide_eq_true (by omega)]
  rfl
mutual
theorem Den.dp {K : PySem.W.Frag} {B : Addr} {G : Hp} : ∀ (d : D) (v : V) (n : Nat), d.ok n = true → Den K B G v d → Dp K G v d.py
  | .non, _, _, _, .non => .non
  | .bl b, _, _, _, .bl _ => .bl b
  | .int i, _, _, _, .int _ => .int i
  | .str s, _, _, _, .str _ => .str s
  | .tup xs, _, n, h, .tup hs t => by
    cases n with
    | zero => simp [D.ok] at h
    | succ n => exact .tup hs (DenAll.dp xs _ n (by simpa [D.ok] using h) t)
  | .lst xs, _, n, h, .lst hs t => by
    cases n with
    | zero => simp [D.ok] at h
    | succ n => exact .lst (SqL.of hs) (DenAll.dp xs _ n (by simpa [D.ok] using h) t)
  | .bag, _, n, h, .bag => by simp [D.ok] at h
  | .obj _ _, _, n, h, _ => by simp [D.ok] at h
theorem DenAll.dp {K : PySem.W.Frag} {B : Addr} {G : Hp} : ∀ (ds : List D) (vs : List V) (n : Nat), D.oks ds n = true → DenAll K B G vs ds → DpAll K G vs (D.pys ds)
  | [], _, _, _, .nil => .nil
  | d :: ds, _, n, h, .cons a t => by
    obtain ⟨a1, a2⟩ := and2 (show (D.ok d n && D.oks ds n) = true by simpa [D.oks] using h)
    exact .cons (Den.dp d _ n a1 a) (DenAll.dp ds _ n a2 t)
end
end LT

namespace LT
open PySem PySem.Spec PyProof.Rows L2
structure BagAt (B : Addr) (G H : Hp) (β : BS) : Prop where
  at_ : ∃ C, H B = some (.lst [.int β.c, .int β.s, .int β.i, .ref C]) ∧ C = β.cell ∧ G C = some (.lst (β.xs.map V.int))
  out : G B = none
  i0 : 0 ≤ β.i
structure Ext (B : Addr) (G H G' H' : Hp) : Prop where
  gg : Sub G G'
  gh : Sub G' H'
  hh : ∀ a o, H a = some o → a ≠ B → H' a = some o
  nw : ∀ a o, H a = some o → G a = none → G' a = none
theorem Ext.refl {B : Addr} {G H : Hp} (s : Sub G H) : Ext B G H G H := ⟨Sub.refl G, s, fun _ _ h _ => h, fun _ _ _ h => h⟩
theorem Ext.trans {B : Addr} {G H G1 H1 G2 H2 : Hp} (a : Ext B G H G1 H1) (b : Ext B G1 H1 G2 H2) (hb : G2 B = none) : Ext B G H G2 H2 := by
  refine ⟨a.gg.trans b.gg, b.gh, fun x o h hx => b.hh x o (a.hh x o h hx) hx, fun x o h h2 => ?_⟩
  by_cases e : x = B
  · rw [e]
    exact hb
  · exact b.nw x o (a.hh x o h e) (a.nw x o h h2)
theorem Ext.new {B : Addr} {G H : Hp} {p : Addr} {o : HO} (s : Sub G H) (hp : H p = none) : Ext B G H (upd G p o) (upd H p o) := by
  have hg : G p = none := by
    cases e : G p with
    | none => rfl
    | some z =>
      rw [s p z e] at hp
      cases hp
  refine ⟨fun a z h => ?_, fun a z h => ?_, fun a z h _ => ?_, fun a z h h2 => ?_⟩
  · rw [upd_ne (ne_of_none h hg)]
    exact h
  · by_cases e : a = p
    · subst e
      rw [upd_same] at h ⊢
      exact h
    · rw [upd_ne e] at h ⊢
      exact s a z h
  · rw [upd_ne (ne_of_none h hp)]
    exact h
  · rw [upd_ne (ne_of_none h hp)]
    exact h2
theorem Ext.newU {B : Addr} {G H : Hp} {p : Addr} {o : HO} (s : Sub G H) (hp : H p = none) : Ext B G H G (upd H p o) := by
  refine ⟨Sub.refl G, fun a z h => ?_, fun a z h _ => ?_, fun a z h h2 => h2⟩
  · rw [upd_ne (ne_of_none (s a z h) hp)]
    exact s a z h
  · rw [upd_ne (ne_of_none h hp)]
    exact h
theorem BagAt.new {B : Addr} {G H : Hp} {β : BS} {p : Addr} {o : HO} (b : BagAt B G H β) (s : Sub G H) (hp : H p = none) : BagAt B (upd G p o) (upd H p o) β := by
  obtain ⟨⟨C, h1, hc, h2⟩, h3, h4⟩ := b
  refine ⟨⟨C, ?_, hc, ?_⟩, ?_, h4⟩
  · rw [upd_ne (ne_of_none h1 hp)]
    exact h1
  · rw [upd_ne (ne_of_none (s _ _ h2) hp)]
    exact h2
  · rw [upd_ne (ne_of_none h1 hp)]
    exact h3
theorem BagAt.newU {B : Addr} {G H : Hp} {β : BS} {p : Addr} {o : HO} (b : BagAt B G H β) (hp : H p = none) : BagAt B G (upd H p o) β := by
  obtain ⟨⟨C, h1, h2⟩, h3, h4⟩ := b
  refine ⟨⟨C, ?_, h2⟩, h3, h4⟩
  rw [upd_ne (ne_of_none h1 hp)]
  exact h1
structure Rel (K : PySem.W.Frag) (B : Addr) (G0 H0 : Hp) (σ : L2.St) (env : Env) (β : BS) (G H : Hp) : Prop where
  len : σ.length = env.length
  sub : Sub G H
  g0 : Sub G0 G
  h0 : ∀ a o, H0 a = some o → a ≠ B → H a = some o
  n0 : ∀ a o, H0 a = some o → G0 a = none → G a = none
  b0 : ∃ o, H0 B = some o
  bag : BagAt B G H β
  d : ∀ (i : Nat) (x : D), env[i]? = some (some (.d x)) → ∃ v, σ[i]? = some (some v) ∧ Den K B G v x
  o : ∀ (i : Nat) (xs : List D), env[i]? = some (some (.own xs)) → ∃ p vs, σ[i]? = some (some (.ref p)) ∧ H p = some (.lst vs) ∧ G p = none ∧ H0 p = none ∧ DenAll K B G vs xs
  s : ∀ (i : Nat) (a : Addr) (c : Nat) (fs : List D), env[i]? = some (some (.slf a c fs)) → ∃ dx vs, σ[i]? = some (some (.ref a)) ∧ H a = some (.ins (ca K c) dx ((cfl c).zip vs)) ∧ H dx = some (.own a) ∧ G a = none ∧ G dx = none ∧ (H0 a = none ∧ H0 dx = none) ∧ ClsOk K c ∧ vs.length = fs.length ∧ fs.length ≤ (cfl c).length ∧ DenAll K B G vs fs
  si : ∀ (i j : Nat) (a : Addr) (c c' : Nat) (fs fs' : List D), env[i]? = some (some (.slf a c fs)) → env[j]? = some (some (.slf a c' fs')) → i = j
  inj : ∀ (i j : Nat) (xs ys : List D) (p : Addr), env[i]? = some (some (.own xs)) → env[j]? = some (some (.own ys)) → σ[i]? = some (some (.ref p)) → σ[j]? = some (some (.ref p)) → i = j
section
variable {K : PySem.W.Frag} {B : Addr} {G0 H0 G H G' H' : Hp} {σ : L2.St} {env : Env} {β β' : BS}
theorem Rel.bb (R : Rel K B G0 H0 σ env β G H) : ∃ o, H B = some o := let ⟨C, h, _⟩ := R.bag.at_; ⟨_, h⟩
theorem Rel.ext (R : Rel K B G0 H0 σ env β G H) (e : Ext B G H G' H') (b : BagAt B G' H' β') : Rel K B G0 H0 σ env β' G' H' where
  len := R.len
  sub := e.gh
  g0 := R.g0.trans e.gg
  h0 := fun a o h hb => e.hh a o (R.h0 a o h hb) hb
  n0 := fun a o h h2 => by
    by_cases q : a = B
    · subst q
      exact b.out
    · exact e.nw a o (R.h0 a o h q) (R.n0 a o h h2)
  b0 := R.b0
  bag := b
  d := fun i x h => by
    obtain ⟨v, h1, h2⟩ := R.d i x h
    exact ⟨v, h1, h2.mono e.gg⟩
  o := fun i xs h => by
    obtain ⟨p, vs, h1, h2, h3, h4, h5⟩ := R.o i xs h
    have pb : p ≠ B := fun q => by
      obtain ⟨o, ho⟩ := R.b0
      rw [q, ho] at h4
      cases h4
    exact ⟨p, vs, h1, e.hh p _ h2 pb, e.nw p _ h2 h3, h4, h5.mono e.gg⟩
  s := fun i p c fs h => by
    obtain ⟨dx, vs, h1, h2, h3, h4, h5, h6, h7, h8, h9, h10⟩ := R.s i p c fs h
    obtain ⟨_, hbl, _⟩ := R.bag.at_
    have pb : p ≠ B := ne_of h2 hbl (by intro z; cases z)
    have db : dx ≠ B := ne_of h3 hbl (by intro z; cases z)
    exact ⟨dx, vs, h1, e.hh p _ h2 pb, e.hh dx _ h3 db, e.nw p _ h2 h4, e.nw dx _ h3 h5, h6, h7, h8, h9, h10.mono e.gg⟩
  si := R.si
  inj := R.inj
theorem Rel.new (R : Rel K B G0 H0 σ env β G H) {p : Addr} {o : HO} (hp : H p = none) : Rel K B G0 H0 σ env β (upd G p o) (upd H p o) := R.ext (Ext.new R.sub hp) (R.bag.new R.sub hp)
theorem Rel.newU (R : Rel K B G0 H0 σ env β G H) {p : Addr} {o : HO} (hp : H p = none) : Rel K B G0 H0 σ env β G (upd H p o) := R.ext (Ext.newU R.sub hp) (R.bag.newU hp)
theorem Rel.h0none (R : Rel K B G0 H0 σ env β G H) {p : Addr} (hp : H p = none) : H0 p = none := by
  cases e : H0 p with
  | none => rfl
  | some o =>
    by_cases q : p = B
    · obtain ⟨o', h⟩ := R.bb
      rw [← q, hp] at h
      cases h
    · rw [R.h0 p o e q] at hp
      cases hp
theorem Rel.freeze (R : Rel K B G0 H0 σ env β G H) {p : Addr} {o : HO} (ho : ∀ C dx fs, o ≠ .ins C dx fs) (ho2 : ∀ a, o ≠ .own a) (hp : H p = some o) (h0 : H0 p = none) (hno : ∀ (i : Nat) (xs : List D), env[i]? = some (some (.own xs)) → σ[i]? ≠ some (some (.ref p))) (hg : G p = none) : Rel K B G0 H0 σ env β (upd G p o) H := by
  have pb : p ≠ B := fun q => by
    obtain ⟨o, ho⟩ := R.b0
    rw [q, ho] at h0
    cases h0
  have gg : Sub G (upd G p o) := fun a z h => by
    rw [upd_ne (ne_of_none h hg)]
    exact h
  refine { len := R.len, sub := fun a z h => ?_, g0 := R.g0.trans gg, h0 := R.h0, n0 := fun a z h h2 => ?_, b0 := R.b0, bag := ?_, d := fun i x h => ?_, o := fun i xs h => ?_, s := fun i q c fs h => ?_, si := R.si, inj := R.inj }
  · by_cases e : a = p
    · subst e
      rw [upd_same] at h
      rw [← h]
      exact hp
    · rw [upd_ne e] at h
      exact R.sub a z h
  · rw [upd_ne (ne_of_none h h0)]
    exact R.n0 a z h h2
  · obtain ⟨⟨C, h1, h2⟩, h3, h4⟩ := R.bag
    refine ⟨⟨C, h1, h2.1, gg _ _ h2.2⟩, ?_, h4⟩
    rw [upd_ne pb.symm]
    exact h3
  · obtain ⟨v, h1, h2⟩ := R.d i x h
    exact ⟨v, h1, h2.mono gg⟩
  · obtain ⟨q, vs, h1, h2, h3, h4, h5⟩ := R.o i xs h
    have qp : q ≠ p := fun e => hno i xs h (by rw [h1, e])
    exact ⟨q, vs, h1, h2, by rw [upd_ne qp]; exact h3, h4, h5.mono gg⟩
  · obtain ⟨dx, vs, h1, h2, h3, h4, h5, h6, h7, h8, h9, h10⟩ := R.s i q c fs h
    have qp : q ≠ p := ne_of h2 hp (fun z => ho _ _ _ z.symm)
    have dp : dx ≠ p := ne_of h3 hp (fun z => ho2 _ z.symm)
    exact ⟨dx, vs, h1, h2, h3, by rw [upd_ne qp]; exact h4, by rw [upd_ne dp]; exact h5, h6, h7, h8, h9, h10.mono gg⟩
def DenW (K : PySem.W.Frag) (B : Addr) (σ : L2.St) (env : Env) (G : Hp) (v : V) (x : D) : Prop := Den K B G v x ∨ ∃ (i : Nat) (xs : List D), env[i]? = some (some (.own xs)) ∧ σ[i]? = some (some v) ∧ x = .lst xs
theorem DenW.mono {v : V} {x : D} (h : DenW K B σ env G v x) (e : Sub G G') : DenW K B σ env G' v x := by
  rcases h with h | h
  · exact .inl (h.mono e)
  · exact .inr h
theorem DenW.lst (R : Rel K B G0 H0 σ env β G H) {v : V} {xs : List D} (h : DenW K B σ env G v (.lst xs)) : ∃ p vs, v = .ref p ∧ H p = some (.lst vs) ∧ DenAll K B G vs xs := by
  rcases h with h | ⟨i, ys, h1, h2, h3⟩
  · cases h with
    | lst h1 h2 => exact ⟨_, _, rfl, R.sub _ _ h1, h2⟩
  · cases h3
    obtain ⟨p, vs, g1, g2, g3, g4, g5⟩ := R.o i _ h1
    rw [h2] at g1
    cases g1
    exact ⟨p, vs, rfl, g2, g5⟩
theorem DenW.den {v : V} {x : D} (h : DenW K B σ env G v x) (hn : ∀ xs, x ≠ .lst xs) : Den K B G v x := by
  rcases h with h | ⟨i, ys, h1, h2, h3⟩
  · exact h
  · exact absurd h3 (hn _)
theorem DenW.dp (R : Rel K B G0 H0 σ env β G H) {v : V} {x : D} {n : Nat} (hx : x.ok n = true) (h : DenW K B σ env G v x) : Dp K H v x.py := by
  rcases h with h | ⟨i, ys, h1, h2, h3⟩
  · exact (h.mono R.sub).dp x v n hx
  · subst h3
    obtain ⟨p, vs, e1, e2, e3⟩ := DenW.lst R (.inr ⟨i, ys, h1, h2, rfl⟩)
    subst e1
    cases n with
    | zero => simp [D.ok] at hx
    | succ n => exact .lst (SqL.of e2) ((e3.mono R.sub).dp ys _ n (by simpa [D.ok] using hx))
theorem q_lst (R : Rel K B G0 H0 σ env β G H) {Q : VK} {xs : List V} {ds : List D} (hx : DenAll K B G xs ds) (q : ∀ v G' H', Ext B G H G' H' → BagAt B G' H' β → Den K B G' v (.lst ds) → Q v H') : ∀ p, H p = none → Q (.ref p) (upd H p (.lst xs)) := fun p hp => by
  have e := Ext.new (B := B) (o := .lst xs) R.sub hp
  exact q _ (upd G p (.lst xs)) _ e (R.bag.new R.sub hp) (.lst upd_same (hx.mono e.gg))
theorem q_tup (R : Rel K B G0 H0 σ env β G H) {Q : VK} {xs : List V} {ds : List D} (hx : DenAll K B G xs ds) (q : ∀ v G' H', Ext B G H G' H' → BagAt B G' H' β → Den K B G' v (.tup ds) → Q v H') : ∀ p, H p = none → Q (.ref p) (upd H p (.tup xs)) := fun p hp => by
  have e := Ext.new (B := B) (o := .tup xs) R.sub hp
  exact q _ (upd G p (.tup xs)) _ e (R.bag.new R.sub hp) (.tup (SqT.of upd_same) (hx.mono e.gg))
theorem lineM {n : Nat} (h : n ≤ 1000000) : n ≤ sizeLine := Nat.le_trans h (by decide)
theorem lineL {n : Nat} (h : n < 1000000) : n < sizeLine := Nat.lt_of_lt_of_le h (by decide)
theorem bigLog {i : Int} (h : i.natAbs < big) : i.natAbs < 2 ^ 400 := Nat.lt_trans h (by unfold big; decide +kernel)
theorem mul_okS {x : Str} {y : Int} (h : 1 ≤ y ∧ y ≤ 10000 ∧ x.length ≤ 10) : MulOk x y := by
  obtain ⟨h1, h2, h3⟩ := h
  refine ⟨?_, fun _ _ hc => ?_, fun _ _ => ?_⟩
  · rw [Bool.or_eq_false_iff]
    exact ⟨decide_eq_false (by omega), decide_eq_false (by omega)⟩
  · have : (x.length : Int) ≤ (2 ^ 63 - 1) / y := by
      refine (Int.le_ediv_iff_mul_le (by omega)).mpr ?_
      have : (x.length : Int) * y ≤ 10 * 10000 := Int.mul_le_mul (by omega) h2 (by omega) (by decide)
      omega
    omega
  · have : x.length * y.toNat ≤ 10 * 10000 := Nat.mul_le_mul h3 (by omega)
    refine decide_eq_false fun z => ?_
    have h9 : (1000000 : Nat) ≤ sizeLine := by decide
    omega
theorem bin_snd (R : Rel K B G0 H0 σ env β G H) {op : Operator} {x y : V} {dx dy dz : D} {Q : VK} (h : dBin op dx dy = some dz) (hx : DenW K B σ env G x dx) (hy : DenW K B σ env G y dy)
    (q : ∀ v G' H', Ext B G H G' H' → BagAt B G' H' β → Den K B G' v dz → Q v H') : rBin K op x y H Q := by
  unfold dBin at h
  split at h
  · cases h
    cases hx.den (by intro _ z; cases z)
    cases hy.den (by intro _ z; cases z)
    exact .inl ⟨_, _, rfl, rfl, q _ G H (Ext.refl R.sub) R.bag (.int _)⟩
  · split at h
    · cases h
      obtain ⟨p, vs, rfl, h1, h2⟩ := hx.lst R
      obtain ⟨p', vs', rfl, h1', h2'⟩ := hy.lst R
      rename_i hl
      refine .inr (.inl ⟨p, p', vs, vs', rfl, rfl, h1, h1', lineM (by rw [h2.length, h2'.length]; exact hl), q_lst R (h2.app h2') q⟩)
    · cases h
  · split at h
    · cases h
      rename_i hl
      cases hx.den (by intro _ z; cases z) with
      | tup s1 t1 =>
        cases hy.den (by intro _ z; cases z) with
        | tup s2 t2 =>
          refine .inr (.inr (.inl ⟨_, _, _, _, rfl, rfl, sub_t R.sub s1, sub_t R.sub s2, lineM (by rw [t1.length, t2.length]; exact hl), fun e => ?_, fun _ e => ?_, fun _ _ => q_tup R (t1.app t2) q⟩))
          · subst e
            cases t1
            exact q _ G H (Ext.refl R.sub) R.bag (.tup s2 t2)
          · subst e
            cases t2
            rw [List.append_nil] at q
            exact q _ G H (Ext.refl R.sub) R.bag (.tup s1 t1)
    · cases h
  · split at h
    · cases h
      rename_i hl
      cases hx.den (by intro _ z; cases z)
      cases hy.den (by intro _ z; cases z)
      exact .inr (.inr (.inr ⟨_, _, rfl, rfl, lineM hl, q _ G H (Ext.refl R.sub) R.bag (.str _)⟩))
    · cases h
  · cases h
    cases hx.den (by intro _ z; cases z)
    cases hy.den (by intro _ z; cases z)
    exact ⟨_, _, rfl, rfl, q _ G H (Ext.refl R.sub) R.bag (.int _)⟩
  · split at h
    · cases h
      rename_i hl
      cases hx.den (by intro _ z; cases z)
      cases hy.den (by intro _ z; cases z)
      rcases hl with hl | hl
      · exact .inl ⟨_, _, rfl, rfl, wide_mul (bigLog hl.1) (bigLog hl.2) (by decide) (by decide) (by decide), q _ G H (Ext.refl R.sub) R.bag (.int _)⟩
      · refine .inr (.inl ⟨_, _, rfl, rfl, ?_, q _ G H (Ext.refl R.sub) R.bag (.int _)⟩)
        rcases hl with hl | hl
        · exact .inl ⟨by omega, by omega⟩
        · exact .inr ⟨by omega, by omega⟩
    · cases h
  · split at h
    · cases h
      rename_i hl
      obtain ⟨p, vs, rfl, h1, h2⟩ := hx.lst R
      cases hy.den (by intro _ z; cases z)
      refine .inr (.inr (.inl ⟨p, _, vs, rfl, rfl, h1, by omega, by omega, lineM (by rw [h2.length]; exact hl.2.2), q_lst R (h2.rep _) q⟩))
    · cases h
  · split at h
    · cases h
      rename_i x1 y1 hl
      cases hx.den (by intro _ z; cases z)
      cases hy.den (by intro _ z; cases z)
      refine .inr (.inr (.inr ⟨_, _, rfl, rfl, mul_okS hl, q _ G H (Ext.refl R.sub) R.bag (.str _)⟩))
    · cases h
  · split at h
    · cases h
      rename_i hl
      cases hx.den (by intro _ z; cases z)
      cases hy.den (by intro _ z; cases z)
      exact ⟨_, _, rfl, rfl, wide_div hl.1 (bigLog hl.2) (by decide) (by decide), q _ G H (Ext.refl R.sub) R.bag (.int _)⟩
    · cases h
  · split at h
    · cases h
      rename_i hl
      cases hx.den (by intro _ z; cases z)
      cases hy.den (by intro _ z; cases z)
      exact ⟨_, _, rfl, rfl, hl, q _ G H (Ext.refl R.sub) R.bag (.int _)⟩
    · cases h
  · split at h
    · cases h
      rename_i hl
      cases hx.den (by intro _ z; cases z)
      cases hy.den (by intro _ z; cases z)
      exact ⟨_, _, rfl, rfl, ⟨hl.1, by omega, hl.2.2⟩, q _ G H (Ext.refl R.sub) R.bag (.int _)⟩
    · cases h
  · cases h
end
end LT

namespace LT
open PySem PySem.Spec PyProof.Rows L2
theorem any_py (x : D) {n : Nat} (hx : x.ok n = true) : ∀ (ys : List D) (m : Nat), D.oks ys m = true → (D.pys ys).any (fun z => PyData.eqv z x.py) = ys.any fun y => D.eq y x
  | [], _, _ => rfl
  | y :: ys, m, h => by
    obtain ⟨a1, a2⟩ := and2 (show (D.ok y m && D.oks ys m) = true by simpa [D.oks] using h)
    show (PyData.eqv y.py x.py || (D.pys ys).any (fun z => PyData.eqv z x.py)) = (D.eq y x || ys.any fun y => D.eq y x)
    rw [any_py x hx ys m a2, D.eq_py y x m n a1 hx]
section
variable {K : PySem.W.Frag} {B : Addr} {G0 H0 G H G' H' : Hp} {σ : L2.St} {env : Env} {β β' : BS}
theorem isNon_den {x : V} {dx : D} (h : DenW K B σ env G x dx) (R : Rel K B G0 H0 σ env β G H) : isNon dx = decide (x = .non) := by
  cases dx with
  | lst xs =>
    obtain ⟨p, vs, rfl, _⟩ := h.lst R
    rfl
  | _ => cases h.den (by intro _ z; cases z) <;> rfl
theorem cmp_snd (R : Rel K B G0 H0 σ env β G H) {op : CmpOp} {x y : V} {dx dy : D} {b : Bool} {Q : VK} (h : dCmp op dx dy = some b) (hx : DenW K B σ env G x dx) (hy : DenW K B σ env G y dy) (q : Q (.bl b) H) : rCmp K op x y H Q := by
  unfold dCmp at h
  split at h
  · split at h
    · cases h
      rename_i hk
      obtain ⟨k1, k2⟩ := and2 hk
      refine .inr ⟨dx.py, dy.py, hx.dp R k1, hy.dp R k2, D.ok_shaped k1, D.ok_shaped k2, ?_⟩
      rw [← D.eq_py _ _ 60 60 k1 k2]
      exact q
    · cases h
  · split at h
    · cases h
      rename_i hk
      obtain ⟨k1, k2⟩ := and2 hk
      refine .inr ⟨dx.py, dy.py, hx.dp R k1, hy.dp R k2, D.ok_shaped k1, D.ok_shaped k2, ?_⟩
      rw [← D.eq_py _ _ 60 60 k1 k2]
      exact q
    · cases h
  · cases h
    cases hx.den (by intro _ z; cases z)
    cases hy.den (by intro _ z; cases z)
    exact .inl ⟨_, _, rfl, rfl, q⟩
  · cases h
    cases hx.den (by intro _ z; cases z)
    cases hy.den (by intro _ z; cases z)
    exact ⟨_, _, rfl, rfl, q⟩
  · cases h
    cases hx.den (by intro _ z; cases z)
    cases hy.den (by intro _ z; cases z)
    exact ⟨_, _, rfl, rfl, q⟩
  · cases h
    cases hx.den (by intro _ z; cases z)
    cases hy.den (by intro _ z; cases z)
    exact ⟨_, _, rfl, rfl, q⟩
  · cases h
    cases hy.den (by intro _ z; cases z)
    rw [isNon_den hx R] at q
    exact .inl ⟨rfl, q⟩
  · cases h
    cases hy.den (by intro _ z; cases z)
    rw [isNon_den hx R] at q
    exact .inl ⟨rfl, q⟩
  · cases h
    cases hx.den (by intro _ z; cases z)
    cases hy.den (by intro _ z; cases z)
    exact .inr ⟨_, _, rfl, rfl, q⟩
  · cases h
    cases hx.den (by intro _ z; cases z)
    cases hy.den (by intro _ z; cases z)
    exact .inr ⟨_, _, rfl, rfl, q⟩
  · split at h
    · cases h
      rename_i ys hk
      obtain ⟨k1, k2⟩ := and2 hk
      refine .inr ⟨dx.py, D.pys ys, hx.dp R k1, hy.dp R k2, D.ok_shaped k1, D.ok_shaped k2, ?_⟩
      rw [any_py dx k1 ys 59 (by simpa [D.ok] using k2)]
      exact q
    · cases h
  · split at h
    · cases h
      rename_i ys hk
      obtain ⟨k1, k2⟩ := and2 hk
      refine .inr ⟨dx.py, D.pys ys, hx.dp R k1, hy.dp R k2, D.ok_shaped k1, D.ok_shaped k2, ?_⟩
      rw [any_py dx k1 ys 59 (by simpa [D.ok] using k2)]
      exact q
    · cases h
  · cases h
theorem isE {vs : List V} {ds : List D} (h : DenAll K B G vs ds) : ds.isEmpty = vs.isEmpty := by cases h <;> rfl
theorem tru_snd (R : Rel K B G0 H0 σ env β G H) {x : V} {dx : D} {b : Bool} (h : dTru dx = some b) (hx : DenW K B σ env G x dx) : TruV K x H b := by
  unfold dTru at h
  split at h
  · cases h
    cases hx.den (by intro _ z; cases z)
    rfl
  · cases h
    cases hx.den (by intro _ z; cases z)
    rfl
  · cases h
    cases hx.den (by intro _ z; cases z)
    rfl
  · cases h
    obtain ⟨p, vs, rfl, h1, h2⟩ := hx.lst R
    exact .inl ⟨vs, SqL.of h1, by rw [isE h2]⟩
  · cases h
    cases hx.den (by intro _ z; cases z) with
    | tup s t => exact .inr (.inl ⟨_, sub_t R.sub s, by rw [isE t]⟩)
  · split at h
    · cases h
      rename_i hl
      cases hx.den (by intro _ z; cases z)
      exact ⟨lineM hl, rfl⟩
    · cases h
  · cases h
theorem maxI_ok {ns : List Int} {m : Int} (h : maxI ns = some m) : m ∈ ns ∧ ∀ y ∈ ns, y ≤ m := by
  have key : ∀ (r : List Int) (x : Int), (r.foldl (fun a b => if b > a then b else a) x = x ∨ r.foldl (fun a b => if b > a then b else a) x ∈ r) ∧ x ≤ r.foldl (fun a b => if b > a then b else a) x ∧ ∀ y ∈ r, y ≤ r.foldl (fun a b => if b > a then b else a) x := by
    intro r
    induction r with
    | nil => intro x; exact ⟨.inl rfl, Int.le_refl x, fun y hy => by cases hy⟩
    | cons b r ih =>
      intro x
      rw [List.foldl_cons]
      obtain ⟨i1, i2, i3⟩ := ih (if b > x then b else x)
      have hb : b ≤ (if b > x then b else x) ∧ x ≤ (if b > x then b else x) := by split <;> omega
      refine ⟨?_, by omega, fun y hy => ?_⟩
      · rcases i1 with i1 | i1
        · rw [i1]
          split
          · exact .inr List.mem_cons_self
          · exact .inl rfl
        · exact .inr (List.mem_cons_of_mem _ i1)
      · rcases List.mem_cons.mp hy with e | e
        · omega
        · exact i3 y e
  cases ns with
  | nil => cases h
  | cons x r =>
    have e : r.foldl (fun a b => if b > a then b else a) x = m := Option.some.inj h
    obtain ⟨k1, k2, k3⟩ := key r x
    rw [e] at k1 k2 k3
    refine ⟨?_, fun y hy => ?_⟩
    · rcases k1 with k | k
      · rw [k]; exact List.mem_cons_self
      · exact List.mem_cons_of_mem _ k
    · rcases List.mem_cons.mp hy with e | e
      · omega
      · exact k3 y e
theorem minI_ok {ns : List Int} {m : Int} (h : minI ns = some m) : m ∈ ns ∧ ∀ y ∈ ns, m ≤ y := by
  have key : ∀ (r : List Int) (x : Int), (r.foldl (fun a b => if b < a then b else a) x = x ∨ r.foldl (fun a b => if b < a then b else a) x ∈ r) ∧ r.foldl (fun a b => if b < a then b else a) x ≤ x ∧ ∀ y ∈ r, r.foldl (fun a b => if b < a then b else a) x ≤ y := by
    intro r
    induction r with
    | nil => intro x; exact ⟨.inl rfl, Int.le_refl x, fun y hy => by cases hy⟩
    | cons b r ih =>
      intro x
      rw [List.foldl_cons]
      obtain ⟨i1, i2, i3⟩ := ih (if b < x then b else x)
      have hb : (if b < x then b else x) ≤ b ∧ (if b < x then b else x) ≤ x := by split <;> omega
      refine ⟨?_, by omega, fun y hy => ?_⟩
      · rcases i1 with i1 | i1
        · rw [i1]
          split
          · exact .inr List.mem_cons_self
          · exact .inl rfl
        · exact .inr (List.mem_cons_of_mem _ i1)
      · rcases List.mem_cons.mp hy with e | e
        · omega
        · exact i3 y e
  cases ns with
  | nil => cases h
  | cons x r =>
    have e : r.foldl (fun a b => if b < a then b else a) x = m := Option.some.inj h
    obtain ⟨k1, k2, k3⟩ := key r x
    rw [e] at k1 k2 k3
    refine ⟨?_, fun y hy => ?_⟩
    · rcases k1 with k | k
      · rw [k]; exact List.mem_cons_self
      · exact List.mem_cons_of_mem _ k
    · rcases List.mem_cons.mp hy with e | e
      · omega
      · exact k3 y e
theorem insI_perm (x : Int) : ∀ l : List Int, (insI x l).Perm (x :: l)
  | [] => .refl _
  | y :: r => by
    unfold insI
    split
    · exact .refl _
    · exact ((insI_perm x r).cons y).trans (.swap x y r)
theorem insI_sorted (x : Int) : ∀ l : List Int, l.Pairwise (· ≤ ·) → (insI x l).Pairwise (· ≤ ·)
  | [], _ => by simp [insI]
  | y :: r, h => by
    unfold insI
    obtain ⟨h1, h2⟩ := List.pairwise_cons.mp h
    split
    · rename_i hxy
      refine List.pairwise_cons.mpr ⟨fun z hz => ?_, h⟩
      rcases List.mem_cons.mp hz with e | e
      · omega
      · have := h1 z e; omega
    · rename_i hxy
      refine List.pairwise_cons.mpr ⟨fun z hz => ?_, insI_sorted x r h2⟩
      rcases List.mem_cons.mp ((insI_perm x r).mem_iff.mp hz) with e | e
      · omega
      · exact h1 z e
theorem sortI_perm : ∀ l : List Int, (sortI l).Perm l
  | [] => .refl _
  | x :: r => (insI_perm x (sortI r)).trans ((sortI_perm r).cons x)
theorem ddI_mem {k : Int} : ∀ {l : List Int}, k ∈ ddI l ↔ k ∈ l
  | [] => Iff.rfl
  | x :: r => by
    unfold ddI
    split
    · rename_i h
      rw [ddI_mem, List.mem_cons]
      constructor
      · exact .inr
      · rintro (z | z)
        · rw [z]
          exact h
        · exact z
    · rw [List.mem_cons, List.mem_cons, ddI_mem]
theorem ddI_nodup : ∀ l : List Int, (ddI l).Nodup
  | [] => .nil
  | x :: r => by
    unfold ddI
    split
    · exact ddI_nodup r
    · rename_i h
      exact List.nodup_cons.mpr ⟨fun z => h (ddI_mem.mp z), ddI_nodup r⟩
theorem nodup_le : ∀ {l m : List Int}, l.Nodup → (∀ k ∈ l, k ∈ m) → l.length ≤ m.length
  | [], m, _, _ => Nat.zero_le _
  | x :: l, m, nd, h => by
    rw [List.nodup_cons] at nd
    have hx : x ∈ m := h x (by simp)
    have ih := nodup_le (m := m.erase x) nd.2 fun k hk => by
      have hne : k ≠ x := fun e => nd.1 (e ▸ hk)
      exact (List.mem_erase_of_ne hne).mpr (h k (by simp [hk]))
    have hl := List.length_erase_of_mem hx
    have : 0 < m.length := List.length_pos_of_mem hx
    rw [List.length_cons]
    omega
theorem asc_same : ∀ {l m : List Int}, l.Pairwise (· < ·) → m.Pairwise (· < ·) → (∀ k, k ∈ l ↔ k ∈ m) → l = m
  | [], [], _, _, _ => rfl
  | [], y :: m, _, _, h => by have := (h y).mpr (by simp); simp at this
  | x :: l, [], _, _, h => by have := (h x).mp (by simp); simp at this
  | x :: l, y :: m, h1, h2, h => by
    rw [List.pairwise_cons] at h1 h2
    have e : x = y := by
      have a := (h x).mp (by simp)
      have b := (h y).mpr (by simp)
      rcases List.mem_cons.mp a with a | a
      · exact a
      · rcases List.mem_cons.mp b with b | b
        · exact b.symm
        · have c1 := h2.1 x a
          have c2 := h1.1 y b
          omega
    subst e
    rw [asc_same h1.2 h2.2 fun k => ?_]
    have hk := h k
    simp only [List.mem_cons] at hk
    constructor
    · intro z
      have := h1.1 k z
      rcases hk.mp (.inr z) with w | w
      · omega
      · exact w
    · intro z
      have := h2.1 k z
      rcases hk.mpr (.inr z) with w | w
      · omega
      · exact w
theorem sortI_sorted : ∀ l : List Int, (sortI l).Pairwise (· ≤ ·)
  | [] => .nil
  | x :: r => insI_sorted x _ (sortI_sorted r)
inductive DenWs (K : PySem.W.Frag) (B : Addr) (σ : L2.St) (env : Env) (G : Hp) : List V → List D → Prop
  | nil : DenWs K B σ env G [] []
  | cons {v : V} {d : D} {vs : List V} {ds : List D} : DenW K B σ env G v d → DenWs K B σ env G vs ds → DenWs K B σ env G (v :: vs) (d :: ds)
theorem lt_of_le : ∀ {l : List Int}, l.Pairwise (· ≤ ·) → l.Nodup → l.Pairwise (· < ·)
  | [], _, _ => .nil
  | x :: l, h, nd => by
    rw [List.pairwise_cons] at h ⊢
    rw [List.nodup_cons] at nd
    refine ⟨fun y hy => ?_, lt_of_le h.2 nd.2⟩
    have a := h.1 y hy
    have b : y ≠ x := fun e => nd.1 (e ▸ hy)
    omega
theorem sset_asc (ns : List Int) : (sortI (ddI ns)).Pairwise (· < ·) ∧ ∀ k, k ∈ sortI (ddI ns) ↔ k ∈ ns :=
  ⟨lt_of_le (sortI_sorted _) ((sortI_perm _).nodup_iff.mpr (ddI_nodup ns)), fun k => by rw [(sortI_perm _).mem_iff, ddI_mem]⟩
theorem DenWs.mono {vs : List V} {ds : List D} (h : DenWs K B σ env G vs ds) (e : Sub G G') : DenWs K B σ env G' vs ds := by
  induction h with
  | nil => exact .nil
  | cons a _ ih => exact .cons (a.mono e) ih
theorem DenWs.one {vs : List V} {d : D} (h : DenWs K B σ env G vs [d]) : ∃ v, vs = [v] ∧ DenW K B σ env G v d := by
  cases h with
  | cons a t =>
    cases t
    exact ⟨_, rfl, a⟩
theorem DenWs.two {vs : List V} {d e : D} (h : DenWs K B σ env G vs [d, e]) : ∃ v w, vs = [v, w] ∧ DenW K B σ env G v d ∧ DenW K B σ env G w e := by
  cases h with
  | cons a t =>
    obtain ⟨w, rfl, b⟩ := t.one
    exact ⟨_, _, rfl, a, b⟩
theorem DenWs.three {vs : List V} {d e f : D} (h : DenWs K B σ env G vs [d, e, f]) : ∃ v w u, vs = [v, w, u] ∧ DenW K B σ env G v d ∧ DenW K B σ env G w e ∧ DenW K B σ env G u f := by
  cases h with
  | cons a t =>
    obtain ⟨w, u, rfl, b, c⟩ := t.two
    exact ⟨_, _, _, rfl, a, b, c⟩
theorem leB_iff {a b : Int × Int} : leB a b = true ↔ leP a b := by
  unfold leB leP
  simp only [Bool.or_eq_true, Bool.and_eq_true, decide_eq_true_eq]
theorem insP_perm (x : Int × Int) : ∀ l, (insP x l).Perm (x :: l)
  | [] => .refl _
  | y :: r => by
    unfold insP
    split
    · exact .refl _
    · exact ((insP_perm x r).cons y).trans (.swap x y r)
theorem sortP_perm : ∀ l, (sortP l).Perm l
  | [] => .nil
  | x :: r => (insP_perm x (sortP r)).trans ((sortP_perm r).cons x)
theorem insP_sorted (x : Int × Int) : ∀ l, l.Pairwise leP → (insP x l).Pairwise leP
  | [], _ => List.pairwise_singleton _ _
  | y :: r, h => by
    have h0 := List.pairwise_cons.mp h
    unfold insP
    split
    · rename_i c
      have c' := leB_iff.mp c
      refine List.pairwise_cons.mpr ⟨fun z hz => ?_, h⟩
      rcases List.mem_cons.mp hz with rfl | hz
      · exact c'
      · have := h0.1 z hz
        unfold leP at *
        omega
    · rename_i c
      have c' : ¬ leP x y := fun z => c (leB_iff.mpr z)
      refine List.pairwise_cons.mpr ⟨fun z hz => ?_, insP_sorted x r h0.2⟩
      rcases List.mem_cons.mp ((insP_perm x r).mem_iff.mp hz) with rfl | hz
      · unfold leP at *
        omega
      · exact h0.1 z hz
theorem sortP_sorted : ∀ l, (sortP l).Pairwise leP
  | [] => .nil
  | x :: r => insP_sorted x _ (sortP_sorted r)
theorem leP_anti {a b : Int × Int} (h1 : leP a b) (h2 : leP b a) : a = b := by
  unfold leP at *
  exact Prod.ext (by omega) (by omega)
theorem lex_same : ∀ {l m : List (Int × Int)}, l.Perm m → l.Pairwise leP → m.Pairwise leP → l = m
  | [], m, p, _, _ => p.nil_eq
  | x :: l, [], p, _, _ => absurd p.symm.nil_eq (by simp)
  | x :: l, y :: m, p, h1, h2 => by
    have a := List.pairwise_cons.mp h1
    have b := List.pairwise_cons.mp h2
    have e : x = y := by
      rcases List.mem_cons.mp (p.mem_iff.mp (List.mem_cons_self (a := x) (l := l))) with e | hx
      · exact e
      · rcases List.mem_cons.mp (p.mem_iff.mpr (List.mem_cons_self (a := y) (l := m))) with e | hy
        · exact e.symm
        · exact leP_anti (a.1 y hy) (b.1 x hx)
    subst e
    rw [lex_same p.cons_inv a.2 b.2]
theorem den_prs {zs : List (V × (Int × Int))} : (∀ z ∈ zs, ∃ t, z.1 = .ref t ∧ SqT K G t [.int z.2.1, .int z.2.2]) → DenAll K B G (zs.map (·.1)) ((zs.map (·.2)).map pD) := by
  induction zs with
  | nil => exact fun _ => .nil
  | cons z zs ih =>
    intro h
    obtain ⟨t, e1, e2⟩ := h z (by simp)
    rw [List.map_cons, List.map_cons, List.map_cons, e1]
    exact .cons (.tup e2 (.cons (.int _) (.cons (.int _) .nil))) (ih fun y hy => h y (by simp [hy]))
theorem DenAll.prs {vs : List V} {ds : List D} (h : DenAll K B G vs ds) {ps : List (Int × Int)} (e : pairsD ds = some ps) : ∃ zs : List (V × (Int × Int)), zs.map (·.1) = vs ∧ zs.map (·.2) = ps ∧ ∀ z ∈ zs, ∃ t, z.1 = .ref t ∧ SqT K G t [.int z.2.1, .int z.2.2] := by
  induction vs generalizing ds ps with
  | nil =>
    cases h
    cases e
    exact ⟨[], rfl, rfl, by simp⟩
  | cons v vs ih =>
    cases h with
    | @cons _ d _ ds a t =>
      unfold pairsD at e
      split at e
      · rename_i heq
        cases heq
      · rename_i i j xs heq
        cases heq
        obtain ⟨qs, h1, rfl⟩ := Option.map_eq_some_iff.mp e
        obtain ⟨zs, z1, z2, z3⟩ := ih t h1
        cases a with
        | @tup t0 xs0 _ s0 d0 =>
          cases d0 with
          | cons b1 d1 =>
            cases d1 with
            | cons b2 d2 =>
              cases d2
              cases b1
              cases b2
              refine ⟨(.ref t0, (i, j)) :: zs, by rw [List.map_cons, z1], by rw [List.map_cons, z2], fun z hz => ?_⟩
              rcases List.mem_cons.mp hz with rfl | hz
              · exact ⟨t0, rfl, s0⟩
              · exact z3 z hz
      · cases e
theorem blt_snd (R : Rel K B G0 H0 σ env β G H) {b : Bt} {vs : List V} {ds : List D} {dz : D} {Q : VK} (h : dBlt b ds = some dz) (hx : DenWs K B σ env G vs ds)
    (q : ∀ v G' H', Ext B G H G' H' → BagAt B G' H' β → Den K B G' v dz → Q v H') : rBlt K b vs H Q := by
  unfold dBlt at h
  split at h
  · cases h
    obtain ⟨v, rfl, a⟩ := hx.one
    obtain ⟨p, ws, rfl, h1, h2⟩ := a.lst R
    refine .inl ⟨p, ws, rfl, .inl (SqL.of h1), q _ G H (Ext.refl R.sub) R.bag ?_⟩
    rw [h2.length]
    exact .int _
  · cases h
    obtain ⟨v, rfl, a⟩ := hx.one
    cases a.den (by intro _ z; cases z) with
    | tup s t =>
      refine .inl ⟨_, _, rfl, .inr (sub_t R.sub s), q _ G H (Ext.refl R.sub) R.bag ?_⟩
      rw [t.length]
      exact .int _
  · split at h
    · cases h
      rename_i hl
      obtain ⟨v, rfl, a⟩ := hx.one
      cases a.den (by intro _ z; cases z)
      exact .inr ⟨_, rfl, lineM hl, q _ G H (Ext.refl R.sub) R.bag (.int _)⟩
    · cases h
  · cases h
    obtain ⟨v, rfl, a⟩ := hx.one
    cases a.den (by intro _ z; cases z)
    exact ⟨_, rfl, q _ G H (Ext.refl R.sub) R.bag (.int _)⟩
  · cases h
    obtain ⟨v, w, rfl, a, a2⟩ := hx.two
    cases a.den (by intro _ z; cases z)
    cases a2.den (by intro _ z; cases z)
    exact .inl ⟨_, _, rfl, q _ G H (Ext.refl R.sub) R.bag (.int _)⟩
  · cases h
    obtain ⟨v, w, u, rfl, a, a2, a3⟩ := hx.three
    cases a.den (by intro _ z; cases z)
    cases a2.den (by intro _ z; cases z)
    cases a3.den (by intro _ z; cases z)
    exact .inr (.inr ⟨_, _, _, rfl, q _ G H (Ext.refl R.sub) R.bag (.int _)⟩)
  · obtain ⟨m, h1, rfl⟩ := Option.map_eq_some_iff.mp h
    obtain ⟨ns, h2, h3⟩ := Option.bind_eq_some_iff.mp h1
    obtain ⟨v, rfl, a⟩ := hx.one
    obtain ⟨p, ws, rfl, g1, g2⟩ := a.lst R
    have e := g2.ints h2
    subst e
    obtain ⟨m1, m2⟩ := maxI_ok h3
    refine .inr (.inl ⟨p, ns, rfl, SqL.of g1, List.length_pos_of_mem m1, fun z z1 z2 => ?_⟩)
    have : z = m := Int.le_antisymm (m2 z z1) (z2 m m1)
    rw [this]
    exact q _ G H (Ext.refl R.sub) R.bag (.int _)
  · cases h
    obtain ⟨v, w, rfl, a, a2⟩ := hx.two
    cases a.den (by intro _ z; cases z)
    cases a2.den (by intro _ z; cases z)
    exact .inl ⟨_, _, rfl, q _ G H (Ext.refl R.sub) R.bag (.int _)⟩
  · cases h
    obtain ⟨v, w, u, rfl, a, a2, a3⟩ := hx.three
    cases a.den (by intro _ z; cases z)
    cases a2.den (by intro _ z; cases z)
    cases a3.den (by intro _ z; cases z)
    exact .inr (.inr ⟨_, _, _, rfl, q _ G H (Ext.refl R.sub) R.bag (.int _)⟩)
  · obtain ⟨m, h1, rfl⟩ := Option.map_eq_some_iff.mp h
    obtain ⟨ns, h2, h3⟩ := Option.bind_eq_some_iff.mp h1
    obtain ⟨v, rfl, a⟩ := hx.one
    obtain ⟨p, ws, rfl, g1, g2⟩ := a.lst R
    have e := g2.ints h2
    subst e
    obtain ⟨m1, m2⟩ := minI_ok h3
    refine .inr (.inl ⟨p, ns, rfl, SqL.of g1, List.length_pos_of_mem m1, fun z z1 z2 => ?_⟩)
    have : z = m := Int.le_antisymm (z2 m m1) (m2 z z1)
    rw [this]
    exact q _ G H (Ext.refl R.sub) R.bag (.int _)
  · cases h
    obtain ⟨v, rfl, a⟩ := hx.one
    cases a.den (by intro _ z; cases z)
    exact .inl ⟨_, rfl, q _ G H (Ext.refl R.sub) R.bag (.int _)⟩
  · cases h
    obtain ⟨v, rfl, a⟩ := hx.one
    cases a.den (by intro _ z; cases z)
    exact .inr ⟨_, rfl, q _ G H (Ext.refl R.sub) R.bag (.int _)⟩
  · cases h
    obtain ⟨v, rfl, a⟩ := hx.one
    obtain ⟨p, ws, rfl, h1, h2⟩ := a.lst R
    exact ⟨p, ws, rfl, .inl ⟨SqL.of h1, q_tup R h2 q⟩⟩
  · cases h
    obtain ⟨v, rfl, a⟩ := hx.one
    cases a.den (by intro _ z; cases z) with
    | tup s t => exact ⟨_, _, rfl, .inr ⟨sub_t R.sub s, q _ G H (Ext.refl R.sub) R.bag (.tup s t)⟩⟩
  · obtain ⟨ns, h1, rfl⟩ := Option.map_eq_some_iff.mp h
    obtain ⟨v, rfl, a⟩ := hx.one
    obtain ⟨p, ws, rfl, g1, g2⟩ := a.lst R
    have e := g2.ints h1
    subst e
    exact .inl ⟨p, ns, rfl, SqL.of g1, q _ G H (Ext.refl R.sub) R.bag (.int _)⟩
  · obtain ⟨ns, h1, rfl⟩ := Option.map_eq_some_iff.mp h
    obtain ⟨v, rfl, a⟩ := hx.one
    obtain ⟨p, ws, rfl, g1, g2⟩ := a.lst R
    have e := g2.bools h1
    subst e
    exact ⟨p, ns, rfl, SqL.of g1, q _ G H (Ext.refl R.sub) R.bag (.bl _)⟩
  · obtain ⟨ns, h1, rfl⟩ := Option.map_eq_some_iff.mp h
    obtain ⟨v, rfl, a⟩ := hx.one
    obtain ⟨p, ws, rfl, g1, g2⟩ := a.lst R
    have e := g2.bools h1
    subst e
    exact ⟨p, ns, rfl, SqL.of g1, q _ G H (Ext.refl R.sub) R.bag (.bl _)⟩
  · cases h
    obtain ⟨v, rfl, a⟩ := hx.one
    obtain ⟨p, ws, rfl, h1, h2⟩ := a.lst R
    exact ⟨p, ws, rfl, .inl (SqL.of h1), q_lst R h2 q⟩
  · cases h
    obtain ⟨v, rfl, a⟩ := hx.one
    cases a.den (by intro _ z; cases z) with
    | tup s t => exact ⟨_, _, rfl, .inr (sub_t R.sub s), q_lst R t q⟩
  · obtain ⟨v, rfl, a⟩ := hx.one
    obtain ⟨p, ws, rfl, g1, g2⟩ := a.lst R
    unfold sortD at h
    split at h
    · rename_i ns h1
      cases h
      have e := g2.ints h1
      subst e
      refine .inl ⟨p, ns, rfl, SqL.of g1, fun ns' p' hp hs hn => ?_⟩
      have : ns' = sortI ns := PySem.W.ksm_same (hp.trans (sortI_perm ns).symm) hs (sortI_sorted ns)
      rw [this]
      exact q_lst R (denInts _) q p' hn
    · obtain ⟨ps, h1, rfl⟩ := Option.map_eq_some_iff.mp h
      obtain ⟨zs, e1, e2, e3⟩ := g2.prs h1
      subst e1
      subst e2
      refine .inr ⟨p, zs, rfl, SqL.of g1, fun z hz => ?_, fun ys p' hp hs hn => ?_⟩
      · obtain ⟨t, a1, a2⟩ := e3 z hz
        exact ⟨t, a1, sub_t R.sub a2⟩
      · have : ys.map (·.2) = sortP (zs.map (·.2)) := lex_same ((hp.map _).trans (sortP_perm _).symm) hs (sortP_sorted _)
        have dn := den_prs (K := K) (B := B) (G := G) (zs := ys) fun z hz => e3 z (hp.mem_iff.mp hz)
        rw [this] at dn
        exact q_lst R dn q p' hn
  · obtain ⟨ns, h1, rfl⟩ := Option.map_eq_some_iff.mp h
    obtain ⟨v, rfl, a⟩ := hx.one
    cases a.den (by intro _ z; cases z) with
    | tup s t =>
      have e := t.ints h1
      subst e
      exact .inr ⟨_, ns, rfl, sub_t R.sub s, q _ G H (Ext.refl R.sub) R.bag (.int _)⟩
  · split at h
    · rename_i hj
      cases h
      obtain ⟨v, w, rfl, a, b⟩ := hx.two
      cases a.den (by intro _ z; cases z)
      cases b.den (by intro _ z; cases z)
      exact ⟨_, _, rfl, ⟨hj.1, PyProof.noPylong_of_log2 (wide_div (i := 0) hj.1 (bigLog hj.2) (by decide) (by decide)).2⟩, q_tup R (.cons (.int _) (.cons (.int _) .nil)) q⟩
    · cases h
  · cases h
theorem ix_snd (R : Rel K B G0 H0 σ env β G H) {x y : V} {dx dy dz : D} {Q : VK} (h : dIx dx dy = some dz) (hx : DenW K B σ env G x dx) (hy : Den K B G y dy)
    (q : ∀ v, Den K B G v dz → Q v H) : rIx K x y H Q := by
  unfold dIx at h
  split at h
  · cases hy
    obtain ⟨p, ws, rfl, h1, h2⟩ := hx.lst R
    unfold atI at h
    obtain ⟨j, h3, h4⟩ := Option.bind_eq_some_iff.mp h
    obtain ⟨v, h5, h6⟩ := h2.get h4
    refine .inl ⟨p, ws, _, v, rfl, rfl, SqL.of h1, ?_, q v h6⟩
    unfold atI
    rw [h2.length, h3]
    exact h5
  · cases hy
    cases hx.den (by intro _ z; cases z) with
    | tup s t =>
      unfold atI at h
      obtain ⟨j, h3, h4⟩ := Option.bind_eq_some_iff.mp h
      obtain ⟨v, h5, h6⟩ := t.get h4
      refine .inr (.inl ⟨_, _, _, v, rfl, rfl, sub_t R.sub s, ?_, q v h6⟩)
      unfold atI
      rw [t.length, h3]
      exact h5
  · cases h
theorem cut_den {vs : List V} {ds : List D} (h : DenAll K B G vs ds) (lo hi : Option Int) : DenAll K B G (cutV vs lo hi) (cutD ds lo hi) := by
  unfold cutV cutD
  rw [h.length]
  exact (h.drop _).take _
theorem cut_whole {vs : List V} {ds : List D} (t : DenAll K B G vs ds) {lo hi : Option Int} (e : HT.sIx vs.length 0 lo = 0 ∧ HT.sIx vs.length vs.length hi = vs.length) : cutD ds lo hi = ds := by
  unfold cutD
  rw [← t.length, e.1, e.2, List.drop_zero, Nat.sub_zero, t.length, List.take_length]
theorem sl_snd (R : Rel K B G0 H0 σ env β G H) {x : V} {dx dz : D} {lo hi : Option Int} {Q : VK} (h : dSl dx lo hi = some dz) (hx : DenW K B σ env G x dx)
    (q : ∀ v G' H', Ext B G H G' H' → BagAt B G' H' β → Den K B G' v dz → Q v H') : rSl K x lo hi H Q := by
  unfold dSl at h
  split at h
  · cases h
    obtain ⟨p, ws, rfl, h1, h2⟩ := hx.lst R
    exact .inl ⟨p, ws, rfl, SqL.of h1, q_lst R (cut_den h2 lo hi) q⟩
  · cases h
    cases hx.den (by intro _ z; cases z) with
    | tup s t =>
      refine .inr (.inl ⟨_, _, rfl, sub_t R.sub s, fun e => ?_, fun _ => q_tup R (cut_den t lo hi) q⟩)
      rw [cut_whole t e] at q
      exact q _ G H (Ext.refl R.sub) R.bag (.tup s t)
  · cases h
end
end LT

namespace LT
open PySem PySem.Spec PyProof.Rows L2
inductive SrcAt (K : PySem.W.Frag) (B : Addr) (G H : Hp) : It → List D → Prop
  | lst {a : Addr} {vs : List V} {xs : List D} : H a = some (.lst vs) → DenAll K B G vs xs → SrcAt K B G H (Itl K a) xs
  | tup {a : Addr} {vs : List V} {xs : List D} : SqT K H a vs → DenAll K B G vs xs → SrcAt K B G H (Itt K a) xs
  | rng (lo : Int) (n : Nat) : SrcAt K B G H (Itr lo n) (rangeD lo n)
  | enum {a : Addr} {vs : List V} {xs : List D} : H a = some (.lst vs) → DenAll K B G vs xs → SrcAt K B G H (Ite K a) (enumD xs)
  | enumT {a : Addr} {vs : List V} {xs : List D} : SqT K H a vs → DenAll K B G vs xs → SrcAt K B G H (Iteu K a) (enumD xs)
  | zip {a b : Addr} {vs ws : List V} {xs ys : List D} : H a = some (.lst vs) → DenAll K B G vs xs → H b = some (.lst ws) → DenAll K B G ws ys → SrcAt K B G H (Itz K a b) (zipD xs ys)
  | zip3 {a b c : Addr} {vs ws us : List V} {xs ys zs : List D} : H a = some (.lst vs) → DenAll K B G vs xs → H b = some (.lst ws) → DenAll K B G ws ys → H c = some (.lst us) → DenAll K B G us zs → SrcAt K B G H (Itz3 K a b c) (zip3D xs ys zs)
  | rvs {a : Addr} {vs : List V} {xs : List D} {n : Nat} : H a = some (.lst vs) → DenAll K B G vs xs → n = xs.length → SrcAt K B G H (Itv K a n) xs.reverse
theorem zip3D_len (xs ys zs : List D) : (zip3D xs ys zs).length = min xs.length (min ys.length zs.length) := by simp [zip3D]
theorem zip3D_get (xs ys zs : List D) (i : Nat) : (zip3D xs ys zs)[i]? = (xs.zip (ys.zip zs))[i]?.map fun p => .tup [p.1, p.2.1, p.2.2] := by
  unfold zip3D
  rw [List.getElem?_map]
section
variable {K : PySem.W.Frag} {B : Addr} {G0 H0 G H G' H' : Hp} {σ σ' : L2.St} {env env' : Env} {β β' : BS} {J : It} {xs : List D}
theorem rangeD_len (lo : Int) (n : Nat) : (rangeD lo n).length = n := by simp [rangeD]
theorem rangeD_get (lo : Int) (n i : Nat) (h : i < n) : (rangeD lo n)[i]? = some (.int (lo + (i : Nat))) := by
  unfold rangeD
  rw [List.getElem?_map, List.getElem?_range h]
  rfl
theorem enumD_len (xs : List D) : (enumD xs).length = xs.length := by simp [enumD]
theorem enumD_get (xs : List D) (i : Nat) : (enumD xs)[i]? = xs[i]?.map fun x => .tup [.int (i : Nat), x] := by
  unfold enumD
  rw [List.getElem?_map, List.getElem?_zipIdx]
  cases xs[i]? <;> simp
theorem zipD_len (xs ys : List D) : (zipD xs ys).length = min xs.length ys.length := by simp [zipD]
theorem zipD_get (xs ys : List D) (i : Nat) : (zipD xs ys)[i]? = (xs.zip ys)[i]?.map fun p => .tup [p.1, p.2] := by
  unfold zipD
  rw [List.getElem?_map]
theorem SrcAt.go (s : SrcAt K B G H J xs) {i : Nat} (h : i < xs.length) : J.go i H := by
  cases s with
  | lst h1 h2 =>
    have hv := h2.length
    exact ⟨_, _, SqL.of h1, List.getElem?_eq_getElem (by omega)⟩
  | tup h1 h2 =>
    have hv := h2.length
    exact ⟨_, _, h1, List.getElem?_eq_getElem (by omega)⟩
  | rng lo n =>
    rw [rangeD_len] at h
    exact h
  | enum h1 h2 =>
    have hv := h2.length
    rw [enumD_len] at h
    exact ⟨_, _, SqL.of h1, List.getElem?_eq_getElem (by omega)⟩
  | enumT h1 h2 =>
    have hv := h2.length
    rw [enumD_len] at h
    exact ⟨_, _, h1, List.getElem?_eq_getElem (by omega)⟩
  | zip h1 h2 h3 h4 =>
    have hv := h2.length
    have hw := h4.length
    rw [zipD_len] at h
    exact ⟨_, _, _, _, SqL.of h1, SqL.of h3, List.getElem?_eq_getElem (by omega), List.getElem?_eq_getElem (by omega)⟩
  | zip3 h1 h2 h3 h4 h5 h6 =>
    have hv := h2.length
    have hw := h4.length
    have hu := h6.length
    rw [zip3D_len] at h
    exact ⟨_, _, _, _, _, _, SqL.of h1, SqL.of h3, SqL.of h5, List.getElem?_eq_getElem (by omega), List.getElem?_eq_getElem (by omega), List.getElem?_eq_getElem (by omega)⟩
  | rvs h1 h2 hn =>
    have hv := h2.length
    rw [List.length_reverse] at h
    exact ⟨by omega, _, _, SqL.of h1, List.getElem?_eq_getElem (by omega)⟩
theorem SrcAt.stop (s : SrcAt K B G H J xs) {i : Nat} (h : xs.length ≤ i) : J.stop i H := by
  cases s with
  | lst h1 h2 =>
    have hv := h2.length
    exact ⟨_, SqL.of h1, by omega⟩
  | tup h1 h2 =>
    have hv := h2.length
    exact ⟨_, h1, by omega⟩
  | rng lo n =>
    rw [rangeD_len] at h
    exact h
  | enum h1 h2 =>
    have hv := h2.length
    rw [enumD_len] at h
    exact ⟨_, SqL.of h1, by omega⟩
  | enumT h1 h2 =>
    have hv := h2.length
    rw [enumD_len] at h
    exact ⟨_, h1, by omega⟩
  | zip h1 h2 h3 h4 =>
    have hv := h2.length
    have hw := h4.length
    rw [zipD_len] at h
    exact ⟨_, _, SqL.of h1, SqL.of h3, by omega⟩
  | zip3 h1 h2 h3 h4 h5 h6 =>
    have hv := h2.length
    have hw := h4.length
    have hu := h6.length
    rw [zip3D_len] at h
    exact ⟨_, _, _, SqL.of h1, SqL.of h3, SqL.of h5, by omega⟩
  | rvs h1 h2 hn =>
    rw [List.length_reverse] at h
    exact (show _ ≤ i by omega)
theorem SrcAt.yld (s : SrcAt K B G H J xs) (R : Rel K B G0 H0 σ env β G H) {i : Nat} {d : D} (h : xs[i]? = some d) {x : V} (y : J.yld i H x H') : ∃ G', Ext B G H G' H' ∧ BagAt B G' H' β ∧ Den K B G' x d := by
  cases s with
  | lst h1 h2 =>
    obtain ⟨rfl, y2⟩ := y
    obtain ⟨v, g1, g2⟩ := h2.get h
    have e := y2 _ (SqL.of h1)
    rw [g1] at e
    cases e
    exact ⟨G, Ext.refl R.sub, R.bag, g2⟩
  | tup h1 h2 =>
    obtain ⟨rfl, y2⟩ := y
    obtain ⟨v, g1, g2⟩ := h2.get h
    have e := y2 _ h1
    rw [g1] at e
    cases e
    exact ⟨G, Ext.refl R.sub, R.bag, g2⟩
  | rng lo n =>
    obtain ⟨rfl, rfl⟩ := y
    have hi : i < n := by
      have := List.getElem?_eq_some_iff.mp h
      obtain ⟨q, _⟩ := this
      rwa [rangeD_len] at q
    rw [rangeD_get lo n i hi] at h
    cases h
    exact ⟨G, Ext.refl R.sub, R.bag, .int _⟩
  | enum h1 h2 =>
    obtain ⟨T, z, rfl, hT, rfl, y2⟩ := y
    rw [enumD_get] at h
    obtain ⟨d2, g1, rfl⟩ := Option.map_eq_some_iff.mp h
    obtain ⟨v, g2, g3⟩ := h2.get g1
    have e := y2 _ (SqL.of h1)
    rw [g2] at e
    cases e
    have ee := Ext.new (B := B) (o := HO.tup [V.int (i : Nat), z]) R.sub hT
    exact ⟨_, ee, R.bag.new R.sub hT, .tup (SqT.of upd_same) (.cons (.int _) (.cons (g3.mono ee.gg) .nil))⟩
  | enumT h1 h2 =>
    obtain ⟨T, z, rfl, hT, rfl, y2⟩ := y
    rw [enumD_get] at h
    obtain ⟨d2, g1, rfl⟩ := Option.map_eq_some_iff.mp h
    obtain ⟨v, g2, g3⟩ := h2.get g1
    have e := y2 _ h1
    rw [g2] at e
    cases e
    have ee := Ext.new (B := B) (o := HO.tup [V.int (i : Nat), z]) R.sub hT
    exact ⟨_, ee, R.bag.new R.sub hT, .tup (SqT.of upd_same) (.cons (.int _) (.cons (g3.mono ee.gg) .nil))⟩
  | zip h1 h2 h3 h4 =>
    obtain ⟨T, z, z2, rfl, hT, rfl, y2, y3⟩ := y
    rw [zipD_get] at h
    obtain ⟨⟨d1, d2⟩, g1, rfl⟩ := Option.map_eq_some_iff.mp h
    rw [List.getElem?_zip_eq_some] at g1
    obtain ⟨v, g2, g3⟩ := h2.get g1.1
    obtain ⟨w, g4, g5⟩ := h4.get g1.2
    have e := y2 _ (SqL.of h1)
    rw [g2] at e
    cases e
    have e := y3 _ (SqL.of h3)
    rw [g4] at e
    cases e
    have ee := Ext.new (B := B) (o := HO.tup [z, z2]) R.sub hT
    exact ⟨_, ee, R.bag.new R.sub hT, .tup (SqT.of upd_same) (.cons (g3.mono ee.gg) (.cons (g5.mono ee.gg) .nil))⟩
  | zip3 h1 h2 h3 h4 h5 h6 =>
    obtain ⟨T, z, z2, z3, rfl, hT, rfl, y2, y3, y4⟩ := y
    rw [zip3D_get] at h
    obtain ⟨⟨d1, d2, d3⟩, g1, rfl⟩ := Option.map_eq_some_iff.mp h
    rw [List.getElem?_zip_eq_some, List.getElem?_zip_eq_some] at g1
    obtain ⟨v, g2, g3⟩ := h2.get g1.1
    obtain ⟨w, g4, g5⟩ := h4.get g1.2.1
    obtain ⟨u, g6, g7⟩ := h6.get g1.2.2
    have e := y2 _ (SqL.of h1)
    rw [g2] at e
    cases e
    have e := y3 _ (SqL.of h3)
    rw [g4] at e
    cases e
    have e := y4 _ (SqL.of h5)
    rw [g6] at e
    cases e
    have ee := Ext.new (B := B) (o := HO.tup [z, z2, z3]) R.sub hT
    exact ⟨_, ee, R.bag.new R.sub hT, .tup (SqT.of upd_same) (.cons (g3.mono ee.gg) (.cons (g5.mono ee.gg) (.cons (g7.mono ee.gg) .nil)))⟩
  | rvs h1 h2 hn =>
    obtain ⟨rfl, y2⟩ := y
    have hi := (List.getElem?_eq_some_iff.mp h).1
    rw [List.length_reverse] at hi
    rw [List.getElem?_reverse hi] at h
    obtain ⟨v, g1, g2⟩ := h2.get h
    have e := y2 _ (SqL.of h1)
    rw [hn, g1] at e
    cases e
    exact ⟨G, Ext.refl R.sub, R.bag, g2⟩
theorem get_set {α : Type} {l : List α} {i j : Nat} {x : α} : (l.set i x)[j]? = if i = j then (if i < l.length then some x else none) else l[j]? := by
  rw [List.getElem?_set]
theorem slf_set {env : Env} {i j c : Nat} {x : Addr} {s : Sl} {fs : List D} (hs : ∀ x c fs, s ≠ .slf x c fs) (h : (env.set i (some s))[j]? = some (some (.slf x c fs))) : i ≠ j ∧ env[j]? = some (some (.slf x c fs)) := by
  rw [get_set] at h
  by_cases e : i = j
  · rw [if_pos e] at h
    by_cases l : i < env.length
    · rw [if_pos l] at h
      cases h
      exact absurd rfl (hs _ _ _)
    · rw [if_neg l] at h
      cases h
  · rw [if_neg e] at h
    exact ⟨e, h⟩
theorem Rel.setD (R : Rel K B G0 H0 σ env β G H) {i : Nat} {v : V} {x : D} (h : Den K B G v x) : Rel K B G0 H0 (σ.set i (some v)) (env.set i (some (.d x))) β G H := by
  refine { len := by rw [List.length_set, List.length_set]; exact R.len, sub := R.sub, g0 := R.g0, h0 := R.h0, n0 := R.n0, b0 := R.b0, bag := R.bag, d := fun j y hj => ?_, o := fun j ys hj => ?_, s := fun j y c fs hj => let ⟨a, b⟩ := slf_set (by intro _ _ _ z; cases z) hj; by rw [get_set, if_neg a]; exact R.s j y c fs b, si := fun j k y c c' fs fs' u1 u2 => R.si j k y c c' fs fs' (slf_set (by intro _ _ _ z; cases z) u1).2 (slf_set (by intro _ _ _ z; cases z) u2).2, inj := fun j k ys zs p h1 h2 h3 h4 => ?_ }
  · rw [get_set] at hj ⊢
    by_cases e : i = j
    · rw [if_pos e] at hj ⊢
      by_cases l : i < env.length
      · rw [if_pos l] at hj
        rw [if_pos (by rw [R.len]; exact l)]
        cases hj
        exact ⟨v, rfl, h⟩
      · rw [if_neg l] at hj
        cases hj
    · rw [if_neg e] at hj ⊢
      exact R.d j y hj
  · rw [get_set] at hj ⊢
    by_cases e : i = j
    · rw [if_pos e] at hj
      by_cases l : i < env.length
      · rw [if_pos l] at hj
        cases hj
      · rw [if_neg l] at hj
        cases hj
    · rw [if_neg e] at hj ⊢
      exact R.o j ys hj
  · rw [get_set] at h1 h2 h3 h4
    have e1 : i ≠ j := fun e => by
      rw [if_pos e] at h1
      by_cases l : i < env.length
      · rw [if_pos l] at h1; cases h1
      · rw [if_neg l] at h1; cases h1
    have e2 : i ≠ k := fun e => by
      rw [if_pos e] at h2
      by_cases l : i < env.length
      · rw [if_pos l] at h2; cases h2
      · rw [if_neg l] at h2; cases h2
    rw [if_neg e1] at h1 h3
    rw [if_neg e2] at h2 h4
    exact R.inj j k ys zs p h1 h2 h3 h4
theorem Rel.setO (R : Rel K B G0 H0 σ env β G H) {i : Nat} {p : Addr} {vs : List V} {xs : List D} (hp : H p = some (.lst vs)) (hg : G p = none) (h0 : H0 p = none) (hno : ∀ (j : Nat) (ys : List D), j ≠ i → env[j]? = some (some (.own ys)) → σ[j]? ≠ some (some (.ref p))) (h : DenAll K B G vs xs) : Rel K B G0 H0 (σ.set i (some (.ref p))) (env.set i (some (.own xs))) β G H := by
  refine { len := by rw [List.length_set, List.length_set]; exact R.len, sub := R.sub, g0 := R.g0, h0 := R.h0, n0 := R.n0, b0 := R.b0, bag := R.bag, d := fun j y hj => ?_, o := fun j ys hj => ?_, s := fun j y c fs hj => let ⟨a, b⟩ := slf_set (by intro _ _ _ z; cases z) hj; by rw [get_set, if_neg a]; exact R.s j y c fs b, si := fun j k y c c' fs fs' u1 u2 => R.si j k y c c' fs fs' (slf_set (by intro _ _ _ z; cases z) u1).2 (slf_set (by intro _ _ _ z; cases z) u2).2, inj := fun j k ys zs q h1 h2 h3 h4 => ?_ }
  · rw [get_set] at hj ⊢
    by_cases e : i = j
    · rw [if_pos e] at hj
      by_cases l : i < env.length
      · rw [if_pos l] at hj; cases hj
      · rw [if_neg l] at hj; cases hj
    · rw [if_neg e] at hj ⊢
      exact R.d j y hj
  · rw [get_set] at hj ⊢
    by_cases e : i = j
    · rw [if_pos e] at hj ⊢
      by_cases l : i < env.length
      · rw [if_pos l] at hj
        rw [if_pos (by rw [R.len]; exact l)]
        cases hj
        exact ⟨p, vs, rfl, hp, hg, h0, h⟩
      · rw [if_neg l] at hj
        cases hj
    · rw [if_neg e] at hj ⊢
      exact R.o j ys hj
  · have other : ∀ (j : Nat) (ys : List D), i ≠ j → (env.set i (some (Sl.own xs)))[j]? = some (some (.own ys)) → (σ.set i (some (.ref p)))[j]? = some (some (.ref q)) → env[j]? = some (some (.own ys)) ∧ σ[j]? = some (some (.ref q)) := fun j ys e a b => by
      rw [get_set, if_neg e] at a b
      exact ⟨a, b⟩
    have mine : ∀ ys, (env.set i (some (Sl.own xs)))[i]? = some (some (.own ys)) → (σ.set i (some (.ref p)))[i]? = some (some (.ref q)) → q = p := fun ys a b => by
      rw [get_set, if_pos rfl] at a b
      by_cases l : i < σ.length
      · rw [if_pos l] at b
        cases b
        rfl
      · rw [if_neg l] at b
        cases b
    by_cases e1 : i = j
    · by_cases e2 : i = k
      · rw [← e1, ← e2]
      · subst e1
        have q1 := mine ys h1 h3
        obtain ⟨a, b⟩ := other k zs e2 h2 h4
        rw [q1] at b
        exact absurd b (hno k zs (Ne.symm e2) a)
    · by_cases e2 : i = k
      · subst e2
        have q1 := mine zs h2 h4
        obtain ⟨a, b⟩ := other j ys e1 h1 h3
        rw [q1] at b
        exact absurd b (hno j ys (Ne.symm e1) a)
      · obtain ⟨a1, b1⟩ := other j ys e1 h1 h3
        obtain ⟨a2, b2⟩ := other k zs e2 h2 h4
        exact R.inj j k ys zs q a1 a2 b1 b2
theorem Rel.mutO (R : Rel K B G0 H0 σ env β G H) {i : Nat} {p : Addr} {xs xs' : List D} {vs' : List V} (hi : env[i]? = some (some (.own xs))) (hs : σ[i]? = some (some (.ref p))) (h : DenAll K B G vs' xs') : Rel K B G0 H0 σ (env.set i (some (.own xs'))) β G (upd H p (.lst vs')) := by
  obtain ⟨p', vs, g1, g2, g3, g4, g5⟩ := R.o i xs hi
  rw [hs] at g1
  cases g1
  have pb : p ≠ B := fun q => by
    obtain ⟨o, ho⟩ := R.b0
    rw [q, ho] at g4
    cases g4
  have li : i < env.length := (List.getElem?_eq_some_iff.mp hi).1
  refine { len := by rw [List.length_set]; exact R.len, sub := fun a o q => ?_, g0 := R.g0, h0 := fun a o q qb => ?_, n0 := R.n0, b0 := R.b0, bag := ?_, d := fun j y hj => ?_, o := fun j ys hj => ?_, s := fun j y c fs hj => ?_, si := fun j k y c c' fs fs' u1 u2 => R.si j k y c c' fs fs' (slf_set (by intro _ _ _ z; cases z) u1).2 (slf_set (by intro _ _ _ z; cases z) u2).2, inj := fun j k ys zs q h1 h2 h3 h4 => ?_ }
  · rw [upd_ne (ne_of_none q g3)]
    exact R.sub a o q
  · rw [upd_ne (ne_of_none q g4)]
    exact R.h0 a o q qb
  · obtain ⟨⟨C, k1, k2⟩, k3, k4⟩ := R.bag
    refine ⟨⟨C, ?_, k2⟩, k3, k4⟩
    rw [upd_ne pb.symm]
    exact k1
  · rw [get_set] at hj
    by_cases e : i = j
    · rw [if_pos e, if_pos li] at hj
      cases hj
    · rw [if_neg e] at hj
      exact R.d j y hj
  · rw [get_set] at hj
    by_cases e : i = j
    · rw [if_pos e, if_pos li] at hj
      cases hj
      subst e
      exact ⟨p, vs', hs, upd_same, g3, g4, h⟩
    · rw [if_neg e] at hj
      obtain ⟨p2, ws, k1, k2, k3, k4, k5⟩ := R.o j ys hj
      have ne : p2 ≠ p := fun q => by
        subst q
        exact e (R.inj i j xs ys p2 hi hj hs k1)
      exact ⟨p2, ws, k1, by rw [upd_ne ne]; exact k2, k3, k4, k5⟩
  · obtain ⟨_, b⟩ := slf_set (by intro _ _ _ z; cases z) hj
    obtain ⟨dx, ws, k1, k2, k3, k4⟩ := R.s j y c fs b
    have n1 : y ≠ p := ne_of k2 g2 (by intro z; cases z)
    have n2 : dx ≠ p := ne_of k3 g2 (by intro z; cases z)
    exact ⟨dx, ws, k1, by rw [upd_ne n1]; exact k2, by rw [upd_ne n2]; exact k3, k4⟩
  · have back : ∀ (j : Nat) (ys : List D), (env.set i (some (Sl.own xs')))[j]? = some (some (.own ys)) → ∃ zs, env[j]? = some (some (.own zs)) := fun j ys a => by
      rw [get_set] at a
      by_cases e : i = j
      · subst e
        exact ⟨xs, hi⟩
      · rw [if_neg e] at a
        exact ⟨ys, a⟩
    obtain ⟨z1, a1⟩ := back j ys h1
    obtain ⟨z2, a2⟩ := back k zs h2
    exact R.inj j k z1 z2 q a1 a2 h3 h4
theorem Rel.frz1 (R : Rel K B G0 H0 σ env β G H) (i : Nat) : ∃ G', Sub G G' ∧ Rel K B G0 H0 σ (frz1 i env) β G' H := by
  unfold LT.frz1
  split
  · rename_i xs hi
    obtain ⟨p, vs, g1, g2, g3, g4, g5⟩ := R.o i xs hi
    have li : i < env.length := (List.getElem?_eq_some_iff.mp hi).1
    have gg : Sub G (upd G p (.lst vs)) := fun a z h => by
      rw [upd_ne (ne_of_none h g3)]
      exact h
    have pb : p ≠ B := fun q => by
      obtain ⟨o, ho⟩ := R.b0
      rw [q, ho] at g4
      cases g4
    refine ⟨upd G p (.lst vs), gg, ?_⟩
    refine { len := by rw [List.length_set]; exact R.len, sub := fun a o q => ?_, g0 := R.g0.trans gg, h0 := R.h0, n0 := fun a o q q2 => ?_, b0 := R.b0, bag := ?_, d := fun j y hj => ?_, o := fun j ys hj => ?_, s := fun j y c fs hj => ?_, si := fun j k y c c' fs fs' u1 u2 => R.si j k y c c' fs fs' (slf_set (by intro _ _ _ z; cases z) u1).2 (slf_set (by intro _ _ _ z; cases z) u2).2, inj := fun j k ys zs q h1 h2 h3 h4 => ?_ }
    · by_cases e : a = p
      · subst e
        rw [upd_same] at q
        cases q
        exact g2
      · rw [upd_ne e] at q
        exact R.sub a o q
    · rw [upd_ne (ne_of_none q g4)]
      exact R.n0 a o q q2
    · obtain ⟨⟨C, k1, k2⟩, k3, k4⟩ := R.bag
      refine ⟨⟨C, k1, k2.1, gg _ _ k2.2⟩, ?_, k4⟩
      rw [upd_ne pb.symm]
      exact k3
    · rw [get_set] at hj
      by_cases e : i = j
      · rw [if_pos e, if_pos li] at hj
        cases hj
        subst e
        exact ⟨.ref p, g1, .lst upd_same (g5.mono gg)⟩
      · rw [if_neg e] at hj
        obtain ⟨v, k1, k2⟩ := R.d j y hj
        exact ⟨v, k1, k2.mono gg⟩
    · rw [get_set] at hj
      by_cases e : i = j
      · rw [if_pos e, if_pos li] at hj
        cases hj
      · rw [if_neg e] at hj
        obtain ⟨p2, ws, k1, k2, k3, k4, k5⟩ := R.o j ys hj
        have ne : p2 ≠ p := fun q => by
          subst q
          exact e (R.inj i j xs ys p2 hi hj g1 k1)
        exact ⟨p2, ws, k1, k2, by rw [upd_ne ne]; exact k3, k4, k5.mono gg⟩
    · obtain ⟨_, b⟩ := slf_set (by intro _ _ _ z; cases z) hj
      obtain ⟨dx, ws, k1, k2, k3, k4, k5, k6, k7, k8, k9, k10⟩ := R.s j y c fs b
      have n1 : y ≠ p := ne_of k2 g2 (by intro z; cases z)
      have n2 : dx ≠ p := ne_of k3 g2 (by intro z; cases z)
      exact ⟨dx, ws, k1, k2, k3, by rw [upd_ne n1]; exact k4, by rw [upd_ne n2]; exact k5, k6, k7, k8, k9, k10.mono gg⟩
    · have back : ∀ (j : Nat) (ys : List D), (env.set i (some (Sl.d (.lst xs))))[j]? = some (some (.own ys)) → env[j]? = some (some (.own ys)) := fun j ys a => by
        rw [get_set] at a
        by_cases e : i = j
        · rw [if_pos e, if_pos li] at a
          cases a
        · rw [if_neg e] at a
          exact a
      exact R.inj j k ys zs q (back j ys h1) (back k zs h2) h3 h4
  · exact ⟨G, Sub.refl G, R⟩
theorem Rel.frz : ∀ (is : List Nat) {env : Env} {G : Hp}, Rel K B G0 H0 σ env β G H → ∃ G', Sub G G' ∧ Rel K B G0 H0 σ (frz is env) β G' H
  | [], env, G, R => ⟨G, Sub.refl G, R⟩
  | i :: is, env, G, R => by
    obtain ⟨G1, s1, R1⟩ := R.frz1 i
    obtain ⟨G2, s2, R2⟩ := Rel.frz is R1
    exact ⟨G2, s1.trans s2, R2⟩
mutual
theorem bind_snd : ∀ (t : CT) (x : D) (env env' : Env), bindT t x env = some env' → ∀ {σ : L2.St} {v : V} {G : Hp}, Rel K B G0 H0 σ env β G H → Den K B G v x → ∀ (Q : L2.St → Hp → Prop), (∀ σ', (∀ j : Nat, j ∉ t.slots → σ'[j]? = σ[j]? ∧ env'[j]? = env[j]?) → Rel K B G0 H0 σ' env' β G H → Q σ' H) → semG K t v σ H Q
  | .name i, x, env, env', h, σ, v, G, R, hd, Q, q => by
    have e : env.set i (some (.d x)) = env' := Option.some.inj (show some (env.set i (some (.d x))) = some env' from h)
    subst e
    refine q (σ.set i (some v)) (fun j hj => ?_) (R.setD hd)
    have ne : i ≠ j := fun z => hj (by rw [z]; exact List.mem_singleton.mpr rfl)
    exact ⟨by rw [get_set, if_neg ne], by rw [get_set, if_neg ne]⟩
  | .fld _ _ _, x, env, env', h, σ, v, G, R, hd, Q, q => by cases h
  | .tup ts, x, env, env', h, σ, v, G, R, hd, Q, q => by
    cases x with
    | tup xs =>
      cases hd with
      | tup s t =>
        have h' : bindTs ts xs env = some env' := h
        refine .inl ⟨_, _, rfl, sub_t R.sub s, ?_, binds_snd ts xs env env' h' R t Q q⟩
        rw [t.length]
        exact binds_len ts xs env env' h'
    | lst xs =>
      cases hd with
      | lst s t =>
        have h' : bindTs ts xs env = some env' := h
        refine .inr ⟨_, _, rfl, SqL.of (R.sub _ _ s), ?_, binds_snd ts xs env env' h' R t Q q⟩
        rw [t.length]
        exact binds_len ts xs env env' h'
    | _ => cases h
theorem binds_snd : ∀ (ts : List CT) (xs : List D) (env env' : Env), bindTs ts xs env = some env' → ∀ {σ : L2.St} {vs : List V} {G : Hp}, Rel K B G0 H0 σ env β G H → DenAll K B G vs xs → ∀ (Q : L2.St → Hp → Prop), (∀ σ', (∀ j : Nat, j ∉ CT.slotss ts → σ'[j]? = σ[j]? ∧ env'[j]? = env[j]?) → Rel K B G0 H0 σ' env' β G H → Q σ' H) → semGs K ts vs σ H Q
  | [], xs, env, env', h, σ, vs, G, R, hd, Q, q => by
    cases xs with
    | nil =>
      cases hd
      cases h
      exact ⟨rfl, q σ (fun _ _ => ⟨rfl, rfl⟩) R⟩
    | cons _ _ => cases h
  | t :: ts, xs, env, env', h, σ, vs, G, R, hd, Q, q => by
    cases xs with
    | nil => cases h
    | cons x xs =>
      cases hd with
      | cons a tl =>
        obtain ⟨e1, h1, h2⟩ := Option.bind_eq_some_iff.mp (show (bindT t x env).bind (bindTs ts xs) = some env' from h)
        refine ⟨_, _, rfl, bind_snd t x env e1 h1 R a _ fun σ1 k1 R1 => binds_snd ts xs e1 env' h2 R1 tl Q fun σ2 k2 R2 => q σ2 (fun j hj => ?_) R2⟩
        have hj' : j ∉ t.slots ∧ j ∉ CT.slotss ts := by
          have : j ∉ t.slots ++ CT.slotss ts := hj
          rw [List.mem_append] at this
          exact ⟨fun z => this (.inl z), fun z => this (.inr z)⟩
        exact ⟨(k2 j hj'.2).1.trans (k1 j hj'.1).1, (k2 j hj'.2).2.trans (k1 j hj'.1).2⟩
theorem binds_len : ∀ (ts : List CT) (xs : List D) (env env' : Env), bindTs ts xs env = some env' → xs.length = CT.lens ts
  | [], xs, env, env', h => by
    cases xs with
    | nil => rfl
    | cons _ _ => cases h
  | t :: ts, xs, env, env', h => by
    cases xs with
    | nil => cases h
    | cons x xs =>
      obtain ⟨e1, h1, h2⟩ := Option.bind_eq_some_iff.mp (show (bindT t x env).bind (bindTs ts xs) = some env' from h)
      show xs.length + 1 = CT.lens ts + 1
      rw [binds_len ts xs e1 env' h2]
end
mutual
theorem bindT_len : ∀ (t : CT) (x : D) (env env' : Env), bindT t x env = some env' → env'.length = env.length
  | .name i, x, env, env', h => by
    have e : env.set i (some (.d x)) = env' := Option.some.inj (show some (env.set i (some (.d x))) = some env' from h)
    rw [← e, List.length_set]
  | .tup ts, x, env, env', h => by
    cases x with
    | tup xs => exact bindTs_len ts xs env env' h
    | lst xs => exact bindTs_len ts xs env env' h
    | _ => cases h
theorem bindTs_len : ∀ (ts : List CT) (xs : List D) (env env' : Env), bindTs ts xs env = some env' → env'.length = env.length
  | [], xs, env, env', h => by
    cases xs with
    | nil => cases h; rfl
    | cons _ _ => cases h
  | t :: ts, xs, env, env', h => by
    cases xs with
    | nil => cases h
    | cons x xs =>
      obtain ⟨e1, h1, h2⟩ := Option.bind_eq_some_iff.mp (show (bindT t x env).bind (bindTs ts xs) = some env' from h)
      rw [bindTs_len ts xs e1 env' h2, bindT_len t x env e1 h1]
end
theorem wipe_get : ∀ (vs : List Nat) (σ : L2.St) (j : Nat), (wipe σ vs)[j]? = if j ∈ vs then (if j < σ.length then some none else none) else σ[j]?
  | [], σ, j => by simp [wipe]
  | v :: vs, σ, j => by
    unfold wipe
    rw [get_set, wipe_length, wipe_get vs σ j]
    by_cases e : v = j
    · subst e
      simp
    · have : (j ∈ v :: vs) ↔ j ∈ vs := by
        rw [List.mem_cons]
        exact ⟨fun h => h.resolve_left (fun z => e z.symm), .inr⟩
      simp [e, this]
theorem wipeE_length : ∀ (vs : List Nat) (env : Env), (wipeE env vs).length = env.length
  | [], _ => rfl
  | v :: vs, env => by unfold wipeE; rw [List.length_set, wipeE_length vs env]
theorem wipeE_get : ∀ (vs : List Nat) (env : Env) (j : Nat), (wipeE env vs)[j]? = if j ∈ vs then (if j < env.length then some none else none) else env[j]?
  | [], env, j => by simp [wipeE]
  | v :: vs, env, j => by
    unfold wipeE
    rw [get_set, wipeE_length, wipeE_get vs env j]
    by_cases e : v = j
    · subst e
      simp
    · have : (j ∈ v :: vs) ↔ j ∈ vs := by
        rw [List.mem_cons]
        exact ⟨fun h => h.resolve_left (fun z => e z.symm), .inr⟩
      simp [e, this]
theorem Rel.wipe (R : Rel K B G0 H0 σ env β G H) (vs : List Nat) : Rel K B G0 H0 (wipe σ vs) (wipeE env vs) β G H := by
  have ge : ∀ (j : Nat) (s : Sl), (wipeE env vs)[j]? = some (some s) → j ∉ vs ∧ env[j]? = some (some s) := fun j s h => by
    rw [wipeE_get] at h
    by_cases e : j ∈ vs
    · rw [if_pos e] at h
      by_cases l : j < env.length
      · rw [if_pos l] at h; cases h
      · rw [if_neg l] at h; cases h
    · rw [if_neg e] at h
      exact ⟨e, h⟩
  refine { len := by rw [wipe_length, wipeE_length]; exact R.len, sub := R.sub, g0 := R.g0, h0 := R.h0, n0 := R.n0, b0 := R.b0, bag := R.bag, d := fun j y hj => ?_, o := fun j ys hj => ?_, s := fun j y c fs hj => ?_, si := fun j k y c c' fs fs' u1 u2 => R.si j k y c c' fs fs' (ge j _ u1).2 (ge k _ u2).2, inj := fun j k ys zs q h1 h2 h3 h4 => ?_ }
  · obtain ⟨e, h⟩ := ge j _ hj
    rw [wipe_get, if_neg e]
    exact R.d j y h
  · obtain ⟨e, h⟩ := ge j _ hj
    rw [wipe_get, if_neg e]
    exact R.o j ys h
  · obtain ⟨e, h⟩ := ge j _ hj
    rw [wipe_get, if_neg e]
    exact R.s j y c fs h
  · obtain ⟨e1, k1⟩ := ge j _ h1
    obtain ⟨e2, k2⟩ := ge k _ h2
    rw [wipe_get, if_neg e1] at h3
    rw [wipe_get, if_neg e2] at h4
    exact R.inj j k ys zs q k1 k2 h3 h4
def NoOwns (env : Env) (vs : List Nat) : Prop := ∀ i ∈ vs, (∀ xs, env[i]? ≠ some (some (.own xs))) ∧ ∀ x c fs, env[i]? ≠ some (some (.slf x c fs))
theorem Rel.unwipe {vs : List Nat} {G2 H2 : Hp} {β2 : BS} {σ2 : L2.St} {e2 : Env} (R : Rel K B G0 H0 σ env β G H) (hno : NoOwns env vs) (hk : ∀ j : Nat, j ∉ vs → σ2[j]? = σ[j]? ∧ e2[j]? = env[j]?) (R2 : Rel K B G0 H0 σ2 e2 β2 G2 H2) (s : Sub G G2) : Rel K B G0 H0 σ env β2 G2 H2 := by
  refine { len := R.len, sub := R2.sub, g0 := R2.g0, h0 := R2.h0, n0 := R2.n0, b0 := R2.b0, bag := R2.bag, d := fun j y hj => ?_, o := fun j ys hj => ?_, s := fun j y c fs hj => ?_, si := R.si, inj := R.inj }
  · obtain ⟨v, h1, h2⟩ := R.d j y hj
    exact ⟨v, h1, h2.mono s⟩
  · have e : j ∉ vs := fun z => (hno j z).1 ys hj
    have := R2.o j ys (by rw [(hk j e).2]; exact hj)
    rw [(hk j e).1] at this
    exact this
  · have e : j ∉ vs := fun z => (hno j z).2 y c fs hj
    have := R2.s j y c fs (by rw [(hk j e).2]; exact hj)
    rw [(hk j e).1] at this
    exact this
theorem noOwn_ok {own : List (Str × Nat)} (h : noOwn env own = true) : NoOwns env (own.map (·.2)) := fun i hi => by
  have := List.all_eq_true.mp h i hi
  refine ⟨fun xs e => ?_, fun x c fs e => ?_⟩ <;>
  · rw [e] at this
    cases this
theorem tgIn_ok {t : CT} {own : List (Str × Nat)} (h : tgIn t own = true) {j : Nat} (hj : j ∉ own.map (·.2)) : j ∉ t.slots := fun z => by
  have := List.all_eq_true.mp h j z
  exact hj (by simpa using this)
theorem wipe_eq {σ2 : L2.St} {vs : List Nat} (hl : σ2.length = σ.length) (hk : ∀ j : Nat, j ∉ vs → σ2[j]? = (wipe σ vs)[j]?) : wipe σ2 vs = wipe σ vs := by
  apply List.ext_getElem?
  intro j
  rw [wipe_get, wipe_get]
  by_cases e : j ∈ vs
  · rw [if_pos e, if_pos e, hl]
  · rw [if_neg e, if_neg e]
    have := hk j e
    rw [wipe_get, if_neg e] at this
    exact this
end
end LT

namespace LT
open PySem PySem.Spec PyProof.Rows L2
def gam (K : PySem.W.Frag) (M : Nat → Mir) (f : Nat) : Sp := fun vs H Q _ => ∃ (B : Addr) (G : Hp) (β : BS) (ds : List D) (d : D) (β' : BS), M f ds β = some (d, β') ∧ Sub G H ∧ BagAt B G H β ∧ DenAll K B G vs ds ∧ ∀ v G' H', Ext B G H G' H' → BagAt B G' H' β' → Den K B G' v d → Q v H'
def hide (x : Addr) (H : Hp) : Hp := fun a => if a = x then none else H a
theorem hide_ne {x a : Addr} {H : Hp} (h : a ≠ x) : hide x H a = H a := if_neg h
theorem hide_same {x : Addr} {H : Hp} : hide x H x = none := if_pos rfl
def gamI (K : PySem.W.Frag) (M : Nat → Mir) (i : Nat) : Sp := fun vs H Q _ => ∃ (B : Addr) (G : Hp) (β : BS) (x dx : Addr) (c : Nat) (us : List V) (ds fs : List D) (β' : BS), vs = .ref x :: us ∧ M i ds β = some (.obj c fs, β') ∧ H x = some (.ins (ca K c) dx []) ∧ H dx = some (.own x) ∧ G x = none ∧ G dx = none ∧ x ≠ B ∧ ClsOk K c ∧
  Sub G H ∧ BagAt B G H β ∧ DenAll K B G us ds ∧ ∀ dy ws G' H', Ext B G (hide dx (hide x H)) G' H' → BagAt B G' H' β' → H' x = some (.ins (ca K c) dy ((cfl c).zip ws)) → H' dy = some (.own x) → G' x = none → G' dy = none → hide dx (hide x H) dy = none → ws.length = (cfl c).length → DenAll K B G' ws fs → Q .non H'
def gamF (K : PySem.W.Frag) (M : Nat → Mir) (f : Nat) : Sp := fun vs H Q _ => ∃ (B : Addr) (G : Hp) (β : BS) (ds : List D) (r : D) (β' : BS), M f ds β = some (r, β') ∧ Sub G H ∧ BagAt B G H β ∧ DenAll K B G vs ds ∧ (∀ xs, r = .lst xs → ∀ p ws G' H', Ext B G H G' H' → BagAt B G' H' β' → H p = none → H' p = some (.lst ws) → G' p = none → DenAll K B G' ws xs → Q (.ref p) H') ∧ (r = .non → ∀ G' H', Ext B G H G' H' → BagAt B G' H' β' → Q .non H')
structure HG (K : PySem.W.Frag) (M : Nat → Mir) (Γ : Nat → Sp) : Prop where
  fn : ∀ f, f < 100000 → ∀ vs H Q E, gam K M f vs H Q E → Γ f vs H Q E
  ini : ∀ i, 100000 ≤ i ∧ i < 200000 → ∀ vs H Q E, gamI K M i vs H Q E → Γ i vs H Q E
  fr : ∀ f, 200000 ≤ f → ∀ vs H Q E, gamF K M f vs H Q E → Γ f vs H Q E
abbrev QD (K : PySem.W.Frag) (B : Addr) (G H : Hp) (β' : BS) (d : D) (Q : VK) : Prop := ∀ v G' H', Ext B G H G' H' → BagAt B G' H' β' → Den K B G' v d → Q v H'
abbrev QW (K : PySem.W.Frag) (B : Addr) (σ : L2.St) (env : Env) (G H : Hp) (β' : BS) (d : D) (Q : VK) : Prop := ∀ v G' H', Ext B G H G' H' → BagAt B G' H' β' → DenW K B σ env G' v d → Q v H'
abbrev QO (K : PySem.W.Frag) (B : Addr) (G H : Hp) (β' : BS) (xs : List D) (Q : VK) : Prop := ∀ p vs G' H', Ext B G H G' H' → BagAt B G' H' β' → H p = none → H' p = some (.lst vs) → G' p = none → DenAll K B G' vs xs → Q (.ref p) H'
theorem QO.of {K : PySem.W.Frag} {B : Addr} {G H : Hp} {β' : BS} {xs : List D} {Q : VK} (hB : ∃ o, H B = some o) (hs : Sub G H) (q : QD K B G H β' (.lst xs) Q) : QO K B G H β' xs Q := fun p vs G' H' e b hp hp' hg hd => by
  have gg : Sub G' (upd G' p (.lst vs)) := fun a z h => by
    rw [upd_ne (ne_of_none h hg)]
    exact h
  have pb : B ≠ p := fun z => by
    obtain ⟨o, ho⟩ := hB
    rw [z, hp] at ho
    cases ho
  refine q _ (upd G' p (.lst vs)) H' ⟨e.gg.trans gg, fun a z h => ?_, e.hh, fun a z h h2 => ?_⟩ ?_ (.lst upd_same (hd.mono gg))
  · by_cases k : a = p
    · subst k
      rw [upd_same] at h
      cases h
      exact hp'
    · rw [upd_ne k] at h
      exact e.gh a z h
  · rw [upd_ne (ne_of_none h hp)]
    exact e.nw a z h h2
  · obtain ⟨⟨C, k1, k2⟩, k3, k4⟩ := b
    exact ⟨⟨C, k1, k2.1, gg _ _ k2.2⟩, by rw [upd_ne pb]; exact k3, k4⟩
section
variable {K : PySem.W.Frag} {M : Nat → Mir} {Γ : Nat → Sp}
def SndP (K : PySem.W.Frag) (M : Nat → Mir) (Γ : Nat → Sp) (c : CE) : Prop := ∀ (env : Env) (β : BS) (d : D) (β' : BS), evP M c env β = some (d, β') → ∀ {B : Addr} {G0 H0 : Hp} {σ : L2.St} {G H : Hp}, Rel K B G0 H0 σ env β G H → ∀ (W : WX) (Q : VK), QD K B G H β' d Q → semE Γ K c W σ H Q
def SndB (K : PySem.W.Frag) (M : Nat → Mir) (Γ : Nat → Sp) (c : CB) : Prop := ∀ (env : Env) (β : BS) (d : Bool) (β' : BS), evB M c env β = some (d, β') → ∀ {B : Addr} {G0 H0 : Hp} {σ : L2.St} {G H : Hp}, Rel K B G0 H0 σ env β G H → ∀ (W : WX) (Q : Bool → Hp → Prop), (∀ G' H', Ext B G H G' H' → BagAt B G' H' β' → Q d H') → semB Γ K c W σ H Q
def SndA (K : PySem.W.Frag) (M : Nat → Mir) (Γ : Nat → Sp) (cs : List CE) : Prop := ∀ (env : Env) (β : BS) (ds : List D) (β' : BS), evA M cs env β = some (ds, β') → ∀ {B : Addr} {G0 H0 : Hp} {σ : L2.St} {G H : Hp}, Rel K B G0 H0 σ env β G H → ∀ (W : WX) (Q : List V → Hp → Prop), (∀ vs G' H', Ext B G H G' H' → BagAt B G' H' β' → DenAll K B G' vs ds → Q vs H') → semA Γ K cs W σ H Q
def SndV (K : PySem.W.Frag) (M : Nat → Mir) (Γ : Nat → Sp) (cs : List CE) : Prop := ∀ (env : Env) (β : BS) (ds : List D) (β' : BS), evV M cs env β = some (ds, β') → ∀ {B : Addr} {G0 H0 : Hp} {σ : L2.St} {G H : Hp}, Rel K B G0 H0 σ env β G H → ∀ (W : WX) (Q : List V → Hp → Prop), (∀ vs G' H', Ext B G H G' H' → BagAt B G' H' β' → DenWs K B σ env G' vs ds → Q vs H') → semA Γ K cs W σ H Q
def SndI (K : PySem.W.Frag) (M : Nat → Mir) (Γ : Nat → Sp) (c : CI) : Prop := ∀ (env : Env) (β : BS) (ds : List D) (β' : BS), evI M c env β = some (ds, β') → ∀ {B : Addr} {G0 H0 : Hp} {σ : L2.St} {G H : Hp}, Rel K B G0 H0 σ env β G H → ∀ (W : WX) (R : It → Hp → Prop),
  (∀ J G' H', Ext B G H G' H' → BagAt B G' H' β' → (∀ β2 G2 H2, Sub G' G2 → Rel K B G0 H0 σ env β2 G2 H2 → SrcAt K B G2 H2 J ds) → (noPk env c = true → ∀ G2 H2, Sub G' G2 → Sub G2 H2 → SrcAt K B G2 H2 J ds) → R J H') → semI Γ K c W σ H R
theorem pk_snd {c : CE} (ih : SndP K M Γ c) {env : Env} {β β' : BS} {d : D} (h : pk env c (evP M c env β) β = some (d, β')) {B : Addr} {G0 H0 : Hp} {σ : L2.St} {G H : Hp} (R : Rel K B G0 H0 σ env β G H) (W : WX) (Q : VK) (q : QW K B σ env G H β' d Q) : semE Γ K c W σ H Q := by
  unfold pk at h
  split at h
  · rename_i xs hp
    cases h
    unfold peek at hp
    split at hp
    · rename_i i
      split at hp
      · rename_i ys hi
        cases hp
        obtain ⟨p, vs, h1, h2, h3, h4, h5⟩ := R.o i _ hi
        exact ⟨.ref p, h1, q _ G H (Ext.refl R.sub) R.bag (.inr ⟨i, _, hi, h1, rfl⟩)⟩
      · cases hp
    · cases hp
  · exact ih env β d β' h R W Q fun v G' H' e b hd => q v G' H' e b (.inl hd)
theorem pk_sndN {c : CE} (ih : SndP K M Γ c) {env : Env} {β β' : BS} {d : D} (h : pk env c (evP M c env β) β = some (d, β')) {B : Addr} {G0 H0 : Hp} {σ : L2.St} {G H : Hp} (R : Rel K B G0 H0 σ env β G H) (W : WX) (Q : VK) (q : ∀ v G' H', Ext B G H G' H' → BagAt B G' H' β' → DenW K B σ env G' v d → (peek env c = none → Den K B G' v d) → Q v H') : semE Γ K c W σ H Q := by
  cases hp : peek env c with
  | none =>
    have h' : evP M c env β = some (d, β') := by
      unfold pk at h
      rw [hp] at h
      exact h
    exact ih env β d β' h' R W Q fun v G' H' e b hd => q v G' H' e b (.inl hd) fun _ => hd
  | some xs => exact pk_snd ih h R W Q fun v G' H' e b hd => q v G' H' e b hd fun z => by rw [hp] at z; cases z
theorem some_pair {α β : Type} {x : Option α} {f : α → β} {y : β} (h : x.map f = some y) : ∃ a, x = some a ∧ f a = y := Option.map_eq_some_iff.mp h
theorem some_bind {α β : Type} {x : Option α} {f : α → Option β} {y : β} (h : x.bind f = some y) : ∃ a, x = some a ∧ f a = some y := Option.bind_eq_some_iff.mp h
theorem lc_snd {tg : CT} {own : List (Str × Nat)} {tt : TT} {te : TE} {env : Env} {B : Addr} {G0 H0 : Hp} {σ : L2.St} {G1 H1 : Hp} {β1 β' : BS} {J : It} {items res : List D} {Q : VK}
    (R1 : Rel K B G0 H0 σ env β1 G1 H1) (hS : ∀ β2 G2 H2, Sub G1 G2 → Rel K B G0 H0 σ env β2 G2 H2 → SrcAt K B G2 H2 J items) (htg : tgIn tg own = true) (hno : noOwn env own = true) (hlen : items.length ≤ 1000000)
    (step : D → BS → Option (Option D × BS)) (hres : ∃ (go : List D → BS → Option (List D × BS)), (∀ β, go [] β = some ([], β)) ∧ (∀ x xs β r, go (x :: xs) β = some r → ∃ o β2 r2, step x β = some (o, β2) ∧ go xs β2 = some r2 ∧ r = ((match o with | some y => y :: r2.1 | none => r2.1), r2.2)) ∧ go items β1 = some (res, β'))
    (hstep : ∀ x β o β2, step x β = some (o, β2) → ∃ e1, bindT tg x (wipeE env (own.map (·.2))) = some e1 ∧ ∀ {σ2 : L2.St} {G2 H2 : Hp}, Rel K B G0 H0 σ2 e1 β G2 H2 → ∀ (Qt : Hp → Prop) (Qe : V → Hp → Prop),
      (o = none → ∀ G3 H3, Ext B G2 H2 G3 H3 → BagAt B G3 H3 β2 → Qt H3) → (∀ y, o = some y → ∀ v G3 H3, Ext B G2 H2 G3 H3 → BagAt B G3 H3 β2 → Den K B G3 v y → Qe v H3) →
      tt σ2 H2 fun b H3 => if b = true then te σ2 H3 Qe else Qt H3)
    (q : QO K B G1 H1 β' res Q) :
    ∀ D, H1 D = none → ∃ W : Nat → Nat → Hp → Prop, (∃ m, W 0 m (upd H1 D (.lst []))) ∧ ∀ i m H, W i m H →
      (J.stop i H ∧ Q (.ref D) H) ∨ (J.go i H ∧ ∃ Nx : Hp → Prop, (∀ H', Nx H' → ∃ m', m' < m ∧ W (i + 1) m' H') ∧ ∀ x H', J.yld i H x H' → semG K tg x (wipe σ (own.map (·.2))) H' fun σ2 H2 => wipe σ2 (own.map (·.2)) = wipe σ (own.map (·.2)) ∧ tt σ2 H2 fun b H3 =>
        if b = true then te σ2 H3 fun y H4 => ∃ acc, H4 D = some (.lst acc) ∧ acc.length < sizeLine ∧ Nx (upd H4 D (.lst (acc ++ [y]))) else Nx H3) := by
  intro p hp
  obtain ⟨go, go0, go1, gores⟩ := hres
  obtain ⟨oB, hB⟩ := R1.bb
  have pb : p ≠ B := fun z => by rw [z, hB] at hp; cases hp
  refine ⟨fun i m H => ∃ (G : Hp) (β : BS) (acc : List V) (accD rest : List D), i + m = items.length ∧ Ext B G1 H1 G H ∧ BagAt B G H β ∧ H p = some (.lst acc) ∧ G p = none ∧ DenAll K B G acc accD ∧ accD.length ≤ i ∧ go (items.drop i) β = some (rest, β') ∧ accD ++ rest = res,
    ⟨items.length, G1, β1, [], [], res, by omega, Ext.newU R1.sub hp, R1.bag.newU hp, upd_same, ?_, .nil, Nat.le_refl _, gores, rfl⟩, fun i m H hW => ?_⟩
  · cases e : G1 p with
    | none => rfl
    | some o =>
      rw [R1.sub p o e] at hp
      cases hp
  · obtain ⟨G, β, acc, accD, rest, hm, ex, bg, hH, hG, hd, hl, hgo, hr⟩ := hW
    have R : Rel K B G0 H0 σ env β G H := R1.ext ex bg
    have src := hS β G H ex.gg R
    by_cases hi : i < items.length
    · refine .inr ⟨src.go hi, fun H' => ∃ (G : Hp) (β : BS) (acc : List V) (accD rest : List D), i + 1 + (m - 1) = items.length ∧ Ext B G1 H1 G H' ∧ BagAt B G H' β ∧ H' p = some (.lst acc) ∧ G p = none ∧ DenAll K B G acc accD ∧ accD.length ≤ i + 1 ∧ go (items.drop (i + 1)) β = some (rest, β') ∧ accD ++ rest = res, fun H' hN => ⟨m - 1, by omega, hN⟩, fun x H' hy => ?_⟩
      have hx : items[i]? = some items[i] := List.getElem?_eq_getElem hi
      obtain ⟨G', e', b', d'⟩ := src.yld R hx hy
      have R' : Rel K B G0 H0 σ env β G' H' := R.ext e' b'
      have hpH' : H' p = some (.lst acc) := e'.hh p _ hH pb
      have hpG' : G' p = none := e'.nw p _ hH hG
      have hdrop : items.drop i = items[i] :: items.drop (i + 1) := List.drop_eq_getElem_cons hi
      rw [hdrop] at hgo
      obtain ⟨o, β2, r2, s1, s2, s3⟩ := go1 _ _ _ _ hgo
      obtain ⟨e1, hb1, hrun⟩ := hstep _ _ _ _ s1
      have ex1 : Ext B G1 H1 G' H' := ex.trans e' b'.out
      refine bind_snd tg items[i] (wipeE env (own.map (·.2))) e1 hb1 (R'.wipe _) d' _ ?_
      intro σ2 hk R2
      refine ⟨?_, ?_⟩
      · refine wipe_eq ?_ fun j hj => (hk j (tgIn_ok htg hj)).1
        rw [R2.len, bindT_len tg _ _ _ hb1, wipeE_length, ← R.len]
      · refine hrun R2 _ _ (fun ho G3 H3 e3 b3 => ?_) (fun y ho v G3 H3 e3 b3 d3 => ?_)
        · subst ho
          have e4 : rest = r2.1 ∧ β' = r2.2 := by
            have := congrArg Prod.fst s3
            have h2 := congrArg Prod.snd s3
            exact ⟨this, h2⟩
          refine ⟨G3, β2, acc, accD, rest, by omega, ex1.trans e3 b3.out, b3, e3.hh p _ hpH' pb, e3.nw p _ hpH' hpG', hd.mono (e'.gg.trans e3.gg), by omega, ?_, hr⟩
          rw [s2, e4.1, e4.2]
        · subst ho
          have e4 : rest = y :: r2.1 ∧ β' = r2.2 := by
            have := congrArg Prod.fst s3
            have h2 := congrArg Prod.snd s3
            exact ⟨this, h2⟩
          have hpH3 : H3 p = some (.lst acc) := e3.hh p _ hpH' pb
          have hpG3 : G3 p = none := e3.nw p _ hpH' hpG'
          have hacc : acc.length ≤ i := by rw [hd.length]; exact hl
          refine ⟨acc, hpH3, lineL (by omega), G3, β2, acc ++ [v], accD ++ [y], r2.1, by omega, ?_, ?_, upd_same, hpG3, ?_, ?_, ?_, ?_⟩
          · have ex3 := ex1.trans e3 b3.out
            refine ⟨ex3.gg, fun a z h => ?_, fun a z h hb => ?_, ex3.nw⟩
            · rw [upd_ne (ne_of_none h hpG3)]
              exact ex3.gh a z h
            · rw [upd_ne (ne_of_none h hp)]
              exact ex3.hh a z h hb
          · obtain ⟨⟨C, k1, k2⟩, k3, k4⟩ := b3
            exact ⟨⟨C, by rw [upd_ne pb.symm]; exact k1, k2⟩, k3, k4⟩
          · exact (hd.mono (e'.gg.trans e3.gg)).app (.cons d3 .nil)
          · rw [List.length_append, List.length_singleton]
            omega
          · rw [s2, e4.2]
          · rw [← hr, e4.1, List.append_assoc]
            rfl
    · refine .inl ⟨src.stop (by omega), ?_⟩
      have hd0 : items.drop i = [] := List.drop_eq_nil_of_le (by omega)
      rw [hd0, go0] at hgo
      cases hgo
      rw [List.append_nil] at hr
      subst hr
      exact q p acc G H ex bg hp hH hG hd
theorem mapE_go (f : D → BS → Option (D × BS)) : ∀ (x : D) (xs : List D) (β : BS) (r : List D × BS), mapE f (x :: xs) β = some r → ∃ o β2 r2, (f x β).map (fun z => (some z.1, z.2)) = some (o, β2) ∧ mapE f xs β2 = some r2 ∧ r = ((match o with | some y => y :: r2.1 | none => r2.1), r2.2) := fun x xs β r h => by
  obtain ⟨a, h1, h2⟩ := some_bind (show (f x β).bind (fun r => (mapE f xs r.2).map fun q => (r.1 :: q.1, q.2)) = some r from h)
  obtain ⟨b, h3, h4⟩ := some_pair h2
  exact ⟨some a.1, a.2, b, by rw [h1]; rfl, h3, h4.symm⟩
def stepIf (t : D → BS → Option (Bool × BS)) (f : D → BS → Option (D × BS)) (x : D) (β : BS) : Option (Option D × BS) := (t x β).bind fun b => match b.1 with
  | true => (f x b.2).map fun z => (some z.1, z.2)
  | false => some (none, b.2)
theorem mapIf_go (t : D → BS → Option (Bool × BS)) (f : D → BS → Option (D × BS)) : ∀ (x : D) (xs : List D) (β : BS) (r : List D × BS), mapIf t f (x :: xs) β = some r → ∃ o β2 r2, stepIf t f x β = some (o, β2) ∧ mapIf t f xs β2 = some r2 ∧ r = ((match o with | some y => y :: r2.1 | none => r2.1), r2.2) := fun x xs β r h => by
  obtain ⟨⟨a, βa⟩, h1, h2⟩ := some_bind (show (t x β).bind (fun b => match b.1 with
    | true => (f x b.2).bind fun r => (mapIf t f xs r.2).map fun q => (r.1 :: q.1, q.2)
    | false => mapIf t f xs b.2) = some r from h)
  cases a with
  | true =>
    obtain ⟨b, h3, h4⟩ := some_bind (show (f x βa).bind (fun r => (mapIf t f xs r.2).map fun q => (r.1 :: q.1, q.2)) = some r from h2)
    obtain ⟨c, h5, h6⟩ := some_pair h4
    refine ⟨some b.1, b.2, c, ?_, h5, h6.symm⟩
    unfold stepIf
    rw [h1]
    show (f x βa).map (fun z => (some z.1, z.2)) = _
    rw [h3]
    rfl
  | false =>
    refine ⟨none, βa, r, ?_, h2, rfl⟩
    unfold stepIf
    rw [h1]
    rfl
theorem lc0_snd {elt : CE} {tg : CT} {it : CI} {own : List (Str × Nat)} (iI : SndI K M Γ it) (iE : SndP K M Γ elt) {env : Env} {β β' : BS} {r : List D × BS} {res : List D} (hc : (tgIn tg own && noOwn env own) = true) (h1 : evI M it env β = some r) (hl : r.1.length ≤ 1000000)
    (h2 : mapE (fun x β1 => (bindT tg x (wipeE env (own.map (·.2)))).bind fun e1 => evP M elt e1 β1) r.1 r.2 = some (res, β')) {B : Addr} {G0 H0 : Hp} {σ : L2.St} {G H : Hp} (R : Rel K B G0 H0 σ env β G H) (W : WX) (Q : VK) (q : QO K B G H β' res Q) : semE Γ K (.lc elt tg it own) W σ H Q := by
  obtain ⟨c1, c2⟩ := and2 hc
  refine iI env β r.1 r.2 h1 R W _ fun J G1 H1 e1 b1 hS _ => ?_
  have R1 := R.ext e1 b1
  refine lc_snd (tt := tYes) R1 hS c1 c2 hl (fun x β => ((bindT tg x (wipeE env (own.map (·.2)))).bind fun e1 => evP M elt e1 β).map fun z => (some z.1, z.2)) ⟨_, fun _ => rfl, mapE_go _, h2⟩ (fun x βx o β2 hs => ?_) fun p vs G' H' ex bg hp hH hG hd => ?_
  · obtain ⟨⟨y, βy⟩, s1, s2⟩ := some_pair hs
    obtain ⟨e1, s3, s4⟩ := some_bind s1
    cases s2
    refine ⟨e1, s3, fun R2 Qt Qe q1 q2 => ?_⟩
    show semE Γ K elt W0 _ _ Qe
    exact iE e1 βx y βy s4 R2 W0 Qe fun v G3 H3 e3 b3 d3 => q2 y rfl v G3 H3 e3 b3 d3
  · have hpn : H p = none := by
      cases e : H p with
      | none => rfl
      | some o =>
        obtain ⟨oB, hB⟩ := R.bb
        by_cases z : p = B
        · obtain ⟨oB1, hB1⟩ := R1.bb
          rw [← z, hp] at hB1
          cases hB1
        · rw [e1.hh p o e z] at hp
          cases hp
    exact q p vs G' H' (e1.trans ex bg.out) bg hpn hH hG hd
theorem lcIf_snd {elt : CE} {tg : CT} {it : CI} {c : CB} {own : List (Str × Nat)} (iI : SndI K M Γ it) (iB : SndB K M Γ c) (iE : SndP K M Γ elt) {env : Env} {β β' : BS} {r : List D × BS} {res : List D} (hc : (tgIn tg own && noOwn env own) = true) (h1 : evI M it env β = some r) (hl : r.1.length ≤ 1000000)
    (h2 : mapIf (fun x β1 => (bindT tg x (wipeE env (own.map (·.2)))).bind fun e1 => evB M c e1 β1) (fun x β1 => (bindT tg x (wipeE env (own.map (·.2)))).bind fun e1 => evP M elt e1 β1) r.1 r.2 = some (res, β')) {B : Addr} {G0 H0 : Hp} {σ : L2.St} {G H : Hp} (R : Rel K B G0 H0 σ env β G H) (W : WX) (Q : VK) (q : QO K B G H β' res Q) : semE Γ K (.lcIf elt tg it c own) W σ H Q := by
  obtain ⟨c1, c2⟩ := and2 hc
  refine iI env β r.1 r.2 h1 R W _ fun J G1 H1 e1 b1 hS _ => ?_
  have R1 := R.ext e1 b1
  refine lc_snd R1 hS c1 c2 hl (stepIf (fun x β1 => (bindT tg x (wipeE env (own.map (·.2)))).bind fun e1 => evB M c e1 β1) (fun x β1 => (bindT tg x (wipeE env (own.map (·.2)))).bind fun e1 => evP M elt e1 β1)) ⟨_, fun _ => rfl, mapIf_go _ _, h2⟩ (fun x βx o β2 hs => ?_) fun p vs G' H' ex bg hp hH hG hd => ?_
  · obtain ⟨⟨b, βb⟩, s1, s2⟩ := some_bind hs
    obtain ⟨e1, s3, s4⟩ := some_bind s1
    refine ⟨e1, s3, fun R2 Qt Qe q1 q2 => ?_⟩
    refine iB e1 βx b βb s4 R2 W0 _ fun G3 H3 e3 b3 => ?_
    cases b with
    | true =>
      obtain ⟨⟨y, βy⟩, s5, s6⟩ := some_pair (show ((bindT tg x (wipeE env (own.map (·.2)))).bind fun e1 => evP M elt e1 βb).map (fun z => (some z.1, z.2)) = some (o, β2) from s2)
      rw [s3] at s5
      have s7 : evP M elt e1 βb = some (y, βy) := s5
      cases s6
      show semE Γ K elt W0 _ _ Qe
      exact iE e1 βb y βy s7 (R2.ext e3 b3) W0 Qe fun v G4 H4 e4 b4 d4 => q2 y rfl v G4 H4 (e3.trans e4 b4.out) b4 d4
    | false =>
      cases s2
      show Qt _
      exact q1 rfl G3 H3 e3 b3
  · have hpn : H p = none := by
      cases e : H p with
      | none => rfl
      | some o =>
        obtain ⟨oB, hB⟩ := R.bb
        by_cases z : p = B
        · obtain ⟨oB1, hB1⟩ := R1.bb
          rw [← z, hp] at hB1
          cases hB1
        · rw [e1.hh p o e z] at hp
          cases hp
    exact q p vs G' H' (e1.trans ex bg.out) bg hpn hH hG hd
theorem allD_d : ∀ {env : Env} {i : Nat} {s : Sl}, allD env = true → env[i]? = some (some s) → ∃ x, s = .d x
  | [], i, s, _, h => by cases h
  | o :: env, 0, s, a, h => by
    cases h
    cases s with
    | d x => exact ⟨x, rfl⟩
    | own _ => cases a
    | slf _ _ _ => cases a
  | o :: env, i + 1, s, a, h => by
    have a' : allD env = true := by
      cases o with
      | none => exact a
      | some z => cases z with
        | d _ => exact a
        | own _ => cases a
        | slf _ _ _ => cases a
    exact allD_d a' (by simpa using h)
theorem Rel.again {B : Addr} {G0 H0 G H G2 H2 : Hp} {σ σ2 : L2.St} {env e1 : Env} {β β2 : BS} (R : Rel K B G0 H0 σ env β G H) (R2 : Rel K B G0 H0 σ2 e1 β2 G2 H2) (a : allD e1 = true) (s : Sub G2 G) : Rel K B G0 H0 σ2 e1 β G H where
  len := R2.len
  sub := R.sub
  g0 := R.g0
  h0 := R.h0
  n0 := R.n0
  b0 := R.b0
  bag := R.bag
  d := fun i x h => by
    obtain ⟨v, h1, h2⟩ := R2.d i x h
    exact ⟨v, h1, h2.mono s⟩
  o := fun i xs h => by
    obtain ⟨x, e⟩ := allD_d a h
    cases e
  s := fun i p c fs h => by
    obtain ⟨x, e⟩ := allD_d a h
    cases e
  si := fun i j p c c' fs fs' h => by
    obtain ⟨x, e⟩ := allD_d a h
    cases e
  inj := fun i j xs ys p h => by
    obtain ⟨x, e⟩ := allD_d a h
    cases e
theorem goneH {B : Addr} {G H G1 H1 : Hp} {β : BS} (e : Ext B G H G1 H1) (b : BagAt B G1 H1 β) {p : Addr} (h : H1 p = none) : H p = none := by
  cases q : H p with
  | none => rfl
  | some o =>
    by_cases z : p = B
    · obtain ⟨C, k, _⟩ := b.at_
      rw [← z, h] at k
      cases k
    · rw [e.hh p o q z] at h
      cases h
theorem lc2_snd {tg tg1 : CT} {it it1 : CI} {own : List (Str × Nat)} {tt : TT} {te : TE} (iI : SndI K M Γ it) (iI1 : SndI K M Γ it1) {env : Env} {β β' : BS} {r : List D × BS} {res : List D} (hc : (tgIn tg own && (tgIn tg1 own && noOwn env own)) = true) (h1 : evI M it env β = some r) (hl : res.length ≤ 1000000)
    (go : Env → List D → BS → Option (List D × BS)) (step : Env → D → BS → Option (Option D × BS)) (go0 : ∀ e β, go e [] β = some ([], β)) (go1 : ∀ e x xs β r, go e (x :: xs) β = some r → ∃ o β2 r2, step e x β = some (o, β2) ∧ go e xs β2 = some r2 ∧ r = ((match o with | some y => y :: r2.1 | none => r2.1), r2.2))
    (hstep : ∀ e1 x β o β2, step e1 x β = some (o, β2) → ∃ e2, bindT tg1 x (wipeE e1 tg1.slots) = some e2 ∧ ∀ {B : Addr} {G0 H0 : Hp} {σ2 : L2.St} {G2 H2 : Hp}, Rel K B G0 H0 σ2 e2 β G2 H2 → ∀ (Qt : Hp → Prop) (Qe : V → Hp → Prop),
      (o = none → ∀ G3 H3, Ext B G2 H2 G3 H3 → BagAt B G3 H3 β2 → Qt H3) → (∀ y, o = some y → ∀ v G3 H3, Ext B G2 H2 G3 H3 → BagAt B G3 H3 β2 → Den K B G3 v y → Qe v H3) → tt σ2 H2 fun b H3 => if b = true then te σ2 H3 Qe else Qt H3)
    (h2 : flatE (fun x β1 => (bindT tg x (wipeE env (own.map (·.2)))).bind fun e1 => if allD e1 = true then (evI M it1 e1 β1).bind fun s => go e1 s.1 s.2 else none) r.1 r.2 = some (res, β'))
    {B : Addr} {G0 H0 : Hp} {σ : L2.St} {G H : Hp} (R : Rel K B G0 H0 σ env β G H) (W : WX) (Q : VK) (q : QO K B G H β' res Q) : tLc2 (semI Γ K it W) (semG K tg) tYes (semI Γ K it1 W0) (semG K tg1) tt te (own.map (·.2)) tg1.slots σ H Q := by
  obtain ⟨c1, c2⟩ := and2 hc
  refine iI env β r.1 r.2 h1 R W _ fun J G1 H1 e1 b1 hS _ => ?_
  have R1 := R.ext e1 b1
  obtain ⟨items, β1⟩ := r
  intro p hp
  obtain ⟨oB, hB⟩ := R1.bb
  have pb : p ≠ B := fun z => by rw [z, hB] at hp; cases hp
  have gp : G1 p = none := by
    cases e : G1 p with
    | none => rfl
    | some o =>
      rw [R1.sub p o e] at hp
      cases hp
  refine ⟨fun i m H => ∃ (G : Hp) (β : BS) (acc : List V) (accD rest : List D), i + m = items.length ∧ Ext B G1 H1 G H ∧ BagAt B G H β ∧ H p = some (.lst acc) ∧ G p = none ∧ DenAll K B G acc accD ∧ flatE (fun x β1 => (bindT tg x (wipeE env (own.map (·.2)))).bind fun e1 => if allD e1 = true then (evI M it1 e1 β1).bind fun s => go e1 s.1 s.2 else none) (items.drop i) β = some (rest, β') ∧ accD ++ rest = res,
    ⟨items.length, G1, β1, [], [], res, by omega, Ext.newU R1.sub hp, R1.bag.newU hp, upd_same, gp, .nil, h2, rfl⟩, fun i m H hW => ?_⟩
  obtain ⟨G, β, acc, accD, rest, hm, ex, bg, hH, hG, hd, hgo, hr⟩ := hW
  have R : Rel K B G0 H0 σ env β G H := R1.ext ex bg
  have src := hS β G H ex.gg R
  by_cases hi : i < items.length
  · refine .inr ⟨src.go hi, fun H' => ∃ (G : Hp) (β : BS) (acc : List V) (accD rest : List D), i + 1 + (m - 1) = items.length ∧ Ext B G1 H1 G H' ∧ BagAt B G H' β ∧ H' p = some (.lst acc) ∧ G p = none ∧ DenAll K B G acc accD ∧ flatE (fun x β1 => (bindT tg x (wipeE env (own.map (·.2)))).bind fun e1 => if allD e1 = true then (evI M it1 e1 β1).bind fun s => go e1 s.1 s.2 else none) (items.drop (i + 1)) β = some (rest, β') ∧ accD ++ rest = res, fun H' ⟨G', h⟩ => ⟨m - 1, by omega, G', h⟩, fun x H' hy => ?_⟩
    have hx : items[i]? = some items[i] := List.getElem?_eq_getElem hi
    obtain ⟨G', e', b', d'⟩ := src.yld R hx hy
    have R' : Rel K B G0 H0 σ env β G' H' := R.ext e' b'
    have hpH' : H' p = some (.lst acc) := e'.hh p _ hH pb
    have hpG' : G' p = none := e'.nw p _ hH hG
    have hdrop : items.drop i = items[i] :: items.drop (i + 1) := List.drop_eq_getElem_cons hi
    rw [hdrop] at hgo
    obtain ⟨⟨ys, βy⟩, s1, s2⟩ := some_bind (show (((bindT tg items[i] (wipeE env (own.map (·.2)))).bind fun e1 => if allD e1 = true then (evI M it1 e1 β).bind fun s => go e1 s.1 s.2 else none).bind fun r => (flatE (fun x β1 => (bindT tg x (wipeE env (own.map (·.2)))).bind fun e1 => if allD e1 = true then (evI M it1 e1 β1).bind fun s => go e1 s.1 s.2 else none) (items.drop (i + 1)) r.2).map fun q => (r.1 ++ q.1, q.2)) = some (rest, β') from hgo)
    obtain ⟨⟨rest2, β2⟩, s3, s4⟩ := some_pair s2
    cases s4
    obtain ⟨ee, s5, s6⟩ := some_bind s1
    split at s6
    rotate_left
    · cases s6
    rename_i hall
    obtain ⟨⟨ins, βi⟩, s7, s8⟩ := some_bind s6
    have ex1 : Ext B G1 H1 G' H' := ex.trans e' b'.out
    refine bind_snd tg items[i] (wipeE env (own.map (·.2))) ee s5 (R'.wipe _) d' _ ?_
    intro σ2 hk R2
    refine ⟨?_, ?_⟩
    · refine wipe_eq ?_ fun j hj => (hk j (tgIn_ok c1 hj)).1
      rw [R2.len, bindT_len tg _ _ _ s5, wipeE_length, ← R.len]
    · refine iI1 ee β ins βi s7 R2 W0 _ fun J1 G4 H4 e4 b4 hS1 _ => ?_
      refine ⟨fun j k H => ∃ (G : Hp) (β : BS) (acc : List V) (accD rest : List D), j + k = ins.length ∧ Ext B G1 H1 G H ∧ BagAt B G H β ∧ H p = some (.lst acc) ∧ G p = none ∧ DenAll K B G acc accD ∧ Sub G4 G ∧ go ee (ins.drop j) β = some (rest, βy) ∧ accD ++ rest ++ rest2 = res,
        ⟨ins.length, G4, βi, acc, accD, ys, by omega, ex1.trans e4 b4.out, b4, e4.hh p _ hpH' pb, e4.nw p _ hpH' hpG', hd.mono (e'.gg.trans e4.gg), Sub.refl G4, s8, by rw [List.append_assoc]; exact hr⟩, fun j k H hW => ?_⟩
      obtain ⟨G5, β5, acc5, accD5, rest5, k1, k2, k3, k4, k5, k6, k7, k8, k9⟩ := hW
      have Ro : Rel K B G0 H0 σ env β5 G5 H := R1.ext k2 k3
      have Rc : Rel K B G0 H0 σ2 ee β5 G5 H := Ro.again R2 hall (e4.gg.trans k7)
      have src1 := hS1 β5 G5 H k7 Rc
      by_cases hj : j < ins.length
      · refine .inr ⟨src1.go hj, fun H' => ∃ (G : Hp) (β : BS) (acc : List V) (accD rest : List D), j + 1 + (k - 1) = ins.length ∧ Ext B G1 H1 G H' ∧ BagAt B G H' β ∧ H' p = some (.lst acc) ∧ G p = none ∧ DenAll K B G acc accD ∧ Sub G4 G ∧ go ee (ins.drop (j + 1)) β = some (rest, βy) ∧ accD ++ rest ++ rest2 = res, fun H' ⟨G', h⟩ => ⟨k - 1, by omega, G', h⟩, fun y H6 hy6 => ?_⟩
        have hx1 : ins[j]? = some ins[j] := List.getElem?_eq_getElem hj
        obtain ⟨G6, e6, b6, d6⟩ := src1.yld Rc hx1 hy6
        have Rc6 : Rel K B G0 H0 σ2 ee β5 G6 H6 := Rc.ext e6 b6
        have q4 : H6 p = some (.lst acc5) := e6.hh p _ k4 pb
        have q5 : G6 p = none := e6.nw p _ k4 k5
        rw [List.drop_eq_getElem_cons hj] at k8
        obtain ⟨o, β7, r7, u1, u2, u3⟩ := go1 _ _ _ _ _ k8
        obtain ⟨e2, u4, hrun⟩ := hstep _ _ _ _ _ u1
        have ex6 : Ext B G1 H1 G6 H6 := k2.trans e6 b6.out
        refine bind_snd tg1 ins[j] (wipeE ee tg1.slots) e2 u4 (Rc6.wipe _) d6 _ ?_
        intro σ3 hk1 R3
        refine ⟨?_, ?_⟩
        · refine wipe_eq ?_ fun j hj => (hk1 j hj).1
          rw [R3.len, bindT_len tg1 _ _ _ u4, wipeE_length, ← Rc.len]
        · refine hrun R3 _ _ (fun ho G8 H8 e8 b8 => ?_) (fun y ho v G8 H8 e8 b8 d8 => ?_)
          · subst ho
            have a1 : rest5 = r7.1 ∧ βy = r7.2 := ⟨congrArg Prod.fst u3, congrArg Prod.snd u3⟩
            refine ⟨G8, β7, acc5, accD5, rest5, by omega, ex6.trans e8 b8.out, b8, e8.hh p _ q4 pb, e8.nw p _ q4 q5, k6.mono (e6.gg.trans e8.gg), (k7.trans e6.gg).trans e8.gg, ?_, k9⟩
            rw [u2, a1.1, a1.2]
          · subst ho
            have a1 : rest5 = y :: r7.1 ∧ βy = r7.2 := ⟨congrArg Prod.fst u3, congrArg Prod.snd u3⟩
            have w4 : H8 p = some (.lst acc5) := e8.hh p _ q4 pb
            have w5 : G8 p = none := e8.nw p _ q4 q5
            have hlen : acc5.length < 1000000 := by
              rw [k6.length]
              have := congrArg List.length k9
              rw [a1.1] at this
              simp only [List.length_append, List.length_cons] at this
              omega
            refine ⟨acc5, w4, lineL hlen, G8, β7, acc5 ++ [v], accD5 ++ [y], r7.1, by omega, ?_, ?_, upd_same, w5, (k6.mono (e6.gg.trans e8.gg)).app (.cons d8 .nil), (k7.trans e6.gg).trans e8.gg, ?_, ?_⟩
            · have ex8 := ex6.trans e8 b8.out
              refine ⟨ex8.gg, fun a z h => ?_, fun a z h hb => ?_, ex8.nw⟩
              · rw [upd_ne (ne_of_none h w5)]
                exact ex8.gh a z h
              · rw [upd_ne (ne_of_none h hp)]
                exact ex8.hh a z h hb
            · obtain ⟨⟨C, z1, z2⟩, z3, z4⟩ := b8
              exact ⟨⟨C, by rw [upd_ne pb.symm]; exact z1, z2⟩, z3, z4⟩
            · rw [u2, a1.2]
            · rw [← k9, a1.1]
              simp
      · refine .inl ⟨src1.stop (by omega), G5, β5, acc5, accD5, rest2, by omega, k2, k3, k4, k5, k6, ?_, ?_⟩
        · rw [List.drop_eq_nil_of_le (by omega), go0] at k8
          cases k8
          exact s3
        · rw [List.drop_eq_nil_of_le (by omega), go0] at k8
          cases k8
          rw [List.append_nil] at k9
          exact k9
  · refine .inl ⟨src.stop (show items.length ≤ i by omega), ?_⟩
    rw [List.drop_eq_nil_of_le (by omega)] at hgo
    cases hgo
    rw [List.append_nil] at hr
    subst hr
    exact q p acc G H (e1.trans ex bg.out) bg (goneH e1 b1 hp) hH hG hd
theorem few_ok {ns : List Int} (hl : ns.length ≤ 1000 ∨ (ns.length ≤ 100000 ∧ (ddI ns).length ≤ 4000)) : ∀ l : List Int, l.Nodup → (∀ k ∈ l, k ∈ ns) → l.length ≤ 4000 := fun l nd h => by
  rcases hl with hl | ⟨_, hl⟩
  · have := few_of nd h
    omega
  · have := few_of (m := ddI ns) nd fun k hk => ddI_mem.mpr (h k hk)
    omega
theorem ssc_snd {elt : CE} {tg : CT} {it : CI} {own : List (Str × Nat)} (iI : SndI K M Γ it) (iE : SndP K M Γ elt) {env : Env} {β β' : BS} {r : List D × BS} {res : List D} {ns : List Int} (hc : (tgIn tg own && noOwn env own) = true) (h1 : evI M it env β = some r)
    (h2 : mapE (fun x β1 => (bindT tg x (wipeE env (own.map (·.2)))).bind fun e1 => evP M elt e1 β1) r.1 r.2 = some (res, β')) (hn : intsD res = some ns) (hl : ns.length ≤ 1000 ∨ (ns.length ≤ 100000 ∧ (ddI ns).length ≤ 4000)) {B : Addr} {G0 H0 : Hp} {σ : L2.St} {G H : Hp} (R : Rel K B G0 H0 σ env β G H) (W : WX) (Q : VK) (q : QO K B G H β' ((sortI (ddI ns)).map .int) Q) : semE Γ K (.ssc elt tg it own) W σ H Q := by
  obtain ⟨c1, c2⟩ := and2 hc
  refine iI env β r.1 r.2 h1 R W _ fun J G1 H1 e1 b1 hS _ => ?_
  have R1 := R.ext e1 b1
  obtain ⟨items, β1⟩ := r
  intro w p hp
  obtain ⟨oB, hB⟩ := R1.bb
  have pb : p ≠ B := fun z => by rw [z, hB] at hp; cases hp
  have gp : G1 p = none := by
    cases e : G1 p with
    | none => rfl
    | some o =>
      rw [R1.sub p o e] at hp
      cases hp
  refine ⟨fun i m H => ∃ (G : Hp) (β : BS) (S : Int → Bool) (l accN restN : List Int) (restD : List D), i + m = items.length ∧ Ext B G1 H1 G H ∧ BagAt B G H β ∧ H p = some (SetO w p S l.length) ∧ G p = none ∧ l.Nodup ∧ (∀ k, k ∈ l ↔ S k = true) ∧ (∀ k, k ∈ l ↔ k ∈ accN) ∧ mapE (fun x β1 => (bindT tg x (wipeE env (own.map (·.2)))).bind fun e1 => evP M elt e1 β1) (items.drop i) β = some (restD, β') ∧ intsD restD = some restN ∧ accN ++ restN = ns,
    ⟨items.length, G1, β1, fun _ => false, [], [], ns, res, by omega, Ext.newU R1.sub hp, R1.bag.newU hp, upd_same, gp, .nil, by simp, by simp, h2, hn, rfl⟩, fun i m H hW => ?_⟩
  obtain ⟨G, β, S, l, accN, restN, restD, hm, ex, bg, hH, hG, l1, l2, l3, hgo, hrn, hr⟩ := hW
  have R : Rel K B G0 H0 σ env β G H := R1.ext ex bg
  have src := hS β G H ex.gg R
  have lle : l.length ≤ accN.length := nodup_le l1 fun k hk => (l3 k).mp hk
  by_cases hi : i < items.length
  · refine .inr ⟨src.go hi, fun H' => ∃ (G : Hp) (β : BS) (S : Int → Bool) (l accN restN : List Int) (restD : List D), i + 1 + (m - 1) = items.length ∧ Ext B G1 H1 G H' ∧ BagAt B G H' β ∧ H' p = some (SetO w p S l.length) ∧ G p = none ∧ l.Nodup ∧ (∀ k, k ∈ l ↔ S k = true) ∧ (∀ k, k ∈ l ↔ k ∈ accN) ∧ mapE (fun x β1 => (bindT tg x (wipeE env (own.map (·.2)))).bind fun e1 => evP M elt e1 β1) (items.drop (i + 1)) β = some (restD, β') ∧ intsD restD = some restN ∧ accN ++ restN = ns, fun H' ⟨G', h⟩ => ⟨m - 1, by omega, G', h⟩, fun x H' hy => ?_⟩
    have hx : items[i]? = some items[i] := List.getElem?_eq_getElem hi
    obtain ⟨G', e', b', d'⟩ := src.yld R hx hy
    have R' : Rel K B G0 H0 σ env β G' H' := R.ext e' b'
    have hpH' := e'.hh p _ hH pb
    have hpG' : G' p = none := e'.nw p _ hH hG
    rw [List.drop_eq_getElem_cons hi] at hgo
    obtain ⟨⟨y, βy⟩, s1, s2⟩ := some_bind (show ((bindT tg items[i] (wipeE env (own.map (·.2)))).bind fun e1 => evP M elt e1 β).bind (fun r => (mapE (fun x β1 => (bindT tg x (wipeE env (own.map (·.2)))).bind fun e1 => evP M elt e1 β1) (items.drop (i + 1)) r.2).map fun q => (r.1 :: q.1, q.2)) = some (restD, β') from hgo)
    obtain ⟨⟨rest2, β2⟩, s3, s4⟩ := some_pair s2
    cases s4
    obtain ⟨ee, s5, s6⟩ := some_bind s1
    have ex1 : Ext B G1 H1 G' H' := ex.trans e' b'.out
    refine bind_snd tg items[i] (wipeE env (own.map (·.2))) ee s5 (R'.wipe _) d' _ ?_
    intro σ2 hk R2
    refine ⟨?_, ?_⟩
    · refine wipe_eq ?_ fun j hj => (hk j (tgIn_ok c1 hj)).1
      rw [R2.len, bindT_len tg _ _ _ s5, wipeE_length, ← R.len]
    · refine iE ee β y βy s6 R2 W0 _ fun v G3 H3 e3 b3 d3 => ?_
      cases y <;> first | (cases hrn; done) | skip
      rename_i k
      cases d3
      obtain ⟨restN2, t1, t2⟩ := Option.map_eq_some_iff.mp (show (intsD rest2).map (k :: ·) = some restN from hrn)
      have w4 := e3.hh p _ hpH' pb
      have w5 : G3 p = none := e3.nw p _ hpH' hpG'
      have nsl : accN.length + restN.length = ns.length := by rw [← hr, List.length_append]
      have rnl : restN.length = restN2.length + 1 := by rw [← t2]; rfl
      have fw := few_ok hl l l1 fun k hk => by have := (l3 k).mp hk; rw [← hr]; exact List.mem_append_left _ this
      refine ⟨k, S, l.length, rfl, w4, by unfold scanBound; omega, G3, βy, (fun j => S j || decide (j = k)), (if S k = true then l else k :: l), accN ++ [k], restN2, rest2, by omega, ?_, ?_, ?_, w5, ?_, ?_, ?_, s3, t1, ?_⟩
      · have ex3 := ex1.trans e3 b3.out
        refine ⟨ex3.gg, fun a z h => ?_, fun a z h hb => ?_, ex3.nw⟩
        · rw [upd_ne (ne_of_none h w5)]
          exact ex3.gh a z h
        · rw [upd_ne (ne_of_none h hp)]
          exact ex3.hh a z h hb
      · obtain ⟨⟨C, z1, z2⟩, z3, z4⟩ := b3
        exact ⟨⟨C, by rw [upd_ne pb.symm]; exact z1, z2⟩, z3, z4⟩
      · rw [upd_same]
        cases hS : S k <;> simp
      · cases hS : S k with
        | true => simpa using l1
        | false =>
          simp only [Bool.false_eq_true, if_false]
          refine List.nodup_cons.mpr ⟨fun z => ?_, l1⟩
          rw [(l2 k).mp z] at hS
          cases hS
      · intro j
        cases hS : S k with
        | true =>
          simp only [if_true, Bool.or_eq_true, decide_eq_true_eq]
          rw [l2 j]
          constructor
          · exact .inl
          · rintro (z | z)
            · exact z
            · rw [z]
              exact hS
        | false =>
          simp only [Bool.false_eq_true, if_false, List.mem_cons, Bool.or_eq_true, decide_eq_true_eq]
          rw [l2 j]
          constructor
          · rintro (z | z)
            · exact .inr z
            · exact .inl z
          · rintro (z | z)
            · exact .inr z
            · exact .inl z
      · intro j
        rw [List.mem_append, List.mem_singleton]
        cases hS : S k with
        | true =>
          simp only [if_true]
          rw [l3 j]
          constructor
          · exact .inl
          · rintro (z | z)
            · exact z
            · rw [z, ← l3 k, l2 k]
              exact hS
        | false =>
          simp only [Bool.false_eq_true, if_false, List.mem_cons]
          rw [l3 j]
          constructor
          · rintro (z | z)
            · exact .inr z
            · exact .inl z
          · rintro (z | z)
            · exact .inr z
            · exact .inl z
      · rw [← hr, ← t2]
        simp
  · rw [List.drop_eq_nil_of_le (by omega)] at hgo
    cases hgo
    cases hrn
    rw [List.append_nil] at hr
    subst hr
    refine .inl ⟨src.stop (show items.length ≤ i by omega), S, l.length, hH, Nat.le_trans (few_ok hl l l1 fun k hk => (l3 k).mp hk) (by decide), fun ms u m1 m2 m3 hu => ?_⟩
    obtain ⟨a1, a2⟩ := sset_asc accN
    rw [asc_same m1 a1 fun k => by rw [m2, ← l2, l3, a2]]
    have eu := ex.trans (Ext.newU (o := HO.lst ((sortI (ddI accN)).map V.int)) ex.gh hu) bg.out
    refine q u _ G _ (e1.trans eu bg.out) (bg.newU hu) (goneH (e1.trans ex bg.out) bg hu) upd_same ?_ (denInts _)
    cases e : G u with
    | none => rfl
    | some o =>
      rw [ex.gh u o e] at hu
      cases hu
end
end LT

namespace LT
open PySem PySem.Spec PyProof.Rows L2
section
variable {K : PySem.W.Frag} {M : Nat → Mir} {Γ : Nat → Sp}
theorem gnone {G H : Hp} (s : Sub G H) {p : Addr} (h : H p = none) : G p = none := by
  cases e : G p with
  | none => rfl
  | some o =>
    rw [s p o e] at h
    cases h
theorem evA_cons {c : CE} {cs : List CE} {env : Env} {β : BS} (h : ∀ a, c ≠ .star a) : evA M (c :: cs) env β = (evP M c env β).bind fun r => (evA M cs env r.2).map fun q => (r.1 :: q.1, q.2) := by
  cases c <;> first | (exact absurd rfl (h _)) | (simp only [evA])
theorem dfs_den {B : Addr} {G : Hp} {c : Nat} : ∀ (df : List Df) (j : Nat), dfsOk K c df j → DenAll K B G (dfs K c df j) (df.map Df.d)
  | [], _, _ => .nil
  | .non :: df, j, h => .cons .non (dfs_den df (j + 1) h.2)
  | .unit :: df, j, h => .cons (.tup (h.1 G) .nil) (dfs_den df (j + 1) h.2)
theorem make_snd (hΓ : HG K M Γ) {c i : Nat} {df : List Df} (hi : 100000 ≤ i ∧ i < 200000) (hc : ClsOk K c) (hdf : dfsOk K c df 0) {B : Addr} {G0 H0 G H : Hp} {σ : L2.St} {env : Env} {β β' : BS} {vs : List V} {ds fs : List D} {Q : VK} {E : XK} (R : Rel K B G0 H0 σ env β G H)
    (h : M i (ds ++ df.map Df.d) β = some (.obj c fs, β')) (hd : DenAll K B G vs ds) (q : QD K B G H β' (.obj c fs) Q) : ∀ x dx, H x = none → H dx = none → dx ≠ x →
    Γ i (.ref x :: (vs ++ dfs K c df 0)) (upd (upd H dx (.own x)) x (.ins (ca K c) dx [])) (fun v H2 => v = .non ∧ Q (.ref x) H2) E := by
  intro x dx hx hdx hne
  obtain ⟨oB, hB⟩ := R.bb
  have xB : x ≠ B := (ne_of_none hB hx).symm
  have dB : dx ≠ B := (ne_of_none hB hdx).symm
  have gx : G x = none := gnone R.sub hx
  have gdx : G dx = none := gnone R.sub hdx
  have at_ : ∀ a o, H a = some o → upd (upd H dx (.own x)) x (.ins (ca K c) dx []) a = some o := fun a o z => by
    rw [upd_ne (ne_of_none z hx), upd_ne (ne_of_none z hdx)]
    exact z
  refine hΓ.ini i hi _ _ _ _ ⟨B, G, β, x, dx, c, _, _, fs, β', rfl, h, upd_same, by rw [upd_ne hne, upd_same], gx, gdx, xB, hc, fun a o z => at_ a o (R.sub a o z), ?_, hd.app (dfs_den df 0 hdf), fun dy ws G' H' e b k1 kd k2 kg kn k3 k4 => ⟨rfl, ?_⟩⟩
  · obtain ⟨⟨C, z1, z2⟩, z3, z4⟩ := R.bag
    exact ⟨⟨C, at_ _ _ z1, z2⟩, z3, z4⟩
  · have hdyx : dy ≠ x := ne_of kd k1 (by intro z; cases z)
    have gg : Sub G' (upd (upd G' dy (.own x)) x (.ins (ca K c) dy ((cfl c).zip ws))) := fun a o z => by
      rw [upd_ne (ne_of_none z k2), upd_ne (ne_of_none z kg)]
      exact z
    have old : ∀ a o, H a = some o → hide dx (hide x (upd (upd H dx (.own x)) x (.ins (ca K c) dx []))) a = some o := fun a o z => by
      rw [hide_ne (ne_of_none z hdx), hide_ne (ne_of_none z hx)]
      exact at_ a o z
    have dyB : dy ≠ B := (ne_of_none (old _ _ hB) kn).symm
    refine q (.ref x) (upd (upd G' dy (.own x)) x (.ins (ca K c) dy ((cfl c).zip ws))) H' ⟨e.gg.trans gg, fun a o z => ?_, fun a o z za => ?_, fun a o z z2 => ?_⟩ ?_ ?_
    · by_cases e1 : a = x
      · subst e1
        rw [upd_same] at z
        cases z
        exact k1
      · rw [upd_ne e1] at z
        by_cases e2 : a = dy
        · subst e2
          rw [upd_same] at z
          cases z
          exact kd
        · rw [upd_ne e2] at z
          exact e.gh a o z
    · exact e.hh a o (old a o z) za
    · have n1 := ne_of_none z hx
      have n2 : a ≠ dy := ne_of_none (old a o z) kn
      rw [upd_ne n1, upd_ne n2]
      exact e.nw a o (old a o z) z2
    · obtain ⟨⟨C, z1, z2⟩, z3, z4⟩ := b
      exact ⟨⟨C, z1, z2.1, gg _ _ z2.2⟩, by rw [upd_ne xB.symm, upd_ne dyB.symm]; exact z3, z4⟩
    · exact .obj hc upd_same (by rw [upd_ne hdyx, upd_same]) k3 (k4.mono gg)
theorem star_snd {a : CE} {cs : List CE} (i1 : SndP K M Γ a) (i2 : SndA K M Γ cs) : SndA K M Γ (.star a :: cs) := fun env β ds β' h B G0 H0 σ G H R W Q q => by
  simp only [evA] at h
  obtain ⟨⟨x, β1⟩, h1, h2⟩ := some_bind h
  refine pk_snd i1 h1 R W _ fun v G1 H1 e1 b1 d1 => ?_
  have R1 := R.ext e1 b1
  split at h2
  · rename_i xs hx
    obtain rfl : x = .lst xs := hx
    obtain ⟨⟨ys, β2⟩, h3, h4⟩ := some_pair h2
    cases h4
    obtain ⟨p, ws, rfl, k1, k2⟩ := d1.lst R1
    refine ⟨p, ws, rfl, .inr (SqL.of k1), i2 env β1 ys β2 h3 R1 W _ fun vs G2 H2 e2 b2 d2 => ?_⟩
    exact q (ws ++ vs) G2 H2 (e1.trans e2 b2.out) b2 ((k2.mono e2.gg).app d2)
  · rename_i xs hx
    obtain rfl : x = .tup xs := hx
    obtain ⟨⟨ys, β2⟩, h3, h4⟩ := some_pair h2
    cases h4
    cases d1.den (by intro _ z; cases z) with
    | tup k1 k2 =>
      refine ⟨_, _, rfl, .inl (sub_t e1.gh k1), i2 env β1 ys β2 h3 R1 W _ fun vs G2 H2 e2 b2 d2 => ?_⟩
      exact q (_ ++ vs) G2 H2 (e1.trans e2 b2.out) b2 ((k2.mono e2.gg).app d2)
  · cases h2
theorem cons_snd {c : CE} {cs : List CE} (hn : ∀ a, c ≠ .star a) (i1 : SndP K M Γ c) (i2 : SndA K M Γ cs) : SndA K M Γ (c :: cs) := fun env β ds β' h B G0 H0 σ G H R W Q q => by
  rw [evA_cons hn] at h
  rw [semA_cons hn]
  obtain ⟨⟨x, β1⟩, h1, h2⟩ := some_bind h
  obtain ⟨⟨ys, β2⟩, h3, h4⟩ := some_pair h2
  cases h4
  refine i1 env β x β1 h1 R W _ fun v G1 H1 e1 b1 d1 => i2 env β1 ys β2 h3 (R.ext e1 b1) W _ fun vs G2 H2 e2 b2 d2 => ?_
  exact q (v :: vs) G2 H2 (e1.trans e2 b2.out) b2 (.cons (d1.mono e2.gg) d2)
theorem kb {T : String} {t : Bty} {b : Bool} (h : kitB T t.nm = some b) : PySem.W.kitOne K (.type T) (tyV K (.b t)) = some b := kit_ty h
theorem tyx {B : Addr} {G0 H0 G H : Hp} {σ : L2.St} {env : Env} {β : BS} (R : Rel K B G0 H0 σ env β G H) {v : V} {d : D} (hd : DenW K B σ env G v d) {H2 : Hp} (hs : Sub H H2) (hne : ∃ ty b, tyIs ty d = some b) :
    ∃ t, TyX K H2 v t ∧ ∀ ty b, tyOk K ty → tyIs ty d = some b → PySem.W.kitOne K t (tyV K ty) = some b := by
  have lst : ∀ p vs, v = .ref p → H p = some (.lst vs) → (∃ xs, d = .lst xs) → ∃ t, TyX K H2 v t ∧ ∀ ty b, tyOk K ty → tyIs ty d = some b → PySem.W.kitOne K t (tyV K ty) = some b := by
    rintro p vs rfl hp ⟨xs, rfl⟩
    refine ⟨_, .base (.lst (hs _ _ hp)), fun ty b ho h => ?_⟩
    cases ty with
    | b t => cases t <;> (cases h; exact kb (by decide +kernel))
    | c c =>
      cases h
      exact ho.k2 (by decide)
  rcases hd with hd | ⟨i, ys, h1, h2, rfl⟩
  · cases hd with
    | non =>
      refine ⟨_, .base .non, fun ty b ho h => ?_⟩
      cases ty with
      | b t => cases t <;> (cases h; exact kb (by decide +kernel))
      | c c =>
        cases h
        exact ho.k2 (by decide)
    | bl y =>
      refine ⟨_, .base (.bl y), fun ty b ho h => ?_⟩
      cases ty with
      | b t => cases t <;> (cases h; exact kb (by decide +kernel))
      | c c =>
        cases h
        exact ho.k2 (by decide)
    | int y =>
      refine ⟨_, .base (.int y), fun ty b ho h => ?_⟩
      cases ty with
      | b t => cases t <;> (cases h; exact kb (by decide +kernel))
      | c c =>
        cases h
        exact ho.k2 (by decide)
    | str y =>
      refine ⟨_, .base (.str y), fun ty b ho h => ?_⟩
      cases ty with
      | b t => cases t <;> (cases h; exact kb (by decide +kernel))
      | c c =>
        cases h
        exact ho.k2 (by decide)
    | @tup a1 xs1 ds1 hq ht =>
      have hq2 := sub_t hs (sub_t R.sub hq)
      have hty : TyX K H2 (.ref a1) (.type "tuple") := by
        rcases hq2 with (z | ⟨o, z⟩) | ⟨o, its, n, z1, z2, _⟩
        · exact .base (.tup z)
        · exact .fTuple z
        · exact .kTuple z1 z2
      refine ⟨_, hty, fun ty b ho h => ?_⟩
      cases ty with
      | b t => cases t <;> (cases h; exact kb (by decide +kernel))
      | c c =>
        cases h
        exact ho.k2 (by decide)
    | lst hq ht => exact lst _ _ rfl (R.sub _ _ hq) ⟨_, rfl⟩
    | @obj a dx c' vs ds hc g1 g2 g3 g4 =>
      refine ⟨_, hc.ty (hs _ _ (R.sub _ _ g1)), fun ty b ho h => ?_⟩
      cases ty with
      | b t => cases t <;> (cases h; exact hc.k1 (by decide))
      | c c =>
        cases h
        exact hc.k3 ho
    | @dct a1 ps hq =>
      refine ⟨_, .base (.dK (hs _ _ (R.sub _ _ hq))), fun ty b ho h => ?_⟩
      cases ty with
      | b t => cases t <;> (cases h; exact kb (by decide +kernel))
      | c c =>
        cases h
        exact ho.k2 (by decide)
    | bag =>
      obtain ⟨ty, b, z⟩ := hne
      cases ty <;> cases z
  · obtain ⟨p, vs, g1, g2, _⟩ := R.o i ys h1
    rw [h2] at g1
    cases g1
    exact lst p vs rfl g2 ⟨_, rfl⟩
mutual
theorem noDict : ∀ (d : D) (n : Nat), d.ok n = true → d.py.hasDict = false
  | .non, _, _ => by simp [D.py, PyData.hasDict]
  | .bl _, _, _ => by simp [D.py, PyData.hasDict]
  | .int _, _, _ => by simp [D.py, PyData.hasDict]
  | .str _, _, _ => by simp [D.py, PyData.hasDict]
  | .tup xs, n, h => by
    cases n with
    | zero => simp [D.ok] at h
    | succ n => simpa [D.py, PyData.hasDict] using noDicts xs n (by simpa [D.ok] using h)
  | .lst xs, n, h => by
    cases n with
    | zero => simp [D.ok] at h
    | succ n => simpa [D.py, PyData.hasDict] using noDicts xs n (by simpa [D.ok] using h)
  | .dct _, _, h => by simp [D.ok] at h
  | .obj _ _, _, h => by simp [D.ok] at h
  | .bag, _, h => by simp [D.ok] at h
theorem noDicts : ∀ (ds : List D) (n : Nat), D.oks ds n = true → PyData.hasDictAll (D.pys ds) = false
  | [], _, _ => by simp [D.pys, PyData.hasDictAll]
  | d :: ds, n, h => by
    obtain ⟨a1, a2⟩ := and2 (show (D.ok d n && D.oks ds n) = true by simpa [D.oks] using h)
    simp [D.pys, PyData.hasDictAll, noDict d n a1, noDicts ds n a2]
end
theorem cfl_nodup {c : Nat} (h : c ∈ allC) : (cfl c).Nodup := by
  simp only [allC, List.mem_cons, List.not_mem_nil, or_false] at h
  rcases h with rfl | rfl | rfl | rfl | rfl | rfl | rfl <;> decide +kernel
theorem zip_at : ∀ {fl : List Str} {ws : List V} {k : Nat} {f : Str} {v : V}, fl.Nodup → fl[k]? = some f → ws[k]? = some v → (fl.zip ws).lookup f = some v
  | [], _, _, _, _, _, h, _ => by simp at h
  | _ :: _, [], _, _, _, _, _, h => by simp at h
  | g :: fl, w :: ws, k, f, v, nd, h1, h2 => by
    show List.lookup f ((g, w) :: fl.zip ws) = some v
    rw [List.lookup_cons]
    cases k with
    | zero =>
      simp at h1 h2
      subst h1 h2
      simp
    | succ k =>
      have hf : f ∈ fl := List.mem_of_getElem? (by simpa using h1)
      have : (f == g) = false := by simpa using fun e : f = g => (List.nodup_cons.mp nd).1 (by rw [← e]; exact hf)
      rw [this]
      exact zip_at (List.nodup_cons.mp nd).2 (by simpa using h1) (by simpa using h2)
theorem denAt {B : Addr} {G : Hp} : ∀ {vs : List V} {ds : List D}, vs.length = ds.length → (∀ (k : Nat) (v : V) (d : D), vs[k]? = some v → ds[k]? = some d → Den K B G v d) → DenAll K B G vs ds
  | [], [], _, _ => .nil
  | [], _ :: _, h, _ => by cases h
  | _ :: _, [], h, _ => by cases h
  | a :: us, b :: ws, h, f => .cons (f 0 a b rfl rfl) (denAt (by simpa using h) fun k x y h1 h2 => f (k + 1) x y h1 h2)
theorem lzip_snd {B : Addr} {G0 H0 G H : Hp} {σ : L2.St} {env : Env} {β : BS} {vs ws : List V} {xs ys : List D} {a b : Addr} {Q : VK} (R : Rel K B G0 H0 σ env β G H) (h1 : H a = some (.lst vs)) (h2 : DenAll K B G vs xs) (h3 : H b = some (.lst ws)) (h4 : DenAll K B G ws ys) (hl : xs.length ≤ 1000000)
    (q : QD K B G H β (.lst (zipD xs ys)) Q) : rLZip [.ref a, .ref b] H Q := by
  refine ⟨a, b, vs, ws, rfl, h1, h3, Nat.le_trans (Nat.min_le_left _ _) (by rw [h2.length]; exact lineM hl), fun ps H' l hp sb hP h0 hn => ?_⟩
  obtain ⟨⟨C, z1, z2⟩, z3, z4⟩ := R.bag
  have no : ∀ p o, H p = some o → p ∉ ps := fun p o z m => by
    rw [h0 p m] at z
    cases z
  let G1 : Hp := fun p => if p ∈ ps then H' p else G p
  have old : ∀ p, p ∉ ps → G1 p = G p := fun p m => if_neg m
  have gg : Sub G G1 := fun p o z => by
    rw [old p (no p o (R.sub p o z))]
    exact z
  have e : Ext B G H G1 H' := ⟨gg, fun p o z => by
    by_cases m : p ∈ ps
    · have : G1 p = H' p := if_pos m
      rw [← this]
      exact z
    · rw [old p m] at z
      exact sb p o (R.sub p o z), fun p o z _ => sb p o z, fun p o z z' => by
    rw [old p (no p o z)]
    exact z'⟩
  have bb : BagAt B G1 H' β := ⟨⟨C, sb _ _ z1, z2.1, gg _ _ z2.2⟩, by rw [old B (no B _ z1)]; exact z3, z4⟩
  have hz : (zipD xs ys).length = min vs.length ws.length := by
    unfold zipD
    rw [List.length_map, List.length_zip, h2.length, h4.length]
  have hd : DenAll K B G1 (ps.map V.ref) (zipD xs ys) := denAt (by rw [List.length_map, hp, hz]) fun k v d hv hd => by
    rw [List.getElem?_map] at hv
    obtain ⟨p, hpk, rfl⟩ := Option.map_eq_some_iff.mp hv
    unfold zipD at hd
    rw [List.getElem?_map] at hd
    obtain ⟨⟨x, y⟩, hxy, rfl⟩ := Option.map_eq_some_iff.mp hd
    obtain ⟨hx, hy⟩ := List.getElem?_zip_eq_some.mp hxy
    obtain ⟨u, w, hu, hw, hH⟩ := hP k p hpk
    obtain ⟨u', g1, g2⟩ := h2.get hx
    obtain ⟨w', g3, g4⟩ := h4.get hy
    rw [hu] at g1
    rw [hw] at g3
    cases g1
    cases g3
    exact .tup (SqT.of (show G1 p = _ from (if_pos (List.mem_of_getElem? hpk)).trans hH)) (.cons (g2.mono gg) (.cons (g4.mono gg) .nil))
  exact q_lst (R.ext e bb) hd (fun v G2 H2 e2 b2 d2 => q v G2 H2 (e.trans e2 b2.out) b2 d2) l hn
theorem DenAll.lsts {B : Addr} {G : Hp} : ∀ {vs : List V} {xs : List D} {yss : List (List D)}, DenAll K B G vs xs → lstsD xs = some yss → ∃ wss : List (List V), SubL G vs wss ∧ DenAll K B G wss.flatten yss.flatten := by
  intro vs xs yss h
  induction xs generalizing vs yss with
  | nil =>
    intro e
    cases e
    cases h
    exact ⟨[], ⟨rfl, fun i u ys e => by cases e⟩, .nil⟩
  | cons x xs ih =>
    intro e
    cases h with
    | cons a t =>
      cases x with
      | lst ys =>
        obtain ⟨l, h1, rfl⟩ := Option.map_eq_some_iff.mp (show (lstsD xs).map (fun l => ys :: l) = some yss from e)
        obtain ⟨wss, ⟨s1, s2⟩, s3⟩ := ih t h1
        cases a with
        | lst g1 g2 =>
          rename_i ws
          refine ⟨ws :: wss, ⟨by rw [List.length_cons, List.length_cons, s1], fun i u zs e1 e2 => ?_⟩, ?_⟩
          · cases i with
            | zero =>
              cases e1
              cases e2
              exact ⟨_, rfl, g1⟩
            | succ i => exact s2 i u zs e1 e2
          · rw [List.flatten_cons, List.flatten_cons]
            exact g2.app s3
      | _ => cases e
theorem suml_snd {B : Addr} {G0 H0 G H : Hp} {σ : L2.St} {env : Env} {β : BS} {vs : List V} {xs : List D} {yss : List (List D)} {a : Addr} {Q : VK} (R : Rel K B G0 H0 σ env β G H) (h1 : H a = some (.lst vs)) (h2 : DenAll K B G vs xs) (h3 : lstsD xs = some yss) (hl : yss.flatten.length ≤ 1000000)
    (q : QD K B G H β (.lst yss.flatten) Q) : rSumN [.ref a] H Q := by
  obtain ⟨wss, s1, s2⟩ := h2.lsts h3
  refine rSumN_of rfl h1 ⟨s1.1, fun i u ys e1 e2 => ?_⟩ (lineM (by rw [s2.length]; exact hl)) fun H' l sb hn hl' => ?_
  · obtain ⟨x, ex, hx⟩ := s1.2 i u ys e1 e2
    exact ⟨x, ex, R.sub _ _ hx⟩
  obtain ⟨⟨C, z1, z2⟩, z3, z4⟩ := R.bag
  have no : ∀ p o, H p = some o → p ≠ l := fun p o z e => by
    rw [e, hn] at z
    cases z
  have gg : Sub G (upd G l (.lst wss.flatten)) := fun p o z => by
    rw [upd_ne (no p o (R.sub p o z))]
    exact z
  have e : Ext B G H (upd G l (.lst wss.flatten)) H' := ⟨gg, fun p o z => by
    by_cases m : p = l
    · rw [m, upd_same] at z
      rw [m, hl']
      exact z
    · rw [upd_ne m] at z
      exact sb p o (R.sub p o z), fun p o z _ => sb p o z, fun p o z z' => by
    rw [upd_ne (no p o z)]
    exact z'⟩
  have bb : BagAt B (upd G l (.lst wss.flatten)) H' β := ⟨⟨C, sb _ _ z1, z2.1, gg _ _ z2.2⟩, by rw [upd_ne (no B _ z1)]; exact z3, z4⟩
  exact q (.ref l) _ H' e bb (.lst upd_same (s2.mono gg))
theorem lrng_snd {B : Addr} {G0 H0 G H : Hp} {σ : L2.St} {env : Env} {β : BS} {i j : Int} {Q : VK} (R : Rel K B G0 H0 σ env β G H) (hb : -(2 ^ 62) ≤ i ∧ i < 2 ^ 62 ∧ -(2 ^ 62) ≤ j ∧ j < 2 ^ 62) (hl : (j - i).toNat ≤ 1000000) (q : QD K B G H β (.lst (rangeD i (j - i).toNat)) Q) : rLRng i j H Q := by
  refine ⟨hb, hl, q_lst R (denAt (by unfold rangeD; simp) fun k v d hv hd => ?_) q⟩
  unfold rangeD at hd
  rw [List.getElem?_map] at hv hd
  obtain ⟨m, hm, rfl⟩ := Option.map_eq_some_iff.mp hv
  obtain ⟨m', hm', rfl⟩ := Option.map_eq_some_iff.mp hd
  rw [hm] at hm'
  cases hm'
  exact .int _
def OwnP (σ : L2.St) (env : Env) (p : Addr) : Prop := ∃ (j : Nat) (ys : List D), env[j]? = some (some (.own ys)) ∧ σ[j]? = some (some (.ref p))
open Classical in
noncomputable def coldG (σ : L2.St) (env : Env) (G H : Hp) : Hp := fun a => if OwnP σ env a then H a else G a
theorem flat_den {B : Addr} {G G' : Hp} {v : V} {d : D} (h : Den K B G v d) (hf : d.flat = true) : Den K B G' v d := by
  cases h with
  | non => exact .non
  | bl b => exact .bl b
  | int i => exact .int i
  | str s => exact .str s
  | _ => cases hf
theorem cb_snd (hΓ : HG K M Γ) {B : Addr} {G0 H0 G H : Hp} {σ : L2.St} {env : Env} {β : BS} {f : Nat} {vs : List V} {ds : List D} {d : D} {Q : VK} {E : XK} (R : Rel K B G0 H0 σ env β G H) (hf : f < 100000)
    (h : M f ds β = some (d, β)) (hfl : d.flat = true) (hd : DenWs K B σ env G vs ds) (q : QD K B G H β d Q) : Γ f vs H Q E := by
  have own : ∀ a, OwnP σ env a → ∃ ws ys, H a = some (.lst ws) ∧ G a = none ∧ H0 a = none ∧ DenAll K B G ws ys := fun a ⟨j, ys, h1, h2⟩ => by
    obtain ⟨p, ws, k1, k2, k3, k4, k5⟩ := R.o j ys h1
    rw [h2] at k1
    cases k1
    exact ⟨ws, ys, k2, k3, k4, k5⟩
  have gg : Sub G (coldG σ env G H) := fun a o z => by
    unfold coldG
    rw [if_neg fun w => by
      obtain ⟨_, _, _, n, _⟩ := own a w
      rw [z] at n
      cases n]
    exact z
  have gh : Sub (coldG σ env G H) H := fun a o z => by
    unfold coldG at z
    split at z
    · exact z
    · exact R.sub a o z
  obtain ⟨⟨C, b1, b2, b3⟩, b4, b5⟩ := R.bag
  have hB : ¬ OwnP σ env B := fun w => by
    obtain ⟨_, _, _, _, n, _⟩ := own B w
    obtain ⟨o, ho⟩ := R.b0
    rw [ho] at n
    cases n
  have hout : coldG σ env G H B = none := by
    unfold coldG
    rw [if_neg hB]
    exact b4
  have den : ∀ {vs : List V} {ds : List D}, DenWs K B σ env G vs ds → DenAll K B (coldG σ env G H) vs ds := fun {vs ds} z => by
    induction z with
    | nil => exact .nil
    | cons a t ih =>
      refine .cons ?_ ih
      rcases a with a | ⟨j, ys, h1, h2, rfl⟩
      · exact a.mono gg
      · obtain ⟨p, ws, k1, k2, k3, k4, k5⟩ := R.o j ys h1
        rw [h2] at k1
        cases k1
        refine .lst ?_ (k5.mono gg)
        unfold coldG
        rw [if_pos ⟨j, ys, h1, h2⟩]
        exact k2
  refine hΓ.fn f hf _ _ _ _ ⟨B, coldG σ env G H, β, ds, d, β, h, gh, ⟨⟨C, b1, b2, gg _ _ b3⟩, hout, b5⟩, den hd, fun v G' H' e b d' => q v G H' ⟨Sub.refl G, (gg.trans e.gg).trans e.gh, e.hh, fun _ _ _ z => z⟩ ?_ (flat_den d' hfl)⟩
  obtain ⟨⟨C', c1, c2, c3⟩, c4, c5⟩ := b
  refine ⟨⟨C', c1, c2, ?_⟩, b4, b5⟩
  rw [c2, ← b2]
  exact b3
theorem coldE_get : ∀ (env : Env) (i : Nat), (coldE env)[i]? = (env[i]?).map fun s => match s with
    | some (.own xs) => some (.d (.lst xs))
    | s => s
  | [], i => by simp [coldE]
  | some (.own xs) :: e, 0 => rfl
  | some (.d x) :: e, 0 => rfl
  | some (.slf _ _ _) :: e, 0 => rfl
  | none :: e, 0 => rfl
  | some (.own xs) :: e, i + 1 => coldE_get e i
  | some (.d x) :: e, i + 1 => coldE_get e i
  | some (.slf _ _ _) :: e, i + 1 => coldE_get e i
  | none :: e, i + 1 => coldE_get e i
theorem coldE_len : ∀ env : Env, (coldE env).length = env.length
  | [] => rfl
  | some (.own xs) :: e => congrArg (· + 1) (coldE_len e)
  | some (.d x) :: e => congrArg (· + 1) (coldE_len e)
  | some (.slf _ _ _) :: e => congrArg (· + 1) (coldE_len e)
  | none :: e => congrArg (· + 1) (coldE_len e)
mutual
theorem lf_den {B : Addr} {G G' : Hp} (hs : ∀ a o, G a = some o → (∀ ws, o ≠ .lst ws) → G' a = some o) : ∀ {v : V} {d : D}, Den K B G v d → d.lf = true → Den K B G' v d
  | _, _, .non, _ => .non
  | _, _, .bl b, _ => .bl b
  | _, _, .int i, _ => .int i
  | _, _, .str s, _ => .str s
  | _, _, .tup h t, z => .tup (by
      rcases h with (h | ⟨o, h⟩) | h
      · exact .inl (.inl (hs _ _ h (by intro _ q; cases q)))
      · exact .inl (.inr ⟨o, hs _ _ h (by intro _ q; cases q)⟩)
      · exact .inr h) (lfs_den hs t (by simpa only [D.lf] using z))
  | _, _, .lst h t, z => by simp only [D.lf] at z; cases z
  | _, _, .obj hc h h2 hl t, z => .obj hc (hs _ _ h (by intro _ q; cases q)) (hs _ _ h2 (by intro _ q; cases q)) hl (lfs_den hs t (by simpa only [D.lf] using z))
  | _, _, .dct h, _ => .dct (hs _ _ h (by intro _ q; cases q))
  | _, _, .bag, z => by simp only [D.lf] at z; cases z
theorem lfs_den {B : Addr} {G G' : Hp} (hs : ∀ a o, G a = some o → (∀ ws, o ≠ .lst ws) → G' a = some o) : ∀ {vs : List V} {ds : List D}, DenAll K B G vs ds → D.lfs ds = true → DenAll K B G' vs ds
  | _, _, .nil, _ => .nil
  | _, _, .cons h t, z => .cons (lf_den hs h (and2 (by simpa only [D.lfs] using z)).1) (lfs_den hs t (and2 (by simpa only [D.lfs] using z)).2)
end
theorem flat_lf {d : D} (h : d.flat = true) : d.lf = true := by
  cases d <;> first | (cases h; done) | simp only [D.lf]
open Classical in
theorem cold_back {B : Addr} {G0 H0 G H G' H' : Hp} {σ : L2.St} {env : Env} {β β' : BS} {v : V} {d : D} {Q : VK} (R : Rel K B G0 H0 σ env β G H) (hc : β'.cell = β.cell) (hl : d.lf = true) (e : Ext B (coldG σ env G H) H G' H') (b : BagAt B G' H' β') (hd : Den K B G' v d) (q : QD K B G H β' d Q) : Q v H' := by
  have own : ∀ a, OwnP σ env a → ∃ ws, H a = some (.lst ws) ∧ G a = none ∧ coldG σ env G H a = some (.lst ws) := fun a w => by
    obtain ⟨j, ys, h1, h2⟩ := w
    obtain ⟨p, ws, k1, k2, k3, k4, k5⟩ := R.o j ys h1
    rw [h2] at k1
    cases k1
    refine ⟨ws, k2, k3, ?_⟩
    unfold coldG
    rw [if_pos ⟨j, ys, h1, h2⟩]
    exact k2
  have cg : ∀ a, ¬ OwnP σ env a → coldG σ env G H a = G a := fun a h => by
    unfold coldG
    rw [if_neg h]
  have ng : ∀ a o, G a = some o → ¬ OwnP σ env a := fun a o z w => by
    obtain ⟨_, _, n, _⟩ := own a w
    rw [z] at n
    cases n
  obtain ⟨⟨C, b1, b2, b3⟩, b4, b5⟩ := R.bag
  obtain ⟨⟨C', c1, c2, c3⟩, c4, c5⟩ := b
  have cc : C' = C := c2.trans (hc.trans b2.symm)
  refine q v (fun a => if OwnP σ env a then none else G' a) H' ⟨fun a o z => ?_, fun a o z => ?_, e.hh, fun a o z z2 => ?_⟩ ⟨⟨C', c1, c2, ?_⟩, ?_, c5⟩ (lf_den (fun a o z n => ?_) hd hl)
  · show (if OwnP σ env a then none else G' a) = some o
    rw [if_neg (ng a o z)]
    exact e.gg a o (by rw [cg a (ng a o z)]; exact z)
  · have z : (if OwnP σ env a then none else G' a) = some o := z
    split at z
    · cases z
    · exact e.gh a o z
  · show (if OwnP σ env a then none else G' a) = none
    split
    · rfl
    · rename_i w
      exact e.nw a o z (by rw [cg a w]; exact z2)
  · show (if OwnP σ env C' then none else G' C') = _
    rw [if_neg (by rw [cc]; exact ng C _ b3)]
    exact c3
  · show (if OwnP σ env B then none else G' B) = none
    split
    · rfl
    · exact c4
  · show (if OwnP σ env a then none else G' a) = some o
    rw [if_neg fun w => ?_]
    · exact z
    · obtain ⟨ws, _, _, w3⟩ := own a w
      have := e.gg a _ w3
      rw [z] at this
      exact n ws (Option.some.inj this)
theorem cold_rel {B : Addr} {G0 H0 G H : Hp} {σ : L2.St} {env : Env} {β : BS} (R : Rel K B G0 H0 σ env β G H) : Sub G (coldG σ env G H) ∧ Rel K B G0 H0 σ (coldE env) β (coldG σ env G H) H := by
  have own : ∀ a, OwnP σ env a → ∃ ws ys, H a = some (.lst ws) ∧ G a = none ∧ H0 a = none ∧ DenAll K B G ws ys := fun a ⟨j, ys, h1, h2⟩ => by
    obtain ⟨p, ws, k1, k2, k3, k4, k5⟩ := R.o j ys h1
    rw [h2] at k1
    cases k1
    exact ⟨ws, ys, k2, k3, k4, k5⟩
  have gg : Sub G (coldG σ env G H) := fun a o z => by
    unfold coldG
    rw [if_neg fun w => by
      obtain ⟨_, _, _, n, _⟩ := own a w
      rw [z] at n
      cases n]
    exact z
  have no : ∀ a, ¬ OwnP σ env a → coldG σ env G H a = G a := fun a h => by
    unfold coldG
    rw [if_neg h]
  obtain ⟨⟨C, b1, b2, b3⟩, b4, b5⟩ := R.bag
  have hB : ¬ OwnP σ env B := fun w => by
    obtain ⟨_, _, _, _, n, _⟩ := own B w
    obtain ⟨o, ho⟩ := R.b0
    rw [ho] at n
    cases n
  refine ⟨gg, { len := by rw [coldE_len]; exact R.len, sub := fun a o z => ?_, g0 := R.g0.trans gg, h0 := R.h0, n0 := fun a o h h2 => ?_, b0 := R.b0, bag := ⟨⟨C, b1, b2, gg _ _ b3⟩, by rw [no B hB]; exact b4, b5⟩, d := fun i x hi => ?_, o := fun i xs hi => ?_, s := fun i a c fs hi => ?_, si := fun i j a c c' fs fs' hi hj => ?_, inj := fun i j xs ys p hi => ?_ }⟩
  · unfold coldG at z
    split at z
    · exact z
    · exact R.sub a o z
  · rw [no a fun w => by
      obtain ⟨_, _, _, _, n, _⟩ := own a w
      rw [h] at n
      cases n]
    exact R.n0 a o h h2
  · rw [coldE_get] at hi
    obtain ⟨s, h1, h2⟩ := Option.map_eq_some_iff.mp hi
    cases s with
    | none => cases h2
    | some s =>
      cases s with
      | d y =>
        cases h2
        obtain ⟨v, k1, k2⟩ := R.d i _ h1
        exact ⟨v, k1, k2.mono gg⟩
      | own ys =>
        cases h2
        obtain ⟨p, ws, k1, k2, k3, k4, k5⟩ := R.o i ys h1
        refine ⟨.ref p, k1, .lst ?_ (k5.mono gg)⟩
        unfold coldG
        rw [if_pos ⟨i, ys, h1, k1⟩]
        exact k2
      | slf _ _ _ => cases h2
  · exfalso
    rw [coldE_get] at hi
    obtain ⟨s, h1, h2⟩ := Option.map_eq_some_iff.mp hi
    cases s with
    | none => cases h2
    | some s => cases s <;> cases h2
  · rw [coldE_get] at hi
    obtain ⟨s, h1, h2⟩ := Option.map_eq_some_iff.mp hi
    cases s with
    | none => cases h2
    | some s =>
      cases s with
      | slf x y z =>
        cases h2
        obtain ⟨dx, vs, k1, k2, k3, k4, k5, k6, k7, k8, k9, k10⟩ := R.s i _ _ _ h1
        have n1 : ¬ OwnP σ env a := fun w => by
          obtain ⟨_, _, e, _⟩ := own _ w
          rw [k2] at e
          cases e
        have n2 : ¬ OwnP σ env dx := fun w => by
          obtain ⟨_, _, e, _⟩ := own _ w
          rw [k3] at e
          cases e
        exact ⟨dx, vs, k1, k2, k3, by rw [no _ n1]; exact k4, by rw [no _ n2]; exact k5, k6, k7, k8, k9, k10.mono gg⟩
      | _ => cases h2
  · have back : ∀ (i : Nat) (c : Nat) (fs : List D), (coldE env)[i]? = some (some (.slf a c fs)) → env[i]? = some (some (.slf a c fs)) := fun i c fs hi => by
      rw [coldE_get] at hi
      obtain ⟨s, h1, h2⟩ := Option.map_eq_some_iff.mp hi
      cases s with
      | none => cases h2
      | some s =>
        cases s with
        | slf x y z =>
          cases h2
          exact h1
        | _ => cases h2
    exact R.si i j a c c' fs fs' (back i c fs hi) (back j c' fs' hj)
  · exfalso
    rw [coldE_get] at hi
    obtain ⟨s, h1, h2⟩ := Option.map_eq_some_iff.mp hi
    cases s with
    | none => cases h2
    | some s => cases s <;> cases h2
theorem pairI_dep : ∀ ps : List (Int × Int), PyData.depthKv (ps.map fun p => ((PyData.int p.1, PyData.int p.2) : PyData × PyData)) = 0
  | [] => rfl
  | (i, j) :: ps => by
    have := pairI_dep ps
    simp only [List.map_cons, PyData.depthKv, PyData.depth, this]
    rfl
mutual
theorem D.okq_dep : ∀ (d : D) (n : Nat), d.okq n = true → d.py.depth ≤ n
  | .non, n, h => by simp [D.py, PyData.depth]
  | .bl b, n, h => by simp [D.py, PyData.depth]
  | .int b, n, h => by simp [D.py, PyData.depth]
  | .str b, n, h => by simp [D.py, PyData.depth]
  | .tup xs, n, h => by
    cases n with
    | zero => simp [D.okq] at h
    | succ n =>
      have := D.okqs_dep xs n (by simpa [D.okq] using h)
      simp only [D.py, PyData.depth]
      omega
  | .lst xs, n, h => by
    cases n with
    | zero => simp [D.okq] at h
    | succ n =>
      have := D.okqs_dep xs n (by simpa [D.okq] using h)
      simp only [D.py, PyData.depth]
      omega
  | .dct kvs, n, h => by
    have h3 : 3 ≤ n := of_decide_eq_true (show decide (3 ≤ n) = true by simpa [D.okq] using h)
    simp only [D.py, PyData.depth, pairI_dep]
    omega
  | .obj _ _, n, h => by simp [D.okq] at h
  | .bag, n, h => by simp [D.okq] at h
theorem D.okqs_dep : ∀ (ds : List D) (n : Nat), D.okqs ds n = true → PyData.depthAll (D.pys ds) ≤ n
  | [], n, h => by simp [D.pys, PyData.depthAll]
  | d :: ds, n, h => by
    obtain ⟨a1, a2⟩ := and2 (show (D.okq d n && D.okqs ds n) = true by simpa [D.okqs] using h)
    have h2 := D.okq_dep d n a1
    have h4 := D.okqs_dep ds n a2
    simp only [D.pys, PyData.depthAll]
    omega
end
mutual
theorem Den.dq {K : PySem.W.Frag} {B : Addr} {G : Hp} : ∀ (d : D) (v : V) (n : Nat), d.okq n = true → Den K B G v d → Dq K G v d.py
  | .non, _, _, _, .non => .non
  | .bl b, _, _, _, .bl _ => .bl b
  | .int i, _, _, _, .int _ => .int i
  | .str s, _, _, _, .str _ => .str s
  | .tup xs, _, n, h, .tup hs t => by
    cases n with
    | zero => simp [D.okq] at h
    | succ n => exact .tup hs (DenAll.dq xs _ n (by simpa [D.okq] using h) t)
  | .lst xs, _, n, h, .lst hs t => by
    cases n with
    | zero => simp [D.okq] at h
    | succ n => exact .lst hs (DenAll.dq xs _ n (by simpa [D.okq] using h) t)
  | .dct kvs, v, n, h, hd => by
    generalize e : D.dct kvs = z at hd
    cases hd with
    | @dct a ps hq =>
      unfold dctD at e
      cases e
      have : (dctD ps).py = pyI ps := by
        unfold dctD
        simp only [D.py, pairI_map]
        rfl
      rw [this]
      exact .dct hq
    | _ => cases e
  | .bag, _, n, h, .bag => by simp [D.okq] at h
  | .obj _ _, _, n, h, _ => by simp [D.okq] at h
theorem DenAll.dq {K : PySem.W.Frag} {B : Addr} {G : Hp} : ∀ (ds : List D) (vs : List V) (n : Nat), D.okqs ds n = true → DenAll K B G vs ds → DqAll K G vs (D.pys ds)
  | [], _, _, _, .nil => .nil
  | d :: ds, _, n, h, .cons a t => by
    obtain ⟨a1, a2⟩ := and2 (show (D.okq d n && D.okqs ds n) = true by simpa [D.okqs] using h)
    exact .cons (Den.dq d _ n a1 a) (DenAll.dq ds _ n a2 t)
end
theorem DenW.dq {B : Addr} {G0 H0 G H : Hp} {σ : L2.St} {env : Env} {β : BS} (R : Rel K B G0 H0 σ env β G H) {v : V} {x : D} {n : Nat} (hx : x.okq n = true) (h : DenW K B σ env G v x) : Dq K H v x.py := by
  rcases h with h | ⟨i, ys, h1, h2, h3⟩
  · exact (h.mono R.sub).dq x v n hx
  · subst h3
    obtain ⟨p, vs, e1, e2, e3⟩ := DenW.lst R (.inr ⟨i, ys, h1, h2, rfl⟩)
    subst e1
    cases n with
    | zero => simp [D.okq] at hx
    | succ n => exact .lst e2 ((e3.mono R.sub).dq ys _ n (by simpa [D.okq] using hx))
theorem nf_of {t : Value} {C : Addr} (h : PySem.W.kitOne K t (.ref C) = some false) : PySem.W.notFirst K C t = true := by
  unfold PySem.W.kitOne at h
  split at h
  · cases h
  · unfold PySem.W.kitCls at h
    dsimp only at h
    split at h
    · unfold PySem.W.notFirst
      rw [h]
      simp
    · cases h
theorem tyx2 {B : Addr} {G0 H0 G H : Hp} {σ : L2.St} {env : Env} {β : BS} (R : Rel K B G0 H0 σ env β G H) {v : V} {d : D} (hd : DenW K B σ env G v d) {c : Nat} (ok : ClsOk K c) {z : Bool} (h : tyIs (.c c) d = some z) :
    ∃ t, TyX K H v t ∧ PySem.W.notFirst K (ca K c) t = true := by
  cases z with
  | false =>
    obtain ⟨t, k1, k2⟩ := tyx R hd (fun _ _ z => z) ⟨_, _, h⟩
    exact ⟨t, k1, nf_of (k2 (.c c) false ok h)⟩
  | true =>
    cases d <;> first | (cases h; done) | skip
    rename_i c' fs
    have e : (c' == c) = true := Option.some.inj h
    obtain rfl : c' = c := by simpa using e
    cases hd.den (by intro _ z; cases z) with
    | obj hc g1 g2 g3 g4 => exact ⟨_, hc.ty (R.sub _ _ g1), by unfold PySem.W.notFirst; simp⟩
theorem pr_snd (hΓ : HG K M Γ) {B : Addr} {G0 H0 G H : Hp} {σ : L2.St} {env : Env} {β β' : BS} {p : Prm} {vs : List V} {ds : List D} {d : D} {Q : VK} {E : XK} (R : Rel K B G0 H0 σ env β G H)
    (h : dPr M p ds β = some (d, β')) (hd : DenWs K B σ env G vs ds) (q : QD K B G H β' d Q) : spPr Γ K p vs H Q E := by
  unfold dPr at h
  split at h
  · obtain ⟨z, h1, h2⟩ := some_pair h
    cases h2
    obtain ⟨v, rfl, dv⟩ := hd.one
    unfold dRepr at h1
    split at h1
    · cases h1
      rename_i hf
      obtain ⟨f1, f2⟩ := and2 hf
      obtain ⟨f2, f3⟩ := and2 f2
      exact ⟨v, _, rfl, DenW.dq R f1 dv, f2, D.okq_dep _ _ f1, lineM (of_decide_eq_true f3), q _ G H (Ext.refl R.sub) R.bag (.str _)⟩
    · cases h1
  · rename_i t x
    obtain ⟨z, h1, h2⟩ := some_pair h
    cases h2
    obtain ⟨v, rfl, dv⟩ := hd.one
    intro ho
    obtain ⟨ty, k1, k2⟩ := tyx R dv (fun _ _ z => z) ⟨_, _, h1⟩
    exact ⟨v, tyW K t, ty, tyV K t, z, rfl, tyCls K t, k1, k2 t z ho h1, q _ G H (Ext.refl R.sub) R.bag (.bl _)⟩
  · rename_i t u x
    obtain ⟨a, h1, h2⟩ := some_bind h
    obtain ⟨b, h3, h4⟩ := some_pair h2
    cases h4
    obtain ⟨v, rfl, dv⟩ := hd.one
    refine ⟨by show 2 ≤ sizeLine; decide, fun p hp ho ho2 => ?_⟩
    obtain ⟨ty, k1, k2⟩ := tyx R dv (H2 := upd H p (.tup [tyW K t, tyW K u])) (fun c o z => by rw [upd_ne (ne_of_none z hp)]; exact z) ⟨_, _, h1⟩
    refine ⟨v, p, [tyW K t, tyW K u], ty, [tyV K t, tyV K u], a || b, rfl, upd_same, .cons (tyCls K t) (.cons (tyCls K u) .nil), k1, ?_, q _ G _ (Ext.newU R.sub hp) (R.bag.newU hp) (.bl _)⟩
    refine kitAny_cons (k2 t a ho h1) (fun ha => kitAny_cons (k2 u b ho2 h3) (fun hb => ?_) (fun hb => ?_)) (fun ha => ?_)
    · rw [ha, hb]
      exact kitAny_nil
    · rw [hb]
      exact Bool.or_true _
    · rw [ha]
      rfl
  · rename_i c k c' fs
    split at h
    · rename_i e
      subst e
      obtain ⟨z, h1, h2⟩ := some_pair h
      cases h2
      obtain ⟨v, rfl, dv⟩ := hd.one
      cases dv.den (by intro _ z; cases z) with
      | obj hc g1 g2 g3 g4 =>
        obtain ⟨w, k1, k2⟩ := g4.get h1
        have hk : k < (cfl c').length := by rw [← g3]; exact (List.getElem?_eq_some_iff.mp k1).1
        have hf : (cfl c')[k]? = some (cfn c' k) := by
          unfold cfn
          rw [List.getD, List.getElem?_eq_getElem hk]
          rfl
        exact ⟨_, _, _, _, w, rfl, R.sub _ _ g1, hc.cls, hc.noat (List.mem_of_getElem? hf), zip_at (cfl_nodup hc.mem) hf k1, q _ G H (Ext.refl R.sub) R.bag k2⟩
    · cases h
  · rename_i c nm i c' fs
    split at h
    · rename_i e
      obtain ⟨rfl, hi⟩ := e
      obtain ⟨v, rfl, dv⟩ := hd.one
      have d1 := dv.den (by intro _ z; cases z)
      cases d1 with
      | obj hc g1 g2 g3 g4 => exact ⟨_, _, _, rfl, R.sub _ _ g1, hΓ.fn i hi _ _ _ _ ⟨B, G, β, _, d, β', h, R.sub, R.bag, .cons (.obj hc g1 g2 g3 g4) .nil, q⟩⟩
    · cases h
  · rename_i c i c' fs
    split at h
    · rename_i e
      obtain ⟨rfl, hi⟩ := e
      obtain ⟨⟨r, β1⟩, h1, h2⟩ := some_bind h
      split at h2
      · rename_i n hr
        obtain rfl : r = .int n := hr
        split at h2
        · rename_i hn
          cases h2
          obtain ⟨v, rfl, dv⟩ := hd.one
          have d1 := dv.den (by intro _ z; cases z)
          cases d1 with
          | obj hc g1 g2 g3 g4 =>
            refine ⟨_, _, _, rfl, R.sub _ _ g1, hΓ.fn i hi _ _ _ _ ⟨B, G, β, _, _, _, h1, R.sub, R.bag, .cons (.obj hc g1 g2 g3 g4) .nil, fun v G2 H2 e2 b2 d2 => ?_⟩⟩
            cases d2
            exact ⟨n, rfl, hn.1, hn.2, q _ G2 H2 e2 b2 (.int n)⟩
        · cases h2
      · cases h2
    · cases h
  · rename_i c i c' fs y
    split at h
    · rename_i e
      obtain ⟨rfl, hi⟩ := e
      obtain ⟨v, w, rfl, dv, dw⟩ := hd.two
      have d1 := dv.den (by intro _ z; cases z)
      have d2 := dw.den (by intro _ z; cases z)
      cases d1 with
      | obj hc g1 g2 g3 g4 => exact ⟨_, _, _, rfl, R.sub _ _ g1, hΓ.fn i hi _ _ _ _ ⟨B, G, β, _, d, β', h, R.sub, R.bag, .cons (.obj hc g1 g2 g3 g4) (.cons d2 .nil), q⟩⟩
    · cases h
  · rename_i c i ng c' fs y
    split at h
    · rename_i e
      obtain ⟨rfl, hi⟩ := e
      obtain ⟨z, z1, h⟩ := some_bind h
      obtain ⟨⟨r, β1⟩, h1, h2⟩ := some_bind h
      split at h2
      · rename_i b hr
        obtain rfl : r = .bl b := hr
        split at h2
        · rename_i hb
          have hb : β1 = β := hb
          subst hb
          cases h2
          obtain ⟨v, w, rfl, dv, dw⟩ := hd.two
          intro ok
          obtain ⟨t, k1, k2⟩ := tyx2 R dw ok z1
          have d1 := dv.den (by intro _ z; cases z)
          cases d1 with
          | obj hc g1 g2 g3 g4 =>
            refine ⟨_, _, _, t, rfl, R.sub _ _ g1, k1, k2, cb_snd hΓ R hi h1 rfl hd fun u G2 H2 e2 b2 d2 => ?_⟩
            cases d2
            exact ⟨b, rfl, q _ G2 H2 e2 b2 (.bl _)⟩
        · cases h2
      · cases h2
    · cases h
  · cases h
    cases hd
    exact q _ G H (Ext.refl R.sub) R.bag (.int _)
  · rename_i ps
    cases h
    cases hd
    intro p hp
    have e := Ext.new (B := B) (o := dKI ps) R.sub hp
    exact q _ (upd G p (dKI ps)) _ e (R.bag.new R.sub hp) (.dct upd_same)
  · split at h
    · rename_i hl
      cases h
      obtain ⟨v, w, rfl, dv, dw⟩ := hd.two
      obtain ⟨p, vs, rfl, g1, g2⟩ := dv.lst R
      obtain ⟨p2, ws, rfl, g3, g4⟩ := dw.lst R
      exact lzip_snd R g1 g2 g3 g4 hl q
    · cases h
  · obtain ⟨l, h1, h2⟩ := some_bind h
    split at h2
    · rename_i hl
      cases h2
      obtain ⟨v, rfl, dv⟩ := hd.one
      obtain ⟨p, vs, rfl, g1, g2⟩ := dv.lst R
      exact suml_snd R g1 g2 h1 hl q
    · cases h2
  · split at h
    · rename_i hl
      cases h
      obtain ⟨v, rfl, dv⟩ := hd.one
      cases dv.den (by intro _ z; cases z)
      exact ⟨_, rfl, lrng_snd R (by omega) (by omega) (by rw [Int.sub_zero]; exact q)⟩
    · cases h
  · split at h
    · rename_i hl
      cases h
      obtain ⟨v, w, rfl, dv, dw⟩ := hd.two
      cases dv.den (by intro _ z; cases z)
      cases dw.den (by intro _ z; cases z)
      exact ⟨_, _, rfl, lrng_snd R (by omega) (by omega) q⟩
    · cases h
  · obtain ⟨ns, h1, h2⟩ := some_bind h
    split at h2
    · rename_i hl
      cases h2
      obtain ⟨v, rfl, dv⟩ := hd.one
      obtain ⟨p, vs, rfl, g1, g2⟩ := dv.lst R
      rw [g2.ints h1] at g1
      refine ⟨p, ns, rfl, SqL.of g1, few_ok hl, fun o a b ms ha hb m1 m2 => ?_⟩
      obtain ⟨s1, s2⟩ := sset_asc ns
      rw [asc_same m1 s1 fun k => (m2 k).trans (s2 k).symm]
      have R1 := R.newU (o := o) ha
      exact q_lst R1 (denInts _) (fun v G2 H2 e2 b2 d2 => q v G2 H2 ((Ext.newU R.sub ha).trans e2 b2.out) b2 d2) b hb
    · cases h2
  · split at h
    · rename_i hf
      obtain ⟨⟨r, β1⟩, h1, h2⟩ := some_bind h
      split at h2
      · rename_i hq
        cases h2
        obtain ⟨hβ, hfl⟩ := hq
        have hβ' : β' = β := hβ
        subst hβ'
        exact cb_snd hΓ R hf h1 hfl hd q
      · cases h2
    · cases h
  · cases h
mutual
theorem sndP (hΓ : HG K M Γ) : ∀ c : CE, SndP K M Γ c
  | .var i => fun env β d β' h B G0 H0 σ G H R W Q q => by
    simp only [evP] at h
    split at h
    · rename_i x hi
      cases h
      obtain ⟨v, h1, h2⟩ := R.d i _ hi
      exact ⟨v, h1, q v G H (Ext.refl R.sub) R.bag h2⟩
    · cases h
  | .cst c => fun env β d β' h B G0 H0 σ G H R W Q q => by
    simp only [evP] at h
    split at h
    · cases h; exact q _ G H (Ext.refl R.sub) R.bag (.int _)
    · cases h; exact q _ G H (Ext.refl R.sub) R.bag (.bl _)
    · cases h; exact q _ G H (Ext.refl R.sub) R.bag .non
    · cases h; exact q _ G H (Ext.refl R.sub) R.bag (.str _)
    · cases h
  | .tup es => fun env β d β' h B G0 H0 σ G H R W Q q => by
    simp only [evP] at h
    obtain ⟨⟨ds, β1⟩, h1, h2⟩ := some_bind h
    split at h2
    · rename_i hl
      cases h2
      refine sndA hΓ es env β ds _ h1 R W _ fun vs G' H' e b hd => ⟨lineM (by rw [hd.length]; exact hl), ?_⟩
      exact q_tup (R.ext e b) hd fun v G2 H2 e2 b2 d2 => q v G2 H2 (e.trans e2 b2.out) b2 d2
    · cases h2
  | .lst es => fun env β d β' h B G0 H0 σ G H R W Q q => by
    simp only [evP] at h
    obtain ⟨⟨ds, β1⟩, h1, h2⟩ := some_bind h
    split at h2
    · rename_i hl
      cases h2
      refine sndA hΓ es env β ds _ h1 R W _ fun vs G' H' e b hd => ⟨lineM (by rw [hd.length]; exact hl), ?_⟩
      exact q_lst (R.ext e b) hd fun v G2 H2 e2 b2 d2 => q v G2 H2 (e.trans e2 b2.out) b2 d2
    · cases h2
  | .bin op a b => fun env β d β' h B G0 H0 σ G H R W Q q => by
    simp only [evP] at h
    obtain ⟨⟨x, β1⟩, h1, h2⟩ := some_bind h
    obtain ⟨⟨y, β2⟩, h3, h4⟩ := some_bind h2
    obtain ⟨z, h5, h6⟩ := some_pair h4
    cases h6
    refine pk_snd (sndP hΓ a) h1 R W _ fun v G1 H1 e1 b1 d1 => pk_snd (sndP hΓ b) h3 (R.ext e1 b1) W _ fun w G2 H2 e2 b2 d2 => ?_
    exact bin_snd ((R.ext e1 b1).ext e2 b2) h5 (d1.mono e2.gg) d2 fun u G3 H3 e3 b3 d3 => q u G3 H3 ((e1.trans e2 b2.out).trans e3 b3.out) b3 d3
  | .neg a => fun env β d β' h B G0 H0 σ G H R W Q q => by
    simp only [evP] at h
    obtain ⟨⟨x, β1⟩, h1, h2⟩ := some_bind h
    split at h2
    · rename_i i hx
      have hx' : x = .int i := hx
      subst hx'
      cases h2
      refine sndP hΓ a env β _ _ h1 R W _ fun v G1 H1 e1 b1 d1 => ?_
      cases d1
      exact ⟨i, rfl, q _ G1 H1 e1 b1 (.int _)⟩
    · cases h2
  | .notV a => fun env β d β' h B G0 H0 σ G H R W Q q => by
    simp only [evP] at h
    obtain ⟨⟨x, β1⟩, h1, h2⟩ := some_bind h
    obtain ⟨t, h3, h4⟩ := some_pair h2
    cases h4
    refine pk_snd (sndP hΓ a) h1 R W _ fun v G1 H1 e1 b1 d1 => ⟨t, tru_snd (R.ext e1 b1) h3 d1, q _ G1 H1 e1 b1 (.bl _)⟩
  | .andV a b => fun env β d β' h B G0 H0 σ G H R W Q q => by
    simp only [evP] at h
    obtain ⟨⟨x, β1⟩, h1, h2⟩ := some_bind h
    obtain ⟨t, h3, h4⟩ := some_bind h2
    refine sndP hΓ a env β x β1 h1 R W _ fun v G1 H1 e1 b1 d1 => ⟨t, tru_snd (R.ext e1 b1) h3 (.inl d1), ?_⟩
    cases t with
    | true =>
      show semE Γ K b W σ H1 Q
      exact sndP hΓ b env β1 d β' h4 (R.ext e1 b1) W Q fun w G2 H2 e2 b2 d2 => q w G2 H2 (e1.trans e2 b2.out) b2 d2
    | false =>
      cases h4
      show Q v H1
      exact q v G1 H1 e1 b1 d1
  | .orV a b => fun env β d β' h B G0 H0 σ G H R W Q q => by
    simp only [evP] at h
    obtain ⟨⟨x, β1⟩, h1, h2⟩ := some_bind h
    obtain ⟨t, h3, h4⟩ := some_bind h2
    refine sndP hΓ a env β x β1 h1 R W _ fun v G1 H1 e1 b1 d1 => ⟨t, tru_snd (R.ext e1 b1) h3 (.inl d1), ?_⟩
    cases t with
    | true =>
      cases h4
      show Q v H1
      exact q v G1 H1 e1 b1 d1
    | false =>
      show semE Γ K b W σ H1 Q
      exact sndP hΓ b env β1 d β' h4 (R.ext e1 b1) W Q fun w G2 H2 e2 b2 d2 => q w G2 H2 (e1.trans e2 b2.out) b2 d2
  | .ite c a b => fun env β d β' h B G0 H0 σ G H R W Q q => by
    simp only [evP] at h
    obtain ⟨⟨t, β1⟩, h1, h2⟩ := some_bind h
    refine sndB hΓ c env β t β1 h1 R W _ fun G1 H1 e1 b1 => ?_
    cases t with
    | true =>
      show semE Γ K a W σ H1 Q
      exact sndP hΓ a env β1 d β' h2 (R.ext e1 b1) W Q fun w G2 H2 e2 b2 d2 => q w G2 H2 (e1.trans e2 b2.out) b2 d2
    | false =>
      show semE Γ K b W σ H1 Q
      exact sndP hΓ b env β1 d β' h2 (R.ext e1 b1) W Q fun w G2 H2 e2 b2 d2 => q w G2 H2 (e1.trans e2 b2.out) b2 d2
  | .cmp op a b => fun env β d β' h B G0 H0 σ G H R W Q q => by
    simp only [evP] at h
    obtain ⟨⟨x, β1⟩, h1, h2⟩ := some_bind h
    obtain ⟨⟨y, β2⟩, h3, h4⟩ := some_bind h2
    obtain ⟨z, h5, h6⟩ := some_pair h4
    cases h6
    refine pk_snd (sndP hΓ a) h1 R W _ fun v G1 H1 e1 b1 d1 => pk_snd (sndP hΓ b) h3 (R.ext e1 b1) W _ fun w G2 H2 e2 b2 d2 => ?_
    exact cmp_snd ((R.ext e1 b1).ext e2 b2) h5 (d1.mono e2.gg) d2 (q _ G2 H2 (e1.trans e2 b2.out) b2 (.bl _))
  | .chain o1 o2 a b c => fun env β d β' h B G0 H0 σ G H R W Q q => by
    simp only [evP] at h
    obtain ⟨⟨x, β1⟩, h1, h2⟩ := some_bind h
    obtain ⟨⟨y, β2⟩, h3, h4⟩ := some_bind h2
    obtain ⟨t, h5, h6⟩ := some_bind h4
    refine sndP hΓ a env β x β1 h1 R W _ fun v G1 H1 e1 b1 d1 => sndP hΓ b env β1 y β2 h3 (R.ext e1 b1) W _ fun w G2 H2 e2 b2 d2 => ?_
    have R2 := (R.ext e1 b1).ext e2 b2
    refine cmp_snd R2 h5 (.inl (d1.mono e2.gg)) (.inl d2) ⟨t, rfl, ?_⟩
    cases t with
    | true =>
      obtain ⟨⟨z, β3⟩, h7, h8⟩ := some_bind h6
      obtain ⟨k, h9, h10⟩ := some_pair h8
      cases h10
      show semE Γ K c W σ H2 _
      refine sndP hΓ c env β2 z β3 h7 R2 W _ fun u G3 H3 e3 b3 d3 => ?_
      exact cmp_snd (R2.ext e3 b3) h9 (.inl (d2.mono e3.gg)) (.inl d3) (q _ G3 H3 ((e1.trans e2 b2.out).trans e3 b3.out) b3 (.bl _))
    | false =>
      cases h6
      show Q _ H2
      exact q _ G2 H2 (e1.trans e2 b2.out) b2 (.bl _)
  | .call f es => fun env β d β' h B G0 H0 σ G H R W Q q => by
    simp only [evP] at h
    obtain ⟨⟨ds, β1⟩, h1, h2⟩ := some_bind h
    split at h2
    rotate_left
    · cases h2
    rename_i hf
    refine sndA hΓ es env β ds β1 h1 R W _ fun vs G' H' e b hd => ?_
    refine hΓ.fn f hf _ _ _ _ ⟨B, G', β1, ds, d, β', h2, e.gh, b, ?_, fun v G2 H2 e2 b2 d2 => q v G2 H2 (e.trans e2 b2.out) b2 d2⟩
    rw [List.append_nil]
    exact hd
  | .blt b es => fun env β d β' h B G0 H0 σ G H R W Q q => by
    simp only [evP] at h
    obtain ⟨⟨ds, β1⟩, h1, h2⟩ := some_bind h
    obtain ⟨z, h3, h4⟩ := some_pair h2
    cases h4
    refine sndV hΓ es env β ds β1 h1 R W _ fun vs G' H' e bb hd => ?_
    exact blt_snd (R.ext e bb) h3 hd fun v G2 H2 e2 b2 d2 => q v G2 H2 (e.trans e2 b2.out) b2 d2
  | .ix a b => fun env β d β' h B G0 H0 σ G H R W Q q => by
    simp only [evP] at h
    obtain ⟨⟨x, β1⟩, h1, h2⟩ := some_bind h
    obtain ⟨⟨y, β2⟩, h3, h4⟩ := some_bind h2
    obtain ⟨z, h5, h6⟩ := some_pair h4
    cases h6
    refine pk_snd (sndP hΓ a) h1 R W _ fun v G1 H1 e1 b1 d1 => sndP hΓ b env β1 y β2 h3 (R.ext e1 b1) W _ fun w G2 H2 e2 b2 d2 => ?_
    exact ix_snd ((R.ext e1 b1).ext e2 b2) h5 (d1.mono e2.gg) d2 fun u d3 => q u G2 H2 (e1.trans e2 b2.out) b2 d3
  | .slA a => fun env β d β' h B G0 H0 σ G H R W Q q => by
    simp only [evP] at h
    obtain ⟨⟨x, β1⟩, h1, h2⟩ := some_bind h
    obtain ⟨z, h3, h4⟩ := some_pair h2
    cases h4
    refine pk_snd (sndP hΓ a) h1 R W _ fun v G1 H1 e1 b1 d1 => ?_
    exact sl_snd (R.ext e1 b1) h3 d1 fun u G2 H2 e2 b2 d2 => q u G2 H2 (e1.trans e2 b2.out) b2 d2
  | .slF a lo => fun env β d β' h B G0 H0 σ G H R W Q q => by
    simp only [evP] at h
    obtain ⟨⟨x, β1⟩, h1, h2⟩ := some_bind h
    obtain ⟨⟨y, β2⟩, h3, h4⟩ := some_bind h2
    obtain ⟨i, h5, h6⟩ := some_bind h4
    obtain ⟨z, h7, h8⟩ := some_pair h6
    cases h8
    refine pk_snd (sndP hΓ a) h1 R W _ fun v G1 H1 e1 b1 d1 => sndP hΓ lo env β1 y β2 h3 (R.ext e1 b1) W _ fun w G2 H2 e2 b2 d2 => ?_
    have hy : y = .int i := by
      cases y <;> first | (cases h5; done) | (cases h5; rfl)
    subst hy
    cases d2
    exact ⟨i, rfl, sl_snd ((R.ext e1 b1).ext e2 b2) h7 (d1.mono e2.gg) fun u G3 H3 e3 b3 d3 => q u G3 H3 ((e1.trans e2 b2.out).trans e3 b3.out) b3 d3⟩
  | .slT a hi => fun env β d β' h B G0 H0 σ G H R W Q q => by
    simp only [evP] at h
    obtain ⟨⟨x, β1⟩, h1, h2⟩ := some_bind h
    obtain ⟨⟨y, β2⟩, h3, h4⟩ := some_bind h2
    obtain ⟨i, h5, h6⟩ := some_bind h4
    obtain ⟨z, h7, h8⟩ := some_pair h6
    cases h8
    refine pk_snd (sndP hΓ a) h1 R W _ fun v G1 H1 e1 b1 d1 => sndP hΓ hi env β1 y β2 h3 (R.ext e1 b1) W _ fun w G2 H2 e2 b2 d2 => ?_
    have hy : y = .int i := by
      cases y <;> first | (cases h5; done) | (cases h5; rfl)
    subst hy
    cases d2
    exact ⟨i, rfl, sl_snd ((R.ext e1 b1).ext e2 b2) h7 (d1.mono e2.gg) fun u G3 H3 e3 b3 d3 => q u G3 H3 ((e1.trans e2 b2.out).trans e3 b3.out) b3 d3⟩
  | .slFT a lo hi => fun env β d β' h B G0 H0 σ G H R W Q q => by
    simp only [evP] at h
    obtain ⟨⟨x, β1⟩, h1, h2⟩ := some_bind h
    obtain ⟨⟨y, β2⟩, h3, h4⟩ := some_bind h2
    obtain ⟨i, h5, h6⟩ := some_bind h4
    obtain ⟨⟨y2, β3⟩, h7, h8⟩ := some_bind h6
    obtain ⟨j, h9, h10⟩ := some_bind h8
    obtain ⟨z, h11, h12⟩ := some_pair h10
    cases h12
    have hy : y = .int i := by
      cases y <;> first | (cases h5; done) | (cases h5; rfl)
    have hy2 : y2 = .int j := by
      cases y2 <;> first | (cases h9; done) | (cases h9; rfl)
    subst hy hy2
    refine pk_snd (sndP hΓ a) h1 R W _ fun v G1 H1 e1 b1 d1 => sndP hΓ lo env β1 _ β2 h3 (R.ext e1 b1) W _ fun w G2 H2 e2 b2 d2 => ?_
    cases d2
    refine ⟨i, rfl, sndP hΓ hi env β2 _ β3 h7 ((R.ext e1 b1).ext e2 b2) W _ fun w3 G3 H3 e3 b3 d3 => ?_⟩
    cases d3
    exact ⟨j, rfl, sl_snd (((R.ext e1 b1).ext e2 b2).ext e3 b3) h11 ((d1.mono e2.gg).mono e3.gg) fun u G4 H4 e4 b4 d4 => q u G4 H4 (((e1.trans e2 b2.out).trans e3 b3.out).trans e4 b4.out) b4 d4⟩
  | .rev a => fun env β d β' h B G0 H0 σ G H R W Q q => by
    simp only [evP] at h
    obtain ⟨⟨x, β1⟩, h1, h2⟩ := some_bind h
    split at h2
    · rename_i xs hx
      have hx' : x = .lst xs := hx
      subst hx'
      cases h2
      refine pk_snd (sndP hΓ a) h1 R W _ fun v G1 H1 e1 b1 d1 => ?_
      obtain ⟨p, vs, rfl, g1, g2⟩ := d1.lst (R.ext e1 b1)
      exact ⟨p, vs, rfl, SqL.of g1, q_lst (R.ext e1 b1) g2.rev fun u G2 H2 e2 b2 d2 => q u G2 H2 (e1.trans e2 b2.out) b2 d2⟩
    · cases h2
  | .bm _ _ _ => fun env β d β' h => by simp [evP] at h
  | .lc elt tg it own => fun env β d β' h B G0 H0 σ G H R W Q q => by
    simp only [evP] at h
    split at h
    · rename_i hc
      obtain ⟨r, h1, h2⟩ := some_bind h
      split at h2
      · rename_i hl
        obtain ⟨⟨res, β1⟩, h3, h4⟩ := some_pair h2
        cases h4
        exact lc0_snd (sndI hΓ it) (sndP hΓ elt) hc h1 hl h3 R W Q (QO.of R.bb R.sub q)
      · cases h2
    · cases h
  | .lcIf elt tg it c own => fun env β d β' h B G0 H0 σ G H R W Q q => by
    simp only [evP] at h
    split at h
    · rename_i hc
      obtain ⟨r, h1, h2⟩ := some_bind h
      split at h2
      · rename_i hl
        obtain ⟨⟨res, β1⟩, h3, h4⟩ := some_pair h2
        cases h4
        exact lcIf_snd (sndI hΓ it) (sndB hΓ c) (sndP hΓ elt) hc h1 hl h3 R W Q (QO.of R.bb R.sub q)
      · cases h2
    · cases h
  | .star a => fun env β d β' h B G0 H0 σ G H R W Q q => by
    simp only [evP] at h
    cases h
  | .cold a => fun env β d β' h B G0 H0 σ G H R W Q q => by
    simp only [evP] at h
    obtain ⟨⟨x, β1⟩, h1, h2⟩ := some_bind h
    split at h2
    · rename_i hq
      cases h2
      obtain ⟨hβ, hfl⟩ := hq
      obtain ⟨gg, Rc⟩ := cold_rel R
      exact sndP hΓ a (coldE env) β d β' h1 Rc W Q fun v G' H' e b d' => cold_back R hβ (hfl.elim flat_lf id) e b d' q
    · cases h2
  | .lc2 elt tg it tg1 it1 own => fun env β d β' h B G0 H0 σ G H R W Q q => by
    simp only [evP] at h
    split at h
    rotate_left
    · cases h
    rename_i hc
    obtain ⟨r, h1, h2⟩ := some_bind h
    split at h2
    rotate_left
    · cases h2
    obtain ⟨⟨res, β1⟩, h3, h4⟩ := some_bind h2
    split at h4
    rotate_left
    · cases h4
    rename_i hl
    cases h4
    refine lc2_snd (tt := tYes) (sndI hΓ it) (sndI hΓ it1) hc h1 hl (fun e1 xs β => mapE (fun y β2 => (bindT tg1 y (wipeE e1 tg1.slots)).bind fun e2 => evP M elt e2 β2) xs β) (fun e1 y β => ((bindT tg1 y (wipeE e1 tg1.slots)).bind fun e2 => evP M elt e2 β).map fun z => (some z.1, z.2)) (fun _ _ => rfl) (fun e x xs β r hr => mapE_go _ x xs β r hr) (fun e1 x βx o β2 hs => ?_) h3 R W Q (QO.of R.bb R.sub q)
    obtain ⟨⟨y, βy⟩, s1, s2⟩ := some_pair hs
    obtain ⟨e2, s3, s4⟩ := some_bind s1
    cases s2
    refine ⟨e2, s3, fun R2 Qt Qe q1 q2 => ?_⟩
    show semE Γ K elt W0 _ _ Qe
    exact sndP hΓ elt e2 βx y βy s4 R2 W0 Qe fun v G3 H3 e3 b3 d3 => q2 y rfl v G3 H3 e3 b3 d3
  | .lc2If elt tg it tg1 it1 c own => fun env β d β' h B G0 H0 σ G H R W Q q => by
    simp only [evP] at h
    split at h
    rotate_left
    · cases h
    rename_i hc
    obtain ⟨r, h1, h2⟩ := some_bind h
    split at h2
    rotate_left
    · cases h2
    obtain ⟨⟨res, β1⟩, h3, h4⟩ := some_bind h2
    split at h4
    rotate_left
    · cases h4
    rename_i hl
    cases h4
    refine lc2_snd (tt := semB Γ K c W0) (sndI hΓ it) (sndI hΓ it1) hc h1 hl (fun e1 xs β => mapIf (fun y β2 => (bindT tg1 y (wipeE e1 tg1.slots)).bind fun e2 => evB M c e2 β2) (fun y β2 => (bindT tg1 y (wipeE e1 tg1.slots)).bind fun e2 => evP M elt e2 β2) xs β) (fun e1 y β => stepIf (fun y β2 => (bindT tg1 y (wipeE e1 tg1.slots)).bind fun e2 => evB M c e2 β2) (fun y β2 => (bindT tg1 y (wipeE e1 tg1.slots)).bind fun e2 => evP M elt e2 β2) y β) (fun _ _ => rfl) (fun e x xs β r hr => mapIf_go _ _ x xs β r hr) (fun e1 x βx o β2 hs => ?_) h3 R W Q (QO.of R.bb R.sub q)
    obtain ⟨⟨b, βb⟩, s1, s2⟩ := some_bind hs
    obtain ⟨e2, s3, s4⟩ := some_bind s1
    refine ⟨e2, s3, fun R2 Qt Qe q1 q2 => ?_⟩
    refine sndB hΓ c e2 βx b βb s4 R2 W0 _ fun G3 H3 e3 b3 => ?_
    cases b with
    | true =>
      obtain ⟨⟨y, βy⟩, s5, s6⟩ := some_pair (show ((bindT tg1 x (wipeE e1 tg1.slots)).bind fun e2 => evP M elt e2 βb).map (fun z => (some z.1, z.2)) = some (o, β2) from s2)
      rw [s3] at s5
      have s7 : evP M elt e2 βb = some (y, βy) := s5
      cases s6
      show semE Γ K elt W0 _ _ Qe
      exact sndP hΓ elt e2 βb y βy s7 (R2.ext e3 b3) W0 Qe fun v G4 H4 e4 b4 d4 => q2 y rfl v G4 H4 (e3.trans e4 b4.out) b4 d4
    | false =>
      cases s2
      show Qt _
      exact q1 rfl G3 H3 e3 b3
  | .ssc elt tg it own => fun env β d β' h B G0 H0 σ G H R W Q q => by
    simp only [evP] at h
    split at h
    rotate_left
    · cases h
    rename_i hc
    obtain ⟨r, h1, h2⟩ := some_bind h
    split at h2
    rotate_left
    · cases h2
    obtain ⟨⟨res, β1⟩, h3, h4⟩ := some_bind h2
    obtain ⟨ns, h5, h6⟩ := some_bind (show (intsD res).bind (fun ns => if ns.length ≤ 1000 ∨ (ns.length ≤ 100000 ∧ (ddI ns).length ≤ 4000) then some (D.lst ((sortI (ddI ns)).map .int), β1) else none) = some (d, β') from h4)
    split at h6
    rotate_left
    · cases h6
    rename_i hl
    cases h6
    exact ssc_snd (sndI hΓ it) (sndP hΓ elt) hc h1 h3 h5 hl R W Q (QO.of R.bb R.sub q)
  | .prim p es => fun env β d β' h B G0 H0 σ G H R W Q q => by
    simp only [evP] at h
    obtain ⟨⟨ds, β1⟩, h1, h2⟩ := some_bind h
    refine sndV hΓ es env β ds β1 h1 R W _ fun vs G' H' e b hd => ?_
    exact pr_snd hΓ (R.ext e b) h2 hd fun v G2 H2 e2 b2 d2 => q v G2 H2 (e.trans e2 b2.out) b2 d2
  | .meth c nm i o es => fun env β d β' h B G0 H0 σ G H R W Q q => by
    simp only [evP] at h
    obtain ⟨⟨x, β1⟩, h1, h2⟩ := some_bind h
    split at h2
    rotate_left
    · cases h2
    rename_i c' fs hx
    obtain rfl : x = .obj c' fs := hx
    split at h2
    rotate_left
    · cases h2
    rename_i hf
    obtain ⟨rfl, hi⟩ := hf
    obtain ⟨⟨ds, β2⟩, h3, h4⟩ := some_bind h2
    refine sndP hΓ o env β _ β1 h1 R W _ fun v G1 H1 e1 b1 d1 => ?_
    cases d1 with
    | obj hc g1 g2 g3 g4 =>
      refine ⟨_, _, _, rfl, e1.gh _ _ g1, sndA hΓ es env β1 ds β2 h3 (R.ext e1 b1) W _ fun vs G2 H2 e2 b2 d2 => ?_⟩
      exact hΓ.fn i hi _ _ _ _ ⟨B, G2, β2, _, d, β', h4, e2.gh, b2, .cons (.obj hc (e2.gg _ _ g1) (e2.gg _ _ g2) g3 (g4.mono e2.gg)) d2, fun v G3 H3 e3 b3 d3 => q v G3 H3 ((e1.trans e2 b2.out).trans e3 b3.out) b3 d3⟩
  | .make c i es df => fun env β d β' h B G0 H0 σ G H R W Q q => by
    simp only [evP] at h
    obtain ⟨⟨ds, β1⟩, h1, h2⟩ := some_bind h
    split at h2
    rotate_left
    · cases h2
    rename_i hi
    obtain ⟨⟨r, β2⟩, h3, h4⟩ := some_bind h2
    split at h4
    rotate_left
    · cases h4
    rename_i c' fs hr
    obtain rfl : r = .obj c' fs := hr
    split at h4
    rotate_left
    · cases h4
    rename_i hcc
    subst hcc
    cases h4
    intro hc hdf
    refine sndA hΓ es env β ds β1 h1 R W _ fun vs G1 H1 e1 b1 d1 => ?_
    exact make_snd hΓ hi hc hdf (R.ext e1 b1) h3 d1 fun v G2 H2 e2 b2 d2 => q v G2 H2 (e1.trans e2 b2.out) b2 d2
theorem sndA (hΓ : HG K M Γ) : ∀ cs : List CE, SndA K M Γ cs
  | [] => fun env β ds β' h B G0 H0 σ G H R W Q q => by
    simp only [evA] at h
    cases h
    exact q [] G H (Ext.refl R.sub) R.bag .nil
  | c :: cs => by
    cases c with
    | star a => exact star_snd (sndP hΓ a) (sndA hΓ cs)
    | _ => exact cons_snd (by intro a z; cases z) (sndP hΓ _) (sndA hΓ cs)
theorem sndV (hΓ : HG K M Γ) : ∀ cs : List CE, SndV K M Γ cs
  | [] => fun env β ds β' h B G0 H0 σ G H R W Q q => by
    simp only [evV] at h
    cases h
    exact q [] G H (Ext.refl R.sub) R.bag .nil
  | c :: cs => fun env β ds β' h B G0 H0 σ G H R W Q q => by
    simp only [evV] at h
    obtain ⟨⟨x, β1⟩, h1, h2⟩ := some_bind h
    have hn : ∀ a, c ≠ .star a := by
      rintro a rfl
      unfold pk peek at h1
      simp only [evP] at h1
      cases h1
    rw [semA_cons hn]
    obtain ⟨⟨ys, β2⟩, h3, h4⟩ := some_pair h2
    cases h4
    refine pk_snd (sndP hΓ c) h1 R W _ fun v G1 H1 e1 b1 d1 => sndV hΓ cs env β1 ys β2 h3 (R.ext e1 b1) W _ fun vs G2 H2 e2 b2 d2 => ?_
    exact q (v :: vs) G2 H2 (e1.trans e2 b2.out) b2 (.cons (d1.mono e2.gg) d2)
theorem sndB (hΓ : HG K M Γ) : ∀ c : CB, SndB K M Γ c
  | .not a => fun env β d β' h B G0 H0 σ G H R W Q q => by
    simp only [evB] at h
    obtain ⟨⟨t, β1⟩, h1, h2⟩ := some_pair h
    cases h2
    exact sndB hΓ a env β t β1 h1 R W _ fun G1 H1 e1 b1 => q G1 H1 e1 b1
  | .and a b => fun env β d β' h B G0 H0 σ G H R W Q q => by
    simp only [evB] at h
    obtain ⟨⟨t, β1⟩, h1, h2⟩ := some_bind h
    refine sndB hΓ a env β t β1 h1 R W _ fun G1 H1 e1 b1 => ?_
    cases t with
    | true =>
      show semB Γ K b W σ H1 Q
      exact sndB hΓ b env β1 d β' h2 (R.ext e1 b1) W Q fun G2 H2 e2 b2 => q G2 H2 (e1.trans e2 b2.out) b2
    | false =>
      cases h2
      exact q G1 H1 e1 b1
  | .or a b => fun env β d β' h B G0 H0 σ G H R W Q q => by
    simp only [evB] at h
    obtain ⟨⟨t, β1⟩, h1, h2⟩ := some_bind h
    refine sndB hΓ a env β t β1 h1 R W _ fun G1 H1 e1 b1 => ?_
    cases t with
    | true =>
      cases h2
      exact q G1 H1 e1 b1
    | false =>
      show semB Γ K b W σ H1 Q
      exact sndB hΓ b env β1 d β' h2 (R.ext e1 b1) W Q fun G2 H2 e2 b2 => q G2 H2 (e1.trans e2 b2.out) b2
  | .cmp op a b => fun env β d β' h B G0 H0 σ G H R W Q q => by
    simp only [evB] at h
    obtain ⟨⟨x, β1⟩, h1, h2⟩ := some_bind h
    obtain ⟨⟨y, β2⟩, h3, h4⟩ := some_bind h2
    obtain ⟨z, h5, h6⟩ := some_pair h4
    cases h6
    refine pk_snd (sndP hΓ a) h1 R W _ fun v G1 H1 e1 b1 d1 => pk_snd (sndP hΓ b) h3 (R.ext e1 b1) W _ fun w G2 H2 e2 b2 d2 => ?_
    exact cmp_snd ((R.ext e1 b1).ext e2 b2) h5 (d1.mono e2.gg) d2 ⟨_, rfl, q G2 H2 (e1.trans e2 b2.out) b2⟩
  | .chain o1 o2 a b c => fun env β d β' h B G0 H0 σ G H R W Q q => by
    simp only [evB] at h
    obtain ⟨⟨x, β1⟩, h1, h2⟩ := some_bind h
    obtain ⟨⟨y, β2⟩, h3, h4⟩ := some_bind h2
    obtain ⟨t, h5, h6⟩ := some_bind h4
    refine sndP hΓ a env β x β1 h1 R W _ fun v G1 H1 e1 b1 d1 => sndP hΓ b env β1 y β2 h3 (R.ext e1 b1) W _ fun w G2 H2 e2 b2 d2 => ?_
    have R2 := (R.ext e1 b1).ext e2 b2
    refine cmp_snd R2 h5 (.inl (d1.mono e2.gg)) (.inl d2) ⟨t, rfl, ?_⟩
    cases t with
    | true =>
      obtain ⟨⟨z, β3⟩, h7, h8⟩ := some_bind h6
      obtain ⟨k, h9, h10⟩ := some_pair h8
      cases h10
      show semE Γ K c W σ H2 _
      refine sndP hΓ c env β2 z β3 h7 R2 W _ fun u G3 H3 e3 b3 d3 => ?_
      exact cmp_snd (R2.ext e3 b3) h9 (.inl (d2.mono e3.gg)) (.inl d3) ⟨_, rfl, q G3 H3 ((e1.trans e2 b2.out).trans e3 b3.out) b3⟩
    | false =>
      cases h6
      exact ⟨_, rfl, q G2 H2 (e1.trans e2 b2.out) b2⟩
  | .tru a => fun env β d β' h B G0 H0 σ G H R W Q q => by
    simp only [evB] at h
    obtain ⟨⟨x, β1⟩, h1, h2⟩ := some_bind h
    obtain ⟨t, h3, h4⟩ := some_pair h2
    cases h4
    exact pk_snd (sndP hΓ a) h1 R W _ fun v G1 H1 e1 b1 d1 => ⟨d, tru_snd (R.ext e1 b1) h3 d1, q G1 H1 e1 b1⟩
theorem sndI (hΓ : HG K M Γ) : ∀ c : CI, SndI K M Γ c
  | .seq a => fun env β ds β' h B G0 H0 σ G H R W Rk q => by
    simp only [evI] at h
    obtain ⟨⟨x, β1⟩, h1, h2⟩ := some_bind h
    split at h2
    · rename_i hx
      cases h2
      have hx' : x = .lst ds := hx
      subst hx'
      refine .inl (pk_sndN (sndP hΓ a) h1 R W _ fun v G1 H1 e1 b1 d1 dn => ?_)
      obtain ⟨p, vs, rfl, g1, g2⟩ := d1.lst (R.ext e1 b1)
      refine ⟨p, rfl, ⟨vs, SqL.of g1⟩, q (Itl K p) G1 H1 e1 b1 (fun β2 G2 H2 s2 R2 => ?_) (fun hn G2 H2 s2 s3 => ?_)⟩
      · obtain ⟨p', ws, e, k1, k2⟩ := (d1.mono s2).lst R2
        cases e
        exact .lst k1 k2
      · cases dn (Option.isNone_iff_eq_none.mp hn) with
        | lst k1 k2 => exact .lst (s3 _ _ (s2 _ _ k1)) (k2.mono s2)
    · rename_i hx
      cases h2
      have hx' : x = .tup ds := hx
      subst hx'
      refine .inr (.inl (pk_snd (sndP hΓ a) h1 R W _ fun v G1 H1 e1 b1 d1 => ?_))
      cases d1.den (by intro _ z; cases z) with
      | tup s t =>
        exact ⟨_, rfl, ⟨_, sub_t e1.gh s⟩, q (Itt K _) G1 H1 e1 b1 (fun β2 G2 H2 s2 R2 => .tup (sub_t (s2.trans R2.sub) s) (t.mono s2)) (fun hn G2 H2 s2 s3 => .tup (sub_t (s2.trans s3) s) (t.mono s2))⟩
    · cases h2
  | .rng1 a => fun env β ds β' h B G0 H0 σ G H R W Rk q => by
    simp only [evI] at h
    obtain ⟨⟨x, β1⟩, h1, h2⟩ := some_bind h
    split at h2
    · rename_i j hx
      have hx' : x = .int j := hx
      subst hx'
      cases h2
      refine sndP hΓ a env β _ _ h1 R W _ fun v G1 H1 e1 b1 d1 => ?_
      cases d1
      exact ⟨j, rfl, q _ G1 H1 e1 b1 (fun _ _ _ _ _ => .rng 0 _) (fun _ _ _ _ _ => .rng 0 _)⟩
    · cases h2
  | .rng2 a b => fun env β ds β' h B G0 H0 σ G H R W Rk q => by
    simp only [evI] at h
    obtain ⟨⟨x, β1⟩, h1, h2⟩ := some_bind h
    obtain ⟨⟨y, β2⟩, h3, h4⟩ := some_bind h2
    split at h4
    · rename_i i j hx hy
      have hx' : x = .int i := hx
      have hy' : y = .int j := hy
      subst hx' hy'
      cases h4
      refine sndP hΓ a env β _ _ h1 R W _ fun v G1 H1 e1 b1 d1 => sndP hΓ b env β1 _ _ h3 (R.ext e1 b1) W _ fun w G2 H2 e2 b2 d2 => ?_
      cases d1
      cases d2
      exact ⟨i, j, rfl, q _ G2 H2 (e1.trans e2 b2.out) b2 (fun _ _ _ _ _ => .rng i _) (fun _ _ _ _ _ => .rng i _)⟩
    · cases h4
  | .enum a => fun env β ds β' h B G0 H0 σ G H R W Rk q => by
    simp only [evI] at h
    obtain ⟨⟨x, β1⟩, h1, h2⟩ := some_bind h
    split at h2
    · rename_i xs hx
      have hx' : x = .lst xs := hx
      subst hx'
      cases h2
      refine .inl (pk_sndN (sndP hΓ a) h1 R W _ fun v G1 H1 e1 b1 d1 dn => ?_)
      obtain ⟨p, vs, rfl, g1, g2⟩ := d1.lst (R.ext e1 b1)
      refine ⟨p, vs, rfl, SqL.of g1, q (Ite K p) G1 H1 e1 b1 (fun β2 G2 H2 s2 R2 => ?_) (fun hn G2 H2 s2 s3 => ?_)⟩
      · obtain ⟨p', ws, e, k1, k2⟩ := (d1.mono s2).lst R2
        cases e
        exact .enum k1 k2
      · cases dn (Option.isNone_iff_eq_none.mp hn) with
        | lst k1 k2 => exact .enum (s3 _ _ (s2 _ _ k1)) (k2.mono s2)
    · rename_i xs hx
      have hx' : x = .tup xs := hx
      subst hx'
      cases h2
      refine .inr (pk_snd (sndP hΓ a) h1 R W _ fun v G1 H1 e1 b1 d1 => ?_)
      cases d1.den (by intro _ z; cases z) with
      | tup s t =>
        exact ⟨_, _, rfl, sub_t e1.gh s, q (Iteu K _) G1 H1 e1 b1 (fun β2 G2 H2 s2 R2 => .enumT (sub_t (s2.trans R2.sub) s) (t.mono s2)) (fun hn G2 H2 s2 s3 => .enumT (sub_t (s2.trans s3) s) (t.mono s2))⟩
    · cases h2
  | .zip a b => fun env β ds β' h B G0 H0 σ G H R W Rk q => by
    simp only [evI] at h
    obtain ⟨⟨x, β1⟩, h1, h2⟩ := some_bind h
    obtain ⟨⟨y, β2⟩, h3, h4⟩ := some_bind h2
    split at h4
    · rename_i xs ys hx hy
      have hx' : x = .lst xs := hx
      have hy' : y = .lst ys := hy
      subst hx' hy'
      cases h4
      refine pk_sndN (sndP hΓ a) h1 R W _ fun v G1 H1 e1 b1 d1 dn => pk_sndN (sndP hΓ b) h3 (R.ext e1 b1) W _ fun w G2 H2 e2 b2 d2 dn2 => ?_
      have R2 := (R.ext e1 b1).ext e2 b2
      obtain ⟨p, vs, rfl, g1, g2⟩ := (d1.mono e2.gg).lst R2
      obtain ⟨p2, ws, rfl, g3, g4⟩ := d2.lst R2
      refine ⟨p, p2, vs, ws, rfl, SqL.of g1, SqL.of g3, q (Itz K p p2) G2 H2 (e1.trans e2 b2.out) b2 (fun β3 G3 H3 s3 R3 => ?_) (fun hn G3 H3 s3 s4 => ?_)⟩
      · obtain ⟨p', us, e, k1, k2⟩ := ((d1.mono e2.gg).mono s3).lst R3
        obtain ⟨p'', us2, e', k3, k4⟩ := (d2.mono s3).lst R3
        cases e
        cases e'
        exact .zip k1 k2 k3 k4
      · obtain ⟨n1, n2⟩ := and2 (show ((peek env a).isNone && (peek env b).isNone) = true from hn)
        cases dn (Option.isNone_iff_eq_none.mp n1) with
        | lst k1 k2 =>
          cases dn2 (Option.isNone_iff_eq_none.mp n2) with
          | lst k3 k4 => exact .zip (s4 _ _ (s3 _ _ (e2.gg _ _ k1))) (k2.mono (e2.gg.trans s3)) (s4 _ _ (s3 _ _ k3)) (k4.mono s3)
    · cases h4
  | .zip3 a b c => fun env β ds β' h B G0 H0 σ G H R W Rk q => by
    simp only [evI] at h
    obtain ⟨⟨x, β1⟩, h1, h2⟩ := some_bind h
    obtain ⟨⟨y, β2⟩, h3, h4⟩ := some_bind h2
    obtain ⟨⟨z, β3⟩, h5, h6⟩ := some_bind h4
    split at h6
    · rename_i xs ys zs hx hy hz
      have hx' : x = .lst xs := hx
      have hy' : y = .lst ys := hy
      have hz' : z = .lst zs := hz
      subst hx' hy' hz'
      cases h6
      refine pk_sndN (sndP hΓ a) h1 R W _ fun v G1 H1 e1 b1 d1 dn => pk_sndN (sndP hΓ b) h3 (R.ext e1 b1) W _ fun w G2 H2 e2 b2 d2 dn2 => pk_sndN (sndP hΓ c) h5 ((R.ext e1 b1).ext e2 b2) W _ fun u G3 H3 e3 b3 d3 dn3 => ?_
      have R3 := ((R.ext e1 b1).ext e2 b2).ext e3 b3
      have e12 := e1.trans e2 b2.out
      obtain ⟨p, vs, rfl, g1, g2⟩ := (d1.mono (e2.gg.trans e3.gg)).lst R3
      obtain ⟨p2, ws, rfl, g3, g4⟩ := (d2.mono e3.gg).lst R3
      obtain ⟨p3, us, rfl, g5, g6⟩ := d3.lst R3
      refine ⟨p, p2, p3, vs, ws, us, rfl, SqL.of g1, SqL.of g3, SqL.of g5, q (Itz3 K p p2 p3) G3 H3 (e12.trans e3 b3.out) b3 (fun β4 G4 H4 s4 R4 => ?_) (fun hn G4 H4 s4 s5 => ?_)⟩
      · obtain ⟨_, us1, q1, k1, k2⟩ := ((d1.mono (e2.gg.trans e3.gg)).mono s4).lst R4
        obtain ⟨_, us2, q2, k3, k4⟩ := ((d2.mono e3.gg).mono s4).lst R4
        obtain ⟨_, us3, q3, k5, k6⟩ := (d3.mono s4).lst R4
        cases q1
        cases q2
        cases q3
        exact .zip3 k1 k2 k3 k4 k5 k6
      · obtain ⟨n1, n2⟩ := and2 (show ((peek env a).isNone && ((peek env b).isNone && (peek env c).isNone)) = true from hn)
        obtain ⟨n2, n3⟩ := and2 n2
        cases dn (Option.isNone_iff_eq_none.mp n1) with
        | lst k1 k2 =>
          cases dn2 (Option.isNone_iff_eq_none.mp n2) with
          | lst k3 k4 =>
            cases dn3 (Option.isNone_iff_eq_none.mp n3) with
            | lst k5 k6 => exact .zip3 (s5 _ _ (s4 _ _ (e3.gg _ _ (e2.gg _ _ k1)))) (k2.mono ((e2.gg.trans e3.gg).trans s4)) (s5 _ _ (s4 _ _ (e3.gg _ _ k3))) (k4.mono (e3.gg.trans s4)) (s5 _ _ (s4 _ _ k5)) (k6.mono s4)
    · cases h6
  | .rvs a => fun env β ds β' h B G0 H0 σ G H R W Rk q => by
    simp only [evI] at h
    obtain ⟨⟨x, β1⟩, h1, h2⟩ := some_bind h
    split at h2
    · rename_i xs hx
      have hx' : x = .lst xs := hx
      subst hx'
      cases h2
      refine pk_sndN (sndP hΓ a) h1 R W _ fun v G1 H1 e1 b1 d1 dn => ?_
      obtain ⟨p, vs, rfl, g1, g2⟩ := d1.lst (R.ext e1 b1)
      refine ⟨p, vs, rfl, SqL.of g1, q (Itv K p vs.length) G1 H1 e1 b1 (fun β2 G2 H2 s2 R2 => ?_) (fun hn G2 H2 s2 s3 => ?_)⟩
      · obtain ⟨p', ws, e, k1, k2⟩ := (d1.mono s2).lst R2
        cases e
        exact .rvs k1 k2 g2.length
      · cases dn (Option.isNone_iff_eq_none.mp hn) with
        | lst k1 k2 => exact .rvs (s3 _ _ (s2 _ _ k1)) (k2.mono s2) g2.length
    · cases h2
end
end
end LT

namespace LT
open PySem PySem.Spec PyProof.Rows L2
section
variable {K : PySem.W.Frag} {M : Nat → Mir} {Γ : Nat → Sp}
theorem hnone {B : Addr} {G H G1 H1 : Hp} {β : BS} (e : Ext B G H G1 H1) (b : BagAt B G1 H1 β) (hB : ∃ o, H B = some o) {p : Addr} (h : H1 p = none) : H p = none := by
  cases q : H p with
  | none => rfl
  | some o =>
    by_cases z : p = B
    · obtain ⟨C, k, _⟩ := b.at_
      rw [← z, h] at k
      cases k
    · rw [e.hh p o q z] at h
      cases h
theorem q_own {B : Addr} {G0 H0 G H G1 H1 : Hp} {σ : L2.St} {env : Env} {β β' : BS} {xs : List D} {vs : List V} {Q : VK} (R : Rel K B G0 H0 σ env β G H) (e : Ext B G H G1 H1) (b : BagAt B G1 H1 β') (hd : DenAll K B G1 vs xs) (q : QO K B G H β' xs Q) : ∀ p, H1 p = none → Q (.ref p) (upd H1 p (.lst vs)) := fun p hp =>
  q p vs G1 _ (e.trans (Ext.newU e.gh hp) b.out) (b.newU hp) (hnone e b R.bb hp) upd_same (gnone e.gh hp) hd
theorem pk_nostar {e : CE} {env : Env} {β β1 : BS} {r : D × BS} (h : pk env e (evP M e env β) β1 = some r) : ∀ a, e ≠ .star a := by
  rintro a rfl
  unfold pk peek at h
  simp only [evP] at h
  cases h
theorem sset_inv {ds : List D} {β β' : BS} {r : D} (h : dPr M .sset ds β = some (r, β')) : ∃ ys ns, ds = [.lst ys] ∧ intsD ys = some ns ∧ (ns.length ≤ 1000 ∨ (ns.length ≤ 100000 ∧ (ddI ns).length ≤ 4000)) ∧ r = .lst ((sortI (ddI ns)).map .int) ∧ β' = β := by
  match ds, h with
  | [.lst ys], h =>
    obtain ⟨ns, h1, h2⟩ := some_bind (show (intsD ys).bind (fun ns => if ns.length ≤ 1000 ∨ (ns.length ≤ 100000 ∧ (ddI ns).length ≤ 4000) then some (D.lst ((sortI (ddI ns)).map .int), β) else none) = some (r, β') from h)
    split at h2
    · rename_i hl
      cases h2
      exact ⟨ys, ns, rfl, h1, hl, rfl, rfl⟩
    · cases h2
  | [], h => cases h
  | x :: y :: t, h => cases x <;> cases h
  | [.non], h => cases h
  | [.bl _], h => cases h
  | [.int _], h => cases h
  | [.str _], h => cases h
  | [.tup _], h => cases h
  | [.dct _], h => cases h
  | [.obj _ _], h => cases h
  | [.bag], h => cases h
theorem sndF (hΓ : HG K M Γ) (c : CE) {env : Env} {β : BS} {xs : List D} {β' : BS} (h : evF M c env β = some (xs, β')) {B : Addr} {G0 H0 : Hp} {σ : L2.St} {G H : Hp} (R : Rel K B G0 H0 σ env β G H) (W : WX) (Q : VK) (q : QO K B G H β' xs Q) : semE Γ K c W σ H Q := by
  unfold evF at h
  split at h
  · obtain ⟨⟨ds, β1⟩, h1, h2⟩ := some_bind h
    split at h2
    · rename_i hl
      cases h2
      exact sndA hΓ _ _ β xs _ h1 R W _ fun vs G' H' e b hd => ⟨lineM (by rw [hd.length]; exact hl), q_own R e b hd q⟩
    · cases h2
  · obtain ⟨⟨x, β1⟩, h1, h2⟩ := some_bind h
    split at h2
    · rename_i hx
      cases h2
      have hx' : x = .lst xs := hx
      subst hx'
      show semA Γ K [_] W σ H _
      rw [semA_cons (pk_nostar h1)]
      refine pk_snd (sndP hΓ _) h1 R W _ fun v G1 H1 e1 b1 d1 => ?_
      obtain ⟨p, vs, rfl, g1, g2⟩ := d1.lst (R.ext e1 b1)
      exact ⟨p, vs, rfl, .inl (SqL.of g1), q_own R e1 b1 g2 q⟩
    · rename_i hx
      cases h2
      have hx' : x = .tup xs := hx
      subst hx'
      show semA Γ K [_] W σ H _
      rw [semA_cons (pk_nostar h1)]
      refine pk_snd (sndP hΓ _) h1 R W _ fun v G1 H1 e1 b1 d1 => ?_
      cases d1.den (by intro _ z; cases z) with
      | tup s t => exact ⟨_, _, rfl, .inr (sub_t e1.gh s), q_own R e1 b1 t q⟩
    · cases h2
  · obtain ⟨⟨x, β1⟩, h1, h2⟩ := some_bind h
    obtain ⟨⟨y, β2⟩, h3, h4⟩ := some_bind h2
    split at h4
    · rename_i ws zs hx hy
      have hx' : x = .lst ws := hx
      have hy' : y = .lst zs := hy
      subst hx' hy'
      split at h4
      · rename_i hl
        cases h4
        refine pk_snd (sndP hΓ _) h1 R W _ fun v G1 H1 e1 b1 d1 => pk_snd (sndP hΓ _) h3 (R.ext e1 b1) W _ fun w G2 H2 e2 b2 d2 => ?_
        have R2 := (R.ext e1 b1).ext e2 b2
        obtain ⟨p, vs, rfl, g1, g2⟩ := (d1.mono e2.gg).lst R2
        obtain ⟨p2, vs2, rfl, g3, g4⟩ := d2.lst R2
        exact .inr (.inl ⟨p, p2, vs, vs2, rfl, rfl, g1, g3, lineM (by rw [g2.length, g4.length]; exact hl), q_own R (e1.trans e2 b2.out) b2 (g2.app g4) q⟩)
      · cases h4
    · cases h4
  · split at h
    · rename_i hc
      obtain ⟨r, h1, h2⟩ := some_bind h
      split at h2
      · rename_i hl
        exact lc0_snd (sndI hΓ _) (sndP hΓ _) hc h1 hl h2 R W Q q
      · cases h2
    · cases h
  · split at h
    · rename_i hc
      obtain ⟨r, h1, h2⟩ := some_bind h
      split at h2
      · rename_i hl
        exact lcIf_snd (sndI hΓ _) (sndB hΓ _) (sndP hΓ _) hc h1 hl h2 R W Q q
      · cases h2
    · cases h
  · split at h
    rotate_left
    · cases h
    rename_i hc
    obtain ⟨r, h1, h2⟩ := some_bind h
    split at h2
    rotate_left
    · cases h2
    obtain ⟨⟨res, β1⟩, h3, h4⟩ := some_bind h2
    obtain ⟨⟨z, β2⟩, h7, h8⟩ := some_bind h4
    obtain ⟨ns, h5, h6⟩ := some_bind (show (intsD res).bind (fun ns => if ns.length ≤ 1000 ∨ (ns.length ≤ 100000 ∧ (ddI ns).length ≤ 4000) then some (D.lst ((sortI (ddI ns)).map .int), β1) else none) = some (z, β2) from h7)
    split at h6
    rotate_left
    · cases h6
    rename_i hl
    cases h6
    cases h8
    exact ssc_snd (sndI hΓ _) (sndP hΓ _) hc h1 h3 h5 hl R W Q q
  · obtain ⟨⟨ds, β1⟩, h1, h2⟩ := some_bind h
    obtain ⟨⟨r, β2⟩, h3, h4⟩ := some_bind h2
    split at h4
    rotate_left
    · cases h4
    rename_i ys hr
    cases h4
    have hr' : r = .lst xs := hr
    subst hr'
    refine sndV hΓ _ env β ds β1 h1 R W _ fun vs G1 H1 e1 b1 d1 => ?_
    have R1 := R.ext e1 b1
    obtain ⟨ys, ns, rfl, k1, hl, k2, k3⟩ := sset_inv h3
    cases k2
    cases k3
    obtain ⟨v, rfl, dv⟩ := d1.one
    obtain ⟨p, vs, rfl, g1, g2⟩ := dv.lst R1
    rw [g2.ints k1] at g1
    refine ⟨p, ns, rfl, SqL.of g1, few_ok hl, fun o a b ms ha hb m1 m2 => ?_⟩
    obtain ⟨s1, s2⟩ := sset_asc ns
    rw [asc_same m1 s1 fun k => (m2 k).trans (s2 k).symm]
    have e2 : Ext B G H G1 (upd H1 a o) := e1.trans (Ext.newU R1.sub ha) b1.out
    have b2 : BagAt B G1 (upd H1 a o) _ := b1.newU ha
    exact q_own R e2 b2 (denInts _) q b hb
  · obtain ⟨⟨ds, β1⟩, h1, h2⟩ := some_bind h
    split at h2
    rotate_left
    · cases h2
    rename_i hf
    obtain ⟨⟨r, β2⟩, h3, h4⟩ := some_bind h2
    split at h4
    rotate_left
    · cases h4
    rename_i ys hr
    cases h4
    have hr' : r = .lst xs := hr
    subst hr'
    refine sndA hΓ _ env β ds β1 h1 R W _ fun vs G1 H1 e1 b1 d1 => ?_
    refine hΓ.fr _ hf _ _ _ _ ⟨B, G1, β1, ds, _, _, h3, e1.gh, b1, ?_, fun ys ey p ws G2 H2 e2 b2 hp hH hG hd => ?_, fun z => by cases z⟩
    · rw [List.append_nil]
      exact d1
    · cases ey
      exact q p ws G2 H2 (e1.trans e2 b2.out) b2 (hnone e1 b1 R.bb hp) hH hG hd
  · obtain ⟨⟨x, β1⟩, h1, h2⟩ := some_bind h
    split at h2
    rotate_left
    · cases h2
    rename_i c' fs hx
    obtain rfl : x = .obj c' fs := hx
    split at h2
    rotate_left
    · cases h2
    rename_i hf
    obtain ⟨rfl, hi⟩ := hf
    obtain ⟨⟨ds, β2⟩, h3, h4⟩ := some_bind h2
    obtain ⟨⟨r, β3⟩, h5, h6⟩ := some_bind h4
    split at h6
    rotate_left
    · cases h6
    rename_i ys hr
    cases h6
    have hr' : r = .lst xs := hr
    subst hr'
    refine sndP hΓ _ env β _ β1 h1 R W _ fun v G1 H1 e1 b1 d1 => ?_
    cases d1 with
    | obj hc g1 g2 g3 g4 =>
      refine ⟨_, _, _, rfl, e1.gh _ _ g1, sndA hΓ _ env β1 ds β2 h3 (R.ext e1 b1) W _ fun vs G2 H2 e2 b2 d2 => ?_⟩
      have e12 := e1.trans e2 b2.out
      refine hΓ.fr _ hi _ _ _ _ ⟨B, G2, β2, _, _, _, h5, e2.gh, b2, .cons (.obj hc (e2.gg _ _ g1) (e2.gg _ _ g2) g3 (g4.mono e2.gg)) d2, fun ys ey p ws G3 H3 e3 b3 hp hH hG hd => ?_, fun z => by cases z⟩
      cases ey
      exact q p ws G3 H3 (e12.trans e3 b3.out) b3 (hnone e12 b2 R.bb hp) hH hG hd
  · cases h
theorem sndOwn (hΓ : HG K M Γ) (c : CE) {env : Env} {β : BS} {s : Sl} {β' : BS} (h : evOwn M c env β = some (s, β')) {B : Addr} {G0 H0 : Hp} {σ : L2.St} {G H : Hp} (R : Rel K B G0 H0 σ env β G H) (W : WX) (Q : VK)
    (q : ∀ xs, s = .own xs → QO K B G H β' xs Q) (q0 : s = .d .non → ∀ G' H', Ext B G H G' H' → BagAt B G' H' β' → Q .non H') : semE Γ K c W σ H Q := by
  unfold evOwn at h
  split at h
  · obtain ⟨⟨ds, β1⟩, h1, h2⟩ := some_bind h
    split at h2
    rotate_left
    · cases h2
    rename_i hf
    obtain ⟨⟨r, β2⟩, h3, h4⟩ := some_bind h2
    refine sndA hΓ _ env β ds β1 h1 R W _ fun vs G1 H1 e1 b1 d1 => ?_
    split at h4
    · rename_i ys hr
      obtain rfl : r = .lst ys := hr
      cases h4
      refine hΓ.fr _ hf _ _ _ _ ⟨B, G1, β1, ds, _, _, h3, e1.gh, b1, ?_, fun zs ey p ws G2 H2 e2 b2 hp hH hG hd => ?_, fun z => by cases z⟩
      · rw [List.append_nil]
        exact d1
      · cases ey
        exact q _ rfl p ws G2 H2 (e1.trans e2 b2.out) b2 (hnone e1 b1 R.bb hp) hH hG hd
    · rename_i hr
      obtain rfl : r = .non := hr
      cases h4
      refine hΓ.fr _ hf _ _ _ _ ⟨B, G1, β1, ds, _, _, h3, e1.gh, b1, ?_, fun zs ey => (by cases ey), fun _ G2 H2 e2 b2 => q0 rfl G2 H2 (e1.trans e2 b2.out) b2⟩
      rw [List.append_nil]
      exact d1
    · cases h4
  · obtain ⟨⟨xs, β1⟩, h1, h2⟩ := some_pair h
    cases h2
    exact sndF hΓ c h1 R W Q (q _ rfl)
theorem Rel.extO {B : Addr} {G0 H0 G H G' H' : Hp} {σ : L2.St} {env : Env} {β β' : BS} (R : Rel K B G0 H0 σ env β G H) (e : Ext B G H G' H') (b : BagAt B G' H' β') : Rel K B G0 H0 σ env β' G' H' := R.ext e b
theorem sndO (hΓ : HG K M Γ) (o : Bool) (c : CE) {env : Env} {β : BS} {s : Sl} {β' : BS} (h : evO M o c env β = some (s, β')) {B : Addr} {G0 H0 : Hp} {σ : L2.St} {G H : Hp} (R : Rel K B G0 H0 σ env β G H) (W : WX) (Q : VK)
    (q : ∀ v G' H', Ext B G H G' H' → BagAt B G' H' β' → (∀ β2 G2 H2 σ2 env2 i, Ext B G' H' G2 H2 → Rel K B G0 H0 σ2 env2 β2 G2 H2 → (∀ (j : Nat) (ys : List D), env2[j]? = some (some (.own ys)) → σ2[j]? = some (some v) → (∃ p, v = .ref p ∧ H' p ≠ none ∧ H p = none) → j = i) → Rel K B G0 H0 (σ2.set i (some v)) (env2.set i (some s)) β2 G2 H2) → (∃ x, s = .d x) ∨ (∃ p, v = .ref p ∧ H p = none ∧ H' p ≠ none) → Q v H') : semE Γ K c W σ H Q := by
  cases o with
  | true =>
    obtain ⟨⟨xs, β1⟩, h1, h2⟩ := some_pair (show (evF M c env β).map (fun r => (Sl.own r.1, r.2)) = some (s, β') from h)
    cases h2
    refine sndF hΓ c h1 R W Q fun p vs G' H' e b hp hH hG hd => q _ G' H' e b (fun β2 G2 H2 σ2 env2 i e2 R2 hno => ?_) (.inr ⟨p, rfl, hp, (by rw [hH]; intro z; cases z)⟩)
    have pb : p ≠ B := fun z => by
      obtain ⟨oB, hB⟩ := R.bb
      rw [z, hB] at hp
      cases hp
    exact R2.setO (e2.hh p _ hH pb) (e2.nw p _ hH hG) (R.h0none hp) (fun j ys hj hys z => hj (hno j ys hys z ⟨p, rfl, (by rw [hH]; intro z; cases z), hp⟩)) (hd.mono e2.gg)
  | false =>
    obtain ⟨⟨x, β1⟩, h1, h2⟩ := some_pair (show (evP M c env β).map (fun r => (Sl.d r.1, r.2)) = some (s, β') from h)
    cases h2
    exact sndP hΓ c env β x β1 h1 R W Q fun v G' H' e b hd => q v G' H' e b (fun β2 G2 H2 σ2 env2 i e2 R2 _ => R2.setD (hd.mono e2.gg)) (.inl ⟨x, rfl⟩)
theorem own_old {B : Addr} {G0 H0 : Hp} {σ : L2.St} {env : Env} {β : BS} {G H : Hp} (R : Rel K B G0 H0 σ env β G H) {j : Nat} {ys : List D} {p : Addr} (h : env[j]? = some (some (.own ys))) (hs : σ[j]? = some (some (.ref p))) : H p ≠ none := by
  obtain ⟨p', vs, k1, k2, _⟩ := R.o j ys h
  rw [hs] at k1
  cases k1
  rw [k2]
  intro z
  cases z
structure Kont (K : PySem.W.Frag) (B : Addr) (G0 H0 G : Hp) (o : Out) (Dn : Ends) : Prop where
  nx : ∀ e2 β2, o = .nx e2 β2 → ∀ σ' G' H', Sub G G' → Rel K B G0 H0 σ' e2 β2 G' H' → Dn.nx σ' H'
  rt : ∀ x β2, o = .ret x β2 → ∀ v G' H', Ext B G0 H0 G' H' → BagAt B G' H' β2 → Den K B G' v x → Dn.rt v H'
theorem Rel.toExt {B : Addr} {G0 H0 : Hp} {σ : L2.St} {env : Env} {β : BS} {G H : Hp} (R : Rel K B G0 H0 σ env β G H) : Ext B G0 H0 G H := ⟨R.g0, R.sub, R.h0, R.n0⟩
def SndS (K : PySem.W.Frag) (M : Nat → Mir) (Γ : Nat → Sp) (c : CS) : Prop := ∀ (env : Env) (β : BS) (o : Out), evS M c env β = some o → ∀ {B : Addr} {G0 H0 : Hp} {σ : L2.St} {G H : Hp}, Rel K B G0 H0 σ env β G H → ∀ (W : WX) (Dn : Ends), Kont K B G0 H0 G o Dn → semS Γ K c W Dn σ H
def SndSs (K : PySem.W.Frag) (M : Nat → Mir) (Γ : Nat → Sp) (cs : List CS) : Prop := ∀ (env : Env) (β : BS) (o : Out), evSs M cs env β = some o → ∀ {B : Addr} {G0 H0 : Hp} {σ : L2.St} {G H : Hp}, Rel K B G0 H0 σ env β G H → ∀ (W : WX) (Dn : Ends), Kont K B G0 H0 G o Dn → semSs Γ K cs W Dn σ H
theorem for_snd {t : CT} {it : CI} {body : List CS} (iI : SndI K M Γ it) (ib : SndSs K M Γ body) {env : Env} {β : BS} {o : Out} {r : List D × BS} (hn : noPk env it = true) (h1 : evI M it env β = some r) (h2 : forE t (fun e1 β1 => evSs M body e1 β1) r.1 env r.2 = some o) {B : Addr} {G0 H0 : Hp} {σ : L2.St} {G H : Hp} (R : Rel K B G0 H0 σ env β G H) (W : WX) (Dn : Ends) (q : Kont K B G0 H0 G o Dn) : semS Γ K (.forS t it body) W Dn σ H := by
  refine iI env β r.1 r.2 h1 R W _ fun J G1 H1 e1 b1 _ hS => ?_
  have R1 := R.ext e1 b1
  refine ⟨fun i m σ H => ∃ (G : Hp) (env : Env) (β : BS), i + m = r.1.length ∧ Sub G1 G ∧ Rel K B G0 H0 σ env β G H ∧ forE t (fun e1 β1 => evSs M body e1 β1) (r.1.drop i) env β = some o, ⟨r.1.length, G1, env, r.2, by omega, Sub.refl G1, R1, h2⟩, fun i m σ2 H2 hW => ?_⟩
  obtain ⟨G2, env2, β2, hm, s2, R2, hf⟩ := hW
  have src := hS hn G2 H2 s2 R2.sub
  by_cases hi : i < r.1.length
  · refine .inr ⟨src.go hi, fun σ' H' => ∃ (G : Hp) (env : Env) (β : BS), i + 1 + (m - 1) = r.1.length ∧ Sub G1 G ∧ Rel K B G0 H0 σ' env β G H' ∧ forE t (fun e1 β1 => evSs M body e1 β1) (r.1.drop (i + 1)) env β = some o, fun σ' H' hN => ⟨m - 1, by omega, hN⟩, fun x H' hy => ?_⟩
    have hx : r.1[i]? = some r.1[i] := List.getElem?_eq_getElem hi
    obtain ⟨G', e', b', d'⟩ := src.yld R2 hx hy
    have hdrop : r.1.drop i = r.1[i] :: r.1.drop (i + 1) := List.drop_eq_getElem_cons hi
    rw [hdrop] at hf
    obtain ⟨e3, k1, k2⟩ := some_bind (show (bindT t r.1[i] env2).bind (fun e1 => (evSs M body e1 β2).bind fun o => match o with
      | .nx e2 β2 => forE t (fun e1 β1 => evSs M body e1 β1) (r.1.drop (i + 1)) e2 β2
      | .ret y β2 => some (.ret y β2)) = some o from hf)
    obtain ⟨o1, k3, k4⟩ := some_bind k2
    refine bind_snd t r.1[i] env2 e3 k1 (R2.ext e' b') d' _ fun σ3 _ R3 => ?_
    refine ib e3 β2 o1 k3 R3 W _ ⟨fun e4 β4 ho σ4 G4 H4 s4 R4 => ?_, fun y β4 ho v G4 H4 e4 b4 d4 => ?_⟩
    · subst ho
      exact ⟨G4, e4, β4, by omega, s2.trans (e'.gg.trans s4), R4, k4⟩
    · subst ho
      cases k4
      exact q.rt y β4 rfl v G4 H4 e4 b4 d4
  · refine .inl ⟨src.stop (by omega), ?_⟩
    rw [List.drop_eq_nil_of_le (by omega)] at hf
    cases hf
    exact q.nx env2 β2 rfl σ2 G2 H2 (e1.gg.trans s2) R2
end
end LT

namespace LT
open PySem PySem.Spec PyProof.Rows L2
section
variable {K : PySem.W.Frag} {M : Nat → Mir} {Γ : Nat → Sp}
theorem one_snd {a : CE} (ih : SndP K M Γ a) {env : Env} {β β1 : BS} {x : D} (h : evP M a env β = some (x, β1)) {B : Addr} {G0 H0 : Hp} {σ : L2.St} {G H : Hp} (R : Rel K B G0 H0 σ env β G H) (W : WX) (Q : List V → Hp → Prop) (q : ∀ v G' H', Ext B G H G' H' → BagAt B G' H' β1 → Den K B G' v x → Q [v] H') : semA Γ K [a] W σ H Q := by
  rw [semA_cons (by rintro b rfl; simp only [evP] at h; cases h)]
  exact ih env β x β1 h R W _ q
theorem evO_nostar {o : Bool} {e : CE} {env : Env} {β : BS} {r : Sl × BS} (h : evO M o e env β = some r) : ∀ a, e ≠ .star a := by
  rintro a rfl
  unfold evO at h
  cases o
  · simp only [evP] at h
    cases h
  · simp only [evF] at h
    cases h
def OwnsAt (σ : L2.St) (env : Env) (p : Addr) : Prop := ∃ (j : Nat) (ys : List D), env[j]? = some (some (.own ys)) ∧ σ[j]? = some (some (.ref p))
theorem ownsAt_set {σ : L2.St} {env : Env} {p : Addr} {i : Nat} {v : V} {s : Sl} (h : OwnsAt (σ.set i (some v)) (env.set i (some s)) p) : OwnsAt σ env p ∨ (v = .ref p ∧ ∃ ys, s = .own ys) := by
  obtain ⟨j, ys, h1, h2⟩ := h
  rw [get_set] at h1 h2
  by_cases e : i = j
  · rw [if_pos e] at h1 h2
    right
    by_cases l : i < env.length
    · rw [if_pos l] at h1
      by_cases l2 : i < σ.length
      · rw [if_pos l2] at h2
        cases h1
        cases h2
        exact ⟨rfl, ys, rfl⟩
      · rw [if_neg l2] at h2
        cases h2
    · rw [if_neg l] at h1
      cases h1
  · rw [if_neg e] at h1 h2
    exact .inl ⟨j, ys, h1, h2⟩
theorem ownsAt_old {B : Addr} {G0 H0 : Hp} {σ : L2.St} {env : Env} {β : BS} {G H : Hp} (R : Rel K B G0 H0 σ env β G H) {p : Addr} (h : OwnsAt σ env p) : H p ≠ none := by
  obtain ⟨j, ys, h1, h2⟩ := h
  exact own_old R h1 h2
theorem keepH {B : Addr} {G H G' H' : Hp} {β : BS} (e : Ext B G H G' H') (b : BagAt B G' H' β) {p : Addr} (h : H p ≠ none) : H' p ≠ none := by
  cases q : H p with
  | none => exact absurd q h
  | some o =>
    by_cases z : p = B
    · obtain ⟨C, k, _⟩ := b.at_
      rw [z, k]
      intro w
      cases w
    · rw [e.hh p o q z]
      intro w
      cases w
theorem isD_own {x : D} {ys : List D} (h : Sl.d x = Sl.own ys) : False := by cases h
theorem putF_zip {v : V} : ∀ {fl : List Str} {ws : List V} {f : Str}, fl.Nodup → fl[ws.length]? = some f → putF f v (fl.zip ws) = fl.zip (ws ++ [v])
  | [], _, _, _, h => by simp at h
  | g :: fl, [], f, _, h => by
    simp at h
    subst h
    simp [putF]
  | g :: fl, w :: ws, f, nd, h => by
    have hf : fl[ws.length]? = some f := by simpa using h
    have hm : f ∈ fl := List.mem_of_getElem? hf
    have hne : g ≠ f := fun e => (List.nodup_cons.mp nd).1 (by rw [e]; exact hm)
    show putF f v ((g, w) :: fl.zip ws) = (g, w) :: fl.zip (ws ++ [v])
    rw [← putF_zip (List.nodup_cons.mp nd).2 hf, putF, if_neg hne]
theorem cfn_at {c k : Nat} (h : k < (cfl c).length) : (cfl c)[k]? = some (cfn c k) := by
  unfold cfn
  rw [List.getD, List.getElem?_eq_getElem h]
  rfl
theorem cfl_few {c : Nat} (h : c ∈ allC) : (cfl c).length < 1000 := by
  simp only [allC, List.mem_cons, List.not_mem_nil, or_false] at h
  rcases h with rfl | rfl | rfl | rfl | rfl | rfl | rfl <;> decide +kernel
theorem Rel.addF {B : Addr} {G0 H0 G H : Hp} {σ : L2.St} {env : Env} {β : BS} (R : Rel K B G0 H0 σ env β G H) {i c : Nat} {x : Addr} {fs : List D} {v : V} {d : D} (hi : env[i]? = some (some (.slf x c fs))) (hl : fs.length < (cfl c).length) (hd : Den K B G v d) :
    ∃ dx ws, σ[i]? = some (some (.ref x)) ∧ H x = some (.ins (ca K c) dx ((cfl c).zip ws)) ∧ ClsOk K c ∧ ((cfl c).zip ws).length < 1000 ∧ Rel K B G0 H0 σ (env.set i (some (.slf x c (fs ++ [d])))) β G (upd H x (.ins (ca K c) dx (putF (cfn c fs.length) v ((cfl c).zip ws)))) := by
  obtain ⟨dx, ws, h1, h2, h3, h4, h5, h6, h7, h8, h9, h10⟩ := R.s i x c fs hi
  have li : i < env.length := (List.getElem?_eq_some_iff.mp hi).1
  obtain ⟨C, z1, z2⟩ := R.bag.at_
  have xB : x ≠ B := ne_of h2 z1 (by intro z; cases z)
  refine ⟨dx, ws, h1, h2, h7, by rw [List.length_zip]; have := cfl_few h7.mem; omega, ?_⟩
  rw [putF_zip (cfl_nodup h7.mem) (by rw [h8]; exact cfn_at hl)]
  have oth : ∀ a o, H a = some o → a ≠ x → upd H x (.ins (ca K c) dx ((cfl c).zip (ws ++ [v]))) a = some o := fun a o z n => by
    rw [upd_ne n]
    exact z
  refine { len := by rw [List.length_set]; exact R.len, sub := fun a o z => oth a o (R.sub a o z) (ne_of_none z h4), g0 := R.g0, h0 := fun a o z zb => oth a o (R.h0 a o z zb) (ne_of_none z h6.1), n0 := R.n0, b0 := R.b0, bag := ⟨⟨C, oth _ _ z1 xB.symm, z2⟩, R.bag.out, R.bag.i0⟩, d := fun j y hj => ?_, o := fun j ys hj => ?_, s := fun j y c' gs hj => ?_, si := fun j k y c1 c2 f1 f2 u1 u2 => ?_, inj := fun j k ys zs p k1 k2 k3 k4 => ?_ }
  · rw [get_set] at hj
    by_cases e : i = j
    · rw [if_pos e, if_pos li] at hj
      cases hj
    · rw [if_neg e] at hj
      exact R.d j y hj
  · rw [get_set] at hj
    by_cases e : i = j
    · rw [if_pos e, if_pos li] at hj
      cases hj
    · rw [if_neg e] at hj
      obtain ⟨p, vs, k1, k2, k3⟩ := R.o j ys hj
      exact ⟨p, vs, k1, oth _ _ k2 (ne_of k2 h2 (by intro z; cases z)), k3⟩
  · rw [get_set] at hj
    by_cases e : i = j
    · rw [if_pos e, if_pos li] at hj
      cases hj
      subst e
      exact ⟨dx, ws ++ [v], h1, upd_same, oth _ _ h3 (ne_of h3 h2 (by intro z; cases z)), h4, h5, h6, h7, by simp [h8], by simp; omega, h10.app (.cons hd .nil)⟩
    · rw [if_neg e] at hj
      obtain ⟨dy, us, k1, k2, k3, k4, k5, k6, k7⟩ := R.s j y c' gs hj
      have hne : y ≠ x := fun z => by
        subst z
        exact e (R.si i j y c c' fs gs hi hj)
      exact ⟨dy, us, k1, oth _ _ k2 hne, oth _ _ k3 (ne_of k3 h2 (by intro z; cases z)), k4, k5, k6, k7⟩
  · have back : ∀ (j : Nat) (y : Addr) (c1 : Nat) (f1 : List D), (env.set i (some (Sl.slf x c (fs ++ [d]))))[j]? = some (some (.slf y c1 f1)) → ∃ c2 f2, env[j]? = some (some (.slf y c2 f2)) := fun j y c1 f1 a => by
      rw [get_set] at a
      by_cases e : i = j
      · rw [if_pos e, if_pos li] at a
        cases a
        subst e
        exact ⟨_, _, hi⟩
      · rw [if_neg e] at a
        exact ⟨_, _, a⟩
    obtain ⟨_, _, e1⟩ := back j y c1 f1 u1
    obtain ⟨_, _, e2⟩ := back k y c2 f2 u2
    exact R.si j k y _ _ _ _ e1 e2
  · have back : ∀ (j : Nat) (ys : List D), (env.set i (some (Sl.slf x c (fs ++ [d]))))[j]? = some (some (.own ys)) → env[j]? = some (some (.own ys)) := fun j ys a => by
      rw [get_set] at a
      by_cases e : i = j
      · rw [if_pos e, if_pos li] at a
        cases a
      · rw [if_neg e] at a
        exact a
    exact R.inj j k ys zs p (back j ys k1) (back k zs k2) k3 k4
theorem bindFs_snd {B : Addr} {G0 H0 G : Hp} {σ : L2.St} {β : BS} : ∀ (ts : List CT) (xs : List D) {env env' : Env} {H : Hp} {vs : List V} {Q : L2.St → Hp → Prop}, bindFs ts xs env = some env' → Rel K B G0 H0 σ env β G H → DenAll K B G vs xs → (∀ H', Rel K B G0 H0 σ env' β G H' → Q σ H') → semGs K ts vs σ H Q
  | [], xs, env, env', H, vs, Q, h, R, hd, q => by
    cases xs with
    | nil =>
      cases hd
      cases h
      exact ⟨rfl, q H R⟩
    | cons _ _ => cases h
  | .fld i c k :: ts, xs, env, env', H, vs, Q, h, R, hd, q => by
    cases xs with
    | nil => cases h
    | cons x xs =>
      cases hd with
      | cons a tl =>
        simp only [bindFs] at h
        split at h
        · rename_i y c' fs hi
          split at h
          · rename_i hc
            obtain ⟨rfl, rfl, hl⟩ := hc
            obtain ⟨dx, ws, g1, g2, g3, g4, R2⟩ := R.addF hi hl a
            exact ⟨_, _, rfl, y, _, dx, _, g1, g2, g3.cls, g3.noat (List.mem_of_getElem? (cfn_at hl)), g4, bindFs_snd ts xs h R2 tl q⟩
          · cases h
        · cases h
  | .name _ :: _, xs, env, env', H, vs, Q, h, R, hd, q => by
    cases xs <;> cases h
  | .tup _ :: _, xs, env, env', H, vs, Q, h, R, hd, q => by
    cases xs <;> cases h
theorem bindFs_len : ∀ (ts : List CT) (xs : List D) {env env' : Env}, bindFs ts xs env = some env' → xs.length = CT.lens ts
  | [], [], _, _, _ => rfl
  | [], _ :: _, _, _, h => by cases h
  | .fld i c k :: ts, [], _, _, h => by cases h
  | .fld i c k :: ts, x :: xs, env, env', h => by
    simp only [bindFs] at h
    split at h
    · split at h
      · show xs.length + 1 = CT.lens ts + 1
        rw [bindFs_len ts xs h]
      · cases h
    · cases h
  | .name _ :: _, xs, _, _, h => by cases xs <;> cases h
  | .tup _ :: _, xs, _, _, h => by cases xs <;> cases h
theorem bindF_snd {B : Addr} {G0 H0 G H : Hp} {σ : L2.St} {β : BS} {t : CT} {x : D} {env env' : Env} {v : V} {Q : L2.St → Hp → Prop} (h : bindF t x env = some env') (R : Rel K B G0 H0 σ env β G H) (hd : Den K B G v x) (q : ∀ H', Rel K B G0 H0 σ env' β G H' → Q σ H') : semG K t v σ H Q := by
  cases t with
  | name i => cases x <;> cases h
  | fld i c k =>
    have h' : bindFs [.fld i c k] [x] env = some env' := by cases x <;> exact h
    obtain ⟨v', r, e, z⟩ := bindFs_snd [.fld i c k] [x] (vs := [v]) h' R (.cons hd .nil) (Q := Q) q
    cases e
    obtain ⟨a, C, dx, fs, y1, y2, y3, y4, y5, y6⟩ := z
    exact ⟨a, C, dx, fs, y1, y2, y3, y4, y5, y6.2⟩
  | tup ts =>
    cases x with
    | tup xs =>
      cases hd with
      | tup s t =>
        have h' : bindFs ts xs env = some env' := h
        exact .inl ⟨_, _, rfl, sub_t R.sub s, by rw [t.length]; exact bindFs_len ts xs h', bindFs_snd ts xs h' R t q⟩
    | _ => cases h
def OkO (K : PySem.W.Frag) (B : Addr) (G H Hs : Hp) (v : V) : Sl → Prop
  | .d x => Den K B G v x
  | .own ys => ∃ p ws, v = .ref p ∧ H p = some (.lst ws) ∧ G p = none ∧ Hs p = none ∧ DenAll K B G ws ys
  | .slf _ _ _ => False
inductive OkOs (K : PySem.W.Frag) (B : Addr) (G H Hs : Hp) : List V → List Sl → Prop
  | nil : OkOs K B G H Hs [] []
  | cons {v : V} {s : Sl} {vs : List V} {ss : List Sl} : OkO K B G H Hs v s → (∀ (j : Nat) (p : Addr) (ys : List D), v = .ref p → vs[j]? = some (.ref p) → ss[j]? = some (.own ys) → ∀ zs, s ≠ .own zs) → OkOs K B G H Hs vs ss → OkOs K B G H Hs (v :: vs) (s :: ss)
theorem OkO.ext {B : Addr} {G H Hs G2 H2 : Hp} {β : BS} {v : V} {s : Sl} (h : OkO K B G H Hs v s) (e : Ext B G H G2 H2) (hB : ∃ o, Hs B = some o) : OkO K B G2 H2 Hs v s := by
  cases s with
  | d x => exact Den.mono e.gg h
  | own ys =>
    obtain ⟨p, ws, rfl, h1, h2, h3, h4⟩ := h
    have pb : p ≠ B := fun z => by
      obtain ⟨o, ho⟩ := hB
      rw [z, ho] at h3
      cases h3
    exact ⟨p, ws, rfl, e.hh p _ h1 pb, e.nw p _ h1 h2, h3, h4.mono e.gg⟩
  | slf _ _ _ => exact h
theorem OkOs.ext {B : Addr} {G H Hs G2 H2 : Hp} {vs : List V} {ss : List Sl} (h : OkOs K B G H Hs vs ss) (e : Ext B G H G2 H2) (hB : ∃ o, Hs B = some o) : OkOs K B G2 H2 Hs vs ss := by
  induction h with
  | nil => exact .nil
  | cons a b t ih => exact .cons (a.ext (β := ⟨0, 0, 0, [], 0⟩) e hB) b ih
theorem OkOs.own {B : Addr} {G H Hs : Hp} {vs : List V} {ss : List Sl} (h : OkOs K B G H Hs vs ss) {j : Nat} {p : Addr} {ys : List D} (h1 : vs[j]? = some (.ref p)) (h2 : ss[j]? = some (.own ys)) : Hs p = none := by
  induction h generalizing j with
  | nil => cases h1
  | cons a b t ih =>
    cases j with
    | zero =>
      cases h1
      cases h2
      obtain ⟨q, ws, e, _, _, z, _⟩ := a
      cases e
      exact z
    | succ j => exact ih h1 h2
theorem OkO.less {B : Addr} {G H Hs Hs' : Hp} {v : V} {s : Sl} (h : OkO K B G H Hs v s) (e : ∀ p, Hs p = none → Hs' p = none) : OkO K B G H Hs' v s := by
  cases s with
  | d x => exact h
  | own ys =>
    obtain ⟨p, ws, rfl, h1, h2, h3, h4⟩ := h
    exact ⟨p, ws, rfl, h1, h2, e p h3, h4⟩
  | slf _ _ _ => exact h
theorem OkOs.less {B : Addr} {G H Hs Hs' : Hp} {vs : List V} {ss : List Sl} (h : OkOs K B G H Hs vs ss) (e : ∀ p, Hs p = none → Hs' p = none) : OkOs K B G H Hs' vs ss := by
  induction h with
  | nil => exact .nil
  | cons a b t ih => exact .cons (a.less e) b ih
theorem OkOs.length {B : Addr} {G H Hs : Hp} {vs : List V} {ss : List Sl} (h : OkOs K B G H Hs vs ss) : vs.length = ss.length := by
  induction h with
  | nil => rfl
  | cons a b t ih => rw [List.length_cons, List.length_cons, ih]
theorem lens_names : ∀ is : List Nat, CT.lens (is.map CT.name) = is.length
  | [] => rfl
  | _ :: is => by
    show CT.lens (is.map CT.name) + 1 = is.length + 1
    rw [lens_names is]
theorem one_O (hΓ : HG K M Γ) (o : Bool) (c : CE) {env : Env} {β : BS} {s : Sl} {β' : BS} (h : evO M o c env β = some (s, β')) {B : Addr} {G0 H0 : Hp} {σ : L2.St} {G H : Hp} (R : Rel K B G0 H0 σ env β G H) (W : WX) (Q : VK) (q : ∀ v G' H', Ext B G H G' H' → BagAt B G' H' β' → OkO K B G' H' H v s → Q v H') : semE Γ K c W σ H Q := by
  cases o with
  | true =>
    obtain ⟨⟨xs, β1⟩, h1, h2⟩ := some_pair (show (evF M c env β).map (fun r => (Sl.own r.1, r.2)) = some (s, β') from h)
    cases h2
    exact sndF hΓ c h1 R W Q fun p vs G' H' e b hp hH hG hd => q _ G' H' e b ⟨p, vs, rfl, hH, hG, hp, hd⟩
  | false =>
    obtain ⟨⟨x, β1⟩, h1, h2⟩ := some_pair (show (evP M c env β).map (fun r => (Sl.d r.1, r.2)) = some (s, β') from h)
    cases h2
    exact sndP hΓ c env β x β1 h1 R W Q fun v G' H' e b hd => q v G' H' e b hd
theorem snd_Os (hΓ : HG K M Γ) : ∀ (os : List Bool) (cs : List CE) {env : Env} {β : BS} {ss : List Sl} {β' : BS}, evOs M os cs env β = some (ss, β') → ∀ {B : Addr} {G0 H0 : Hp} {σ : L2.St} {G H : Hp}, Rel K B G0 H0 σ env β G H → ∀ (W : WX) (Q : List V → Hp → Prop), (∀ vs G' H', Ext B G H G' H' → BagAt B G' H' β' → OkOs K B G' H' H vs ss → Q vs H') → semA Γ K cs W σ H Q
  | [], [], env, β, ss, β', h, B, G0, H0, σ, G, H, R, W, Q, q => by
    cases h
    exact q [] G H (Ext.refl R.sub) R.bag .nil
  | [], _ :: _, env, β, ss, β', h, B, G0, H0, σ, G, H, R, W, Q, q => by cases h
  | _ :: _, [], env, β, ss, β', h, B, G0, H0, σ, G, H, R, W, Q, q => by cases h
  | o :: os, c :: cs, env, β, ss, β', h, B, G0, H0, σ, G, H, R, W, Q, q => by
    obtain ⟨⟨s, β1⟩, h1, h2⟩ := some_bind (show (evO M o c env β).bind (fun r => (evOs M os cs env r.2).map fun q => (r.1 :: q.1, q.2)) = some (ss, β') from h)
    obtain ⟨⟨ts, β2⟩, h3, h4⟩ := some_pair h2
    cases h4
    rw [semA_cons (evO_nostar h1)]
    refine one_O hΓ o c h1 R W _ fun v G1 H1 e1 b1 k1 => snd_Os hΓ os cs h3 (R.ext e1 b1) W _ fun vs G2 H2 e2 b2 k2 => ?_
    have back : ∀ p, H1 p = none → H p = none := fun p hp => hnone e1 b1 R.bb hp
    refine q (v :: vs) G2 H2 (e1.trans e2 b2.out) b2 (.cons (k1.ext (β := β2) e2 R.bb) (fun j p ys hv hj hs zs hz => ?_) (k2.less back))
    subst hz
    obtain ⟨p', ws, e, g1, _⟩ := k1
    rw [hv] at e
    cases e
    have := k2.own hj hs
    rw [g1] at this
    cases this
theorem setAll_snd {B : Addr} {G0 H0 G H Hs : Hp} {β : BS} : ∀ (is : List Nat) (vs : List V) (ss : List Sl) {σ : L2.St} {env : Env}, is.length = vs.length → OkOs K B G H Hs vs ss → Rel K B G0 H0 σ env β G H → (∀ p, Hs p = none → H0 p = none) → (∀ (j : Nat) (ys : List D) (p : Addr), env[j]? = some (some (.own ys)) → σ[j]? = some (some (.ref p)) → ∀ (k : Nat) (zs : List D), ss[k]? = some (.own zs) → vs[k]? ≠ some (.ref p)) → ∀ (Q : L2.St → Hp → Prop), (∀ σ', Rel K B G0 H0 σ' (setAll is ss env) β G H → Q σ' H) → semGs K (is.map CT.name) vs σ H Q
  | [], [], ss, σ, env, hl, ok, R, h0, hd, Q, q => by
    cases ok
    exact ⟨rfl, q σ R⟩
  | [], _ :: _, ss, σ, env, hl, ok, R, h0, hd, Q, q => by cases hl
  | _ :: _, [], ss, σ, env, hl, ok, R, h0, hd, Q, q => by cases hl
  | i :: is, v :: vs, ss, σ, env, hl, ok, R, h0, hd, Q, q => by
    cases ok with
    | @cons _ s _ ts a b t =>
      refine ⟨v, vs, rfl, ?_⟩
      show semGs K (is.map CT.name) vs (σ.set i (some v)) H Q
      have R' : Rel K B G0 H0 (σ.set i (some v)) (env.set i (some s)) β G H := by
        cases s with
        | d x => exact R.setD a
        | own ys =>
          obtain ⟨p, ws, rfl, h1, h2, h3, h4⟩ := a
          exact R.setO h1 h2 (h0 p h3) (fun j zs _ hj z => hd j zs p hj z 0 ys rfl rfl) h4
        | slf _ _ _ => exact a.elim
      refine setAll_snd is vs ts (by simpa using hl) t R' h0 (fun j ys p hj hσ k zs hk hv => ?_) Q q
      rcases ownsAt_set (p := p) ⟨j, ys, hj, hσ⟩ with ⟨j', ys', g1, g2⟩ | ⟨g1, ys', g2⟩
      · exact hd j' ys' p g1 g2 (k + 1) zs hk hv
      · exact b k p zs g1 hv hk ys' g2
mutual
theorem sndS (hΓ : HG K M Γ) : ∀ c : CS, SndS K M Γ c
  | .pass => fun env β o h B G0 H0 σ G H R W Dn q => by
    simp only [evS] at h
    cases h
    exact q.nx _ _ rfl σ G H (Sub.refl G) R
  | .fz is => fun env β o h B G0 H0 σ G H R W Dn q => by
    simp only [evS] at h
    cases h
    obtain ⟨G', s, R'⟩ := Rel.frz is R
    exact q.nx _ _ rfl σ G' H s R'
  | .expr e => fun env β o h B G0 H0 σ G H R W Dn q => by
    simp only [evS] at h
    split at h
    · rename_i i a
      split at h
      · rename_i xs hi
        obtain ⟨⟨x, β1⟩, h1, h2⟩ := some_bind h
        split at h2
        · rename_i hl
          cases h2
          obtain ⟨p, vs, g1, g2, g3, g4, g5⟩ := R.o i xs hi
          refine ⟨.ref p, g1, .inl ⟨rfl, _, SqL.of g2⟩, one_snd (sndP hΓ a) h1 R W _ fun v G1 H1 e1 b1 d1 => ?_⟩
          have R1 := R.ext e1 b1
          obtain ⟨p', ws, k1, k2, k3, k4, k5⟩ := R1.o i xs hi
          rw [g1] at k1
          cases k1
          refine ⟨p, ws, v, rfl, rfl, k2, lineL (by rw [k5.length]; exact hl), ?_⟩
          exact q.nx _ _ rfl σ G1 _ e1.gg (R1.mutO hi g1 (k5.app (.cons d1 .nil)))
        · cases h2
      · cases h
    · rename_i i a
      split at h
      · rename_i xs hi
        obtain ⟨⟨x, β1⟩, h1, h2⟩ := some_bind h
        split at h2
        · rename_i ys hx
          have hx' : x = .lst ys := hx
          subst hx'
          split at h2
          · rename_i hl
            cases h2
            obtain ⟨p, vs, g1, g2, g3, g4, g5⟩ := R.o i xs hi
            refine ⟨.ref p, g1, .inl ⟨rfl, _, SqL.of g2⟩, one_snd (sndP hΓ a) h1 R W _ fun v G1 H1 e1 b1 d1 => ?_⟩
            have R1 := R.ext e1 b1
            obtain ⟨p', ws, k1, k2, k3, k4, k5⟩ := R1.o i xs hi
            rw [g1] at k1
            cases k1
            cases d1 with
            | lst m1 m2 =>
              refine ⟨p, _, ws, _, rfl, rfl, k2, e1.gh _ _ m1, lineM (by rw [k5.length, m2.length]; exact hl), ?_⟩
              exact q.nx _ _ rfl σ G1 _ e1.gg (R1.mutO hi g1 (k5.app m2))
          · cases h2
        · cases h2
      · cases h
    · rename_i i a b
      split at h
      · rename_i xs hi
        obtain ⟨⟨x, β1⟩, h1, h2⟩ := some_bind h
        obtain ⟨⟨y, β2⟩, h3, h4⟩ := some_bind h2
        split at h4
        · rename_i k hx
          have hx' : x = .int k := hx
          subst hx'
          split at h4
          · rename_i hl
            cases h4
            obtain ⟨p, vs, g1, g2, g3, g4, g5⟩ := R.o i xs hi
            refine ⟨.ref p, g1, .inl ⟨rfl, _, SqL.of g2⟩, ?_⟩
            rw [semA_cons (by rintro z rfl; simp only [evP] at h1; cases h1)]
            refine sndP hΓ a env β _ β1 h1 R W _ fun v G1 H1 e1 b1 d1 => one_snd (sndP hΓ b) h3 (R.ext e1 b1) W _ fun w G2 H2 e2 b2 d2 => ?_
            cases d1
            have R2 := (R.ext e1 b1).ext e2 b2
            obtain ⟨p', ws, k1, k2, k3, k4, k5⟩ := R2.o i xs hi
            rw [g1] at k1
            cases k1
            refine ⟨p, ws, k, w, rfl, rfl, k2, lineL (by rw [k5.length]; exact hl.1), hl.2.1, by omega, ?_⟩
            exact q.nx _ _ rfl σ G2 _ (e1.gg.trans e2.gg) (R2.mutO hi g1 (((k5.take _).app (.cons d2 .nil)).app (k5.drop _)))
          · cases h4
        · cases h4
      · cases h
    · obtain ⟨⟨x, β1⟩, h1, h2⟩ := some_pair h
      cases h2
      exact sndP hΓ _ env β x β1 h1 R W _ fun v G1 H1 e1 b1 d1 => q.nx _ _ rfl σ G1 H1 e1.gg (R.ext e1 b1)
  | .ret e => fun env β o h B G0 H0 σ G H R W Dn q => by
    simp only [evS] at h
    obtain ⟨⟨x, β1⟩, h1, h2⟩ := some_pair h
    cases h2
    exact sndP hΓ e env β x β1 h1 R W _ fun v G1 H1 e1 b1 d1 => q.rt _ _ rfl v G1 H1 (R.ext e1 b1).toExt b1 d1
  | .retN => fun env β o h B G0 H0 σ G H R W Dn q => by
    simp only [evS] at h
    cases h
    exact q.rt _ _ rfl .non G H R.toExt R.bag .non
  | .ifs c a b => fun env β o h B G0 H0 σ G H R W Dn q => by
    simp only [evS] at h
    obtain ⟨⟨t, β1⟩, h1, h2⟩ := some_bind h
    refine sndB hΓ c env β t β1 h1 R W _ fun G1 H1 e1 b1 => ?_
    have q' : Kont K B G0 H0 G1 o Dn := ⟨fun e2 β2 ho σ' G' H' s R' => q.nx e2 β2 ho σ' G' H' (e1.gg.trans s) R', q.rt⟩
    cases t with
    | true =>
      show semSs Γ K a W Dn σ H1
      exact sndSs hΓ a env β1 o h2 (R.ext e1 b1) W Dn q'
    | false =>
      show semSs Γ K b W Dn σ H1
      exact sndSs hΓ b env β1 o h2 (R.ext e1 b1) W Dn q'
  | .asg t e => fun env β o h B G0 H0 σ G H R W Dn q => by
    simp only [evS] at h
    obtain ⟨⟨x, β1⟩, h1, h2⟩ := some_bind h
    split at h2
    · obtain ⟨e1, h3, h4⟩ := some_pair h2
      cases h4
      refine sndP hΓ e env β x β1 h1 R W _ fun v G1 H1 x1 b1 d1 => ?_
      exact bindF_snd h3 (R.ext x1 b1) d1 fun H2 R2 => q.nx _ _ rfl σ G1 H2 x1.gg R2
    obtain ⟨e1, h3, h4⟩ := some_pair h2
    cases h4
    refine sndP hΓ e env β x β1 h1 R W _ fun v G1 H1 x1 b1 d1 => ?_
    exact bind_snd t x env e1 h3 (R.ext x1 b1) d1 _ fun σ' _ R' => q.nx _ _ rfl σ' G1 H1 x1.gg R'
  | .nev => fun env β o h B G0 H0 σ G H R W Dn q => by
    simp only [evS] at h
    cases h
  | .asgP os is es => fun env β o h B G0 H0 σ G H R W Dn q => by
    simp only [evS] at h
    obtain ⟨⟨ss, β1⟩, h1, h2⟩ := some_bind h
    split at h2
    rotate_left
    · cases h2
    rename_i hl
    cases h2
    show semA Γ K es W σ H _
    refine snd_Os hΓ os es h1 R W _ fun vs G1 H1 e1 b1 ok => ⟨by rw [ok.length]; exact lineM hl.2, fun p hp => ?_⟩
    have R1 := R.ext e1 b1
    have e2 := Ext.newU (B := B) (o := .tup vs) R1.sub hp
    have b2 := b1.newU (o := .tup vs) hp
    have ok2 : OkOs K B G1 (upd H1 p (.tup vs)) H vs ss := ok.ext e2 R.bb
    refine .inl ⟨p, vs, rfl, SqT.of upd_same, by rw [ok.length, hl.1, lens_names], setAll_snd is vs ss (by rw [ok.length, hl.1]) ok2 (R1.ext e2 b2) (fun p hp => R.h0none hp) (fun j ys q hj hσ k zs hk hv => ?_) _ fun σ' R' => q.nx _ _ rfl σ' G1 _ e1.gg R'⟩
    exact own_old R hj hσ (ok.own hv hk)
  | .asgO i e => fun env β o h B G0 H0 σ G H R W Dn q => by
    simp only [evS] at h
    obtain ⟨⟨s, β1⟩, h1, h2⟩ := some_pair h
    cases h2
    refine sndOwn hΓ e h1 R W _ (fun xs es p vs G' H' x b hp hH hG hd => ?_) fun es G' H' x b => ?_
    · subst es
      exact q.nx _ _ rfl _ G' H' x.gg ((R.ext x b).setO hH hG (R.h0none hp) (fun j ys _ hj z => own_old R hj z hp) hd)
    · subst es
      exact q.nx _ _ rfl _ G' H' x.gg ((R.ext x b).setD .non)
  | .par2 oi oj i j a b => fun env β o h B G0 H0 σ G H R W Dn q => by
    simp only [evS] at h
    obtain ⟨⟨s1, β1⟩, h1, h2⟩ := some_bind h
    obtain ⟨⟨s2, β2⟩, h3, h4⟩ := some_pair h2
    cases h4
    show semA Γ K [a, b] W σ H _
    rw [semA_cons (evO_nostar h1)]
    refine sndO hΓ oi a h1 R W _ fun v G1 H1 e1 b1 st1 fr1 => ?_
    rw [semA_cons (evO_nostar h3)]
    refine sndO hΓ oj b h3 (R.ext e1 b1) W _ fun w G2 H2 e2 b2 st2 fr2 => ⟨v, w, rfl, ?_⟩
    have R1 := R.ext e1 b1
    have R2 := R1.ext e2 b2
    have Ra := st1 β2 G2 H2 σ env i e2 R2 fun k ys hk hv ⟨p, hp, _, hp2⟩ => by
      rw [hp] at hv
      exact absurd hp2 (own_old R hk hv)
    have Rb := st2 β2 G2 H2 _ _ j (Ext.refl e2.gh) Ra fun k ys hk hv ⟨p, hp, _, hp2⟩ => by
      exfalso
      rw [hp] at hv
      rcases ownsAt_set (p := p) ⟨k, ys, hk, hv⟩ with o1 | ⟨o1, zs, o2⟩
      · exact ownsAt_old R1 o1 hp2
      · rcases fr1 with ⟨x, hx⟩ | ⟨p', hp', _, hn⟩
        · rw [hx] at o2
          cases o2
        · rw [o1] at hp'
          cases hp'
          exact hn hp2
    exact q.nx _ _ rfl _ G2 H2 (e1.gg.trans e2.gg) Rb
  | .par3 oi oj ol i j l a b c => fun env β o h B G0 H0 σ G H R W Dn q => by
    simp only [evS] at h
    obtain ⟨⟨s1, β1⟩, h1, h2⟩ := some_bind h
    obtain ⟨⟨s2, β2⟩, h3, h4⟩ := some_bind h2
    obtain ⟨⟨s3, β3⟩, h5, h6⟩ := some_pair h4
    cases h6
    show semA Γ K [a, b, c] W σ H _
    rw [semA_cons (evO_nostar h1)]
    refine sndO hΓ oi a h1 R W _ fun v G1 H1 e1 b1 st1 fr1 => ?_
    rw [semA_cons (evO_nostar h3)]
    refine sndO hΓ oj b h3 (R.ext e1 b1) W _ fun w G2 H2 e2 b2 st2 fr2 => ?_
    rw [semA_cons (evO_nostar h5)]
    refine sndO hΓ ol c h5 ((R.ext e1 b1).ext e2 b2) W _ fun u G3 H3 e3 b3 st3 fr3 => ⟨v, w, u, rfl, ?_⟩
    have R1 := R.ext e1 b1
    have R2 := R1.ext e2 b2
    have R3 := R2.ext e3 b3
    have Ra := st1 β3 G3 H3 σ env i (e2.trans e3 b3.out) R3 fun k ys hk hv ⟨p, hp, _, hp2⟩ => by
      rw [hp] at hv
      exact absurd hp2 (own_old R hk hv)
    have no1 : ∀ p, OwnsAt (σ.set i (some v)) (env.set i (some s1)) p → H1 p ≠ none := fun p hp => by
      rcases ownsAt_set hp with o1 | ⟨o1, zs, o2⟩
      · exact ownsAt_old R1 o1
      · rcases fr1 with ⟨x, hx⟩ | ⟨p', hp', _, hn⟩
        · rw [hx] at o2
          cases o2
        · rw [o1] at hp'
          cases hp'
          exact hn
    have Rb := st2 β3 G3 H3 _ _ j e3 Ra fun k ys hk hv ⟨p, hp, _, hp2⟩ => by
      rw [hp] at hv
      exact absurd hp2 (no1 p ⟨k, ys, hk, hv⟩)
    have no2 : ∀ p, OwnsAt ((σ.set i (some v)).set j (some w)) ((env.set i (some s1)).set j (some s2)) p → H2 p ≠ none := fun p hp => by
      rcases ownsAt_set hp with o1 | ⟨o1, zs, o2⟩
      · exact keepH e2 b2 (no1 p o1)
      · rcases fr2 with ⟨x, hx⟩ | ⟨p', hp', _, hn⟩
        · rw [hx] at o2
          cases o2
        · rw [o1] at hp'
          cases hp'
          exact hn
    have Rc := st3 β3 G3 H3 _ _ l (Ext.refl e3.gh) Rb fun k ys hk hv ⟨p, hp, _, hp2⟩ => by
      rw [hp] at hv
      exact absurd hp2 (no2 p ⟨k, ys, hk, hv⟩)
    exact q.nx _ _ rfl _ G3 H3 (e1.gg.trans (e2.gg.trans e3.gg)) Rc
  | .aug i op e => fun env β o h B G0 H0 σ G H R W Dn q => by
    simp only [evS] at h
    split at h
    · rename_i x hi
      obtain ⟨⟨y, β1⟩, h1, h2⟩ := some_bind h
      obtain ⟨v, g1, g2⟩ := R.d i _ hi
      cases g2
      split at h2
      · rename_i z hz
        have hz' : y = .int z := hz
        subst hz'
        cases h2
        refine ⟨.int x, g1, sndP hΓ e env β _ β1 h1 R W _ fun w G1 H1 e1 b1 d1 => ?_⟩
        cases d1
        exact .inl ⟨x, z, rfl, rfl, q.nx _ _ rfl _ G1 H1 e1.gg ((R.ext e1 b1).setD (.int _))⟩
      · rename_i z hz
        have hz' : y = .int z := hz
        subst hz'
        cases h2
        refine ⟨.int x, g1, sndP hΓ e env β _ β1 h1 R W _ fun w G1 H1 e1 b1 d1 => ?_⟩
        cases d1
        exact ⟨x, z, rfl, rfl, q.nx _ _ rfl _ G1 H1 e1.gg ((R.ext e1 b1).setD (.int _))⟩
      · cases h2
    · cases h
  | .setIx o a e => fun env β ou h B G0 H0 σ G H R W Dn q => by
    simp only [evS] at h
    split at h
    · rename_i i
      split at h
      · rename_i xs hi
        obtain ⟨⟨x, β1⟩, h1, h2⟩ := some_bind h
        obtain ⟨⟨y, β2⟩, h3, h4⟩ := some_bind h2
        split at h4
        · rename_i k hk
          have hk' : y = .int k := hk
          subst hk'
          obtain ⟨j, h5, h6⟩ := some_pair h4
          cases h6
          refine sndP hΓ e env β x β1 h1 R W _ fun v G1 H1 e1 b1 d1 => ?_
          have R1 := R.ext e1 b1
          obtain ⟨p, vs, g1, g2, g3, g4, g5⟩ := R1.o i xs hi
          refine ⟨.ref p, g1, sndP hΓ a env β1 _ β2 h3 R1 W _ fun w G2 H2 e2 b2 d2 => ?_⟩
          cases d2
          have R2 := R1.ext e2 b2
          obtain ⟨p', ws, k1, k2, k3, k4, k5⟩ := R2.o i xs hi
          rw [g1] at k1
          cases k1
          refine ⟨p, ws, k, j, rfl, rfl, k2, by rw [k5.length]; exact h5, ?_⟩
          exact q.nx _ _ rfl σ G2 _ (e1.gg.trans e2.gg) (R2.mutO hi g1 (k5.set (d1.mono e2.gg)))
        · cases h4
      · cases h
    · cases h
  | .augIx _ _ _ _ => fun env β o h => by simp [evS] at h
  | .forS t it body => fun env β o h B G0 H0 σ G H R W Dn q => by
    simp only [evS] at h
    split at h
    · rename_i hn
      obtain ⟨r, h1, h2⟩ := some_bind h
      exact for_snd (sndI hΓ it) (sndSs hΓ body) hn h1 h2 R W Dn q
    · cases h
theorem sndSs (hΓ : HG K M Γ) : ∀ cs : List CS, SndSs K M Γ cs
  | [] => fun env β o h B G0 H0 σ G H R W Dn q => by
    simp only [evSs] at h
    cases h
    exact q.nx _ _ rfl σ G H (Sub.refl G) R
  | c :: cs => fun env β o h B G0 H0 σ G H R W Dn q => by
    simp only [evSs] at h
    obtain ⟨o1, h1, h2⟩ := some_bind h
    refine sndS hΓ c env β o1 h1 R W _ ⟨fun e2 β2 ho σ' G' H' s R' => ?_, fun x β2 ho v G' H' x' b' d' => ?_⟩
    · subst ho
      exact sndSs hΓ cs e2 β2 o h2 R' W Dn ⟨fun e3 β3 ho σ2 G2 H2 s2 R2 => q.nx e3 β3 ho σ2 G2 H2 (s.trans s2) R2, q.rt⟩
    · subst ho
      cases h2
      exact q.rt x β2 rfl v G' H' x' b' d'
end
theorem start_get {N : List Str} {vs : List V} : start N vs = vs.map some ++ List.replicate (N.length - vs.length) none := rfl
theorem start_rel {d : Fd} {B : Addr} {G H : Hp} {β : BS} {vs : List V} {ds : List D} (h2 : Sub G H) (h3 : BagAt B G H β) (h4 : DenAll K B G vs ds) : Rel K B G H (start d.N vs) (ds.map (fun x => some (Sl.d x)) ++ List.replicate (d.N.length - ds.length) none) β G H := by
  refine { len := ?_, sub := h2, g0 := Sub.refl G, h0 := fun _ _ z _ => z, n0 := fun _ _ _ z => z, b0 := ?_, bag := h3, d := fun i y hi => ?_, o := fun i ys hi => ?_, s := fun i a c fs hi => ?_, si := fun i j a c c' fs fs' hi => ?_, inj := fun i j ys zs p hi => ?_ }
  · rw [start_get]
    simp [h4.length]
  · obtain ⟨C, k, _⟩ := h3.at_
    exact ⟨_, k⟩
  · rw [List.getElem?_append] at hi
    split at hi
    · rename_i hlt
      rw [List.getElem?_map] at hi
      obtain ⟨y', g1, g2⟩ := Option.map_eq_some_iff.mp hi
      cases g2
      obtain ⟨v, g3, g4⟩ := h4.get g1
      refine ⟨v, ?_, g4⟩
      rw [start_get, List.getElem?_append_left (by rw [List.length_map, h4.length]; simpa using hlt), List.getElem?_map, g3]
      rfl
    · rw [List.getElem?_replicate] at hi
      split at hi <;> cases hi
  · exfalso
    rw [List.getElem?_append] at hi
    split at hi
    · rw [List.getElem?_map] at hi
      obtain ⟨y', g1, g2⟩ := Option.map_eq_some_iff.mp hi
      cases g2
    · rw [List.getElem?_replicate] at hi
      split at hi <;> cases hi
  · exfalso
    rw [List.getElem?_append] at hi
    split at hi
    · rw [List.getElem?_map] at hi
      obtain ⟨y', g1, g2⟩ := Option.map_eq_some_iff.mp hi
      cases g2
    · rw [List.getElem?_replicate] at hi
      split at hi <;> cases hi
  · exfalso
    rw [List.getElem?_append] at hi
    split at hi
    · rw [List.getElem?_map] at hi
      obtain ⟨y', g1, g2⟩ := Option.map_eq_some_iff.mp hi
      cases g2
    · rw [List.getElem?_replicate] at hi
      split at hi <;> cases hi
  · exfalso
    rw [List.getElem?_append] at hi
    split at hi
    · rw [List.getElem?_map] at hi
      obtain ⟨y', g1, g2⟩ := Option.map_eq_some_iff.mp hi
      cases g2
    · rw [List.getElem?_replicate] at hi
      split at hi <;> cases hi
theorem obl_ev {d : Fd} (hΓ : HG K M Γ) (hd : ∀ vs H Q E, Γ d.id vs H Q E → gam K M d.id vs H Q E) (hm : ∀ ds β r, M d.id ds β = some r → evFd M d ds β = some r) : Obl Γ K d := by
  intro vs H Q E h
  obtain ⟨B, G, β, ds, x, β', h1, h2, h3, h4, h5⟩ := hd vs H Q E h
  have he := hm ds β _ h1
  unfold evFd at he
  split at he
  · rename_i hl
    obtain ⟨o, k1, k2⟩ := some_pair he
    refine ⟨by rw [h4.length]; exact hl.1, ?_⟩
    have R := start_rel (d := d) h2 h3 h4
    refine sndSs hΓ d.body _ β o k1 R _ _ ⟨fun e2 β2 ho σ' G' H' s R' => ?_, fun y β2 ho v G' H' x' b' d' => ?_⟩
    · subst ho
      cases k2
      exact h5 .non G' H' R'.toExt R'.bag .non
    · subst ho
      cases k2
      exact h5 v G' H' x' b' d'
  · cases he
theorem semSs_app {W : WX} {Dn : Ends} : ∀ xs ys : List CS, semSs Γ K (xs ++ ys) W Dn = semSs Γ K xs W { Dn with nx := semSs Γ K ys W Dn }
  | [], ys => rfl
  | x :: xs, ys => by
    show (fun σ H => semS Γ K x W { Dn with nx := semSs Γ K (xs ++ ys) W Dn } σ H) = fun σ H => semS Γ K x W { Dn with nx := semSs Γ K xs W { Dn with nx := semSs Γ K ys W Dn } } σ H
    rw [semSs_app xs ys]
theorem obl_evO {d : Fd} (hΓ : HG K M Γ) (hd : ∀ vs H Q E, Γ d.id vs H Q E → gamF K M d.id vs H Q E) (hm : ∀ ds β r, M d.id ds β = some r → evFdO M d ds β = some r) : Obl Γ K d := by
  intro vs H Q E h
  obtain ⟨B, G, β, ds, r, β', h1, h2, h3, h4, h5, h6⟩ := hd vs H Q E h
  have he := hm ds β _ h1
  unfold evFdO at he
  split at he
  rotate_left
  · cases he
  rename_i hl
  obtain ⟨o, k1, k2⟩ := some_bind he
  refine ⟨by rw [h4.length]; exact hl.1, ?_⟩
  have R := start_rel (d := d) h2 h3 h4
  have hb : ∀ e, d.body.getLast? = some (.ret e) → d.body = d.body.dropLast ++ [.ret e] := fun e hlast => by
    have hne : d.body ≠ [] := fun z => by
      rw [z] at hlast
      cases hlast
    rw [List.getLast?_eq_some_getLast hne] at hlast
    have := List.dropLast_concat_getLast hne
    rw [Option.some.inj hlast] at this
    exact this.symm
  split at k2
  · rename_i e1 β1 e hlast
    obtain ⟨⟨ys, β2⟩, k3, k4⟩ := some_pair k2
    cases k4
    rw [hb e hlast, semSs_app]
    refine sndSs hΓ d.body.dropLast _ β _ k1 R _ _ ⟨fun e2 β3 ho σ' G' H' s R' => ?_, fun y β3 ho v G' H' x' b' d' => by cases ho⟩
    cases ho
    show semE Γ K e _ σ' H' Q
    unfold evFr at k3
    split at k3
    · rename_i zs hp
      cases k3
      unfold peek at hp
      split at hp
      · rename_i i
        split at hp
        · rename_i zs' hi
          cases hp
          obtain ⟨p, ws, g1, g2, g3, g4, g5⟩ := R'.o i _ hi
          exact ⟨.ref p, g1, h5 _ rfl p ws G' H' R'.toExt R'.bag g4 g2 g3 g5⟩
        · cases hp
      · cases hp
    · exact sndF hΓ e k3 R' _ _ fun p ws G2 H2 e2 b2 hp hH hG hd => h5 _ rfl p ws G2 H2 (R'.toExt.trans e2 b2.out) b2 (R'.h0none hp) hH hG hd
  · rename_i β1 e hlast
    cases k2
    rw [hb e hlast, semSs_app]
    refine sndSs hΓ d.body.dropLast _ β _ k1 R _ _ ⟨fun e2 β3 ho σ' G' H' s R' => (by cases ho), fun y β3 ho v G' H' x' b' d' => ?_⟩
    cases ho
    cases d'
    exact h6 rfl G' H' x' b'
  · cases k2
theorem obl_init {d : Fd} (hΓ : HG K M Γ) (hd : ∀ vs H Q E, Γ d.id vs H Q E → gamI K M d.id vs H Q E) (hm : ∀ x ds β r, M d.id ds β = some r → evFdI M d x ds β = some r) : Obl Γ K d := by
  intro vs H Q E h
  obtain ⟨B, G, β, x, dx, c, us, ds, fs, β', rfl, h1, k1, k2, k3, k4, k5, hc, h2, h3, h4, h5⟩ := hd vs H Q E h
  have he := hm x ds β _ h1
  unfold evFdI at he
  split at he
  rotate_left
  · cases he
  rename_i hl
  obtain ⟨o, z1, z2⟩ := some_bind he
  split at z2
  rotate_left
  · cases z2
  rename_i y c' fs' tl β1 
  split at z2
  rotate_left
  · cases z2
  rename_i hy
  obtain ⟨rfl, rfl, hfl⟩ := hy
  cases z2
  refine ⟨by rw [List.length_cons, h4.length]; exact hl.1, ?_⟩
  have dxx : dx ≠ y := ne_of k2 k1 (by intro z; cases z)
  obtain ⟨C, hB1, hB2⟩ := h3.at_
  have dB : B ≠ dx := ne_of hB1 k2 (by intro z; cases z)
  have low : ∀ a o, hide dx (hide y H) a = some o → H a = some o := fun a o z => by
    by_cases e1 : a = dx
    · rw [e1, hide_same] at z
      cases z
    · rw [hide_ne e1] at z
      by_cases e2 : a = y
      · rw [e2, hide_same] at z
        cases z
      · rw [hide_ne e2] at z
        exact z
  have R : Rel K B G (hide dx (hide y H)) (start d.N (.ref y :: us)) (some (.slf y d.cls []) :: (ds.map (fun x => some (Sl.d x)) ++ List.replicate (d.N.length - (ds.length + 1)) none)) β G H := by
    refine { len := ?_, sub := h2, g0 := Sub.refl G, h0 := fun a o z _ => low a o z, n0 := fun _ _ _ z => z, b0 := ⟨_, by rw [hide_ne dB, hide_ne k5.symm]; exact hB1⟩, bag := h3, d := fun i y hi => ?_, o := fun i ys hi => ?_, s := fun i a c fs hi => ?_, si := fun i j a c c' fs fs' hi hj => ?_, inj := fun i j ys zs p hi => ?_ }
    · rw [start_get]
      simp [h4.length]
    · cases i with
      | zero => cases hi
      | succ i =>
        rw [List.getElem?_cons_succ, List.getElem?_append] at hi
        split at hi
        · rename_i hlt
          rw [List.getElem?_map] at hi
          obtain ⟨y', g1, g2⟩ := Option.map_eq_some_iff.mp hi
          cases g2
          obtain ⟨v, g3, g4⟩ := h4.get g1
          refine ⟨v, ?_, g4⟩
          rw [start_get, List.map_cons, List.cons_append, List.getElem?_cons_succ, List.getElem?_append_left (by rw [List.length_map, h4.length]; simpa using hlt), List.getElem?_map, g3]
          rfl
        · rw [List.getElem?_replicate] at hi
          split at hi <;> cases hi
    · exfalso
      cases i with
      | zero => cases hi
      | succ i =>
        rw [List.getElem?_cons_succ, List.getElem?_append] at hi
        split at hi
        · rw [List.getElem?_map] at hi
          obtain ⟨y', g1, g2⟩ := Option.map_eq_some_iff.mp hi
          cases g2
        · rw [List.getElem?_replicate] at hi
          split at hi <;> cases hi
    · cases i with
      | zero =>
        cases hi
        exact ⟨dx, [], rfl, by rw [List.zip_nil_right]; exact k1, k2, k3, k4, ⟨by rw [hide_ne dxx.symm, hide_same], hide_same⟩, hc, rfl, Nat.zero_le _, .nil⟩
      | succ i =>
        exfalso
        rw [List.getElem?_cons_succ, List.getElem?_append] at hi
        split at hi
        · rw [List.getElem?_map] at hi
          obtain ⟨y', g1, g2⟩ := Option.map_eq_some_iff.mp hi
          cases g2
        · rw [List.getElem?_replicate] at hi
          split at hi <;> cases hi
    · have no : ∀ i, (some (Sl.slf y d.cls []) :: (ds.map (fun x => some (Sl.d x)) ++ List.replicate (d.N.length - (ds.length + 1)) none))[i + 1]? ≠ some (some (.slf a c fs)) ∧ (some (Sl.slf y d.cls []) :: (ds.map (fun x => some (Sl.d x)) ++ List.replicate (d.N.length - (ds.length + 1)) none))[i + 1]? ≠ some (some (.slf a c' fs')) := fun i => by
        constructor <;> intro hi
        · rw [List.getElem?_cons_succ, List.getElem?_append] at hi
          split at hi
          · rw [List.getElem?_map] at hi
            obtain ⟨y', g1, g2⟩ := Option.map_eq_some_iff.mp hi
            cases g2
          · rw [List.getElem?_replicate] at hi
            split at hi <;> cases hi
        · rw [List.getElem?_cons_succ, List.getElem?_append] at hi
          split at hi
          · rw [List.getElem?_map] at hi
            obtain ⟨y', g1, g2⟩ := Option.map_eq_some_iff.mp hi
            cases g2
          · rw [List.getElem?_replicate] at hi
            split at hi <;> cases hi
      cases i with
      | zero =>
        cases j with
        | zero => rfl
        | succ j => exact absurd hj (no j).2
      | succ i => exact absurd hi (no i).1
    · exfalso
      cases i with
      | zero => cases hi
      | succ i =>
        rw [List.getElem?_cons_succ, List.getElem?_append] at hi
        split at hi
        · rw [List.getElem?_map] at hi
          obtain ⟨y', g1, g2⟩ := Option.map_eq_some_iff.mp hi
          cases g2
        · rw [List.getElem?_replicate] at hi
          split at hi <;> cases hi
  refine sndSs hΓ d.body _ β _ z1 R _ _ ⟨fun e2 β2 ho σ' G' H' s R' => ?_, fun y β2 ho v G' H' x' b' d' => ?_⟩
  · cases ho
    obtain ⟨dy, ws, g1, g2, g3, g4, g5, g6, g7, g8, g9, g10⟩ := R'.s 0 y d.cls fs rfl
    exact h5 dy ws G' H' R'.toExt R'.bag g2 g3 g4 g5 g6.2 (by rw [g8, hfl]) g10
  · cases ho
end
end LT

namespace LT
open PySem PySem.Spec PyProof.Rows L2
def BS.turn (β : BS) : BS :=
  if β.c = 0 then
    let cell := if β.i < β.xs.length then β.xs.getD β.i.toNat 0 else 0
    { c := if 1000000000000000000 ≤ cell then cell else 0, s := (β.s * 48271 + cell % 2147483647 + 7919 * (β.i + 1)) % 2147483647, i := β.i + 1, xs := β.xs, cell := β.cell }
  else β
theorem turn_cell (β : BS) : β.turn.cell = β.cell := by
  unfold BS.turn
  split <;> rfl
def mixI (s m : Int) : Int := (((((s + 1) * 39373 % 1000000007) * ((s + 1) * 39373 % 1000000007)) % 998244353 * 30011) % 998244353 / 7) % m
def BS.take (β : BS) (m : Int) : Int × BS :=
  let β1 := β.turn
  if 0 < β1.c then (β1.c % m, { β1 with c := β1.c / m }) else (mixI β1.s m, β1)
theorem BS.take_range (β : BS) {m : Int} (h : 0 < m) : 0 ≤ (β.take m).1 ∧ (β.take m).1 < m := by
  unfold BS.take
  simp only []
  split
  · exact ⟨Int.emod_nonneg _ (by omega), Int.emod_lt_of_pos _ h⟩
  · exact ⟨Int.emod_nonneg _ (by omega), Int.emod_lt_of_pos _ h⟩
def takeMir : Mir := fun ds β => match ds with
  | [.bag, .int m] => if 0 < m ∧ m.natAbs < big then some (.int (β.take m).1, (β.take m).2) else none
  | _ => none
def dTakeBody : List CS := [
  .ifs (.cmp .Eq (.ix (.var 0) (.cst (.int 0))) (.cst (.int 0))) [.asg (.name 2) (.cst (.int 0)), .ifs (.cmp .Lt (.ix (.var 0) (.cst (.int 2))) (.blt .len [(.ix (.var 0) (.cst (.int 3)))])) [.asg (.name 2) (.ix (.ix (.var 0) (.cst (.int 3))) (.ix (.var 0) (.cst (.int 2))))] [], .augIx (.var 0) (.cst (.int 2)) .Add (.cst (.int 1)), .ifs (.cmp .GtE (.var 2) (.cst (.int 1000000000000000000))) [.setIx (.var 0) (.cst (.int 0)) (.var 2)] [], .asg (.name 3) (.bin .Add (.bin .Add (.bin .Mult (.ix (.var 0) (.cst (.int 1))) (.cst (.int 48271))) (.bin .Mod (.blt .int [(.var 2)]) (.cst (.int 2147483647)))) (.bin .Mult (.cst (.int 7919)) (.ix (.var 0) (.cst (.int 2))))), .setIx (.var 0) (.cst (.int 1)) (.bin .Mod (.blt .int [(.var 3)]) (.cst (.int 2147483647)))] [],
  .ifs (.cmp .Gt (.ix (.var 0) (.cst (.int 0))) (.cst (.int 0))) [.asg (.name 4) (.bin .Mod (.blt .int [(.ix (.var 0) (.cst (.int 0)))]) (.var 1)), .setIx (.var 0) (.cst (.int 0)) (.bin .FloorDiv (.ix (.var 0) (.cst (.int 0))) (.var 1)), .ret (.var 4)] [],
  .asg (.name 5) (.bin .Mod (.blt .int [(.bin .Mult (.bin .Add (.ix (.var 0) (.cst (.int 1))) (.cst (.int 1))) (.cst (.int 39373)))]) (.cst (.int 1000000007))),
  .asg (.name 6) (.bin .Mod (.blt .int [(.bin .Mult (.bin .Mod (.blt .int [(.bin .Mult (.var 5) (.var 5))]) (.cst (.int 998244353))) (.cst (.int 30011)))]) (.cst (.int 998244353))),
  .ret (.bin .Mod (.blt .int [(.bin .FloorDiv (.var 6) (.cst (.int 7)))]) (.var 1))]
section
variable {K : PySem.W.Frag} {Γ : Nat → Sp}
theorem bag_ix {H : Hp} {B : Addr} {xs : List V} {k : Nat} {v : V} {Q : VK} (h : H B = some (.lst xs)) (hv : xs[k]? = some v) (q : Q v H) : rIx K (.ref B) (.int (k : Nat)) H Q :=
  .inl ⟨B, xs, k, v, rfl, rfl, SqL.of h, atI_nat hv, q⟩
theorem mul_small {x y : Int} {H : Hp} {Q : VK} (h : y.natAbs < 2 ^ 64) (q : Q (.int (x * y)) H) : rBin K .Mult (.int x) (.int y) H Q := .inr (.inl ⟨x, y, rfl, rfl, .inr ⟨by omega, by omega⟩, q⟩)
theorem mul_smallL {x y : Int} {H : Hp} {Q : VK} (h : x.natAbs < 2 ^ 64) (q : Q (.int (x * y)) H) : rBin K .Mult (.int x) (.int y) H Q := .inr (.inl ⟨x, y, rfl, rfl, .inl ⟨by omega, by omega⟩, q⟩)
theorem add_i {x y : Int} {H : Hp} {Q : VK} (q : Q (.int (x + y)) H) : rBin K .Add (.int x) (.int y) H Q := .inl ⟨x, y, rfl, rfl, q⟩
theorem mod_i {x y : Int} {H : Hp} {Q : VK} (h : 0 < y) (q : Q (.int (x % y)) H) : rBin K .Mod (.int x) (.int y) H Q := ⟨x, y, rfl, rfl, h, q⟩
theorem div_i {x y : Int} {H : Hp} {Q : VK} (h : 0 < y) (h2 : y.natAbs < big) (q : Q (.int (x / y)) H) : rBin K .FloorDiv (.int x) (.int y) H Q := ⟨x, y, rfl, rfl, wide_div h (bigLog h2) (by decide) (by decide), q⟩
theorem int_i {x : Int} {H : Hp} {Q : VK} (q : Q (.int x) H) : rBlt K .int [.int x] H Q := .inl ⟨x, rfl, q⟩
theorem ifT {b : Bool} (h : b = true) {p q : Prop} (hp : p) : if b = true then p else q := by
  rw [if_pos h]
  exact hp
theorem ifF {b : Bool} (h : b = false) {p q : Prop} (hq : q) : if b = true then p else q := by
  rw [if_neg (by rw [h]; decide)]
  exact hq
section
variable {W : WX} {σ : L2.St} {H : Hp} {Q : VK} {Dn : Ends}
theorem w_var {i : Nat} {v : V} (h : σ[i]? = some (some v)) (q : Q v H) : semE Γ K (.var i) W σ H Q := ⟨v, h, q⟩
theorem w_int {i : Int} (q : Q (.int i) H) : semE Γ K (.cst (.int i)) W σ H Q := q
theorem w_bin {op : Operator} {a b : CE} (h : semE Γ K a W σ H fun x H1 => semE Γ K b W σ H1 fun y H2 => rBin K op x y H2 Q) : semE Γ K (.bin op a b) W σ H Q := h
theorem w_ix {a b : CE} (h : semE Γ K a W σ H fun x H1 => semE Γ K b W σ H1 fun y H2 => rIx K x y H2 Q) : semE Γ K (.ix a b) W σ H Q := h
theorem w_blt1 {b : Bt} {a : CE} (h : semE Γ K a W σ H fun x H1 => rBlt K b [x] H1 Q) (hn : ∀ z, a ≠ .star z := by intro z e; cases e) : semE Γ K (.blt b [a]) W σ H Q := by
  show semA Γ K [a] W σ H _
  rw [semA_cons hn]
  exact h
theorem w_asg {i : Nat} {e : CE} (h : semE Γ K e W σ H fun x H1 => Dn.nx (σ.set i (some x)) H1) : semS Γ K (.asg (.name i) e) W Dn σ H := h
theorem w_ret {e : CE} (h : semE Γ K e W σ H Dn.rt) : semS Γ K (.ret e) W Dn σ H := h
theorem w_set {o a e : CE} (h : semE Γ K e W σ H fun v H1 => semE Γ K o W σ H1 fun x H2 => semE Γ K a W σ H2 fun y H3 => rSetL x y v H3 fun H4 => Dn.nx σ H4) : semS Γ K (.setIx o a e) W Dn σ H := h
theorem w_cons {s : CS} {ss : List CS} (h : semS Γ K s W { Dn with nx := semSs Γ K ss W Dn } σ H) : semSs Γ K (s :: ss) W Dn σ H := h
theorem w_nil (h : Dn.nx σ H) : semSs Γ K [] W Dn σ H := h
theorem w_ifs {c : CB} {a b : List CS} {t : Bool} (h : semB Γ K c W σ H fun k H1 => k = t ∧ if t = true then semSs Γ K a W Dn σ H1 else semSs Γ K b W Dn σ H1) (m : ∀ {P Q : Bool → Hp → Prop}, (∀ k H1, P k H1 → Q k H1) → semB Γ K c W σ H P → semB Γ K c W σ H Q) : semS Γ K (.ifs c a b) W Dn σ H := m (fun k H1 h2 => by
  obtain ⟨rfl, h3⟩ := h2
  exact h3) h
theorem w_cmp {op : CmpOp} {a b : CE} {x y : List CS} (h : semE Γ K a W σ H fun u H1 => semE Γ K b W σ H1 fun v H2 => rCmp K op u v H2 fun z H3 => ∃ k, z = .bl k ∧ if k = true then semSs Γ K x W Dn σ H3 else semSs Γ K y W Dn σ H3) : semS Γ K (.ifs (.cmp op a b) x y) W Dn σ H := h
theorem w_aug {o a e : CE} (h : semE Γ K o W σ H fun x H1 => semE Γ K a W σ H1 fun y H2 => rIxL K x y H2 fun z H3 => semE Γ K e W σ H3 fun u H4 => rIp K .Add z u H4 fun w H5 => rSetL x y w H5 fun H6 => Dn.nx σ H6) : semS Γ K (.augIx o a .Add e) W Dn σ H := h
end
theorem set_b {B : Addr} {xs : List V} {k : Nat} {v : V} {H : Hp} {Q : Hp → Prop} (h : H B = some (.lst xs)) (hk : ixN xs.length (k : Nat) = some k) (q : Q (upd H B (.lst (xs.set k v)))) : rSetL (.ref B) (.int (k : Nat)) v H Q := ⟨B, xs, k, k, rfl, rfl, h, hk, q⟩
theorem cmp_eq {x y : Int} {H : Hp} {Q : VK} (q : Q (.bl (decide (V.int x = V.int y))) H) : rCmp K .Eq (.int x) (.int y) H Q := .inl ⟨rfl, q⟩
theorem cmp_lt {x y : Int} {H : Hp} {Q : VK} (q : Q (.bl (decide (x < y))) H) : rCmp K .Lt (.int x) (.int y) H Q := .inl ⟨x, y, rfl, rfl, q⟩
theorem cmp_gt {x y : Int} {H : Hp} {Q : VK} (q : Q (.bl (decide (y < x))) H) : rCmp K .Gt (.int x) (.int y) H Q := ⟨x, y, rfl, rfl, q⟩
theorem cmp_ge {x y : Int} {H : Hp} {Q : VK} (q : Q (.bl (decide (y ≤ x))) H) : rCmp K .GtE (.int x) (.int y) H Q := ⟨x, y, rfl, rfl, q⟩
theorem take_end {B C : Addr} {H : Hp} {c s i m : Int} {W : WX} {Dn : Ends} {y2 y3 y4 y5 y6 : Option V} (hB : H B = some (.lst [.int c, .int s, .int i, .ref C])) (hm : 0 < m) (hb : m.natAbs < big)
    (q1 : 0 < c → Dn.rt (.int (c % m)) (upd H B (.lst [.int (c / m), .int s, .int i, .ref C]))) (q2 : ¬ 0 < c → Dn.rt (.int (mixI s m)) H) :
    semSs Γ K (dTakeBody.drop 1) W Dn [some (.ref B), some (.int m), y2, y3, y4, y5, y6] H := by
  refine w_cons (w_cmp (w_ix (w_var rfl (w_int (bag_ix (k := 0) hB rfl (w_int (cmp_gt ⟨_, rfl, ?_⟩)))))))
  by_cases hc : 0 < c
  · refine ifT (decide_eq_true hc) ?_
    refine w_cons (w_asg (w_bin (w_blt1 (w_ix (w_var rfl (w_int (bag_ix (k := 0) hB rfl (int_i (w_var rfl (mod_i hm ?_))))))))))
    refine w_cons (w_set (w_bin (w_ix (w_var rfl (w_int (bag_ix (k := 0) hB rfl (w_var rfl (div_i hm hb (w_var rfl (w_int (set_b (k := 0) hB rfl ?_)))))))))))
    exact w_cons (w_ret (w_var rfl (q1 hc)))
  · refine ifF (decide_eq_false hc) (w_nil ?_)
    refine w_cons (w_asg ?_)
    refine w_bin (w_blt1 ?_)
    refine w_bin (w_bin ?_)
    refine w_ix (w_var rfl (w_int ?_))
    refine bag_ix (k := 1) hB rfl (w_int ?_)
    refine add_i (w_int ?_)
    refine mul_small (by decide) (int_i (w_int ?_))
    refine mod_i (by decide) ?_
    have r0 : 0 ≤ (s + 1) * 39373 % 1000000007 := Int.emod_nonneg _ (by decide)
    have r1 : (s + 1) * 39373 % 1000000007 < 1000000007 := Int.emod_lt_of_pos _ (by decide)
    refine w_cons (w_asg ?_)
    refine w_bin (w_blt1 ?_)
    refine w_bin (w_bin ?_)
    refine w_blt1 (w_bin ?_)
    refine w_var rfl (w_var rfl ?_)
    refine mul_small (by omega) (int_i (w_int ?_))
    refine mod_i (by decide) (w_int ?_)
    refine mul_small (by decide) (int_i (w_int ?_))
    refine mod_i (by decide) ?_
    refine w_cons (w_ret ?_)
    refine w_bin (w_blt1 ?_)
    refine w_bin (w_var rfl (w_int ?_))
    refine div_i (by decide) (by unfold big; decide +kernel) (int_i ?_)
    refine w_var rfl (mod_i hm (q2 hc))
theorem obl_take {M : Nat → Mir} {d : Fd} (hid : M d.id = takeMir) (hb : d.body = dTakeBody) (hps : d.ps.length = 2) (hN : d.N.length = 7) (hd : ∀ vs H Q E, Γ d.id vs H Q E → gam K M d.id vs H Q E) : Obl Γ K d := by
  intro vs H Q E h
  obtain ⟨B, G, β, ds, x, β', h1, hs, hbag, hden, q⟩ := hd vs H Q E h
  rw [hid] at h1
  unfold takeMir at h1
  split at h1
  · rename_i m
    split at h1
    · rename_i hm
      cases h1
      obtain ⟨hm0, hmb⟩ := hm
      cases hden with
      | cons a t =>
        cases t with
        | cons b t2 =>
          cases t2
          cases a
          cases b
          refine ⟨by rw [hps]; rfl, ?_⟩
          rw [hb]
          have hst : start d.N [V.ref B, V.int m] = [some (.ref B), some (.int m), none, none, none, none, none] := by
            rw [start_get, hN]
            rfl
          rw [hst]
          obtain ⟨C, hB, hCc, hC⟩ := hbag.at_
          have hH := hs _ _ hC
          have CB : C ≠ B := fun z => by
            rw [z, hbag.out] at hC
            cases hC
          have fin : ∀ (H1 : Hp) (y2 y3 : Option V), H1 B = some (.lst [.int β.turn.c, .int β.turn.s, .int β.turn.i, .ref C]) → (∀ a, a ≠ B → H1 a = H a) → 0 ≤ β.turn.i → β.turn.xs = β.xs →
              semSs Γ K (dTakeBody.drop 1) (fun cls dd _ H => E cls dd H) { nx := fun _ H' => Q .non H', rt := Q } [some (.ref B), some (.int m), y2, y3, none, none, none] H1 := by
            intro H1 y2 y3 hB1 hoth hi hxs
            refine take_end hB1 hm0 hmb (fun hc => ?_) (fun hc => ?_)
            · have e : β.take m = (β.turn.c % m, { β.turn with c := β.turn.c / m }) := by
                unfold BS.take
                simp only []
                rw [if_pos hc]
              rw [e] at q
              refine q _ G _ ⟨Sub.refl G, fun a o z => ?_, fun a o z za => ?_, fun _ _ _ z => z⟩ ⟨⟨C, upd_same, hCc.trans (turn_cell β).symm, by rw [show ({ β.turn with c := β.turn.c / m } : BS).xs = β.xs from hxs]; exact hC⟩, hbag.out, hi⟩ (.int _)
              · have na : a ≠ B := fun k => by rw [k, hbag.out] at z; cases z
                rw [upd_ne na, hoth a na]
                exact hs a o z
              · rw [upd_ne za, hoth a za]
                exact z
            · have e : β.take m = (mixI β.turn.s m, β.turn) := by
                unfold BS.take
                simp only []
                rw [if_neg hc]
              rw [e] at q
              refine q _ G _ ⟨Sub.refl G, fun a o z => ?_, fun a o z za => ?_, fun _ _ _ z => z⟩ ⟨⟨C, hB1, hCc.trans (turn_cell β).symm, by rw [hxs]; exact hC⟩, hbag.out, hi⟩ (.int _)
              · have na : a ≠ B := fun k => by rw [k, hbag.out] at z; cases z
                rw [hoth a na]
                exact hs a o z
              · rw [hoth a za]
                exact z
          refine w_cons (w_cmp (w_ix (w_var rfl (w_int (bag_ix (k := 0) hB rfl (w_int (cmp_eq ⟨_, rfl, ?_⟩)))))))
          by_cases hc : β.c = 0
          · refine ifT (decide_eq_true (by rw [hc])) ?_
            have mid : ∀ cell : Int, cell = (if β.i < β.xs.length then β.xs.getD β.i.toNat 0 else 0) → semSs Γ K [.augIx (.var 0) (.cst (.int 2)) .Add (.cst (.int 1)), .ifs (.cmp .GtE (.var 2) (.cst (.int 1000000000000000000))) [.setIx (.var 0) (.cst (.int 0)) (.var 2)] [], .asg (.name 3) (.bin .Add (.bin .Add (.bin .Mult (.ix (.var 0) (.cst (.int 1))) (.cst (.int 48271))) (.bin .Mod (.blt .int [(.var 2)]) (.cst (.int 2147483647)))) (.bin .Mult (.cst (.int 7919)) (.ix (.var 0) (.cst (.int 2))))), .setIx (.var 0) (.cst (.int 1)) (.bin .Mod (.blt .int [(.var 3)]) (.cst (.int 2147483647)))] (fun cls dd _ H => E cls dd H)
                { nx := semSs Γ K (dTakeBody.drop 1) (fun cls dd _ H => E cls dd H) { nx := fun _ H' => Q .non H', rt := Q }, rt := Q } [some (.ref B), some (.int m), some (.int cell), none, none, none, none] H := by
              intro cell hcell
              refine w_cons (w_aug (w_var rfl (w_int ⟨B, _, 2, .int β.i, rfl, rfl, SqL.of hB, rfl, w_int (.inl ⟨_, _, rfl, rfl, set_b (k := 2) hB rfl ?_⟩)⟩)))
              have tail : ∀ (H1 : Hp) (c1 : Int), H1 B = some (.lst [.int c1, .int β.s, .int (β.i + 1), .ref C]) → (∀ a, a ≠ B → H1 a = H a) → c1 = (if 1000000000000000000 ≤ cell then cell else 0) →
                  semSs Γ K [.asg (.name 3) (.bin .Add (.bin .Add (.bin .Mult (.ix (.var 0) (.cst (.int 1))) (.cst (.int 48271))) (.bin .Mod (.blt .int [(.var 2)]) (.cst (.int 2147483647)))) (.bin .Mult (.cst (.int 7919)) (.ix (.var 0) (.cst (.int 2))))), .setIx (.var 0) (.cst (.int 1)) (.bin .Mod (.blt .int [(.var 3)]) (.cst (.int 2147483647)))] (fun cls dd _ H => E cls dd H)
                    { nx := semSs Γ K (dTakeBody.drop 1) (fun cls dd _ H => E cls dd H) { nx := fun _ H' => Q .non H', rt := Q }, rt := Q } [some (.ref B), some (.int m), some (.int cell), none, none, none, none] H1 := by
                intro H1 c1 hB1 hoth hc1
                refine w_cons (w_asg ?_)
                refine w_bin (w_bin ?_)
                refine w_bin (w_ix ?_)
                refine w_var rfl (w_int ?_)
                refine bag_ix (k := 1) hB1 rfl (w_int ?_)
                refine mul_small (by decide) ?_
                refine w_bin (w_blt1 ?_)
                refine w_var rfl (int_i (w_int ?_))
                refine mod_i (by decide) (add_i ?_)
                refine w_bin (w_int ?_)
                refine w_ix (w_var rfl (w_int ?_))
                refine bag_ix (k := 2) hB1 rfl ?_
                refine mul_smallL (by decide) (add_i ?_)
                refine w_cons (w_set ?_)
                refine w_bin (w_blt1 ?_)
                refine w_var rfl (int_i (w_int ?_))
                refine mod_i (by decide) (w_var rfl (w_int ?_))
                refine set_b (k := 1) hB1 rfl ?_
                have et : β.turn = ⟨c1, (β.s * 48271 + cell % 2147483647 + 7919 * (β.i + 1)) % 2147483647, β.i + 1, β.xs, β.cell⟩ := by
                  unfold BS.turn
                  rw [if_pos hc]
                  simp only [← hcell, ← hc1]
                have i0 := hbag.i0
                exact fin _ _ _ (by rw [et]; exact upd_same) (fun a na => by rw [upd_ne na]; exact hoth a na) (by rw [et]; show 0 ≤ β.i + 1; omega) (by rw [et])
              refine w_cons (w_cmp (w_var rfl (w_int (cmp_ge ⟨_, rfl, ?_⟩))))
              by_cases h18 : 1000000000000000000 ≤ cell
              · refine ifT (decide_eq_true h18) ?_
                refine w_cons (w_set (w_var rfl (w_var rfl (w_int (set_b (k := 0) upd_same rfl ?_)))))
                exact tail _ cell upd_same (fun a na => by rw [upd_ne na, upd_ne na]) (by rw [if_pos h18])
              · refine ifF (decide_eq_false h18) (w_nil ?_)
                exact tail _ β.c upd_same (fun a na => by rw [upd_ne na]) (by rw [if_neg h18]; exact hc)
            refine w_cons (w_asg (w_int ?_))
            refine w_cons (w_cmp ?_)
            refine w_ix (w_var rfl (w_int ?_))
            refine bag_ix (k := 2) hB rfl ?_
            refine w_blt1 (w_ix ?_)
            refine w_var rfl (w_int ?_)
            refine bag_ix (k := 3) hB rfl ?_
            refine .inl ⟨C, _, rfl, .inl (SqL.of hH), ?_⟩
            rw [List.length_map]
            refine cmp_lt ⟨_, rfl, ?_⟩
            by_cases hlt : β.i < (β.xs.length : Int)
            · refine ifT (decide_eq_true hlt) ?_
              have hi : β.i.toNat < β.xs.length := by have := hbag.i0; omega
              have hn : ((β.i.toNat : Nat) : Int) = β.i := Int.toNat_of_nonneg hbag.i0
              refine w_cons (w_asg ?_)
              refine w_ix (w_ix ?_)
              refine w_var rfl (w_int ?_)
              refine bag_ix (k := 3) hB rfl ?_
              refine w_ix (w_var rfl (w_int ?_))
              refine bag_ix (k := 2) hB rfl ?_
              have key := bag_ix (K := K) (k := β.i.toNat) (v := .int (β.xs.getD β.i.toNat 0)) (Q := fun v H1 => semSs Γ K [.augIx (.var 0) (.cst (.int 2)) .Add (.cst (.int 1)), .ifs (.cmp .GtE (.var 2) (.cst (.int 1000000000000000000))) [.setIx (.var 0) (.cst (.int 0)) (.var 2)] [], .asg (.name 3) (.bin .Add (.bin .Add (.bin .Mult (.ix (.var 0) (.cst (.int 1))) (.cst (.int 48271))) (.bin .Mod (.blt .int [(.var 2)]) (.cst (.int 2147483647)))) (.bin .Mult (.cst (.int 7919)) (.ix (.var 0) (.cst (.int 2))))), .setIx (.var 0) (.cst (.int 1)) (.bin .Mod (.blt .int [(.var 3)]) (.cst (.int 2147483647)))] (fun cls dd _ H => E cls dd H)
                { nx := semSs Γ K (dTakeBody.drop 1) (fun cls dd _ H => E cls dd H) { nx := fun _ H' => Q .non H', rt := Q }, rt := Q } [some (.ref B), some (.int m), some v, none, none, none, none] H1) hH (by rw [List.getElem?_map, List.getElem?_eq_getElem hi]; simp [List.getD, List.getElem?_eq_getElem hi]) (mid _ (by rw [if_pos hlt]))
              rw [hn] at key
              exact key
            · refine ifF (decide_eq_false hlt) (w_nil ?_)
              exact mid 0 (by rw [if_neg hlt])
          · refine ifF (decide_eq_false fun z => hc (V.int.inj z)) (w_nil ?_)
            have e : β.turn = β := by
              unfold BS.turn
              rw [if_neg hc]
            have := fin H none none (by rw [e]; exact hB) (fun _ _ => rfl) (by rw [e]; exact hbag.i0) (by rw [e])
            exact this
    · cases h1
  · cases h1
end
end LT

namespace LT
open PySem PySem.Spec PyProof.Rows L2
def absI (i : Int) : Int := if i < 0 then -i else i
def spBag (K : PySem.W.Frag) : Sp := fun vs H Q _ => ∃ (a : Addr) (ns : List Int), vs = [.ref a] ∧ SqL K H a (ns.map V.int) ∧ ns.length ≤ 63 ∧ ∀ p C H', Sub H H' → H p = none → H C = none → p ≠ C → H' p = some (.lst [.int 0, .int 1234567891, .int 0, .ref C]) → H' C = some (.lst ((ns.map absI).map V.int)) → Q (.ref p) H'
def dBagBody : List CS := [.ret (.lst [(.cst (.int 0)), (.cst (.int 1234567891)), (.cst (.int 0)), (.lc (.blt .abs [(.var 1)]) (.name 1) (.seq (.slT (.var 0) (.cst (.int 63)))) [("_law_cell", 1)])])]
def spLaw (K : PySem.W.Frag) : Sp := fun vs H Q _ => ∃ (a : Addr) (ns : List Int), vs = [.ref a] ∧ SqL K H a (ns.map V.int) ∧ ns.length ≤ 63 ∧ ∀ H', Q (.bl true) H'
theorem cut63 (xs : List V) (h : xs.length ≤ 63) : cutV xs none (some 63) = xs := by
  unfold cutV
  rw [HT.sIx_none, show HT.sIx xs.length xs.length (some 63) = min 63 xs.length from HT.sIx_nat xs.length xs.length 63, List.drop_zero, Nat.sub_zero, List.take_of_length_le (by omega)]
section
variable {K : PySem.W.Frag} {Γ : Nat → Sp}
theorem w_lst4 {W : WX} {σ : L2.St} {H : Hp} {Q : VK} {a b c e : CE} (h : semE Γ K a W σ H fun x H1 => semE Γ K b W σ H1 fun y H2 => semE Γ K c W σ H2 fun z H3 => semE Γ K e W σ H3 fun u H4 => [x, y, z, u].length ≤ sizeLine ∧ ∀ p, H4 p = none → Q (.ref p) (upd H4 p (.lst [x, y, z, u]))) (n1 : ∀ z, a ≠ .star z := by intro z e; cases e) (n2 : ∀ z, b ≠ .star z := by intro z e; cases e) (n3 : ∀ z, c ≠ .star z := by intro z e; cases e) (n4 : ∀ z, e ≠ .star z := by intro z e; cases e) : semE Γ K (.lst [a, b, c, e]) W σ H Q := by
  show semA Γ K [a, b, c, e] W σ H _
  simp only [semA_cons n1, semA_cons n2, semA_cons n3, semA_cons n4]
  exact h
theorem w_lc {W : WX} {σ : L2.St} {H : Hp} {Q : VK} {elt : CE} {tg : CT} {it : CI} {own : List (Str × Nat)} (h : tLc (semI Γ K it W) (semG K tg) tYes (semE Γ K elt W0) (own.map (·.2)) σ H Q) : semE Γ K (.lc elt tg it own) W σ H Q := h
theorem obl_bag {d : Fd} (hb : d.body = dBagBody) (hps : d.ps.length = 1) (hN : d.N.length = 2) (hid : Γ d.id = spBag K) : Obl Γ K d := by
  intro vs H Q E h
  rw [hid] at h
  obtain ⟨a, ns, rfl, hS, hl, q⟩ := h
  refine ⟨by rw [hps]; rfl, ?_⟩
  rw [hb]
  have hst : start d.N [V.ref a] = [some (.ref a), none] := by
    rw [start_get, hN]
    rfl
  rw [hst]
  refine w_cons (w_ret (w_lst4 (w_int (w_int (w_int (w_lc ?_))))))
  refine Or.inl ⟨.ref a, rfl, 63, rfl, .inl ⟨a, _, rfl, hS, fun s hs => ?_⟩⟩
  have e1 : cutV (ns.map V.int) none (some 63) = ns.map V.int := cut63 _ (by rw [List.length_map]; exact hl)
  rw [e1]
  refine ⟨s, rfl, ⟨_, SqL.of upd_same⟩, fun D hD => ?_⟩
  have Ds : s ≠ D := fun z => by
    rw [← z, upd_same] at hD
    cases hD
  have hHD : H D = none := by
    rw [upd_ne Ds.symm] at hD
    exact hD
  refine ⟨fun i m H1 => i + m = ns.length ∧ Sub H H1 ∧ H1 s = some (.lst (ns.map V.int)) ∧ H1 D = some (.lst (((ns.take i).map absI).map V.int)), ⟨ns.length, by omega, fun b o z => ?_, ?_, upd_same⟩, fun i m H1 hW => ?_⟩
  · rw [upd_ne (ne_of_none z hHD), upd_ne (ne_of_none z hs)]
    exact z
  · rw [upd_ne Ds, upd_same]
  · obtain ⟨hm, sb, h1, h2⟩ := hW
    by_cases hi : i < ns.length
    · have hx : (ns.map V.int)[i]? = some (.int ns[i]) := by
        rw [List.getElem?_map, List.getElem?_eq_getElem hi]
        rfl
      refine .inr ⟨⟨_, _, SqL.of h1, hx⟩, fun H2 => i + 1 + (m - 1) = ns.length ∧ Sub H H2 ∧ H2 s = some (.lst (ns.map V.int)) ∧ H2 D = some (.lst (((ns.take (i + 1)).map absI).map V.int)), fun H2 hN2 => ⟨m - 1, by omega, hN2⟩, fun x H2 hy => ?_⟩
      obtain ⟨rfl, hy2⟩ := hy
      have ex := hy2 _ (SqL.of h1)
      rw [hx] at ex
      cases ex
      refine ⟨rfl, ?_⟩
      show semE Γ K (.blt .abs [.var 1]) W0 _ H2 _
      refine ⟨_, rfl, _, rfl, ?_⟩
      refine ⟨_, h2, ?_, by omega, fun b o z => ?_, ?_, ?_⟩
      · rw [List.length_map, List.length_map, List.length_take]
        exact lineL (by omega)
      · rw [upd_ne (ne_of_none z hHD)]
        exact sb b o z
      · rw [upd_ne Ds]
        exact h1
      · have e2 : ns.take (i + 1) = ns.take i ++ [ns[i]] := by
          rw [List.take_add_one, List.getElem?_eq_getElem hi]
          rfl
        rw [upd_same, e2, List.map_append, List.map_append]
        rfl
    · refine .inl ⟨⟨_, SqL.of h1, by rw [List.length_map]; omega⟩, ?_⟩
      have et : ns.take i = ns := List.take_of_length_le (by omega)
      rw [et] at h2
      refine ⟨by show 4 ≤ sizeLine; decide, fun p hp => ?_⟩
      have pD : p ≠ D := fun z => by
        rw [z, h2] at hp
        cases hp
      refine q p D _ (fun b o z => ?_) ?_ hHD pD upd_same ?_
      · rw [upd_ne (ne_of_none (sb b o z) hp)]
        exact sb b o z
      · cases e : H p with
        | none => rfl
        | some o =>
          rw [sb p o e] at hp
          cases hp
      · rw [upd_ne pD.symm]
        exact h2
theorem obl_law {M : Nat → Mir} {d : Fd} {b : Nat} {rest : List CS} (hΓ : HG K M Γ) (hb : d.body = .asg (.name 1) (.call b [.var 0]) :: rest) (hps : d.ps.length = 1) (hN : 2 ≤ d.N.length) (hbag : Γ b = spBag K) (hid : Γ d.id = spLaw K)
    (hrun : ∀ (ns : List Int) (C : Addr), ns.length ≤ 63 → ∃ β', evSs M rest (none :: some (.d .bag) :: List.replicate (d.N.length - 2) none) ⟨0, 1234567891, 0, ns.map absI, C⟩ = some (.ret (.bl true) β')) : Obl Γ K d := by
  intro vs H Q E h
  rw [hid] at h
  obtain ⟨a, ns, rfl, hS, hl, q⟩ := h
  refine ⟨by rw [hps]; rfl, ?_⟩
  rw [hb]
  refine w_cons (w_asg ?_)
  refine ⟨.ref a, by rw [start_get]; rfl, ?_⟩
  show Γ b _ _ _ _
  rw [hbag]
  refine ⟨a, ns, rfl, hS, hl, fun p C H' sb hp hC pC h1 h2 => ?_⟩
  obtain ⟨β', hev⟩ := hrun ns C hl
  have hst : (start d.N [V.ref a]).set 1 (some (.ref p)) = some (.ref a) :: some (.ref p) :: List.replicate (d.N.length - 2) none := by
    rw [start_get]
    obtain ⟨n, hn⟩ : ∃ n, d.N.length = n + 2 := ⟨d.N.length - 2, by omega⟩
    rw [hn]
    show (some (V.ref a) :: List.replicate (n + 1) none).set 1 (some (.ref p)) = _
    rw [List.replicate_succ]
    rfl
  rw [hst]
  have R : Rel K p (upd (fun _ => none) C (.lst ((ns.map absI).map V.int))) H' (some (.ref a) :: some (.ref p) :: List.replicate (d.N.length - 2) none) (none :: some (.d .bag) :: List.replicate (d.N.length - 2) none) ⟨0, 1234567891, 0, ns.map absI, C⟩ (upd (fun _ => none) C (.lst ((ns.map absI).map V.int))) H' := by
    refine { len := by simp, sub := fun x o z => ?_, g0 := Sub.refl _, h0 := fun _ _ z _ => z, n0 := fun _ _ _ z => z, b0 := ⟨_, h1⟩, bag := ⟨⟨C, h1, rfl, upd_same⟩, ?_, Int.le_refl 0⟩, d := fun i y hi => ?_, o := fun i ys hi => ?_, s := fun i a c fs hi => ?_, si := fun i j a c c' fs fs' hi => ?_, inj := fun i j ys zs p hi => ?_ }
    · by_cases e : x = C
      · subst e
        rw [upd_same] at z
        cases z
        exact h2
      · rw [upd_ne e] at z
        cases z
    · rw [upd_ne pC]
    · match i, hi with
      | 1, hi =>
        cases hi
        exact ⟨.ref p, rfl, .bag⟩
      | i + 2, hi =>
        have hi' : (List.replicate (d.N.length - 2) (none : Option Sl))[i]? = some (some (.d y)) := hi
        rw [List.getElem?_replicate] at hi'
        split at hi' <;> cases hi'
    · match i, hi with
      | i + 2, hi =>
        have hi' : (List.replicate (d.N.length - 2) (none : Option Sl))[i]? = some (some (.own ys)) := hi
        rw [List.getElem?_replicate] at hi'
        split at hi' <;> cases hi'
    · match i, hi with
      | i + 2, hi =>
        have hi' : (List.replicate (d.N.length - 2) (none : Option Sl))[i]? = some (some (.slf a c fs)) := hi
        rw [List.getElem?_replicate] at hi'
        split at hi' <;> cases hi'
    · match i, hi with
      | i + 2, hi =>
        have hi' : (List.replicate (d.N.length - 2) (none : Option Sl))[i]? = some (some (.slf a c fs)) := hi
        rw [List.getElem?_replicate] at hi'
        split at hi' <;> cases hi'
    · match i, hi with
      | i + 2, hi =>
        have hi' : (List.replicate (d.N.length - 2) (none : Option Sl))[i]? = some (some (.own ys)) := hi
        rw [List.getElem?_replicate] at hi'
        split at hi' <;> cases hi'
  refine sndSs hΓ rest _ _ _ hev R _ _ ⟨(fun _ _ ho => nomatch ho), fun y β2 ho v G' H2 x' b' d' => ?_⟩
  cases ho
  cases d'
  exact q H2
end
end LT

namespace LT
open PySem PySem.Spec PyProof.Rows L2
def mx (i j : Int) : Int := if j > i then j else i
def mn (i j : Int) : Int := if j < i then j else i
def pkE (M : Nat → Mir) (a : CE) (env : Env) (β : BS) : Option (D × BS) := pk env a (evP M a env β) β
def kVar (β : BS) : Option (Option Sl) → Option (D × BS)
  | some (some (.d x)) => some (x, β)
  | _ => none
def kPk (β : BS) : Option (Option Sl) → Option (D × BS)
  | some (some (.d x)) => some (x, β)
  | some (some (.own x)) => some (.lst x, β)
  | _ => none
def kTup (o : Option (List D × BS)) : Option (D × BS) := o.bind fun r => if r.1.length ≤ 1000000 then some (.tup r.1, r.2) else none
def kLst (o : Option (List D × BS)) : Option (D × BS) := o.bind fun r => if r.1.length ≤ 1000000 then some (.lst r.1, r.2) else none
def kD (β : BS) (o : Option D) : Option (D × BS) := o.map (·, β)
def kBl (β : BS) (o : Option Bool) : Option (D × BS) := o.map (.bl ·, β)
def kTt (β : BS) (o : Option Bool) : Option (Bool × BS) := o.map (·, β)
def kBin2 (op : Operator) (x : D) (o : Option (D × BS)) : Option (D × BS) := o.bind fun q => (dBin op x q.1).map (·, q.2)
def kBin1 (M : Nat → Mir) (op : Operator) (b : CE) (env : Env) (o : Option (D × BS)) : Option (D × BS) := o.bind fun r => kBin2 op r.1 (pkE M b env r.2)
def kNeg (o : Option (D × BS)) : Option (D × BS) := o.bind fun r => match r.1 with
    | .int i => some (.int (-i), r.2)
    | _ => none
def kNotV (o : Option (D × BS)) : Option (D × BS) := o.bind fun r => (dTru r.1).map fun t => (.bl (!t), r.2)
def kAnd2 (M : Nat → Mir) (b : CE) (env : Env) (x : D) (β : BS) (o : Option Bool) : Option (D × BS) := o.bind fun t => match t with
    | true => evP M b env β
    | false => some (x, β)
def kAndV (M : Nat → Mir) (b : CE) (env : Env) (o : Option (D × BS)) : Option (D × BS) := o.bind fun r => kAnd2 M b env r.1 r.2 (dTru r.1)
def kOr2 (M : Nat → Mir) (b : CE) (env : Env) (x : D) (β : BS) (o : Option Bool) : Option (D × BS) := o.bind fun t => match t with
    | true => some (x, β)
    | false => evP M b env β
def kOrV (M : Nat → Mir) (b : CE) (env : Env) (o : Option (D × BS)) : Option (D × BS) := o.bind fun r => kOr2 M b env r.1 r.2 (dTru r.1)
def kIte (M : Nat → Mir) (a b : CE) (env : Env) (o : Option (Bool × BS)) : Option (D × BS) := o.bind fun r => match r.1 with
    | true => evP M a env r.2
    | false => evP M b env r.2
def kCmp2 (op : CmpOp) (x : D) (o : Option (D × BS)) : Option (D × BS) := o.bind fun q => kBl q.2 (dCmp op x q.1)
def kCmp1 (M : Nat → Mir) (op : CmpOp) (b : CE) (env : Env) (o : Option (D × BS)) : Option (D × BS) := o.bind fun r => kCmp2 op r.1 (pkE M b env r.2)
def kCh4 (o2 : CmpOp) (y : D) (o : Option (D × BS)) : Option (D × BS) := o.bind fun z => kBl z.2 (dCmp o2 y z.1)
def kCh3 (M : Nat → Mir) (o2 : CmpOp) (c : CE) (env : Env) (y : D) (β : BS) (o : Option Bool) : Option (D × BS) := o.bind fun t => match t with
    | true => kCh4 o2 y (evP M c env β)
    | false => some (.bl false, β)
def kCh2 (M : Nat → Mir) (o1 o2 : CmpOp) (c : CE) (env : Env) (x : D) (o : Option (D × BS)) : Option (D × BS) := o.bind fun q => kCh3 M o2 c env q.1 q.2 (dCmp o1 x q.1)
def kCh1 (M : Nat → Mir) (o1 o2 : CmpOp) (b c : CE) (env : Env) (o : Option (D × BS)) : Option (D × BS) := o.bind fun r => kCh2 M o1 o2 c env r.1 (evP M b env r.2)
def kCall (M : Nat → Mir) (f : Nat) (o : Option (List D × BS)) : Option (D × BS) := o.bind fun r => if f < 100000 then M f r.1 r.2 else none
def kPr (M : Nat → Mir) (p : Prm) (o : Option (List D × BS)) : Option (D × BS) := o.bind fun r => dPr M p r.1 r.2
def kIs2 (b : Bool) (β : BS) (o : Option Bool) : Option (D × BS) := o.map fun c => (.bl (b || c), β)
def kIs1 (u : Ty) (x : D) (β : BS) (o : Option Bool) : Option (D × BS) := o.bind fun a => (tyIs u x).map fun b => (.bl (a || b), β)
def kLenO (o : Option (D × BS)) : Option (D × BS) := o.bind fun r => match r.1 with
    | .int n => if 0 ≤ n ∧ n < 2 ^ 62 then some (.int n, r.2) else none
    | _ => none
def kMe2 (M : Nat → Mir) (i : Nat) (x : D) (o : Option (List D × BS)) : Option (D × BS) := o.bind fun q => M i (x :: q.1) q.2
def kMe (M : Nat → Mir) (c i : Nat) (es : List CE) (env : Env) (o : Option (D × BS)) : Option (D × BS) := o.bind fun r => match r.1 with
    | .obj c' fs => if c' = c ∧ i < 100000 then kMe2 M i (.obj c' fs) (evA M es env r.2) else none
    | _ => none
def kMk2 (c : Nat) (o : Option (D × BS)) : Option (D × BS) := o.bind fun q => match q.1 with
    | .obj c' _ => if c' = c then some q else none
    | _ => none
def kMk (M : Nat → Mir) (c i : Nat) (df : List Df) (o : Option (List D × BS)) : Option (D × BS) := o.bind fun r => if 100000 ≤ i ∧ i < 200000 then kMk2 c (M i (r.1 ++ df.map Df.d) r.2) else none
def kLo (o : Option (D × BS)) : Option (List D × BS) := o.bind fun q => match q.1 with
    | .lst xs => some (xs, q.2)
    | _ => none
def kCaF (M : Nat → Mir) (f : Nat) (o : Option (List D × BS)) : Option (List D × BS) := o.bind fun r => if 200000 ≤ f then kLo (M f r.1 r.2) else none
def kMeF2 (M : Nat → Mir) (i : Nat) (x : D) (o : Option (List D × BS)) : Option (List D × BS) := o.bind fun q => kLo (M i (x :: q.1) q.2)
def kMeF (M : Nat → Mir) (c i : Nat) (es : List CE) (env : Env) (o : Option (D × BS)) : Option (List D × BS) := o.bind fun r => match r.1 with
    | .obj c' fs => if c' = c ∧ 200000 ≤ i then kMeF2 M i (.obj c' fs) (evA M es env r.2) else none
    | _ => none
def kCd (β : BS) (o : Option (D × BS)) : Option (D × BS) := o.bind fun q => if q.2.cell = β.cell ∧ (q.1.flat = true ∨ q.1.lf = true) then some q else none
def kEqO (ng : Bool) (β : BS) (o : Option (D × BS)) : Option (D × BS) := o.bind fun q => match q.1 with
  | .bl b => if q.2 = β then some (.bl (b != ng), β) else none
  | _ => none
def kCb (β : BS) (o : Option (D × BS)) : Option (D × BS) := o.bind fun q => if q.2 = β ∧ q.1.flat = true then some q else none
def kSet (β : BS) (o : Option (List Int)) : Option (D × BS) := o.bind fun ns => if ns.length ≤ 1000 ∨ (ns.length ≤ 100000 ∧ (ddI ns).length ≤ 4000) then some (.lst ((sortI (ddI ns)).map .int), β) else none
def kFr (β : BS) : Option (Option Sl) → Option (List D × BS)
  | some (some (.own xs)) => some (xs, β)
  | _ => none
def kLs (o : Option (List D × BS)) : Option (D × BS) := o.map fun r => (.lst r.1, r.2)
def kFdO (M : Nat → Mir) (l : Option CS) (o : Option Out) : Option (D × BS) := o.bind fun o => match o, l with
    | .nx e1 β1, some (.ret e) => kLs (evFr M e e1 β1)
    | .ret .non β1, some (.ret _) => some (.non, β1)
    | _, _ => none
def kOwR (o : Option (D × BS)) : Option (Sl × BS) := o.bind fun q => match q.1 with
    | .lst xs => some (.own xs, q.2)
    | .non => some (.d .non, q.2)
    | _ => none
def kOwC (M : Nat → Mir) (f : Nat) (o : Option (List D × BS)) : Option (Sl × BS) := o.bind fun r => if 200000 ≤ f then kOwR (M f r.1 r.2) else none
def kAsgN (i : Nat) (env : Env) (o : Option (Sl × BS)) : Option Out := o.map fun r => .nx (env.set i (some r.1)) r.2
theorem evFr_var (M : Nat → Mir) (i : Nat) (env : Env) (β : BS) : evFr M (.var i) env β = kFr β env[i]? := by
  unfold evFr
  simp only [peek]
  cases env[i]? with
  | none => rfl
  | some o => cases o with
    | none => rfl
    | some s => cases s <;> rfl
def kSt2 (xs : List D) (o : Option (List D × BS)) : Option (List D × BS) := o.map fun q => (xs ++ q.1, q.2)
def kSt (M : Nat → Mir) (es : List CE) (env : Env) (o : Option (D × BS)) : Option (List D × BS) := o.bind fun r => match r.1 with
    | .lst xs => kSt2 xs (evA M es env r.2)
    | .tup xs => kSt2 xs (evA M es env r.2)
    | _ => none
def kFs (i c k : Nat) (ts : List CT) (x : D) (xs : List D) (env : Env) : Option (Option Sl) → Option Env
  | some (some (.slf y c' fs)) => if c' = c ∧ fs.length = k ∧ k < (cfl c).length then bindFs ts xs (env.set i (some (.slf y c (fs ++ [x])))) else none
  | _ => none
theorem kFs_eq (i c k : Nat) (ts : List CT) (x : D) (xs : List D) (env : Env) : bindFs (.fld i c k :: ts) (x :: xs) env = kFs i c k ts x xs env env[i]? := by
  simp only [bindFs]
  unfold kFs
  cases env[i]? with
  | none => rfl
  | some o => cases o with
    | none => rfl
    | some s => cases s <;> rfl
theorem isF_name (i : Nat) (ts : List CT) : CT.isF (.tup (.name i :: ts)) = false := by
  cases ts <;> rfl
theorem isF_tup (us ts : List CT) : CT.isF (.tup (.tup (.name i :: us) :: ts)) = false := by
  cases ts <;> cases us <;> rfl
def kAsgF (t : CT) (env : Env) (o : Option (D × BS)) : Option Out := o.bind fun r => (bindF t r.1 env).map fun e1 => .nx e1 r.2
theorem evS_asgN (M : Nat → Mir) (t : CT) (e : CE) (env : Env) (β : BS) (h : t.isF = false) : evS M (.asg t e) env β = (evP M e env β).bind fun r => (bindT t r.1 env).map fun e => .nx e r.2 := by
  simp only [evS, h]
def kOs2 (s : Sl) (o : Option (List Sl × BS)) : Option (List Sl × BS) := o.map fun q => (s :: q.1, q.2)
def kOs1 (M : Nat → Mir) (os : List Bool) (es : List CE) (env : Env) (o : Option (Sl × BS)) : Option (List Sl × BS) := o.bind fun r => kOs2 r.1 (evOs M os es env r.2)
def kAP (is : List Nat) (env : Env) (o : Option (List Sl × BS)) : Option Out := o.bind fun r => if r.1.length = is.length ∧ r.1.length ≤ 1000000 then some (.nx (setAll is r.1 env) r.2) else none
def kFI (x : Addr) (c : Nat) (o : Option Out) : Option (D × BS) := o.bind fun o => match o with
    | .nx (some (.slf y c' fs) :: _) β1 => if y = x ∧ c' = c ∧ fs.length = (cfl c').length then some (.obj c' fs, β1) else none
    | _ => none
def kBlt (b : Bt) (o : Option (List D × BS)) : Option (D × BS) := o.bind fun r => kD r.2 (dBlt b r.1)
def kIx2 (x : D) (o : Option (D × BS)) : Option (D × BS) := o.bind fun q => kD q.2 (dIx x q.1)
def kIx1 (M : Nat → Mir) (b : CE) (env : Env) (o : Option (D × BS)) : Option (D × BS) := o.bind fun r => kIx2 r.1 (evP M b env r.2)
def kSlA (o : Option (D × BS)) : Option (D × BS) := o.bind fun r => kD r.2 (dSl r.1 none none)
def kSlF2 (x : D) (o : Option (D × BS)) : Option (D × BS) := o.bind fun q => (dInt q.1).bind fun i => (dSl x (some i) none).map (·, q.2)
def kSlF1 (M : Nat → Mir) (b : CE) (env : Env) (o : Option (D × BS)) : Option (D × BS) := o.bind fun r => kSlF2 r.1 (evP M b env r.2)
def kSlT2 (x : D) (o : Option (D × BS)) : Option (D × BS) := o.bind fun q => (dInt q.1).bind fun i => (dSl x none (some i)).map (·, q.2)
def kSlT1 (M : Nat → Mir) (b : CE) (env : Env) (o : Option (D × BS)) : Option (D × BS) := o.bind fun r => kSlT2 r.1 (evP M b env r.2)
def kSl3 (x : D) (i : Int) (o : Option (D × BS)) : Option (D × BS) := o.bind fun z => (dInt z.1).bind fun j => (dSl x (some i) (some j)).map (·, z.2)
def kSl2 (M : Nat → Mir) (hi : CE) (env : Env) (x : D) (o : Option (D × BS)) : Option (D × BS) := o.bind fun q => (dInt q.1).bind fun i => kSl3 x i (evP M hi env q.2)
def kSl1 (M : Nat → Mir) (lo hi : CE) (env : Env) (o : Option (D × BS)) : Option (D × BS) := o.bind fun r => kSl2 M hi env r.1 (evP M lo env r.2)
def kRev (o : Option (D × BS)) : Option (D × BS) := o.bind fun r => match r.1 with
    | .lst xs => some (.lst xs.reverse, r.2)
    | _ => none
def lcF (M : Nat → Mir) (elt : CE) (tg : CT) (env : Env) (x : D) (β : BS) : Option (D × BS) := (bindT tg x env).bind fun e1 => evP M elt e1 β
def lcC (M : Nat → Mir) (c : CB) (tg : CT) (env : Env) (x : D) (β : BS) : Option (Bool × BS) := (bindT tg x env).bind fun e1 => evB M c e1 β
def kLcE (M : Nat → Mir) (elt : CE) (β : BS) (o : Option Env) : Option (D × BS) := o.bind fun e1 => evP M elt e1 β
def kLcC (M : Nat → Mir) (c : CB) (β : BS) (o : Option Env) : Option (Bool × BS) := o.bind fun e1 => evB M c e1 β
def kLc (M : Nat → Mir) (elt : CE) (tg : CT) (env : Env) (o : Option (List D × BS)) : Option (List D × BS) := o.bind fun r => if r.1.length ≤ 1000000 then mapE (lcF M elt tg env) r.1 r.2 else none
def kLcIf (M : Nat → Mir) (elt : CE) (tg : CT) (c : CB) (env : Env) (o : Option (List D × BS)) : Option (List D × BS) := o.bind fun r => if r.1.length ≤ 1000000 then mapIf (lcC M c tg env) (lcF M elt tg env) r.1 r.2 else none
def kL (o : Option (List D × BS)) : Option (D × BS) := o.map fun q => (.lst q.1, q.2)
def kG {α : Type} (b : Bool) (o : Option α) : Option α := match b with
  | true => o
  | false => none
def kA2 (x : D) (o : Option (List D × BS)) : Option (List D × BS) := o.map fun q => (x :: q.1, q.2)
def kA1 (M : Nat → Mir) (es : List CE) (env : Env) (o : Option (D × BS)) : Option (List D × BS) := o.bind fun r => kA2 r.1 (evA M es env r.2)
def kV1 (M : Nat → Mir) (es : List CE) (env : Env) (o : Option (D × BS)) : Option (List D × BS) := o.bind fun r => kA2 r.1 (evV M es env r.2)
def kNot (o : Option (Bool × BS)) : Option (Bool × BS) := o.map fun r => (!r.1, r.2)
def kAnd (M : Nat → Mir) (b : CB) (env : Env) (o : Option (Bool × BS)) : Option (Bool × BS) := o.bind fun r => match r.1 with
    | true => evB M b env r.2
    | false => some (false, r.2)
def kOr (M : Nat → Mir) (b : CB) (env : Env) (o : Option (Bool × BS)) : Option (Bool × BS) := o.bind fun r => match r.1 with
    | true => some (true, r.2)
    | false => evB M b env r.2
def kBc2 (op : CmpOp) (x : D) (o : Option (D × BS)) : Option (Bool × BS) := o.bind fun q => kTt q.2 (dCmp op x q.1)
def kBc1 (M : Nat → Mir) (op : CmpOp) (b : CE) (env : Env) (o : Option (D × BS)) : Option (Bool × BS) := o.bind fun r => kBc2 op r.1 (pkE M b env r.2)
def kBh4 (o2 : CmpOp) (y : D) (o : Option (D × BS)) : Option (Bool × BS) := o.bind fun z => kTt z.2 (dCmp o2 y z.1)
def kBh3 (M : Nat → Mir) (o2 : CmpOp) (c : CE) (env : Env) (y : D) (β : BS) (o : Option Bool) : Option (Bool × BS) := o.bind fun t => match t with
    | true => kBh4 o2 y (evP M c env β)
    | false => some (false, β)
def kBh2 (M : Nat → Mir) (o1 o2 : CmpOp) (c : CE) (env : Env) (x : D) (o : Option (D × BS)) : Option (Bool × BS) := o.bind fun q => kBh3 M o2 c env q.1 q.2 (dCmp o1 x q.1)
def kBh1 (M : Nat → Mir) (o1 o2 : CmpOp) (b c : CE) (env : Env) (o : Option (D × BS)) : Option (Bool × BS) := o.bind fun r => kBh2 M o1 o2 c env r.1 (evP M b env r.2)
def kTru (o : Option (D × BS)) : Option (Bool × BS) := o.bind fun r => kTt r.2 (dTru r.1)
def kSeq (o : Option (D × BS)) : Option (List D × BS) := o.bind fun r => match r.1 with
    | .lst xs => some (xs, r.2)
    | .tup xs => some (xs, r.2)
    | _ => none
def kR1 (o : Option (D × BS)) : Option (List D × BS) := o.bind fun r => match r.1 with
    | .int j => some (rangeD 0 j.toNat, r.2)
    | _ => none
def kR2b (x : D) (o : Option (D × BS)) : Option (List D × BS) := o.bind fun q => match x, q.1 with
    | .int i, .int j => some (rangeD i (j - i).toNat, q.2)
    | _, _ => none
def kR2 (M : Nat → Mir) (b : CE) (env : Env) (o : Option (D × BS)) : Option (List D × BS) := o.bind fun r => kR2b r.1 (evP M b env r.2)
def kEnum (o : Option (D × BS)) : Option (List D × BS) := o.bind fun r => match r.1 with
    | .lst xs => some (enumD xs, r.2)
    | .tup xs => some (enumD xs, r.2)
    | _ => none
def kZip2 (x : D) (o : Option (D × BS)) : Option (List D × BS) := o.bind fun q => match x, q.1 with
    | .lst xs, .lst ys => some (zipD xs ys, q.2)
    | _, _ => none
def kZip (M : Nat → Mir) (b : CE) (env : Env) (o : Option (D × BS)) : Option (List D × BS) := o.bind fun r => kZip2 r.1 (pkE M b env r.2)
def kFl (o : Option (List D × BS)) : Option (List D × BS) := o.bind fun r => if r.1.length ≤ 1000000 then some r else none
def kFc2 (x : D) (o : Option (D × BS)) : Option (List D × BS) := o.bind fun q => match x, q.1 with
    | .lst xs, .lst ys => if xs.length + ys.length ≤ 1000000 then some (xs ++ ys, q.2) else none
    | _, _ => none
def kFc1 (M : Nat → Mir) (b : CE) (env : Env) (o : Option (D × BS)) : Option (List D × BS) := o.bind fun r => kFc2 r.1 (pkE M b env r.2)
def kOw (o : Option (List D × BS)) : Option (Sl × BS) := o.map fun r => (.own r.1, r.2)
def kNo (o : Option (D × BS)) : Option (Sl × BS) := o.map fun r => (.d r.1, r.2)
def kNx (β : BS) (o : Option Env) : Option Out := o.map fun e => .nx e β
def kAsg (t : CT) (env : Env) (o : Option (D × BS)) : Option Out := o.bind fun r => kNx r.2 (bindT t r.1 env)
def kAsgO (i : Nat) (env : Env) (o : Option (List D × BS)) : Option Out := o.map fun r => .nx (env.set i (some (.own r.1))) r.2
def kRet (o : Option (D × BS)) : Option Out := o.map fun r => .ret r.1 r.2
def kExp (env : Env) (o : Option (D × BS)) : Option Out := o.map fun r => .nx env r.2
def kIfS (M : Nat → Mir) (a b : List CS) (env : Env) (o : Option (Bool × BS)) : Option Out := o.bind fun r => match r.1 with
    | true => evSs M a env r.2
    | false => evSs M b env r.2
def kP2 (i j : Nat) (env : Env) (s : Sl) (o : Option (Sl × BS)) : Option Out := o.map fun q => .nx ((env.set i (some s)).set j (some q.1)) q.2
def kP1 (M : Nat → Mir) (oj : Bool) (i j : Nat) (b : CE) (env : Env) (o : Option (Sl × BS)) : Option Out := o.bind fun r => kP2 i j env r.1 (evO M oj b env r.2)
def kQ3 (i j l : Nat) (env : Env) (s t : Sl) (o : Option (Sl × BS)) : Option Out := o.map fun z => .nx (((env.set i (some s)).set j (some t)).set l (some z.1)) z.2
def kQ2 (M : Nat → Mir) (ol : Bool) (i j l : Nat) (c : CE) (env : Env) (s : Sl) (o : Option (Sl × BS)) : Option Out := o.bind fun q => kQ3 i j l env s q.1 (evO M ol c env q.2)
def kQ1 (M : Nat → Mir) (oj ol : Bool) (i j l : Nat) (b c : CE) (env : Env) (o : Option (Sl × BS)) : Option Out := o.bind fun r => kQ2 M ol i j l c env r.1 (evO M oj b env r.2)
def kAp2 (i : Nat) (env : Env) (xs : List D) (o : Option (D × BS)) : Option Out := o.bind fun r => if xs.length < 1000000 then some (.nx (env.set i (some (.own (xs ++ [r.1])))) r.2) else none
def kAp1 (M : Nat → Mir) (i : Nat) (a : CE) (env : Env) (β : BS) : Option (Option Sl) → Option Out
  | some (some (.own xs)) => kAp2 i env xs (evP M a env β)
  | _ => none
def kEx2 (i : Nat) (env : Env) (xs : List D) (o : Option (D × BS)) : Option Out := o.bind fun r => match r.1 with
        | .lst ys => if xs.length + ys.length ≤ 1000000 then some (.nx (env.set i (some (.own (xs ++ ys)))) r.2) else none
        | _ => none
def kEx1 (M : Nat → Mir) (i : Nat) (a : CE) (env : Env) (β : BS) : Option (Option Sl) → Option Out
  | some (some (.own xs)) => kEx2 i env xs (evP M a env β)
  | _ => none
def kAu2 (i : Nat) (op : Operator) (env : Env) (x : Int) (o : Option (D × BS)) : Option Out := o.bind fun r => match op, r.1 with
      | .Add, .int y => some (.nx (env.set i (some (.d (.int (x + y))))) r.2)
      | .Sub, .int y => some (.nx (env.set i (some (.d (.int (x - y))))) r.2)
      | _, _ => none
def kAu1 (M : Nat → Mir) (i : Nat) (op : Operator) (e : CE) (env : Env) (β : BS) : Option (Option Sl) → Option Out
  | some (some (.d (.int x))) => kAu2 i op env x (evP M e env β)
  | _ => none
def kSx3 (i : Nat) (env : Env) (xs : List D) (x : D) (o : Option (D × BS)) : Option Out := o.bind fun q => match q.1 with
        | .int k => (ixN xs.length k).map fun j => .nx (env.set i (some (.own (xs.set j x)))) q.2
        | _ => none
def kSx2 (M : Nat → Mir) (i : Nat) (a : CE) (env : Env) (xs : List D) (o : Option (D × BS)) : Option Out := o.bind fun r => kSx3 i env xs r.1 (evP M a env r.2)
def kSx1 (M : Nat → Mir) (i : Nat) (a e : CE) (env : Env) (β : BS) : Option (Option Sl) → Option Out
  | some (some (.own xs)) => kSx2 M i a env xs (evP M e env β)
  | _ => none
def kFor (M : Nat → Mir) (t : CT) (body : List CS) (env : Env) (o : Option (List D × BS)) : Option Out := o.bind fun r => forE t (evSs M body) r.1 env r.2
def kSs (M : Nat → Mir) (ss : List CS) (o : Option Out) : Option Out := o.bind fun o => match o with
    | .nx e1 β1 => evSs M ss e1 β1
    | .ret x β1 => some (.ret x β1)
def kFd (o : Option Out) : Option (D × BS) := o.map fun o => match o with
    | .nx _ β1 => (.non, β1)
    | .ret x β1 => (x, β1)
def kBT (ts : List CT) (xs : List D) (o : Option Env) : Option Env := o.bind (bindTs ts xs)
def isVar : CE → Bool
  | .var _ => true
  | _ => false
theorem pkE_of (M : Nat → Mir) (a : CE) (env : Env) (β : BS) (h : isVar a = false) : pkE M a env β = evP M a env β := by
  cases a <;> first | rfl | cases h
theorem pkE_var (M : Nat → Mir) (i : Nat) (env : Env) (β : BS) : pkE M (.var i) env β = kPk β env[i]? := by
  unfold pkE pk peek kPk
  simp only [evP]
  cases env[i]? with
  | none => rfl
  | some o => cases o with
    | none => rfl
    | some s => cases s <;> rfl
theorem evP_var (M : Nat → Mir) (i : Nat) (env : Env) (β : BS) : evP M (.var i) env β = kVar β env[i]? := by
  simp only [evP]
  unfold kVar
  cases env[i]? with
  | none => rfl
  | some o => cases o with
    | none => rfl
    | some s => cases s <;> rfl
theorem evS_ap (M : Nat → Mir) (i : Nat) (a : CE) (env : Env) (β : BS) : evS M (.expr (.bm .append (.var i) [a])) env β = kAp1 M i a env β env[i]? := by
  simp only [evS]
  unfold kAp1
  cases env[i]? with
  | none => rfl
  | some o => cases o with
    | none => rfl
    | some s => cases s <;> rfl
theorem evS_ex (M : Nat → Mir) (i : Nat) (a : CE) (env : Env) (β : BS) : evS M (.expr (.bm .extend (.var i) [a])) env β = kEx1 M i a env β env[i]? := by
  simp only [evS]
  unfold kEx1
  cases env[i]? with
  | none => rfl
  | some o => cases o with
    | none => rfl
    | some s => cases s <;> rfl
theorem evS_aug (M : Nat → Mir) (i : Nat) (op : Operator) (a : CE) (env : Env) (β : BS) : evS M (.aug i op a) env β = kAu1 M i op a env β env[i]? := by
  simp only [evS]
  unfold kAu1
  cases env[i]? with
  | none => rfl
  | some o => cases o with
    | none => rfl
    | some s => cases s with
      | own x => rfl
      | slf x c fs => rfl
      | d x => cases x <;> rfl
theorem evS_set (M : Nat → Mir) (i : Nat) (a e : CE) (env : Env) (β : BS) : evS M (.setIx (.var i) a e) env β = kSx1 M i a e env β env[i]? := by
  simp only [evS]
  unfold kSx1
  cases env[i]? with
  | none => rfl
  | some o => cases o with
    | none => rfl
    | some s => cases s <;> rfl
theorem evS_for (M : Nat → Mir) (t : CT) (it : CI) (body : List CS) (env : Env) (β : BS) : evS M (.forS t it body) env β = kG (noPk env it) (kFor M t body env (evI M it env β)) := by
  simp only [evS]
  unfold kG
  cases noPk env it <;> rfl
def l2F (M : Nat → Mir) (elt : CE) (tg tg1 : CT) (it1 : CI) (env : Env) (x : D) (β1 : BS) : Option (List D × BS) := (bindT tg x env).bind fun e1 => if allD e1 = true then (evI M it1 e1 β1).bind fun s => mapE (lcF M elt tg1 (wipeE e1 tg1.slots)) s.1 s.2 else none
def l2I (M : Nat → Mir) (elt : CE) (tg tg1 : CT) (it1 : CI) (c : CB) (env : Env) (x : D) (β1 : BS) : Option (List D × BS) := (bindT tg x env).bind fun e1 => if allD e1 = true then (evI M it1 e1 β1).bind fun s => mapIf (lcC M c tg1 (wipeE e1 tg1.slots)) (lcF M elt tg1 (wipeE e1 tg1.slots)) s.1 s.2 else none
def kL2b (o : Option (List D × BS)) : Option (D × BS) := o.bind fun q => if q.1.length ≤ 1000000 then some (.lst q.1, q.2) else none
def kL2 (M : Nat → Mir) (elt : CE) (tg tg1 : CT) (it1 : CI) (env : Env) (o : Option (List D × BS)) : Option (D × BS) := o.bind fun r => if r.1.length ≤ 1000000 then kL2b (flatE (l2F M elt tg tg1 it1 env) r.1 r.2) else none
def kL2i (M : Nat → Mir) (elt : CE) (tg tg1 : CT) (it1 : CI) (c : CB) (env : Env) (o : Option (List D × BS)) : Option (D × BS) := o.bind fun r => if r.1.length ≤ 1000000 then kL2b (flatE (l2I M elt tg tg1 it1 c env) r.1 r.2) else none
def kSs2 (o : Option (List D × BS)) : Option (D × BS) := o.bind fun q => ssD q.1 q.2
def kSsc (M : Nat → Mir) (elt : CE) (tg : CT) (env : Env) (o : Option (List D × BS)) : Option (D × BS) := o.bind fun r => if r.1.length ≤ 1000000 then kSs2 (mapE (lcF M elt tg env) r.1 r.2) else none
theorem lc2_eq (M : Nat → Mir) (elt : CE) (tg : CT) (it : CI) (tg1 : CT) (it1 : CI) (own : List (Str × Nat)) (env : Env) (β : BS) : evP M (.lc2 elt tg it tg1 it1 own) env β = kG (tgIn tg own && (tgIn tg1 own && noOwn env own)) (kL2 M elt tg tg1 it1 (wipeE env (own.map (·.2))) (evI M it env β)) := by
  simp only [evP]
  unfold kG kL2
  cases tgIn tg own && (tgIn tg1 own && noOwn env own) <;> rfl
theorem lc2If_eq (M : Nat → Mir) (elt : CE) (tg : CT) (it : CI) (tg1 : CT) (it1 : CI) (c : CB) (own : List (Str × Nat)) (env : Env) (β : BS) : evP M (.lc2If elt tg it tg1 it1 c own) env β = kG (tgIn tg own && (tgIn tg1 own && noOwn env own)) (kL2i M elt tg tg1 it1 c (wipeE env (own.map (·.2))) (evI M it env β)) := by
  simp only [evP]
  unfold kG kL2i
  cases tgIn tg own && (tgIn tg1 own && noOwn env own) <;> rfl
theorem ssc_eq (M : Nat → Mir) (elt : CE) (tg : CT) (it : CI) (own : List (Str × Nat)) (env : Env) (β : BS) : evP M (.ssc elt tg it own) env β = kG (tgIn tg own && noOwn env own) (kSsc M elt tg (wipeE env (own.map (·.2))) (evI M it env β)) := by
  simp only [evP]
  unfold kG kSsc
  cases tgIn tg own && noOwn env own <;> rfl
theorem fssc_eq (M : Nat → Mir) (elt : CE) (tg : CT) (it : CI) (own : List (Str × Nat)) (env : Env) (β : BS) : evF M (.ssc elt tg it own) env β = kLo (kG (tgIn tg own && noOwn env own) (kSsc M elt tg (wipeE env (own.map (·.2))) (evI M it env β))) := by
  simp only [evF]
  unfold kG kSsc kLo kSs2
  cases tgIn tg own && noOwn env own with
  | false => rfl
  | true =>
    cases evI M it env β with
    | none => rfl
    | some r =>
      show (if r.1.length ≤ 1000000 then _ else _) = Option.bind (if r.1.length ≤ 1000000 then _ else _) _
      split
      · show Option.bind (mapE (lcF M elt tg (wipeE env (own.map (·.2)))) r.1 r.2) _ = Option.bind (Option.bind (mapE (lcF M elt tg (wipeE env (own.map (·.2)))) r.1 r.2) _) _
        cases mapE (lcF M elt tg (wipeE env (own.map (·.2)))) r.1 r.2 <;> rfl
      · rfl
theorem lc_eq (M : Nat → Mir) (elt : CE) (tg : CT) (it : CI) (own : List (Str × Nat)) (env : Env) (β : BS) : evP M (.lc elt tg it own) env β = kG (tgIn tg own && noOwn env own) (kL (kLc M elt tg (wipeE env (own.map (·.2))) (evI M it env β))) := by
  simp only [evP]
  unfold kG kL kLc
  cases tgIn tg own && noOwn env own with
  | false => rfl
  | true =>
    cases evI M it env β with
    | none => rfl
    | some r =>
      show (if r.1.length ≤ 1000000 then _ else _) = Option.map _ (if r.1.length ≤ 1000000 then _ else _)
      split <;> rfl
theorem lcIf_eq (M : Nat → Mir) (elt : CE) (tg : CT) (it : CI) (c : CB) (own : List (Str × Nat)) (env : Env) (β : BS) : evP M (.lcIf elt tg it c own) env β = kG (tgIn tg own && noOwn env own) (kL (kLcIf M elt tg c (wipeE env (own.map (·.2))) (evI M it env β))) := by
  simp only [evP]
  unfold kG kL kLcIf
  cases tgIn tg own && noOwn env own with
  | false => rfl
  | true =>
    cases evI M it env β with
    | none => rfl
    | some r =>
      show (if r.1.length ≤ 1000000 then _ else _) = Option.map _ (if r.1.length ≤ 1000000 then _ else _)
      split <;> rfl
theorem flc_eq (M : Nat → Mir) (elt : CE) (tg : CT) (it : CI) (own : List (Str × Nat)) (env : Env) (β : BS) : evF M (.lc elt tg it own) env β = kG (tgIn tg own && noOwn env own) (kLc M elt tg (wipeE env (own.map (·.2))) (evI M it env β)) := by
  simp only [evF]
  unfold kG kLc
  cases tgIn tg own && noOwn env own <;> rfl
theorem flcIf_eq (M : Nat → Mir) (elt : CE) (tg : CT) (it : CI) (c : CB) (own : List (Str × Nat)) (env : Env) (β : BS) : evF M (.lcIf elt tg it c own) env β = kG (tgIn tg own && noOwn env own) (kLcIf M elt tg c (wipeE env (own.map (·.2))) (evI M it env β)) := by
  simp only [evF]
  unfold kG kLcIf
  cases tgIn tg own && noOwn env own <;> rfl
end LT

namespace LT
open PySem PySem.Spec PyProof.Rows L2
theorem atI_cons0 {α : Type} (x : α) (xs : List α) : atI (x :: xs) 0 = some x := atI_nat (xs := x :: xs) (j := 0) rfl
theorem atI_cons1 {α : Type} (a b : α) (xs : List α) : atI (a :: b :: xs) 1 = some b := atI_nat (xs := a :: b :: xs) (j := 1) rfl
theorem atI_cons2 {α : Type} (a b c : α) (xs : List α) : atI (a :: b :: c :: xs) 2 = some c := atI_nat (xs := a :: b :: c :: xs) (j := 2) rfl
theorem atI_cons3 {α : Type} (a b c d : α) (xs : List α) : atI (a :: b :: c :: d :: xs) 3 = some d := atI_nat (xs := a :: b :: c :: d :: xs) (j := 3) rfl
theorem atI_cons4 {α : Type} (a b c d e : α) (xs : List α) : atI (a :: b :: c :: d :: e :: xs) 4 = some e := atI_nat (xs := a :: b :: c :: d :: e :: xs) (j := 4) rfl
theorem atI_cons5 {α : Type} (a b c d e f : α) (xs : List α) : atI (a :: b :: c :: d :: e :: f :: xs) 5 = some f := atI_nat (xs := a :: b :: c :: d :: e :: f :: xs) (j := 5) rfl
theorem atI_cons6 {α : Type} (a b c d e f g : α) (xs : List α) : atI (a :: b :: c :: d :: e :: f :: g :: xs) 6 = some g := atI_nat (xs := a :: b :: c :: d :: e :: f :: g :: xs) (j := 6) rfl
theorem atI_cons7 {α : Type} (a b c d e f g h : α) (xs : List α) : atI (a :: b :: c :: d :: e :: f :: g :: h :: xs) 7 = some h := atI_nat (xs := a :: b :: c :: d :: e :: f :: g :: h :: xs) (j := 7) rfl
theorem atI_cons8 {α : Type} (a b c d e f g h i : α) (xs : List α) : atI (a :: b :: c :: d :: e :: f :: g :: h :: i :: xs) 8 = some i := atI_nat (xs := a :: b :: c :: d :: e :: f :: g :: h :: i :: xs) (j := 8) rfl
def notOS : Option (Option Sl) → Bool
  | some (some (.own _)) => false
  | some (some (.slf _ _ _)) => false
  | _ => true
def notOwn : Option (Option Sl) → Bool
  | some (some (.own _)) => false
  | _ => true
def kFz (i : Nat) (env : Env) : Option (Option Sl) → Env
  | some (some (.own xs)) => env.set i (some (.d (.lst xs)))
  | _ => env
theorem noOwn_eq (env : Env) (s : Str) (i : Nat) (own : List (Str × Nat)) : noOwn env ((s, i) :: own) = (notOS env[i]? && noOwn env own) := rfl
theorem frz_eq (i : Nat) (is : List Nat) (env : Env) : frz (i :: is) env = frz is (kFz i env env[i]?) := by
  show frz is (frz1 i env) = frz is (kFz i env env[i]?)
  congr 1
theorem peek_no (env : Env) (i : Nat) : (peek env (.var i)).isNone = notOwn env[i]? := by
  simp only [peek]
  cases env[i]? with
  | none => rfl
  | some o => cases o with
    | none => rfl
    | some s => cases s <;> rfl
theorem notOwn_map (o : Option D) : notOwn (some (o.map .d)) = true := by
  cases o <;> rfl
theorem noPk1 (env : Env) (i : Nat) : noPk env (.seq (.var i)) = notOwn env[i]? := peek_no env i
theorem noPk2 (env : Env) (i : Nat) : noPk env (.enum (.var i)) = notOwn env[i]? := peek_no env i
theorem noPk3 (env : Env) (i j : Nat) : noPk env (.zip (.var i) (.var j)) = (notOwn env[i]? && notOwn env[j]?) := by
  show ((peek env (.var i)).isNone && (peek env (.var j)).isNone) = _
  rw [peek_no, peek_no]
theorem dPr_fld (M : Nat → Mir) (c k : Nat) (fs : List D) (β : BS) : dPr M (.fld c k) [.obj c fs] β = kD β fs[k]? := by
  show (if c = c then _ else _) = _
  rw [if_pos rfl]
  rfl
theorem dPr_prop (M : Nat → Mir) (c : Nat) (nm : Str) (i : Nat) (fs : List D) (β : BS) : dPr M (.prop c nm i) [.obj c fs] β = if i < 100000 then M i [.obj c fs] β else none := by
  show (if c = c ∧ i < 100000 then _ else _) = _
  simp only [true_and]
theorem dPr_len (M : Nat → Mir) (c i : Nat) (fs : List D) (β : BS) : dPr M (.lenO c i) [.obj c fs] β = if i < 100000 then kLenO (M i [.obj c fs] β) else none := by
  show (if c = c ∧ i < 100000 then _ else _) = _
  simp only [true_and]
  rfl
theorem dPr_ix (M : Nat → Mir) (c i : Nat) (fs : List D) (y : Int) (β : BS) : dPr M (.ixO c i) [.obj c fs, .int y] β = if i < 100000 then M i [.obj c fs, .int y] β else none := by
  show (if c = c ∧ i < 100000 then _ else _) = _
  simp only [true_and]
theorem kMe_eq (M : Nat → Mir) (c i : Nat) (es : List CE) (env : Env) (fs : List D) (β : BS) : kMe M c i es env (some (.obj c fs, β)) = if i < 100000 then kMe2 M i (.obj c fs) (evA M es env β) else none := by
  show (if c = c ∧ i < 100000 then _ else _) = _
  simp only [true_and]
theorem kMk2_eq (c : Nat) (fs : List D) (β : BS) : kMk2 c (some (.obj c fs, β)) = some (.obj c fs, β) := if_pos rfl
theorem kFs_at (i c k : Nat) (ts : List CT) (x : D) (xs : List D) (env : Env) (y : Addr) (fs : List D) : kFs i c k ts x xs env (some (some (.slf y c fs))) = if fs.length = k ∧ k < (cfl c).length then bindFs ts xs (env.set i (some (.slf y c (fs ++ [x])))) else none := by
  show (if c = c ∧ fs.length = k ∧ k < (cfl c).length then _ else _) = _
  simp only [true_and]
theorem bindF_fld (i c k : Nat) (x : D) (env : Env) : bindF (.fld i c k) x env = bindFs [.fld i c k] [x] env := by
  cases x <;> rfl
theorem asg_n1 (M : Nat → Mir) (i : Nat) (ts : List CT) (a : CE) (env : Env) (β : BS) : evS M (.asg (.tup (.name i :: ts)) a) env β = kAsg (.tup (.name i :: ts)) env (evP M a env β) := evS_asgN M _ a env β (isF_name i ts)
theorem asg_n2 (M : Nat → Mir) (i : Nat) (us ts : List CT) (a : CE) (env : Env) (β : BS) : evS M (.asg (.tup (.tup (.name i :: us) :: ts)) a) env β = kAsg (.tup (.tup (.name i :: us) :: ts)) env (evP M a env β) := evS_asgN M _ a env β (isF_tup us ts)
theorem ev :
    (∀ (M : Nat → Mir) (i : Nat) (env : Env) (β : BS), evP M (.var i) env β = kVar β env[i]?) ∧
    (∀ (M : Nat → Mir) (i : Nat) (env : Env) (β : BS), pkE M (.var i) env β = kPk β env[i]?) ∧
    (∀ (M : Nat → Mir) (env : Env) (β : BS) (i : Int), evP M (.cst (.int i)) env β = some (.int i, β)) ∧
    (∀ (M : Nat → Mir) (env : Env) (β : BS) (i : Bool), evP M (.cst (.bool i)) env β = some (.bl i, β)) ∧
    (∀ (M : Nat → Mir) (env : Env) (β : BS) , evP M (.cst (.none)) env β = some (.non, β)) ∧
    (∀ (M : Nat → Mir) (env : Env) (β : BS) (i : Str), evP M (.cst (.str i)) env β = some (.str i, β)) ∧
    (∀ (M : Nat → Mir) (env : Env) (β : BS) (es : List CE), evP M (.tup es) env β = kTup (evA M es env β)) ∧
    (∀ (M : Nat → Mir) (env : Env) (β : BS) (es : List CE), evP M (.lst es) env β = kLst (evA M es env β)) ∧
    (∀ (M : Nat → Mir) (env : Env) (β : BS) (op : Operator) (a b : CE), evP M (.bin op a b) env β = kBin1 M op b env (pkE M a env β)) ∧
    (∀ (M : Nat → Mir) (env : Env) (β : BS) (a : CE), evP M (.neg a) env β = kNeg (evP M a env β)) ∧
    (∀ (M : Nat → Mir) (env : Env) (β : BS) (a : CE), evP M (.notV a) env β = kNotV (pkE M a env β)) ∧
    (∀ (M : Nat → Mir) (env : Env) (β : BS) (a b : CE), evP M (.andV a b) env β = kAndV M b env (evP M a env β)) ∧
    (∀ (M : Nat → Mir) (env : Env) (β : BS) (a b : CE), evP M (.orV a b) env β = kOrV M b env (evP M a env β)) ∧
    (∀ (M : Nat → Mir) (env : Env) (β : BS) (c : CB) (a b : CE), evP M (.ite c a b) env β = kIte M a b env (evB M c env β)) ∧
    (∀ (M : Nat → Mir) (env : Env) (β : BS) (op : CmpOp) (a b : CE), evP M (.cmp op a b) env β = kCmp1 M op b env (pkE M a env β)) ∧
    (∀ (M : Nat → Mir) (env : Env) (β : BS) (o1 o2 : CmpOp) (a b c : CE), evP M (.chain o1 o2 a b c) env β = kCh1 M o1 o2 b c env (evP M a env β)) ∧
    (∀ (M : Nat → Mir) (env : Env) (β : BS) (f : Nat) (es : List CE), evP M (.call f es) env β = kCall M f (evA M es env β)) ∧
    (∀ (M : Nat → Mir) (env : Env) (β : BS) (f : Bt) (es : List CE), evP M (.blt f es) env β = kBlt f (evV M es env β)) ∧
    (∀ (M : Nat → Mir) (env : Env) (β : BS) (a b : CE), evP M (.ix a b) env β = kIx1 M b env (pkE M a env β)) ∧
    (∀ (M : Nat → Mir) (env : Env) (β : BS) (a : CE), evP M (.slA a) env β = kSlA (pkE M a env β)) ∧
    (∀ (M : Nat → Mir) (env : Env) (β : BS) (a b : CE), evP M (.slF a b) env β = kSlF1 M b env (pkE M a env β)) ∧
    (∀ (M : Nat → Mir) (env : Env) (β : BS) (a b : CE), evP M (.slT a b) env β = kSlT1 M b env (pkE M a env β)) ∧
    (∀ (M : Nat → Mir) (env : Env) (β : BS) (a b c : CE), evP M (.slFT a b c) env β = kSl1 M b c env (pkE M a env β)) ∧
    (∀ (M : Nat → Mir) (env : Env) (β : BS) (a : CE), evP M (.rev a) env β = kRev (pkE M a env β)) ∧
    (∀ (M : Nat → Mir) (elt : CE) (tg : CT) (it : CI) (own : List (Str × Nat)) (env : Env) (β : BS), evP M (.lc elt tg it own) env β = kG (tgIn tg own && noOwn env own) (kL (kLc M elt tg (wipeE env (own.map (·.2))) (evI M it env β)))) ∧
    (∀ (M : Nat → Mir) (elt : CE) (tg : CT) (it : CI) (c : CB) (own : List (Str × Nat)) (env : Env) (β : BS), evP M (.lcIf elt tg it c own) env β = kG (tgIn tg own && noOwn env own) (kL (kLcIf M elt tg c (wipeE env (own.map (·.2))) (evI M it env β)))) ∧
    (∀ (M : Nat → Mir) (elt : CE) (tg : CT) (it : CI) (own : List (Str × Nat)) (env : Env) (β : BS), evF M (.lc elt tg it own) env β = kG (tgIn tg own && noOwn env own) (kLc M elt tg (wipeE env (own.map (·.2))) (evI M it env β))) ∧
    (∀ (M : Nat → Mir) (elt : CE) (tg : CT) (it : CI) (c : CB) (own : List (Str × Nat)) (env : Env) (β : BS), evF M (.lcIf elt tg it c own) env β = kG (tgIn tg own && noOwn env own) (kLcIf M elt tg c (wipeE env (own.map (·.2))) (evI M it env β))) ∧
    (∀ (M : Nat → Mir) (env : Env) (β : BS) (c : Const), pkE M (.cst c) env β = evP M (.cst c) env β) ∧
    (∀ (M : Nat → Mir) (env : Env) (β : BS) (es : List CE), pkE M (.tup es) env β = evP M (.tup es) env β) ∧
    (∀ (M : Nat → Mir) (env : Env) (β : BS) (es : List CE), pkE M (.lst es) env β = evP M (.lst es) env β) ∧
    (∀ (M : Nat → Mir) (env : Env) (β : BS) (op : Operator) (a b : CE), pkE M (.bin op a b) env β = evP M (.bin op a b) env β) ∧
    (∀ (M : Nat → Mir) (env : Env) (β : BS) (a : CE), pkE M (.neg a) env β = evP M (.neg a) env β) ∧
    (∀ (M : Nat → Mir) (env : Env) (β : BS) (a : CE), pkE M (.notV a) env β = evP M (.notV a) env β) ∧
    (∀ (M : Nat → Mir) (env : Env) (β : BS) (a b : CE), pkE M (.andV a b) env β = evP M (.andV a b) env β) ∧
    (∀ (M : Nat → Mir) (env : Env) (β : BS) (a b : CE), pkE M (.orV a b) env β = evP M (.orV a b) env β) ∧
    (∀ (M : Nat → Mir) (env : Env) (β : BS) (c : CB) (a b : CE), pkE M (.ite c a b) env β = evP M (.ite c a b) env β) ∧
    (∀ (M : Nat → Mir) (env : Env) (β : BS) (op : CmpOp) (a b : CE), pkE M (.cmp op a b) env β = evP M (.cmp op a b) env β) ∧
    (∀ (M : Nat → Mir) (env : Env) (β : BS) (o1 o2 : CmpOp) (a b c : CE), pkE M (.chain o1 o2 a b c) env β = evP M (.chain o1 o2 a b c) env β) ∧
    (∀ (M : Nat → Mir) (env : Env) (β : BS) (f : Nat) (es : List CE), pkE M (.call f es) env β = evP M (.call f es) env β) ∧
    (∀ (M : Nat → Mir) (env : Env) (β : BS) (f : Bt) (es : List CE), pkE M (.blt f es) env β = evP M (.blt f es) env β) ∧
    (∀ (M : Nat → Mir) (env : Env) (β : BS) (a b : CE), pkE M (.ix a b) env β = evP M (.ix a b) env β) ∧
    (∀ (M : Nat → Mir) (env : Env) (β : BS) (a : CE), pkE M (.slA a) env β = evP M (.slA a) env β) ∧
    (∀ (M : Nat → Mir) (env : Env) (β : BS) (a b : CE), pkE M (.slF a b) env β = evP M (.slF a b) env β) ∧
    (∀ (M : Nat → Mir) (env : Env) (β : BS) (a b : CE), pkE M (.slT a b) env β = evP M (.slT a b) env β) ∧
    (∀ (M : Nat → Mir) (env : Env) (β : BS) (a b c : CE), pkE M (.slFT a b c) env β = evP M (.slFT a b c) env β) ∧
    (∀ (M : Nat → Mir) (env : Env) (β : BS) (a : CE), pkE M (.rev a) env β = evP M (.rev a) env β) ∧
    (∀ (M : Nat → Mir) (env : Env) (β : BS) (elt : CE) (tg : CT) (it : CI) (own : List (Str × Nat)), pkE M (.lc elt tg it own) env β = evP M (.lc elt tg it own) env β) ∧
    (∀ (M : Nat → Mir) (env : Env) (β : BS) (elt : CE) (tg : CT) (it : CI) (c : CB) (own : List (Str × Nat)), pkE M (.lcIf elt tg it c own) env β = evP M (.lcIf elt tg it c own) env β) ∧
    (∀ (M : Nat → Mir) (env : Env) (β : BS) (p : Prm) (es : List CE), pkE M (.prim p es) env β = evP M (.prim p es) env β) ∧
    (∀ (M : Nat → Mir) (env : Env) (β : BS) (c : Nat) (nm : Str) (i : Nat) (o : CE) (es : List CE), pkE M (.meth c nm i o es) env β = evP M (.meth c nm i o es) env β) ∧
    (∀ (M : Nat → Mir) (env : Env) (β : BS) (c i : Nat) (es : List CE) (df : List Df), pkE M (.make c i es df) env β = evP M (.make c i es df) env β) ∧
    (∀ (M : Nat → Mir) (env : Env) (β : BS) , evA M [] env β = some ([], β)) ∧
    (∀ (M : Nat → Mir) (env : Env) (β : BS) (i : Nat) (es : List CE), evA M (.var i :: es) env β = kA1 M es env (evP M (.var i) env β)) ∧
    (∀ (M : Nat → Mir) (env : Env) (β : BS) (c : Const) (es : List CE), evA M (.cst c :: es) env β = kA1 M es env (evP M (.cst c) env β)) ∧
    (∀ (M : Nat → Mir) (env : Env) (β : BS) (fs : List CE) (es : List CE), evA M (.tup fs :: es) env β = kA1 M es env (evP M (.tup fs) env β)) ∧
    (∀ (M : Nat → Mir) (env : Env) (β : BS) (fs : List CE) (es : List CE), evA M (.lst fs :: es) env β = kA1 M es env (evP M (.lst fs) env β)) ∧
    (∀ (M : Nat → Mir) (env : Env) (β : BS) (op : Operator) (a b : CE) (es : List CE), evA M (.bin op a b :: es) env β = kA1 M es env (evP M (.bin op a b) env β)) ∧
    (∀ (M : Nat → Mir) (env : Env) (β : BS) (a : CE) (es : List CE), evA M (.neg a :: es) env β = kA1 M es env (evP M (.neg a) env β)) ∧
    (∀ (M : Nat → Mir) (env : Env) (β : BS) (a : CE) (es : List CE), evA M (.notV a :: es) env β = kA1 M es env (evP M (.notV a) env β)) ∧
    (∀ (M : Nat → Mir) (env : Env) (β : BS) (a b : CE) (es : List CE), evA M (.andV a b :: es) env β = kA1 M es env (evP M (.andV a b) env β)) ∧
    (∀ (M : Nat → Mir) (env : Env) (β : BS) (a b : CE) (es : List CE), evA M (.orV a b :: es) env β = kA1 M es env (evP M (.orV a b) env β)) ∧
    (∀ (M : Nat → Mir) (env : Env) (β : BS) (c : CB) (a b : CE) (es : List CE), evA M (.ite c a b :: es) env β = kA1 M es env (evP M (.ite c a b) env β)) ∧
    (∀ (M : Nat → Mir) (env : Env) (β : BS) (op : CmpOp) (a b : CE) (es : List CE), evA M (.cmp op a b :: es) env β = kA1 M es env (evP M (.cmp op a b) env β)) ∧
    (∀ (M : Nat → Mir) (env : Env) (β : BS) (o1 o2 : CmpOp) (a b c : CE) (es : List CE), evA M (.chain o1 o2 a b c :: es) env β = kA1 M es env (evP M (.chain o1 o2 a b c) env β)) ∧
    (∀ (M : Nat → Mir) (env : Env) (β : BS) (f : Nat) (fs : List CE) (es : List CE), evA M (.call f fs :: es) env β = kA1 M es env (evP M (.call f fs) env β)) ∧
    (∀ (M : Nat → Mir) (env : Env) (β : BS) (f : Bt) (fs : List CE) (es : List CE), evA M (.blt f fs :: es) env β = kA1 M es env (evP M (.blt f fs) env β)) ∧
    (∀ (M : Nat → Mir) (env : Env) (β : BS) (a b : CE) (es : List CE), evA M (.ix a b :: es) env β = kA1 M es env (evP M (.ix a b) env β)) ∧
    (∀ (M : Nat → Mir) (env : Env) (β : BS) (a : CE) (es : List CE), evA M (.slA a :: es) env β = kA1 M es env (evP M (.slA a) env β)) ∧
    (∀ (M : Nat → Mir) (env : Env) (β : BS) (a b : CE) (es : List CE), evA M (.slF a b :: es) env β = kA1 M es env (evP M (.slF a b) env β)) ∧
    (∀ (M : Nat → Mir) (env : Env) (β : BS) (a b : CE) (es : List CE), evA M (.slT a b :: es) env β = kA1 M es env (evP M (.slT a b) env β)) ∧
    (∀ (M : Nat → Mir) (env : Env) (β : BS) (a b c : CE) (es : List CE), evA M (.slFT a b c :: es) env β = kA1 M es env (evP M (.slFT a b c) env β)) ∧
    (∀ (M : Nat → Mir) (env : Env) (β : BS) (a : CE) (es : List CE), evA M (.rev a :: es) env β = kA1 M es env (evP M (.rev a) env β)) ∧
    (∀ (M : Nat → Mir) (env : Env) (β : BS) (elt : CE) (tg : CT) (it : CI) (own : List (Str × Nat)) (es : List CE), evA M (.lc elt tg it own :: es) env β = kA1 M es env (evP M (.lc elt tg it own) env β)) ∧
    (∀ (M : Nat → Mir) (env : Env) (β : BS) (elt : CE) (tg : CT) (it : CI) (c : CB) (own : List (Str × Nat)) (es : List CE), evA M (.lcIf elt tg it c own :: es) env β = kA1 M es env (evP M (.lcIf elt tg it c own) env β)) ∧
    (∀ (M : Nat → Mir) (env : Env) (β : BS) (p : Prm) (fs : List CE) (es : List CE), evA M (.prim p fs :: es) env β = kA1 M es env (evP M (.prim p fs) env β)) ∧
    (∀ (M : Nat → Mir) (env : Env) (β : BS) (c : Nat) (nm : Str) (i : Nat) (o : CE) (fs : List CE) (es : List CE), evA M (.meth c nm i o fs :: es) env β = kA1 M es env (evP M (.meth c nm i o fs) env β)) ∧
    (∀ (M : Nat → Mir) (env : Env) (β : BS) (c i : Nat) (fs : List CE) (df : List Df) (es : List CE), evA M (.make c i fs df :: es) env β = kA1 M es env (evP M (.make c i fs df) env β)) ∧
    (∀ (M : Nat → Mir) (env : Env) (β : BS) (a : CE) (es : List CE), evA M (.star a :: es) env β = kSt M es env (pkE M a env β)) ∧
    (∀ (M : Nat → Mir) (es : List CE) (env : Env) (xs : List D) (β : BS), kSt M es env (some (.lst xs, β)) = kSt2 xs (evA M es env β)) ∧
    (∀ (M : Nat → Mir) (es : List CE) (env : Env) (xs : List D) (β : BS), kSt M es env (some (.tup xs, β)) = kSt2 xs (evA M es env β)) ∧
    (∀ (xs ys : List D) (β : BS), kSt2 xs (some (ys, β)) = some (xs ++ ys, β)) ∧
    (∀ (M : Nat → Mir) (env : Env) (β : BS) (p : Prm) (es : List CE), evP M (.prim p es) env β = kPr M p (evV M es env β)) ∧
    (∀ (M : Nat → Mir) (env : Env) (β : BS) (c : Nat) (nm : Str) (i : Nat) (o : CE) (es : List CE), evP M (.meth c nm i o es) env β = kMe M c i es env (evP M o env β)) ∧
    (∀ (M : Nat → Mir) (env : Env) (β : BS) (c i : Nat) (es : List CE) (df : List Df), evP M (.make c i es df) env β = kMk M c i df (evA M es env β)) ∧
    (∀ (M : Nat → Mir) (p : Prm) (ds : List D) (β : BS), kPr M p (some (ds, β)) = dPr M p ds β) ∧
    (∀ (M : Nat → Mir) (x : D) (β : BS), dPr M .repr [x] β = kD β (dRepr x)) ∧
    (∀ (M : Nat → Mir) (t : Ty) (x : D) (β : BS), dPr M (.isi1 t) [x] β = kBl β (tyIs t x)) ∧
    (∀ (M : Nat → Mir) (t u : Ty) (x : D) (β : BS), dPr M (.isi2 t u) [x] β = kIs1 u x β (tyIs t x)) ∧
    (∀ (u : Ty) (x : D) (β : BS) (b : Bool), kIs1 u x β (some b) = kIs2 b β (tyIs u x)) ∧
    (∀ (b c : Bool) (β : BS), kIs2 b β (some c) = some (.bl (b || c), β)) ∧
    (∀ (M : Nat → Mir) (c k : Nat) (fs : List D) (β : BS), dPr M (.fld c k) [.obj c fs] β = kD β fs[k]?) ∧
    (∀ (M : Nat → Mir) (c : Nat) (nm : Str) (i : Nat) (fs : List D) (β : BS), dPr M (.prop c nm i) [.obj c fs] β = if i < 100000 then M i [.obj c fs] β else none) ∧
    (∀ (M : Nat → Mir) (c i : Nat) (fs : List D) (β : BS), dPr M (.lenO c i) [.obj c fs] β = if i < 100000 then kLenO (M i [.obj c fs] β) else none) ∧
    (∀ (M : Nat → Mir) (c i : Nat) (fs : List D) (y : Int) (β : BS), dPr M (.ixO c i) [.obj c fs, .int y] β = if i < 100000 then M i [.obj c fs, .int y] β else none) ∧
    (∀ (M : Nat → Mir) (g : Str) (i : Int) (β : BS), dPr M (.gint g i) [] β = some (.int i, β)) ∧
    (∀ (M : Nat → Mir) (xs ys : List D) (β : BS), dPr M .lzip [.lst xs, .lst ys] β = if xs.length ≤ 1000000 then some (.lst (zipD xs ys), β) else none) ∧
    (∀ (M : Nat → Mir) (j : Int) (β : BS), dPr M .lrng1 [.int j] β = if -(2 ^ 62) ≤ j ∧ j ≤ 1000000 then some (.lst (rangeD 0 j.toNat), β) else none) ∧
    (∀ (M : Nat → Mir) (i j : Int) (β : BS), dPr M .lrng2 [.int i, .int j] β = if -(2 ^ 61) ≤ i ∧ i ≤ 2 ^ 61 ∧ -(2 ^ 62) ≤ j ∧ j - i ≤ 1000000 then some (.lst (rangeD i (j - i).toNat), β) else none) ∧
    (∀ (x : List D), dBlt .sum [.lst x] = (intsD x).map fun l => .int l.sum) ∧
    (∀ (x : List D), dBlt .sum [.tup x] = (intsD x).map fun l => .int l.sum) ∧
    (∀ (i j : Int), dBlt .divmod [.int i, .int j] = if 0 < j ∧ j.natAbs < big then some (.tup [.int (i / j), .int (i % j)]) else none) ∧
    (∀ (j : Int) (β : BS), kLenO (some (.int j, β)) = if 0 ≤ j ∧ j < 2 ^ 62 then some (.int j, β) else none) ∧
    (∀ (M : Nat → Mir) (c i : Nat) (es : List CE) (env : Env) (fs : List D) (β : BS), kMe M c i es env (some (.obj c fs, β)) = if i < 100000 then kMe2 M i (.obj c fs) (evA M es env β) else none) ∧
    (∀ (M : Nat → Mir) (i : Nat) (x : D) (ds : List D) (β : BS), kMe2 M i x (some (ds, β)) = M i (x :: ds) β) ∧
    (∀ (M : Nat → Mir) (c i : Nat) (df : List Df) (ds : List D) (β : BS), kMk M c i df (some (ds, β)) = if 100000 ≤ i ∧ i < 200000 then kMk2 c (M i (ds ++ df.map Df.d) β) else none) ∧
    (∀ (c : Nat) (fs : List D) (β : BS), kMk2 c (some (.obj c fs, β)) = some (.obj c fs, β)) ∧
    (Df.d .non = .non) ∧
    (Df.d .unit = .tup []) ∧
    (∀ (i c k : Nat) (ts : List CT) (x : D) (xs : List D) (env : Env), bindFs (.fld i c k :: ts) (x :: xs) env = kFs i c k ts x xs env env[i]?) ∧
    (∀ (i c k : Nat) (ts : List CT) (x : D) (xs : List D) (env : Env) (y : Addr) (fs : List D), kFs i c k ts x xs env (some (some (.slf y c fs))) = if fs.length = k ∧ k < (cfl c).length then bindFs ts xs (env.set i (some (.slf y c (fs ++ [x])))) else none) ∧
    (∀ (env : Env), bindFs [] [] env = some env) ∧
    (∀ (i c k : Nat) (x : D) (env : Env), bindF (.fld i c k) x env = bindFs [.fld i c k] [x] env) ∧
    (∀ (ts : List CT) (xs : List D) (env : Env), bindF (.tup ts) (.tup xs) env = bindFs ts xs env) ∧
    (∀ (t : CT) (env : Env) (x : D) (β : BS), kAsgF t env (some (x, β)) = kNx β (bindF t x env)) ∧
    (∀ (t : Bty), tyIs (.b t) .non = some false) ∧
    (∀ (t : Bty) (b : Bool), tyIs (.b t) (.bl b) = some (t == .bool || t == .int)) ∧
    (∀ (t : Bty) (i : Int), tyIs (.b t) (.int i) = some (t == .int)) ∧
    (∀ (t : Bty) (s : Str), tyIs (.b t) (.str s) = some (t == .str)) ∧
    (∀ (t : Bty) (x : List D), tyIs (.b t) (.tup x) = some (t == .tuple)) ∧
    (∀ (t : Bty) (x : List D), tyIs (.b t) (.lst x) = some (t == .list)) ∧
    (∀ (t : Bty) (c : Nat) (x : List D), tyIs (.b t) (.obj c x) = some false) ∧
    (∀ (k : Nat) (c : Nat) (x : List D), tyIs (.c k) (.obj c x) = some (c == k)) ∧
    (∀ (k : Nat), tyIs (.c k) .non = some false) ∧
    (∀ (k : Nat) (b : Bool), tyIs (.c k) (.bl b) = some false) ∧
    (∀ (k : Nat) (i : Int), tyIs (.c k) (.int i) = some false) ∧
    (∀ (k : Nat) (s : Str), tyIs (.c k) (.str s) = some false) ∧
    (∀ (k : Nat) (x : List D), tyIs (.c k) (.tup x) = some false) ∧
    (∀ (k : Nat) (x : List D), tyIs (.c k) (.lst x) = some false) ∧
    (∀ (M : Nat → Mir) (env : Env) (β : BS) , evV M [] env β = some ([], β)) ∧
    (∀ (M : Nat → Mir) (env : Env) (β : BS) (a : CE) (es : List CE), evV M (a :: es) env β = kV1 M es env (pkE M a env β)) ∧
    (∀ (M : Nat → Mir) (env : Env) (β : BS) (a : CB), evB M (.not a) env β = kNot (evB M a env β)) ∧
    (∀ (M : Nat → Mir) (env : Env) (β : BS) (a b : CB), evB M (.and a b) env β = kAnd M b env (evB M a env β)) ∧
    (∀ (M : Nat → Mir) (env : Env) (β : BS) (a b : CB), evB M (.or a b) env β = kOr M b env (evB M a env β)) ∧
    (∀ (M : Nat → Mir) (env : Env) (β : BS) (op : CmpOp) (a b : CE), evB M (.cmp op a b) env β = kBc1 M op b env (pkE M a env β)) ∧
    (∀ (M : Nat → Mir) (env : Env) (β : BS) (o1 o2 : CmpOp) (a b c : CE), evB M (.chain o1 o2 a b c) env β = kBh1 M o1 o2 b c env (evP M a env β)) ∧
    (∀ (M : Nat → Mir) (env : Env) (β : BS) (a : CE), evB M (.tru a) env β = kTru (pkE M a env β)) ∧
    (∀ (M : Nat → Mir) (env : Env) (β : BS) (a : CE), evI M (.seq a) env β = kSeq (pkE M a env β)) ∧
    (∀ (M : Nat → Mir) (env : Env) (β : BS) (a : CE), evI M (.rng1 a) env β = kR1 (evP M a env β)) ∧
    (∀ (M : Nat → Mir) (env : Env) (β : BS) (a b : CE), evI M (.rng2 a b) env β = kR2 M b env (evP M a env β)) ∧
    (∀ (M : Nat → Mir) (env : Env) (β : BS) (a : CE), evI M (.enum a) env β = kEnum (pkE M a env β)) ∧
    (∀ (M : Nat → Mir) (env : Env) (β : BS) (a b : CE), evI M (.zip a b) env β = kZip M b env (pkE M a env β)) ∧
    (∀ (M : Nat → Mir) (env : Env) (β : BS) (es : List CE), evF M (.lst es) env β = kFl (evA M es env β)) ∧
    (∀ (M : Nat → Mir) (env : Env) (β : BS) (a : CE), evF M (.blt .list [a]) env β = kSeq (pkE M a env β)) ∧
    (∀ (M : Nat → Mir) (env : Env) (β : BS) (a b : CE), evF M (.bin .Add a b) env β = kFc1 M b env (pkE M a env β)) ∧
    (∀ (M : Nat → Mir) (env : Env) (β : BS) (a : CE), evO M true a env β = kOw (evF M a env β)) ∧
    (∀ (M : Nat → Mir) (env : Env) (β : BS) (a : CE), evO M false a env β = kNo (evP M a env β)) ∧
    (∀ (M : Nat → Mir) (env : Env) (β : BS) , evS M .pass env β = some (.nx env β)) ∧
    (∀ (M : Nat → Mir) (env : Env) (β : BS) (is : List Nat), evS M (.fz is) env β = some (.nx (frz is env) β)) ∧
    (∀ (M : Nat → Mir) (i : Nat) (a : CE) (env : Env) (β : BS), evS M (.expr (.bm .append (.var i) [a])) env β = kAp1 M i a env β env[i]?) ∧
    (∀ (M : Nat → Mir) (i : Nat) (a : CE) (env : Env) (β : BS), evS M (.expr (.bm .extend (.var i) [a])) env β = kEx1 M i a env β env[i]?) ∧
    (∀ (M : Nat → Mir) (env : Env) (β : BS) (f : Nat) (es : List CE), evS M (.expr (.call f es)) env β = kExp env (evP M (.call f es) env β)) ∧
    (∀ (M : Nat → Mir) (env : Env) (β : BS) (a : CE), evS M (.ret a) env β = kRet (evP M a env β)) ∧
    (∀ (M : Nat → Mir) (env : Env) (β : BS) , evS M .retN env β = some (.ret .non β)) ∧
    (∀ (M : Nat → Mir) (env : Env) (β : BS) (c : CB) (a b : List CS), evS M (.ifs c a b) env β = kIfS M a b env (evB M c env β)) ∧
    (∀ (M : Nat → Mir) (env : Env) (β : BS) (i : Nat) (a : CE), evS M (.asg (.name i) a) env β = kAsg (.name i) env (evP M a env β)) ∧
    (∀ (M : Nat → Mir) (i : Nat) (ts : List CT) (a : CE) (env : Env) (β : BS), evS M (.asg (.tup (.name i :: ts)) a) env β = kAsg (.tup (.name i :: ts)) env (evP M a env β)) ∧
    (∀ (M : Nat → Mir) (i : Nat) (us ts : List CT) (a : CE) (env : Env) (β : BS), evS M (.asg (.tup (.tup (.name i :: us) :: ts)) a) env β = kAsg (.tup (.tup (.name i :: us) :: ts)) env (evP M a env β)) ∧
    (∀ (M : Nat → Mir) (env : Env) (β : BS) (i c k : Nat) (a : CE), evS M (.asg (.fld i c k) a) env β = kAsgF (.fld i c k) env (evP M a env β)) ∧
    (∀ (M : Nat → Mir) (env : Env) (β : BS) (i c k i2 c2 k2 : Nat) (a : CE), evS M (.asg (.tup [.fld i c k, .fld i2 c2 k2]) a) env β = kAsgF (.tup [.fld i c k, .fld i2 c2 k2]) env (evP M a env β)) ∧
    (∀ (M : Nat → Mir) (env : Env) (β : BS) (i c k i2 c2 k2 i3 c3 k3 : Nat) (a : CE), evS M (.asg (.tup [.fld i c k, .fld i2 c2 k2, .fld i3 c3 k3]) a) env β = kAsgF (.tup [.fld i c k, .fld i2 c2 k2, .fld i3 c3 k3]) env (evP M a env β)) ∧
    (∀ (M : Nat → Mir) (env : Env) (β : BS) (i c k i2 c2 k2 i3 c3 k3 i4 c4 k4 : Nat) (a : CE), evS M (.asg (.tup [.fld i c k, .fld i2 c2 k2, .fld i3 c3 k3, .fld i4 c4 k4]) a) env β = kAsgF (.tup [.fld i c k, .fld i2 c2 k2, .fld i3 c3 k3, .fld i4 c4 k4]) env (evP M a env β)) ∧
    (∀ (M : Nat → Mir) (env : Env) (β : BS) (os : List Bool) (is : List Nat) (es : List CE), evS M (.asgP os is es) env β = kAP is env (evOs M os es env β)) ∧
    (∀ (is : List Nat) (env : Env) (ss : List Sl) (β : BS), kAP is env (some (ss, β)) = if ss.length = is.length ∧ ss.length ≤ 1000000 then some (.nx (setAll is ss env) β) else none) ∧
    (∀ (M : Nat → Mir) (env : Env) (β : BS) , evOs M [] [] env β = some ([], β)) ∧
    (∀ (M : Nat → Mir) (env : Env) (β : BS) (o : Bool) (os : List Bool) (c : CE) (es : List CE), evOs M (o :: os) (c :: es) env β = kOs1 M os es env (evO M o c env β)) ∧
    (∀ (M : Nat → Mir) (os : List Bool) (es : List CE) (env : Env) (s : Sl) (β : BS), kOs1 M os es env (some (s, β)) = kOs2 s (evOs M os es env β)) ∧
    (∀ (s : Sl) (ss : List Sl) (β : BS), kOs2 s (some (ss, β)) = some (s :: ss, β)) ∧
    (∀ (env : Env), setAll [] [] env = env) ∧
    (∀ (i : Nat) (is : List Nat) (s : Sl) (ss : List Sl) (env : Env), setAll (i :: is) (s :: ss) env = setAll is ss (env.set i (some s))) ∧
    (∀ (x y : Addr) (c k : Nat) (fs : List D) (e : Env) (β : BS), kFI x c (some (.nx (some (.slf y k fs) :: e) β)) = if y = x ∧ k = c ∧ fs.length = (cfl k).length then some (.obj k fs, β) else none) ∧
    (∀ (M : Nat → Mir) (env : Env) (β : BS) (i : Nat) (a : CE), evS M (.asgO i a) env β = kAsgN i env (evOwn M a env β)) ∧
    (∀ (M : Nat → Mir) (env : Env) (β : BS) (oi oj : Bool) (i j : Nat) (a b : CE), evS M (.par2 oi oj i j a b) env β = kP1 M oj i j b env (evO M oi a env β)) ∧
    (∀ (M : Nat → Mir) (env : Env) (β : BS) (oi oj ol : Bool) (i j l : Nat) (a b c : CE), evS M (.par3 oi oj ol i j l a b c) env β = kQ1 M oj ol i j l b c env (evO M oi a env β)) ∧
    (∀ (M : Nat → Mir) (i : Nat) (op : Operator) (a : CE) (env : Env) (β : BS), evS M (.aug i op a) env β = kAu1 M i op a env β env[i]?) ∧
    (∀ (M : Nat → Mir) (i : Nat) (a e : CE) (env : Env) (β : BS), evS M (.setIx (.var i) a e) env β = kSx1 M i a e env β env[i]?) ∧
    (∀ (M : Nat → Mir) (t : CT) (it : CI) (body : List CS) (env : Env) (β : BS), evS M (.forS t it body) env β = kG (noPk env it) (kFor M t body env (evI M it env β))) ∧
    (∀ (M : Nat → Mir) (env : Env) (β : BS) , evSs M [] env β = some (.nx env β)) ∧
    (∀ (M : Nat → Mir) (env : Env) (β : BS) (s : CS) (ss : List CS), evSs M (s :: ss) env β = kSs M ss (evS M s env β)) ∧
    (∀ (β : BS) (x : D), kVar β (some (some (.d x))) = some (x, β)) ∧
    (∀ (β : BS) (x : D), kPk β (some (some (.d x))) = some (x, β)) ∧
    (∀ (β : BS) (x : List D), kPk β (some (some (.own x))) = some (.lst x, β)) ∧
    (∀ (β : BS) (x : List D), kTup (some (x, β)) = if x.length ≤ 1000000 then some (.tup x, β) else none) ∧
    (∀ (β : BS) (x : List D), kLst (some (x, β)) = if x.length ≤ 1000000 then some (.lst x, β) else none) ∧
    (∀ (β : BS) (x : D), kD β (some x) = some (x, β)) ∧
    (∀ (β : BS) (x : Bool), kBl β (some x) = some (.bl x, β)) ∧
    (∀ (β : BS) (x : Bool), kTt β (some x) = some (x, β)) ∧
    (∀ (op : Operator) (x y : D) (β : BS), kBin2 op x (some (y, β)) = kD β (dBin op x y)) ∧
    (∀ (M : Nat → Mir) (op : Operator) (b : CE) (env : Env) (x : D) (β : BS), kBin1 M op b env (some (x, β)) = kBin2 op x (pkE M b env β)) ∧
    (∀ (i : Int) (β : BS), kNeg (some (.int i, β)) = some (.int (-i), β)) ∧
    (∀ (x : D) (β : BS), kNotV (some (x, β)) = (dTru x).map fun t => (.bl (!t), β)) ∧
    (∀ (M : Nat → Mir) (b : CE) (env : Env) (x : D) (β : BS), kAnd2 M b env x β (some true) = evP M b env β) ∧
    (∀ (M : Nat → Mir) (b : CE) (env : Env) (x : D) (β : BS), kAnd2 M b env x β (some false) = some (x, β)) ∧
    (∀ (M : Nat → Mir) (b : CE) (env : Env) (x : D) (β : BS), kAndV M b env (some (x, β)) = kAnd2 M b env x β (dTru x)) ∧
    (∀ (M : Nat → Mir) (b : CE) (env : Env) (x : D) (β : BS), kOr2 M b env x β (some true) = some (x, β)) ∧
    (∀ (M : Nat → Mir) (b : CE) (env : Env) (x : D) (β : BS), kOr2 M b env x β (some false) = evP M b env β) ∧
    (∀ (M : Nat → Mir) (b : CE) (env : Env) (x : D) (β : BS), kOrV M b env (some (x, β)) = kOr2 M b env x β (dTru x)) ∧
    (∀ (M : Nat → Mir) (a b : CE) (env : Env) (β : BS), kIte M a b env (some (true, β)) = evP M a env β) ∧
    (∀ (M : Nat → Mir) (a b : CE) (env : Env) (β : BS), kIte M a b env (some (false, β)) = evP M b env β) ∧
    (∀ (op : CmpOp) (x y : D) (β : BS), kCmp2 op x (some (y, β)) = kBl β (dCmp op x y)) ∧
    (∀ (M : Nat → Mir) (op : CmpOp) (b : CE) (env : Env) (x : D) (β : BS), kCmp1 M op b env (some (x, β)) = kCmp2 op x (pkE M b env β)) ∧
    (∀ (op : CmpOp) (x y : D) (β : BS), kCh4 op x (some (y, β)) = kBl β (dCmp op x y)) ∧
    (∀ (M : Nat → Mir) (op : CmpOp) (c : CE) (env : Env) (y : D) (β : BS), kCh3 M op c env y β (some true) = kCh4 op y (evP M c env β)) ∧
    (∀ (M : Nat → Mir) (op : CmpOp) (c : CE) (env : Env) (y : D) (β : BS), kCh3 M op c env y β (some false) = some (.bl false, β)) ∧
    (∀ (M : Nat → Mir) (o1 o2 : CmpOp) (c : CE) (env : Env) (x y : D) (β : BS), kCh2 M o1 o2 c env x (some (y, β)) = kCh3 M o2 c env y β (dCmp o1 x y)) ∧
    (∀ (M : Nat → Mir) (o1 o2 : CmpOp) (b c : CE) (env : Env) (x : D) (β : BS), kCh1 M o1 o2 b c env (some (x, β)) = kCh2 M o1 o2 c env x (evP M b env β)) ∧
    (∀ (M : Nat → Mir) (f : Nat) (ds : List D) (β : BS), kCall M f (some (ds, β)) = if f < 100000 then M f ds β else none) ∧
    (∀ (f : Bt) (ds : List D) (β : BS), kBlt f (some (ds, β)) = kD β (dBlt f ds)) ∧
    (∀ (x y : D) (β : BS), kIx2 x (some (y, β)) = kD β (dIx x y)) ∧
    (∀ (M : Nat → Mir) (b : CE) (env : Env) (x : D) (β : BS), kIx1 M b env (some (x, β)) = kIx2 x (evP M b env β)) ∧
    (∀ (x : D) (β : BS), kSlA (some (x, β)) = kD β (dSl x none none)) ∧
    (∀ (x : D) (i : Int) (β : BS), kSlF2 x (some (.int i, β)) = kD β (dSl x (some i) none)) ∧
    (∀ (M : Nat → Mir) (b : CE) (env : Env) (x : D) (β : BS), kSlF1 M b env (some (x, β)) = kSlF2 x (evP M b env β)) ∧
    (∀ (x : D) (i : Int) (β : BS), kSlT2 x (some (.int i, β)) = kD β (dSl x none (some i))) ∧
    (∀ (M : Nat → Mir) (b : CE) (env : Env) (x : D) (β : BS), kSlT1 M b env (some (x, β)) = kSlT2 x (evP M b env β)) ∧
    (∀ (x : D) (i j : Int) (β : BS), kSl3 x i (some (.int j, β)) = kD β (dSl x (some i) (some j))) ∧
    (∀ (M : Nat → Mir) (b : CE) (env : Env) (x : D) (i : Int) (β : BS), kSl2 M b env x (some (.int i, β)) = kSl3 x i (evP M b env β)) ∧
    (∀ (M : Nat → Mir) (a b : CE) (env : Env) (x : D) (β : BS), kSl1 M a b env (some (x, β)) = kSl2 M b env x (evP M a env β)) ∧
    (∀ (xs : List D) (β : BS), kRev (some (.lst xs, β)) = some (.lst xs.reverse, β)) ∧
    (∀ (M : Nat → Mir) (elt : CE) (tg : CT) (env : Env) (x : D) (β : BS), lcF M elt tg env x β = kLcE M elt β (bindT tg x env)) ∧
    (∀ (M : Nat → Mir) (c : CB) (tg : CT) (env : Env) (x : D) (β : BS), lcC M c tg env x β = kLcC M c β (bindT tg x env)) ∧
    (∀ (M : Nat → Mir) (elt : CE) (env : Env) (β : BS), kLcE M elt β (some env) = evP M elt env β) ∧
    (∀ (M : Nat → Mir) (elt : CB) (env : Env) (β : BS), kLcC M elt β (some env) = evB M elt env β) ∧
    (∀ (M : Nat → Mir) (elt : CE) (tg : CT) (env : Env) (xs : List D) (β : BS), kLc M elt tg env (some (xs, β)) = if xs.length ≤ 1000000 then mapE (lcF M elt tg env) xs β else none) ∧
    (∀ (M : Nat → Mir) (elt : CE) (tg : CT) (c : CB) (env : Env) (xs : List D) (β : BS), kLcIf M elt tg c env (some (xs, β)) = if xs.length ≤ 1000000 then mapIf (lcC M c tg env) (lcF M elt tg env) xs β else none) ∧
    (∀ (xs : List D) (β : BS), kL (some (xs, β)) = some (.lst xs, β)) ∧
    (∀ {α : Type} (o : Option α), kG true o = o) ∧
    (∀ (x : D) (xs : List D) (β : BS), kA2 x (some (xs, β)) = some (x :: xs, β)) ∧
    (∀ (M : Nat → Mir) (es : List CE) (env : Env) (x : D) (β : BS), kA1 M es env (some (x, β)) = kA2 x (evA M es env β)) ∧
    (∀ (M : Nat → Mir) (es : List CE) (env : Env) (x : D) (β : BS), kV1 M es env (some (x, β)) = kA2 x (evV M es env β)) ∧
    (∀ (b : Bool) (β : BS), kNot (some (b, β)) = some (!b, β)) ∧
    (∀ (M : Nat → Mir) (b : CB) (env : Env) (β : BS), kAnd M b env (some (true, β)) = evB M b env β) ∧
    (∀ (M : Nat → Mir) (b : CB) (env : Env) (β : BS), kAnd M b env (some (false, β)) = some (false, β)) ∧
    (∀ (M : Nat → Mir) (b : CB) (env : Env) (β : BS), kOr M b env (some (true, β)) = some (true, β)) ∧
    (∀ (M : Nat → Mir) (b : CB) (env : Env) (β : BS), kOr M b env (some (false, β)) = evB M b env β) ∧
    (∀ (op : CmpOp) (x y : D) (β : BS), kBc2 op x (some (y, β)) = kTt β (dCmp op x y)) ∧
    (∀ (M : Nat → Mir) (op : CmpOp) (b : CE) (env : Env) (x : D) (β : BS), kBc1 M op b env (some (x, β)) = kBc2 op x (pkE M b env β)) ∧
    (∀ (op : CmpOp) (x y : D) (β : BS), kBh4 op x (some (y, β)) = kTt β (dCmp op x y)) ∧
    (∀ (M : Nat → Mir) (op : CmpOp) (c : CE) (env : Env) (y : D) (β : BS), kBh3 M op c env y β (some true) = kBh4 op y (evP M c env β)) ∧
    (∀ (M : Nat → Mir) (op : CmpOp) (c : CE) (env : Env) (y : D) (β : BS), kBh3 M op c env y β (some false) = some (false, β)) ∧
    (∀ (M : Nat → Mir) (o1 o2 : CmpOp) (c : CE) (env : Env) (x y : D) (β : BS), kBh2 M o1 o2 c env x (some (y, β)) = kBh3 M o2 c env y β (dCmp o1 x y)) ∧
    (∀ (M : Nat → Mir) (o1 o2 : CmpOp) (b c : CE) (env : Env) (x : D) (β : BS), kBh1 M o1 o2 b c env (some (x, β)) = kBh2 M o1 o2 c env x (evP M b env β)) ∧
    (∀ (x : D) (β : BS), kTru (some (x, β)) = kTt β (dTru x)) ∧
    (∀ (xs : List D) (β : BS), kSeq (some (.lst xs, β)) = some (xs, β)) ∧
    (∀ (xs : List D) (β : BS), kSeq (some (.tup xs, β)) = some (xs, β)) ∧
    (∀ (j : Int) (β : BS), kR1 (some (.int j, β)) = some (rangeD 0 j.toNat, β)) ∧
    (∀ (i j : Int) (β : BS), kR2b (.int i) (some (.int j, β)) = some (rangeD i (j - i).toNat, β)) ∧
    (∀ (M : Nat → Mir) (b : CE) (env : Env) (x : D) (β : BS), kR2 M b env (some (x, β)) = kR2b x (evP M b env β)) ∧
    (∀ (xs : List D) (β : BS), kEnum (some (.lst xs, β)) = some (enumD xs, β)) ∧
    (∀ (xs ys : List D) (β : BS), kZip2 (.lst xs) (some (.lst ys, β)) = some (zipD xs ys, β)) ∧
    (∀ (M : Nat → Mir) (b : CE) (env : Env) (x : D) (β : BS), kZip M b env (some (x, β)) = kZip2 x (pkE M b env β)) ∧
    (∀ (xs : List D) (β : BS), kFl (some (xs, β)) = if xs.length ≤ 1000000 then some (xs, β) else none) ∧
    (∀ (xs ys : List D) (β : BS), kFc2 (.lst xs) (some (.lst ys, β)) = if xs.length + ys.length ≤ 1000000 then some (xs ++ ys, β) else none) ∧
    (∀ (M : Nat → Mir) (b : CE) (env : Env) (x : D) (β : BS), kFc1 M b env (some (x, β)) = kFc2 x (pkE M b env β)) ∧
    (∀ (xs : List D) (β : BS), kOw (some (xs, β)) = some (.own xs, β)) ∧
    (∀ (x : D) (β : BS), kNo (some (x, β)) = some (.d x, β)) ∧
    (∀ (env : Env) (β : BS), kNx β (some env) = some (.nx env β)) ∧
    (∀ (t : CT) (env : Env) (x : D) (β : BS), kAsg t env (some (x, β)) = kNx β (bindT t x env)) ∧
    (∀ (i : Nat) (env : Env) (xs : List D) (β : BS), kAsgO i env (some (xs, β)) = some (.nx (env.set i (some (.own xs))) β)) ∧
    (∀ (x : D) (β : BS), kRet (some (x, β)) = some (.ret x β)) ∧
    (∀ (env : Env) (x : D) (β : BS), kExp env (some (x, β)) = some (.nx env β)) ∧
    (∀ (M : Nat → Mir) (a b : List CS) (env : Env) (β : BS), kIfS M a b env (some (true, β)) = evSs M a env β) ∧
    (∀ (M : Nat → Mir) (a b : List CS) (env : Env) (β : BS), kIfS M a b env (some (false, β)) = evSs M b env β) ∧
    (∀ (i j : Nat) (env : Env) (s t : Sl) (β : BS), kP2 i j env s (some (t, β)) = some (.nx ((env.set i (some s)).set j (some t)) β)) ∧
    (∀ (M : Nat → Mir) (oj : Bool) (i j : Nat) (b : CE) (env : Env) (s : Sl) (β : BS), kP1 M oj i j b env (some (s, β)) = kP2 i j env s (evO M oj b env β)) ∧
    (∀ (i j l : Nat) (env : Env) (s t u : Sl) (β : BS), kQ3 i j l env s t (some (u, β)) = some (.nx (((env.set i (some s)).set j (some t)).set l (some u)) β)) ∧
    (∀ (M : Nat → Mir) (ol : Bool) (i j l : Nat) (c : CE) (env : Env) (s t : Sl) (β : BS), kQ2 M ol i j l c env s (some (t, β)) = kQ3 i j l env s t (evO M ol c env β)) ∧
    (∀ (M : Nat → Mir) (oj ol : Bool) (i j l : Nat) (b c : CE) (env : Env) (s : Sl) (β : BS), kQ1 M oj ol i j l b c env (some (s, β)) = kQ2 M ol i j l c env s (evO M oj b env β)) ∧
    (∀ (i : Nat) (env : Env) (xs : List D) (x : D) (β : BS), kAp2 i env xs (some (x, β)) = if xs.length < 1000000 then some (.nx (env.set i (some (.own (xs ++ [x])))) β) else none) ∧
    (∀ (M : Nat → Mir) (i : Nat) (a : CE) (env : Env) (β : BS) (xs : List D), kAp1 M i a env β (some (some (.own xs))) = kAp2 i env xs (evP M a env β)) ∧
    (∀ (i : Nat) (env : Env) (xs ys : List D) (β : BS), kEx2 i env xs (some (.lst ys, β)) = if xs.length + ys.length ≤ 1000000 then some (.nx (env.set i (some (.own (xs ++ ys)))) β) else none) ∧
    (∀ (M : Nat → Mir) (i : Nat) (a : CE) (env : Env) (β : BS) (xs : List D), kEx1 M i a env β (some (some (.own xs))) = kEx2 i env xs (evP M a env β)) ∧
    (∀ (i : Nat) (env : Env) (x y : Int) (β : BS), kAu2 i .Add env x (some (.int y, β)) = some (.nx (env.set i (some (.d (.int (x + y))))) β)) ∧
    (∀ (i : Nat) (env : Env) (x y : Int) (β : BS), kAu2 i .Sub env x (some (.int y, β)) = some (.nx (env.set i (some (.d (.int (x - y))))) β)) ∧
    (∀ (M : Nat → Mir) (i : Nat) (op : Operator) (a : CE) (env : Env) (β : BS) (x : Int), kAu1 M i op a env β (some (some (.d (.int x)))) = kAu2 i op env x (evP M a env β)) ∧
    (∀ (i : Nat) (env : Env) (xs : List D) (x : D) (k : Int) (β : BS), kSx3 i env xs x (some (.int k, β)) = (ixN xs.length k).map fun j => .nx (env.set i (some (.own (xs.set j x)))) β) ∧
    (∀ (M : Nat → Mir) (i : Nat) (a : CE) (env : Env) (xs : List D) (x : D) (β : BS), kSx2 M i a env xs (some (x, β)) = kSx3 i env xs x (evP M a env β)) ∧
    (∀ (M : Nat → Mir) (i : Nat) (a e : CE) (env : Env) (β : BS) (xs : List D), kSx1 M i a e env β (some (some (.own xs))) = kSx2 M i a env xs (evP M e env β)) ∧
    (∀ (M : Nat → Mir) (t : CT) (body : List CS) (env : Env) (xs : List D) (β : BS), kFor M t body env (some (xs, β)) = forE t (evSs M body) xs env β) ∧
    (∀ (M : Nat → Mir) (ss : List CS) (env : Env) (β : BS), kSs M ss (some (.nx env β)) = evSs M ss env β) ∧
    (∀ (M : Nat → Mir) (ss : List CS) (x : D) (β : BS), kSs M ss (some (.ret x β)) = some (.ret x β)) ∧
    (∀ (env : Env) (β : BS), kFd (some (.nx env β)) = some (.non, β)) ∧
    (∀ (x : D) (β : BS), kFd (some (.ret x β)) = some (x, β)) ∧
    (∀ (ts : List CT) (xs : List D) (env : Env), kBT ts xs (some env) = bindTs ts xs env) ∧
    (∀ (i : Nat) (x : D) (env : Env), bindT (.name i) x env = some (env.set i (some (.d x)))) ∧
    (∀ (ts : List CT) (xs : List D) (env : Env), bindT (.tup ts) (.tup xs) env = bindTs ts xs env) ∧
    (∀ (ts : List CT) (xs : List D) (env : Env), bindT (.tup ts) (.lst xs) env = bindTs ts xs env) ∧
    (∀ (env : Env), bindTs [] [] env = some env) ∧
    (∀ (t : CT) (ts : List CT) (x : D) (xs : List D) (env : Env), bindTs (t :: ts) (x :: xs) env = kBT ts xs (bindT t x env)) ∧
    (∀ (x y : Int), dBin .Add (.int x) (.int y) = some (.int (x + y))) ∧
    (∀ (x y : Int), dBin .Sub (.int x) (.int y) = some (.int (x - y))) ∧
    (∀ (x y : List D), dBin .Add (.lst x) (.lst y) = if x.length + y.length ≤ 1000000 then some (.lst (x ++ y)) else none) ∧
    (∀ (x y : List D), dBin .Add (.tup x) (.tup y) = if x.length + y.length ≤ 1000000 then some (.tup (x ++ y)) else none) ∧
    (∀ (x y : Int), dBin .Mult (.int x) (.int y) = if (x.natAbs < big ∧ y.natAbs < big) ∨ x.natAbs < 2 ^ 64 ∨ y.natAbs < 2 ^ 64 then some (.int (x * y)) else none) ∧
    (∀ (x y : Int), dBin .FloorDiv (.int x) (.int y) = if 0 < y ∧ y.natAbs < big then some (.int (x / y)) else none) ∧
    (∀ (x y : Int), dBin .Mod (.int x) (.int y) = if 0 < y then some (.int (x % y)) else none) ∧
    (∀ (x y : Int), dBin .Pow (.int x) (.int y) = if 0 ≤ y ∧ y ≤ 1000 ∧ x.natAbs < 2 ^ 64 then some (.int (x ^ y.toNat)) else none) ∧
    (dTru .non = some false) ∧
    (∀ (b : Bool), dTru (.bl b) = some b) ∧
    (∀ (i : Int), dTru (.int i) = some (i != 0)) ∧
    (∀ (x : List D), dTru (.lst x) = some (!x.isEmpty)) ∧
    (∀ (x : List D), dTru (.tup x) = some (!x.isEmpty)) ∧
    (∀ (x y : D), dCmp .Eq x y = if x.ok 60 && y.ok 60 then some (D.eq x y) else none) ∧
    (∀ (x y : D), dCmp .NotEq x y = if x.ok 60 && y.ok 60 then some (!D.eq x y) else none) ∧
    (∀ (x y : Int), dCmp .Lt (.int x) (.int y) = some (decide (x < y))) ∧
    (∀ (x y : Int), dCmp .LtE (.int x) (.int y) = some (decide (x ≤ y))) ∧
    (∀ (x y : Int), dCmp .Gt (.int x) (.int y) = some (decide (y < x))) ∧
    (∀ (x y : Int), dCmp .GtE (.int x) (.int y) = some (decide (y ≤ x))) ∧
    (∀ (x : D), dCmp .Is x .non = some (isNon x)) ∧
    (∀ (x : D), dCmp .IsNot x .non = some (!isNon x)) ∧
    (∀ (a b : Bool), dCmp .Is (.bl a) (.bl b) = some (a == b)) ∧
    (∀ (a b : Bool), dCmp .IsNot (.bl a) (.bl b) = some (a != b)) ∧
    (∀ (x : D) (ys : List D), dCmp .In x (.lst ys) = if x.ok 60 && (D.lst ys).ok 60 then some (ys.any fun y => D.eq y x) else none) ∧
    (∀ (x : D) (ys : List D), dCmp .NotIn x (.lst ys) = if x.ok 60 && (D.lst ys).ok 60 then some (!ys.any fun y => D.eq y x) else none) ∧
    (∀ (x : List D), dBlt .len [.lst x] = some (.int x.length)) ∧
    (∀ (x : List D), dBlt .len [.tup x] = some (.int x.length)) ∧
    (∀ (i : Int), dBlt .abs [.int i] = some (.int (absI i))) ∧
    (∀ (i j : Int), dBlt .max [.int i, .int j] = some (.int (mx i j))) ∧
    (∀ (i j : Int), dBlt .min [.int i, .int j] = some (.int (mn i j))) ∧
    (∀ (i j k : Int), dBlt .max [.int i, .int j, .int k] = some (.int (max3 i j k))) ∧
    (∀ (i j k : Int), dBlt .min [.int i, .int j, .int k] = some (.int (min3 i j k))) ∧
    (∀ (i : Int), dBlt .int [.int i] = some (.int i)) ∧
    (∀ (i : Bool), dBlt .int [.bl i] = some (.int (if i then 1 else 0))) ∧
    (∀ (x : List D), dBlt .tuple [.lst x] = some (.tup x)) ∧
    (∀ (x : List D), dBlt .tuple [.tup x] = some (.tup x)) ∧
    (∀ (x : List D), dBlt .list [.lst x] = some (.lst x)) ∧
    (∀ (x : List D), dBlt .list [.tup x] = some (.lst x)) ∧
    (∀ (x : List D) (i : Int), dIx (.lst x) (.int i) = atI x i) ∧
    (∀ (x : List D) (i : Int), dIx (.tup x) (.int i) = atI x i) ∧
    (∀ (xs : List D) (lo hi : Option Int), dSl (.lst xs) lo hi = some (.lst (cutD xs lo hi))) ∧
    (∀ (xs : List D) (lo hi : Option Int), dSl (.tup xs) lo hi = some (.tup (cutD xs lo hi))) ∧
    (∀ {α : Type} (x : α) (xs : List α), atI (x :: xs) 0 = some x) ∧
    (∀ {α : Type} (a b : α) (xs : List α), atI (a :: b :: xs) 1 = some b) ∧
    (∀ {α : Type} (a b c : α) (xs : List α), atI (a :: b :: c :: xs) 2 = some c) ∧
    (∀ {α : Type} (a b c d : α) (xs : List α), atI (a :: b :: c :: d :: xs) 3 = some d) ∧
    (∀ {α : Type} (a b c d e : α) (xs : List α), atI (a :: b :: c :: d :: e :: xs) 4 = some e) ∧
    (∀ {α : Type} (a b c d e f : α) (xs : List α), atI (a :: b :: c :: d :: e :: f :: xs) 5 = some f) ∧
    (∀ {α : Type} (a b c d e f g : α) (xs : List α), atI (a :: b :: c :: d :: e :: f :: g :: xs) 6 = some g) ∧
    (∀ {α : Type} (a b c d e f g h : α) (xs : List α), atI (a :: b :: c :: d :: e :: f :: g :: h :: xs) 7 = some h) ∧
    (∀ {α : Type} (a b c d e f g h i : α) (xs : List α), atI (a :: b :: c :: d :: e :: f :: g :: h :: i :: xs) 8 = some i) ∧
    (∀ (env : Env), frz [] env = env) ∧
    (∀ (i : Nat) (is : List Nat) (env : Env), frz (i :: is) env = frz is (kFz i env env[i]?)) ∧
    (∀ (env : Env), wipeE env [] = env) ∧
    (∀ (v : Nat) (vs : List Nat) (env : Env), wipeE env (v :: vs) = (wipeE env vs).set v none) ∧
    (∀ (env : Env), noOwn env [] = true) ∧
    (∀ (env : Env) (s : Str) (i : Nat) (own : List (Str × Nat)), noOwn env ((s, i) :: own) = (notOS env[i]? && noOwn env own)) ∧
    (notOS none = true) ∧
    (notOS (some none) = true) ∧
    (∀ (x : D), notOS (some (some (.d x))) = true) ∧
    (notOwn none = true) ∧
    (notOwn (some none) = true) ∧
    (∀ (x : D), notOwn (some (some (.d x))) = true) ∧
    (∀ (i : Nat) (own : List (Str × Nat)), tgIn (.name i) own = ((own.map (·.2)).contains i && true)) ∧
    (∀ (ts : List CT) (own : List (Str × Nat)), tgIn (.tup ts) own = (CT.slotss ts).all fun i => (own.map (·.2)).contains i) ∧
    (CT.slotss [] = []) ∧
    (∀ (t : CT) (ts : List CT), CT.slotss (t :: ts) = CT.slots t ++ CT.slotss ts) ∧
    (∀ (i : Nat), CT.slots (.name i) = [i]) ∧
    (∀ (ts : List CT), CT.slots (.tup ts) = CT.slotss ts) ∧
    (∀ (a : CE) (env : Env), noPk env (.rng1 a) = true) ∧
    (∀ (a b : CE) (env : Env), noPk env (.rng2 a b) = true) ∧
    (∀ (env : Env) (i : Nat), noPk env (.seq (.var i)) = notOwn env[i]?) ∧
    (∀ (env : Env) (i : Nat), noPk env (.enum (.var i)) = notOwn env[i]?) ∧
    (∀ (env : Env) (i j : Nat), noPk env (.zip (.var i) (.var j)) = (notOwn env[i]? && notOwn env[j]?)) ∧
    (∀ (env : Env) (es : List CE), noPk env (.seq (.tup es)) = true) ∧
    (∀ (env : Env) (es : List CE), noPk env (.seq (.lst es)) = true) ∧
    (∀ (env : Env) (f : Nat) (es : List CE), noPk env (.seq (.call f es)) = true) ∧
    (∀ (env : Env) (f : Bt) (es : List CE), noPk env (.seq (.blt f es)) = true) ∧
    (∀ (env : Env) (a b : CE), noPk env (.seq (.ix a b)) = true) ∧
    (∀ (env : Env) (a : CE), noPk env (.seq (.slA a)) = true) ∧
    (∀ (env : Env) (a b : CE), noPk env (.seq (.slF a b)) = true) ∧
    (∀ (env : Env) (a b : CE), noPk env (.seq (.slT a b)) = true) ∧
    (∀ (env : Env) (a b c : CE), noPk env (.seq (.slFT a b c)) = true) ∧
    (∀ (env : Env) (a : CE), noPk env (.seq (.rev a)) = true) ∧
    (∀ (env : Env) (op : Operator) (a b : CE), noPk env (.seq (.bin op a b)) = true) ∧
    (∀ (env : Env) (p : Prm) (es : List CE), noPk env (.seq (.prim p es)) = true) ∧
    (∀ (env : Env) (c : Nat) (nm : Str) (i : Nat) (o : CE) (es : List CE), noPk env (.seq (.meth c nm i o es)) = true) ∧
    (∀ (env : Env) (c i : Nat) (es : List CE) (df : List Df), noPk env (.seq (.make c i es df)) = true) ∧
    (∀ (i : Nat) (xs : List D) (env : Env), kFz i env (some (some (.own xs))) = env.set i (some (.d (.lst xs)))) ∧
    (∀ (i : Nat) (x : D) (env : Env), kFz i env (some (some (.d x))) = env) ∧
    (∀ (i : Nat) (env : Env), kFz i env (some none) = env) ∧
    (∀ (o : Option D), notOwn (some (o.map .d)) = true) ∧
    (∀ (i : Int) (n : Nat), D.ok (.int i) n = true) ∧
    (∀ (i : Bool) (n : Nat), D.ok (.bl i) n = true) ∧
    (∀ (n : Nat), D.ok .non n = true) ∧
    (∀ (xs : List D) (n : Nat), D.ok (.tup xs) (n + 1) = D.oks xs n) ∧
    (∀ (xs : List D) (n : Nat), D.ok (.lst xs) (n + 1) = D.oks xs n) ∧
    (∀ (n : Nat), D.oks [] n = true) ∧
    (∀ (x : D) (xs : List D) (n : Nat), D.oks (x :: xs) n = (D.ok x n && D.oks xs n)) ∧
    (∀ (i j : Int), D.eq (.int i) (.int j) = (i == j)) ∧
    (∀ (i j : Bool), D.eq (.bl i) (.bl j) = (i == j)) ∧
    (D.eq .non .non = true) ∧
    (∀ (x y : List D), D.eq (.lst x) (.lst y) = D.eqs x y) ∧
    (∀ (x y : List D), D.eq (.tup x) (.tup y) = D.eqs x y) ∧
    (D.eqs [] [] = true) ∧
    (∀ (x y : D) (xs ys : List D), D.eqs (x :: xs) (y :: ys) = (D.eq x y && D.eqs xs ys)) ∧
    (∀ (x : D) (xs : List D), D.eqs (x :: xs) [] = false) ∧
    (∀ (x : D) (xs : List D), D.eqs [] (x :: xs) = false) ∧
    (isNon .non = true) ∧
    (∀ (i : Int), isNon (.int i) = false) ∧
    (∀ (i : Bool), isNon (.bl i) = false) ∧
    (∀ (x : List D), isNon (.tup x) = false) ∧
    (∀ (x : List D), isNon (.lst x) = false) := by
  refine ⟨@evP_var, @pkE_var, ?_, ?_, ?_, ?_, ?_, ?_, ?_, ?_, ?_, ?_, ?_, ?_, ?_, ?_, ?_, ?_, ?_, ?_, ?_, ?_, ?_, ?_, @lc_eq, @lcIf_eq, @flc_eq, @flcIf_eq, ?_, ?_, ?_, ?_, ?_, ?_, ?_, ?_, ?_, ?_, ?_, ?_, ?_, ?_, ?_, ?_, ?_, ?_, ?_, ?_, ?_, ?_, ?_, ?_, ?_, ?_, ?_, ?_, ?_, ?_, ?_, ?_, ?_, ?_, ?_, ?_, ?_, ?_, ?_, ?_, ?_, ?_, ?_, ?_, ?_, ?_, ?_, ?_, ?_, ?_, ?_, ?_, ?_, ?_, ?_, ?_, ?_, ?_, ?_, ?_, ?_, ?_, ?_, @dPr_fld, @dPr_prop, @dPr_len, @dPr_ix, ?_, ?_, ?_, ?_, ?_, ?_, ?_, ?_, @kMe_eq, ?_, ?_, @kMk2_eq, ?_, ?_, @kFs_eq, @kFs_at, ?_, @bindF_fld, ?_, ?_, ?_, ?_, ?_, ?_, ?_, ?_, ?_, ?_, ?_, ?_, ?_, ?_, ?_, ?_, ?_, ?_, ?_, ?_, ?_, ?_, ?_, ?_, ?_, ?_, ?_, ?_, ?_, ?_, ?_, ?_, ?_, ?_, ?_, ?_, @evS_ap, @evS_ex, ?_, ?_, ?_, ?_, ?_, @asg_n1, @asg_n2, ?_, ?_, ?_, ?_, ?_, ?_, ?_, ?_, ?_, ?_, ?_, ?_, ?_, ?_, ?_, ?_, @evS_aug, @evS_set, @evS_for, ?_, ?_, ?_, ?_, ?_, ?_, ?_, ?_, ?_, ?_, ?_, ?_, ?_, ?_, ?_, ?_, ?_, ?_, ?_, ?_, ?_, ?_, ?_, ?_, ?_, ?_, ?_, ?_, ?_, ?_, ?_, ?_, ?_, ?_, ?_, ?_, ?_, ?_, ?_, ?_, ?_, ?_, ?_, ?_, ?_, ?_, ?_, ?_, ?_, ?_, ?_, ?_, ?_, ?_, ?_, ?_, ?_, ?_, ?_, ?_, ?_, ?_, ?_, ?_, ?_, ?_, ?_, ?_, ?_, ?_, ?_, ?_, ?_, ?_, ?_, ?_, ?_, ?_, ?_, ?_, ?_, ?_, ?_, ?_, ?_, ?_, ?_, ?_, ?_, ?_, ?_, ?_, ?_, ?_, ?_, ?_, ?_, ?_, ?_, ?_, ?_, ?_, ?_, ?_, ?_, ?_, ?_, ?_, ?_, ?_, ?_, ?_, ?_, ?_, ?_, ?_, ?_, ?_, ?_, ?_, ?_, ?_, ?_, ?_, ?_, ?_, ?_, ?_, ?_, ?_, ?_, ?_, ?_, ?_, ?_, ?_, ?_, ?_, ?_, ?_, ?_, ?_, ?_, ?_, ?_, ?_, ?_, ?_, ?_, ?_, ?_, ?_, ?_, ?_, @atI_cons0, @atI_cons1, @atI_cons2, @atI_cons3, @atI_cons4, @atI_cons5, @atI_cons6, @atI_cons7, @atI_cons8, ?_, @frz_eq, ?_, ?_, ?_, @noOwn_eq, ?_, ?_, ?_, ?_, ?_, ?_, ?_, ?_, ?_, ?_, ?_, ?_, ?_, ?_, @noPk1, @noPk2, @noPk3, ?_, ?_, ?_, ?_, ?_, ?_, ?_, ?_, ?_, ?_, ?_, ?_, ?_, ?_, ?_, ?_, ?_, @notOwn_map, ?_, ?_, ?_, ?_, ?_, ?_, ?_, ?_, ?_, ?_, ?_, ?_, ?_, ?_, ?_, ?_, ?_, ?_, ?_, ?_, ?_⟩ <;> intros <;> rfl
theorem kMeF_eq (M : Nat → Mir) (c i : Nat) (es : List CE) (env : Env) (fs : List D) (β : BS) : kMeF M c i es env (some (.obj c fs, β)) = if 200000 ≤ i then kMeF2 M i (.obj c fs) (evA M es env β) else none := by
  show (if c = c ∧ 200000 ≤ i then _ else _) = _
  simp only [true_and]
theorem kCb_eq (β : BS) (d : D) (h : d.flat = true) : kCb β (some (d, β)) = some (d, β) := if_pos ⟨rfl, h⟩
theorem evF_sset (M : Nat → Mir) (es : List CE) (env : Env) (β : BS) : evF M (.prim .sset es) env β = kLo (kPr M .sset (evV M es env β)) := by
  simp only [evF]
  unfold kLo kPr
  cases evV M es env β <;> rfl
theorem ev2 :
    (∀ (M : Nat → Mir) (f : Nat) (es : List CE) (env : Env) (β : BS), evF M (.call f es) env β = kCaF M f (evA M es env β)) ∧
    (∀ (M : Nat → Mir) (f : Nat) (ds : List D) (β : BS), kCaF M f (some (ds, β)) = if 200000 ≤ f then kLo (M f ds β) else none) ∧
    (∀ (xs : List D) (β : BS), kLo (some (.lst xs, β)) = some (xs, β)) ∧
    (∀ (M : Nat → Mir) (c : Nat) (nm : Str) (i : Nat) (o : CE) (es : List CE) (env : Env) (β : BS), evF M (.meth c nm i o es) env β = kMeF M c i es env (evP M o env β)) ∧
    (∀ (M : Nat → Mir) (c i : Nat) (es : List CE) (env : Env) (fs : List D) (β : BS), kMeF M c i es env (some (.obj c fs, β)) = if 200000 ≤ i then kMeF2 M i (.obj c fs) (evA M es env β) else none) ∧
    (∀ (M : Nat → Mir) (i : Nat) (x : D) (ds : List D) (β : BS), kMeF2 M i x (some (ds, β)) = kLo (M i (x :: ds) β)) ∧
    (∀ (M : Nat → Mir) (f : Nat) (x : D) (β : BS), dPr M (.cb f) [x] β = if f < 100000 then kCb β (M f [x] β) else none) ∧
    (∀ (M : Nat → Mir) (f : Nat) (x y : D) (β : BS), dPr M (.cb f) [x, y] β = if f < 100000 then kCb β (M f [x, y] β) else none) ∧
    (∀ (M : Nat → Mir) (xs : List D) (β : BS), dPr M .sset [.lst xs] β = kSet β (intsD xs)) ∧
    (∀ (β : BS) (ns : List Int), kSet β (some ns) = if ns.length ≤ 1000 ∨ (ns.length ≤ 100000 ∧ (ddI ns).length ≤ 4000) then some (.lst ((sortI (ddI ns)).map .int), β) else none) ∧
    (∀ (M : Nat → Mir) (es : List CE) (env : Env) (β : BS), evF M (.prim .sset es) env β = kLo (kPr M .sset (evV M es env β))) ∧
    (∀ (M : Nat → Mir) (p : Prm) (es : List CE) (env : Env) (β : BS), evFr M (.prim p es) env β = evF M (.prim p es) env β) ∧
    (∀ (b : Bool) (β : BS), kCb β (some (.bl b, β)) = some (.bl b, β)) ∧
    (∀ (b : Int) (β : BS), kCb β (some (.int b, β)) = some (.int b, β)) ∧
    (∀ (β : BS), kCb β (some (.non, β)) = some (.non, β)) ∧
    (∀ (M : Nat → Mir) (i : Nat) (env : Env) (β : BS), evFr M (.var i) env β = kFr β env[i]?) ∧
    (∀ (β : BS) (xs : List D), kFr β (some (some (.own xs))) = some (xs, β)) ∧
    (∀ (M : Nat → Mir) (es : List CE) (env : Env) (β : BS), evFr M (.lst es) env β = evF M (.lst es) env β) ∧
    (∀ (M : Nat → Mir) (b : Bt) (es : List CE) (env : Env) (β : BS), evFr M (.blt b es) env β = evF M (.blt b es) env β) ∧
    (∀ (M : Nat → Mir) (op : Operator) (a b : CE) (env : Env) (β : BS), evFr M (.bin op a b) env β = evF M (.bin op a b) env β) ∧
    (∀ (M : Nat → Mir) (elt : CE) (tg : CT) (it : CI) (own : List (Str × Nat)) (env : Env) (β : BS), evFr M (.lc elt tg it own) env β = evF M (.lc elt tg it own) env β) ∧
    (∀ (M : Nat → Mir) (elt : CE) (tg : CT) (it : CI) (c : CB) (own : List (Str × Nat)) (env : Env) (β : BS), evFr M (.lcIf elt tg it c own) env β = evF M (.lcIf elt tg it c own) env β) ∧
    (∀ (M : Nat → Mir) (f : Nat) (es : List CE) (env : Env) (β : BS), evFr M (.call f es) env β = evF M (.call f es) env β) ∧
    (∀ (M : Nat → Mir) (c : Nat) (nm : Str) (i : Nat) (o : CE) (es : List CE) (env : Env) (β : BS), evFr M (.meth c nm i o es) env β = evF M (.meth c nm i o es) env β) ∧
    (∀ (xs : List D) (β : BS), kLs (some (xs, β)) = some (.lst xs, β)) ∧
    (∀ (M : Nat → Mir) (e : CE) (env : Env) (β : BS), kFdO M (some (.ret e)) (some (.nx env β)) = kLs (evFr M e env β)) :=
  ⟨fun _ _ _ _ _ => rfl, fun _ _ _ _ => rfl, fun _ _ => rfl, fun _ _ _ _ _ _ _ _ => rfl, @kMeF_eq, fun _ _ _ _ _ => rfl, fun _ _ _ _ => rfl, fun _ _ _ _ _ => rfl, fun _ _ _ => rfl, fun _ _ => rfl, @evF_sset, fun _ _ _ _ _ => rfl, fun _ _ => kCb_eq _ _ rfl, fun _ _ => kCb_eq _ _ rfl, fun _ => kCb_eq _ _ rfl, @evFr_var, fun _ _ => rfl, fun _ _ _ _ => rfl, fun _ _ _ _ _ => rfl, fun _ _ _ _ _ _ => rfl, fun _ _ _ _ _ _ _ => rfl, fun _ _ _ _ _ _ _ _ => rfl, fun _ _ _ _ _ => rfl, fun _ _ _ _ _ _ _ _ => rfl, fun _ _ => rfl, fun _ _ _ _ => rfl⟩
theorem evA_cold (M : Nat → Mir) (a : CE) (es : List CE) (env : Env) (β : BS) : evA M (.cold a :: es) env β = kA1 M es env (evP M (.cold a) env β) := by simp only [evA]; rfl
theorem evA_lc2 (M : Nat → Mir) (elt : CE) (tg : CT) (it : CI) (tg1 : CT) (it1 : CI) (own : List (Str × Nat)) (es : List CE) (env : Env) (β : BS) : evA M (.lc2 elt tg it tg1 it1 own :: es) env β = kA1 M es env (evP M (.lc2 elt tg it tg1 it1 own) env β) := by simp only [evA]; rfl
theorem evA_lc2If (M : Nat → Mir) (elt : CE) (tg : CT) (it : CI) (tg1 : CT) (it1 : CI) (c : CB) (own : List (Str × Nat)) (es : List CE) (env : Env) (β : BS) : evA M (.lc2If elt tg it tg1 it1 c own :: es) env β = kA1 M es env (evP M (.lc2If elt tg it tg1 it1 c own) env β) := by simp only [evA]; rfl
theorem evA_ssc (M : Nat → Mir) (elt : CE) (tg : CT) (it : CI) (own : List (Str × Nat)) (es : List CE) (env : Env) (β : BS) : evA M (.ssc elt tg it own :: es) env β = kA1 M es env (evP M (.ssc elt tg it own) env β) := by simp only [evA]; rfl
theorem coldE_map (o : Option D) (e : Env) : coldE (o.map .d :: e) = o.map .d :: coldE e := by
  cases o <;> rfl
theorem allD_map (o : Option D) (e : Env) : allD (o.map .d :: e) = allD e := by
  cases o <;> rfl
theorem ev3 :
    (∀ (M : Nat → Mir) (a : CE) (env : Env) (β : BS), evP M (.cold a) env β = kCd β (evP M a (coldE env) β)) ∧
    (coldE [] = []) ∧ (∀ e : Env, coldE (none :: e) = none :: coldE e) ∧ (∀ (x : D) (e : Env), coldE (some (.d x) :: e) = some (.d x) :: coldE e) ∧ (∀ (xs : List D) (e : Env), coldE (some (.own xs) :: e) = some (.d (.lst xs)) :: coldE e) ∧ (∀ (o : Option D) (e : Env), coldE (o.map .d :: e) = o.map .d :: coldE e) ∧
    (allD [] = true) ∧ (∀ e : Env, allD (none :: e) = allD e) ∧ (∀ (x : D) (e : Env), allD (some (.d x) :: e) = allD e) ∧ (∀ (o : Option D) (e : Env), allD (o.map .d :: e) = allD e) ∧
    (∀ (M : Nat → Mir) (elt : CE) (tg : CT) (it : CI) (tg1 : CT) (it1 : CI) (own : List (Str × Nat)) (env : Env) (β : BS), evP M (.lc2 elt tg it tg1 it1 own) env β = kG (tgIn tg own && (tgIn tg1 own && noOwn env own)) (kL2 M elt tg tg1 it1 (wipeE env (own.map (·.2))) (evI M it env β))) ∧
    (∀ (M : Nat → Mir) (elt : CE) (tg : CT) (it : CI) (tg1 : CT) (it1 : CI) (c : CB) (own : List (Str × Nat)) (env : Env) (β : BS), evP M (.lc2If elt tg it tg1 it1 c own) env β = kG (tgIn tg own && (tgIn tg1 own && noOwn env own)) (kL2i M elt tg tg1 it1 c (wipeE env (own.map (·.2))) (evI M it env β))) ∧
    (∀ (M : Nat → Mir) (elt : CE) (tg : CT) (it : CI) (own : List (Str × Nat)) (env : Env) (β : BS), evP M (.ssc elt tg it own) env β = kG (tgIn tg own && noOwn env own) (kSsc M elt tg (wipeE env (own.map (·.2))) (evI M it env β))) ∧
    (∀ (M : Nat → Mir) (elt : CE) (tg : CT) (it : CI) (own : List (Str × Nat)) (env : Env) (β : BS), evF M (.ssc elt tg it own) env β = kLo (kG (tgIn tg own && noOwn env own) (kSsc M elt tg (wipeE env (own.map (·.2))) (evI M it env β)))) ∧
    (∀ (M : Nat → Mir) (elt : CE) (tg tg1 : CT) (it1 : CI) (env : Env) (xs : List D) (β : BS), kL2 M elt tg tg1 it1 env (some (xs, β)) = if xs.length ≤ 1000000 then kL2b (flatE (l2F M elt tg tg1 it1 env) xs β) else none) ∧
    (∀ (M : Nat → Mir) (elt : CE) (tg tg1 : CT) (it1 : CI) (c : CB) (env : Env) (xs : List D) (β : BS), kL2i M elt tg tg1 it1 c env (some (xs, β)) = if xs.length ≤ 1000000 then kL2b (flatE (l2I M elt tg tg1 it1 c env) xs β) else none) ∧
    (∀ (xs : List D) (β : BS), kL2b (some (xs, β)) = if xs.length ≤ 1000000 then some (.lst xs, β) else none) ∧
    (∀ (M : Nat → Mir) (elt : CE) (tg : CT) (env : Env) (xs : List D) (β : BS), kSsc M elt tg env (some (xs, β)) = if xs.length ≤ 1000000 then kSs2 (mapE (lcF M elt tg env) xs β) else none) ∧
    (∀ (xs : List D) (β : BS), kSs2 (some (xs, β)) = kSet β (intsD xs)) ∧
    (∀ (M : Nat → Mir) (a : CE) (env : Env) (β : BS), pkE M (.cold a) env β = evP M (.cold a) env β) ∧
    (∀ (M : Nat → Mir) (elt : CE) (tg : CT) (it : CI) (tg1 : CT) (it1 : CI) (own : List (Str × Nat)) (env : Env) (β : BS), pkE M (.lc2 elt tg it tg1 it1 own) env β = evP M (.lc2 elt tg it tg1 it1 own) env β) ∧
    (∀ (M : Nat → Mir) (elt : CE) (tg : CT) (it : CI) (tg1 : CT) (it1 : CI) (c : CB) (own : List (Str × Nat)) (env : Env) (β : BS), pkE M (.lc2If elt tg it tg1 it1 c own) env β = evP M (.lc2If elt tg it tg1 it1 c own) env β) ∧
    (∀ (M : Nat → Mir) (elt : CE) (tg : CT) (it : CI) (own : List (Str × Nat)) (env : Env) (β : BS), pkE M (.ssc elt tg it own) env β = evP M (.ssc elt tg it own) env β) ∧
    (∀ (M : Nat → Mir) (elt : CE) (tg : CT) (it : CI) (own : List (Str × Nat)) (env : Env) (β : BS), evFr M (.ssc elt tg it own) env β = evF M (.ssc elt tg it own) env β) :=
  ⟨fun M a env β => by simp only [evP]; rfl, rfl, fun _ => rfl, fun _ _ => rfl, fun _ _ => rfl, @coldE_map, rfl, fun _ => rfl, fun _ _ => rfl, @allD_map, @lc2_eq, @lc2If_eq, @ssc_eq, @fssc_eq, fun _ _ _ _ _ _ _ _ => rfl, fun _ _ _ _ _ _ _ _ _ => rfl, fun _ _ => rfl, fun _ _ _ _ _ _ => rfl, fun _ _ => rfl, fun _ _ _ _ => rfl, fun _ _ _ _ _ _ _ _ _ => rfl, fun _ _ _ _ _ _ _ _ _ _ => rfl, fun _ _ _ _ _ _ _ => rfl, fun _ _ _ _ _ _ _ => rfl⟩
def kIn2 (i : Nat) (env : Env) (xs : List D) (x : D) (o : Option (D × BS)) : Option Out := o.bind fun q => match x with
  | .int k => if xs.length < 1000000 ∧ 0 ≤ k ∧ k ≤ 1000000 then some (.nx (env.set i (some (.own (xs.take k.toNat ++ [q.1] ++ xs.drop k.toNat)))) q.2) else none
  | _ => none
def kInA (M : Nat → Mir) (i : Nat) (b : CE) (env : Env) (xs : List D) (o : Option (D × BS)) : Option Out := o.bind fun r => kIn2 i env xs r.1 (evP M b env r.2)
def kIn1 (M : Nat → Mir) (i : Nat) (a b : CE) (env : Env) (β : BS) : Option (Option Sl) → Option Out
  | some (some (.own xs)) => kInA M i b env xs (evP M a env β)
  | _ => none
theorem evS_in (M : Nat → Mir) (i : Nat) (a b : CE) (env : Env) (β : BS) : evS M (.expr (.bm .insert (.var i) [a, b])) env β = kIn1 M i a b env β env[i]? := by
  simp only [evS]
  unfold kIn1
  cases env[i]? with
  | none => rfl
  | some o => cases o with
    | none => rfl
    | some s => cases s <;> rfl
def kZ3c (x y : D) (o : Option (D × BS)) : Option (List D × BS) := o.bind fun z => match x, y, z.1 with
    | .lst xs, .lst ys, .lst zs => some (zip3D xs ys zs, z.2)
    | _, _, _ => none
def kZ3b (M : Nat → Mir) (c : CE) (env : Env) (x : D) (o : Option (D × BS)) : Option (List D × BS) := o.bind fun q => kZ3c x q.1 (pkE M c env q.2)
def kZ3a (M : Nat → Mir) (b c : CE) (env : Env) (o : Option (D × BS)) : Option (List D × BS) := o.bind fun r => kZ3b M c env r.1 (pkE M b env r.2)
def kRv (o : Option (D × BS)) : Option (List D × BS) := o.bind fun r => match r.1 with
    | .lst xs => some (xs.reverse, r.2)
    | _ => none
def nP (env : Env) (a : CE) : Bool := (peek env a).isNone
theorem nP_var (env : Env) (i : Nat) : nP env (.var i) = notOwn env[i]? := peek_no env i
theorem evI_zip3 (M : Nat → Mir) (env : Env) (β : BS) (a b c : CE) : evI M (.zip3 a b c) env β = kZ3a M b c env (pkE M a env β) := by simp only [evI]; rfl
theorem evI_rvs (M : Nat → Mir) (env : Env) (β : BS) (a : CE) : evI M (.rvs a) env β = kRv (pkE M a env β) := by simp only [evI]; rfl
theorem ev4 :
    (∀ (M : Nat → Mir) (i : Nat) (a b : CE) (env : Env) (β : BS), evS M (.expr (.bm .insert (.var i) [a, b])) env β = kIn1 M i a b env β env[i]?) ∧
    (∀ (M : Nat → Mir) (i : Nat) (a b : CE) (env : Env) (β : BS) (xs : List D), kIn1 M i a b env β (some (some (.own xs))) = kInA M i b env xs (evP M a env β)) ∧
    (∀ (M : Nat → Mir) (i : Nat) (b : CE) (env : Env) (xs : List D) (x : D) (β : BS), kInA M i b env xs (some (x, β)) = kIn2 i env xs x (evP M b env β)) ∧
    (∀ (i : Nat) (env : Env) (xs : List D) (k : Int) (y : D) (β : BS), kIn2 i env xs (.int k) (some (y, β)) = if xs.length < 1000000 ∧ 0 ≤ k ∧ k ≤ 1000000 then some (.nx (env.set i (some (.own (xs.take k.toNat ++ [y] ++ xs.drop k.toNat)))) β) else none) ∧
    (∀ (M : Nat → Mir) (env : Env) (β : BS) (a b c : CE), evI M (.zip3 a b c) env β = kZ3a M b c env (pkE M a env β)) ∧
    (∀ (M : Nat → Mir) (env : Env) (β : BS) (a : CE), evI M (.rvs a) env β = kRv (pkE M a env β)) ∧
    (∀ (M : Nat → Mir) (b c : CE) (env : Env) (x : D) (β : BS), kZ3a M b c env (some (x, β)) = kZ3b M c env x (pkE M b env β)) ∧
    (∀ (M : Nat → Mir) (c : CE) (env : Env) (x y : D) (β : BS), kZ3b M c env x (some (y, β)) = kZ3c x y (pkE M c env β)) ∧
    (∀ (xs ys zs : List D) (β : BS), kZ3c (.lst xs) (.lst ys) (some (.lst zs, β)) = some (zip3D xs ys zs, β)) ∧
    (∀ (xs : List D) (β : BS), kRv (some (.lst xs, β)) = some (xs.reverse, β)) ∧
    (∀ (env : Env) (a b c : CE), noPk env (.zip3 a b c) = (nP env a && (nP env b && nP env c))) ∧
    (∀ (env : Env) (a : CE), noPk env (.rvs a) = nP env a) ∧
    (∀ (env : Env) (i : Nat), nP env (.var i) = notOwn env[i]?) ∧
    (∀ (env : Env) (f : Nat) (es : List CE), nP env (.call f es) = true) ∧
    (∀ (env : Env) (f : Bt) (es : List CE), nP env (.blt f es) = true) ∧
    (∀ (env : Env) (p : Prm) (es : List CE), nP env (.prim p es) = true) ∧
    (∀ (env : Env) (a b : CE), nP env (.slF a b) = true) ∧
    (∀ (env : Env) (a b : CE), nP env (.ix a b) = true) ∧
    (∀ (env : Env) (es : List CE), nP env (.lst es) = true) ∧
    (∀ (env : Env) (c : Nat) (nm : Str) (i : Nat) (o : CE) (es : List CE), nP env (.meth c nm i o es) = true) :=
  ⟨@evS_in, fun _ _ _ _ _ _ _ => rfl, fun _ _ _ _ _ _ _ => rfl, fun _ _ _ _ _ _ => rfl, @evI_zip3, @evI_rvs, fun _ _ _ _ _ _ => rfl, fun _ _ _ _ _ _ => rfl, fun _ _ _ _ => rfl, fun _ _ => rfl, fun _ _ _ _ => rfl, fun _ _ => rfl, @nP_var, fun _ _ _ => rfl, fun _ _ _ => rfl, fun _ _ _ => rfl, fun _ _ _ => rfl, fun _ _ _ => rfl, fun _ _ => rfl, fun _ _ _ _ _ _ => rfl⟩
theorem dl : (∀ x : CS, [x].dropLast = []) ∧ (∀ (x y : CS) (l : List CS), (x :: y :: l).dropLast = x :: (y :: l).dropLast) ∧ (∀ x : CS, [x].getLast? = some x) ∧ (∀ (x y : CS) (l : List CS), (x :: y :: l).getLast? = (y :: l).getLast?) := ⟨fun _ => rfl, fun _ _ _ => rfl, fun _ => rfl, fun _ _ _ => rfl⟩
theorem evFdO_eq (M : Nat → Mir) (d : Fd) (ds : List D) (β : BS) : evFdO M d ds β = if ds.length = d.ps.length ∧ d.ps.length ≤ d.N.length then kFdO M d.body.getLast? (evSs M d.body.dropLast (ds.map (fun x => some (.d x)) ++ List.replicate (d.N.length - ds.length) none) β) else none := rfl
theorem evFd_eq (M : Nat → Mir) (d : Fd) (ds : List D) (β : BS) : evFd M d ds β = if ds.length = d.ps.length ∧ d.ps.length ≤ d.N.length then kFd (evSs M d.body (ds.map (fun x => some (.d x)) ++ List.replicate (d.N.length - ds.length) none) β) else none := rfl
theorem evFdI_eq (M : Nat → Mir) (d : Fd) (x : Addr) (ds : List D) (β : BS) : evFdI M d x ds β = if ds.length + 1 = d.ps.length ∧ d.ps.length ≤ d.N.length then kFI x d.cls (evSs M d.body (some (.slf x d.cls []) :: (ds.map (fun x => some (.d x)) ++ List.replicate (d.N.length - (ds.length + 1)) none)) β) else none := rfl
theorem mapE_pure {f : D → BS → Option (D × BS)} {g : D → D} {xs : List D} (h : ∀ x ∈ xs, ∀ β, f x β = some (g x, β)) (β : BS) : mapE f xs β = some (xs.map g, β) := by
  induction xs with
  | nil => rfl
  | cons x xs ih =>
    simp only [mapE, h x (by simp), Option.bind_some, ih fun y hy => h y (by simp [hy]), Option.map_some, List.map_cons]
theorem mapIf_pure {t : D → BS → Option (Bool × BS)} {f : D → BS → Option (D × BS)} {p : D → Bool} {g : D → D} {xs : List D} (ht : ∀ x ∈ xs, ∀ β, t x β = some (p x, β)) (h : ∀ x ∈ xs, p x = true → ∀ β, f x β = some (g x, β)) (β : BS) : mapIf t f xs β = some ((xs.filter p).map g, β) := by
  induction xs with
  | nil => rfl
  | cons x xs ih =>
    have i := ih (fun y hy => ht y (by simp [hy])) fun y hy => h y (by simp [hy])
    simp only [mapIf, ht x (by simp), Option.bind_some]
    cases e : p x with
    | true => simp only [h x (by simp) e, Option.bind_some, i, Option.map_some, List.filter_cons_of_pos e, List.map_cons]
    | false => simp only [i, List.filter_cons_of_neg (show ¬ p x = true by rw [e]; decide)]
theorem mapE_of {α : Type} (ι g : α → D) {f : D → BS → Option (D × BS)} {xs : List α} (h : ∀ x ∈ xs, ∀ β, f (ι x) β = some (g x, β)) (β : BS) : mapE f (xs.map ι) β = some (xs.map g, β) := by
  induction xs with
  | nil => rfl
  | cons x xs ih =>
    simp only [List.map_cons, mapE, h x (by simp), Option.bind_some, ih fun y hy => h y (by simp [hy]), Option.map_some]
theorem mapIf_of {α : Type} (ι g : α → D) (p : α → Bool) {t : D → BS → Option (Bool × BS)} {f : D → BS → Option (D × BS)} {xs : List α} (ht : ∀ x ∈ xs, ∀ β, t (ι x) β = some (p x, β)) (h : ∀ x ∈ xs, p x = true → ∀ β, f (ι x) β = some (g x, β)) (β : BS) : mapIf t f (xs.map ι) β = some ((xs.filter p).map g, β) := by
  induction xs with
  | nil => rfl
  | cons x xs ih =>
    have i := ih (fun y hy => ht y (by simp [hy])) fun y hy => h y (by simp [hy])
    simp only [List.map_cons, mapIf, ht x (by simp), Option.bind_some]
    cases e : p x with
    | true => simp only [h x (by simp) e, Option.bind_some, i, Option.map_some, List.filter_cons_of_pos e, List.map_cons]
    | false => simp only [i, List.filter_cons_of_neg (show ¬ p x = true by rw [e]; decide)]
theorem rangeD0 (n : Nat) : rangeD 0 n = (List.range n).map fun k : Nat => D.int (k : Int) := by
  unfold rangeD
  apply List.map_congr_left
  intro k _
  rw [Int.zero_add]
theorem oks_all {n : Nat} : ∀ {xs : List D}, (∀ x ∈ xs, D.ok x n = true) → D.oks xs n = true
  | [], _ => rfl
  | x :: xs, h => by
    show (D.ok x n && D.oks xs n) = true
    rw [h x (by simp), oks_all fun y hy => h y (by simp [hy])]
    rfl
theorem intsD_map : ∀ ns : List Int, intsD (ns.map D.int) = some ns
  | [] => rfl
  | n :: ns => by simp only [List.map_cons, intsD, intsD_map ns, Option.map_some]
theorem min_eq {ns : List Int} {v : Int} (h : v ∈ ns) (h2 : ∀ y ∈ ns, v ≤ y) : minI ns = some v := by
  cases e : minI ns with
  | none =>
    cases ns with
    | nil => cases h
    | cons x r => cases e
  | some w =>
    obtain ⟨a, b⟩ := minI_ok e
    rw [Int.le_antisymm (h2 w a) (b v h)]
theorem max_eq {ns : List Int} {v : Int} (h : v ∈ ns) (h2 : ∀ y ∈ ns, y ≤ v) : maxI ns = some v := by
  cases e : maxI ns with
  | none =>
    cases ns with
    | nil => cases h
    | cons x r => cases e
  | some w =>
    obtain ⟨a, b⟩ := maxI_ok e
    rw [Int.le_antisymm (h2 w a) (b v h)]
theorem dMin {ns : List Int} {v : Int} (h : v ∈ ns) (h2 : ∀ y ∈ ns, v ≤ y) : dBlt .min [.lst (ns.map D.int)] = some (.int v) := by
  show ((intsD (ns.map D.int)).bind minI).map D.int = _
  rw [intsD_map, Option.bind_some, min_eq h h2]
  rfl
theorem dMax {ns : List Int} {v : Int} (h : v ∈ ns) (h2 : ∀ y ∈ ns, y ≤ v) : dBlt .max [.lst (ns.map D.int)] = some (.int v) := by
  show ((intsD (ns.map D.int)).bind maxI).map D.int = _
  rw [intsD_map, Option.bind_some, max_eq h h2]
  rfl
theorem take_draw (β : BS) (m : Int) (h : 0 < m ∧ m.natAbs < big) : ∃ v β', takeMir [.bag, .int m] β = some (.int v, β') ∧ 0 ≤ v ∧ v < m := by
  refine ⟨(β.take m).1, (β.take m).2, if_pos h, BS.take_range β h.1⟩
theorem forE_run {t : CT} {f : Env → BS → Option Out} : ∀ {xs : List D} (S : Nat → Env × BS), (∀ k x, xs[k]? = some x → ((bindT t x (S k).1).bind fun e1 => f e1 (S k).2) = some (.nx (S (k + 1)).1 (S (k + 1)).2)) → forE t f xs (S 0).1 (S 0).2 = some (.nx (S xs.length).1 (S xs.length).2)
  | [], S, _ => rfl
  | x :: xs, S, h => by
    have h0 := h 0 x rfl
    have ih := forE_run (t := t) (f := f) (xs := xs) (fun k => S (k + 1)) fun k y hy => h (k + 1) y hy
    obtain ⟨e1, k1, k2⟩ := Option.bind_eq_some_iff.mp h0
    simp only [forE, k1, Option.bind_some, k2]
    exact ih
theorem forE_inv {t : CT} {f : Env → BS → Option Out} (P : Env → BS → Prop) : ∀ {xs : List D}, (∀ x ∈ xs, ∀ env β, P env β → ∃ e2 β2, ((bindT t x env).bind fun e1 => f e1 β) = some (.nx e2 β2) ∧ P e2 β2) → ∀ {env : Env} {β : BS}, P env β → ∃ e2 β2, forE t f xs env β = some (.nx e2 β2) ∧ P e2 β2
  | [], _, env, β, p => ⟨env, β, rfl, p⟩
  | x :: xs, h, env, β, p => by
    obtain ⟨e2, β2, h1, p2⟩ := h x (by simp) env β p
    obtain ⟨e3, β3, h3, p3⟩ := forE_inv P (xs := xs) (fun y hy => h y (by simp [hy])) p2
    obtain ⟨e1, k1, k2⟩ := Option.bind_eq_some_iff.mp h1
    exact ⟨e3, β3, by simp only [forE, k1, Option.bind_some, k2]; exact h3, p3⟩
theorem kFd_ret {o : Option Out} {x : D} {β : BS} (h : o = some (.ret x β)) : kFd o = some (x, β) := by
  rw [h]
  rfl
theorem for_step {M : Nat → Mir} {ss : List CS} {t : CT} {f : Env → BS → Option Out} {xs : List D} {env : Env} {β : BS} {r : Option Out} (S : Nat → Env × BS) (h0 : S 0 = (env, β)) (hs : ∀ k x, xs[k]? = some x → ((bindT t x (S k).1).bind fun e1 => f e1 (S k).2) = some (.nx (S (k + 1)).1 (S (k + 1)).2)) (hr : evSs M ss (S xs.length).1 (S xs.length).2 = r) : kSs M ss (forE t f xs env β) = r := by
  have h := forE_run (t := t) (f := f) S hs
  rw [h0] at h
  rw [h]
  exact hr
theorem for_keep {M : Nat → Mir} {ss : List CS} {t : CT} {f : Env → BS → Option Out} {xs : List D} {env : Env} {β : BS} (P : Env → BS → Prop) (h0 : P env β) (hs : ∀ x ∈ xs, ∀ env β, P env β → ∃ e2 β2, ((bindT t x env).bind fun e1 => f e1 β) = some (.nx e2 β2) ∧ P e2 β2) {R : Option Out → Prop} (hr : ∀ e2 β2, P e2 β2 → R (evSs M ss e2 β2)) : R (kSs M ss (forE t f xs env β)) := by
  obtain ⟨e2, β2, h1, h2⟩ := forE_inv (t := t) (f := f) P hs h0
  rw [h1]
  exact hr e2 β2 h2
theorem rangeD_mem {lo : Int} {n : Nat} {x : D} : x ∈ rangeD lo n ↔ ∃ k : Nat, k < n ∧ x = .int (lo + (k : Nat)) := by
  unfold rangeD
  simp only [List.mem_map, List.mem_range]
  exact ⟨fun ⟨k, a, b⟩ => ⟨k, a, b.symm⟩, fun ⟨k, a, b⟩ => ⟨k, a, b.symm⟩⟩
theorem ev5 :
    (∀ (M : Nat → Mir) (f : Nat) (es : List CE) (env : Env) (β : BS), evOwn M (.call f es) env β = kOwC M f (evA M es env β)) ∧
    (∀ (M : Nat → Mir) (es : List CE) (env : Env) (β : BS), evOwn M (.lst es) env β = kOw (evF M (.lst es) env β)) ∧
    (∀ (M : Nat → Mir) (b : Bt) (es : List CE) (env : Env) (β : BS), evOwn M (.blt b es) env β = kOw (evF M (.blt b es) env β)) ∧
    (∀ (M : Nat → Mir) (op : Operator) (a b : CE) (env : Env) (β : BS), evOwn M (.bin op a b) env β = kOw (evF M (.bin op a b) env β)) ∧
    (∀ (M : Nat → Mir) (elt : CE) (tg : CT) (it : CI) (own : List (Str × Nat)) (env : Env) (β : BS), evOwn M (.lc elt tg it own) env β = kOw (evF M (.lc elt tg it own) env β)) ∧
    (∀ (M : Nat → Mir) (elt : CE) (tg : CT) (it : CI) (c : CB) (own : List (Str × Nat)) (env : Env) (β : BS), evOwn M (.lcIf elt tg it c own) env β = kOw (evF M (.lcIf elt tg it c own) env β)) ∧
    (∀ (M : Nat → Mir) (elt : CE) (tg : CT) (it : CI) (own : List (Str × Nat)) (env : Env) (β : BS), evOwn M (.ssc elt tg it own) env β = kOw (evF M (.ssc elt tg it own) env β)) ∧
    (∀ (M : Nat → Mir) (p : Prm) (es : List CE) (env : Env) (β : BS), evOwn M (.prim p es) env β = kOw (evF M (.prim p es) env β)) ∧
    (∀ (M : Nat → Mir) (c : Nat) (nm : Str) (i : Nat) (o : CE) (es : List CE) (env : Env) (β : BS), evOwn M (.meth c nm i o es) env β = kOw (evF M (.meth c nm i o es) env β)) ∧
    (∀ (i : Nat) (env : Env) (s : Sl) (β : BS), kAsgN i env (some (s, β)) = some (.nx (env.set i (some s)) β)) ∧
    (∀ (M : Nat → Mir) (f : Nat) (ds : List D) (β : BS), kOwC M f (some (ds, β)) = if 200000 ≤ f then kOwR (M f ds β) else none) ∧
    (∀ (xs : List D) (β : BS), kOwR (some (.lst xs, β)) = some (.own xs, β)) ∧
    (∀ (β : BS), kOwR (some (.non, β)) = some (.d .non, β)) ∧
    (∀ (M : Nat → Mir) (e : CE) (β : BS), kFdO M (some (.ret e)) (some (.ret .non β)) = some (.non, β)) ∧
    (∀ (M : Nat → Mir) (ps : List (Int × Int)) (β : BS), dPr M (.dct ps) [] β = some (dctD ps, β)) :=
  ⟨fun _ _ _ _ _ => rfl, fun _ _ _ _ => rfl, fun _ _ _ _ _ => rfl, fun _ _ _ _ _ _ => rfl, fun _ _ _ _ _ _ _ => rfl, fun _ _ _ _ _ _ _ _ => rfl, fun _ _ _ _ _ _ _ => rfl, fun _ _ _ _ _ => rfl, fun _ _ _ _ _ _ _ _ => rfl, fun _ _ _ _ => rfl, fun _ _ _ _ => rfl, fun _ _ => rfl, fun _ => rfl, fun _ _ _ => rfl, fun _ _ _ => rfl⟩
def kSuml (β : BS) (o : Option (List (List D))) : Option (D × BS) := o.bind fun l => if l.flatten.length ≤ 1000000 then some (.lst l.flatten, β) else none
theorem ev6 :
    (∀ (M : Nat → Mir) (xs : List D) (β : BS), dPr M .suml [.lst xs] β = kSuml β (lstsD xs)) ∧
    (∀ (β : BS) (l : List (List D)), kSuml β (some l) = if l.flatten.length ≤ 1000000 then some (.lst l.flatten, β) else none) := ⟨fun _ _ _ => rfl, fun _ _ => rfl⟩
theorem kCd_eq (β : BS) (d : D) (h : d.flat = true) : kCd β (some (d, β)) = some (d, β) := if_pos ⟨rfl, .inl h⟩
theorem kCd_any (β : BS) (x : D) (β' : BS) : kCd β (some (x, β')) = if β'.cell = β.cell ∧ (x.flat = true ∨ x.lf = true) then some (x, β') else none := rfl
theorem dPr_eqO (M : Nat → Mir) (c i : Nat) (ng : Bool) (fs : List D) (y : D) (β : BS) : dPr M (.eqO c i ng) [.obj c fs, y] β = if i < 100000 then (tyIs (.c c) y).bind fun _ => kEqO ng β (M i [.obj c fs, y] β) else none := by
  show (if c = c ∧ i < 100000 then _ else _) = _
  simp only [true_and]
  rfl
theorem kEqO_eq (ng : Bool) (β : BS) (b : Bool) : kEqO ng β (some (.bl b, β)) = some (.bl (b != ng), β) := if_pos rfl
theorem ev7 :
    (∀ (b : Bool) (β : BS), kCd β (some (.bl b, β)) = some (.bl b, β)) ∧
    (∀ (b : Int) (β : BS), kCd β (some (.int b, β)) = some (.int b, β)) ∧
    (∀ (β : BS), kCd β (some (.non, β)) = some (.non, β)) ∧
    (∀ (M : Nat → Mir) (c i : Nat) (ng : Bool) (fs : List D) (y : D) (β : BS), dPr M (.eqO c i ng) [.obj c fs, y] β = if i < 100000 then (tyIs (.c c) y).bind fun _ => kEqO ng β (M i [.obj c fs, y] β) else none) ∧
    (∀ (ng : Bool) (β : BS) (b : Bool), kEqO ng β (some (.bl b, β)) = some (.bl (b != ng), β)) ∧
    (∀ (xs : List D) (β : BS), kEnum (some (.tup xs, β)) = some (enumD xs, β)) ∧
    (∀ b : Bool, (b != false) = b) ∧ (∀ b : Bool, (b != true) = !b) :=
  ⟨fun _ _ => kCd_eq _ _ rfl, fun _ _ => kCd_eq _ _ rfl, fun _ => kCd_eq _ _ rfl, @dPr_eqO, @kEqO_eq, fun _ _ => rfl, fun b => by cases b <;> rfl, fun b => by cases b <;> rfl⟩
end LT

namespace LT
open PySem PySem.Spec PyProof.Rows L2
theorem okT_app {a b : Str} (ha : PyData.strOk a = true) (hb : PyData.strOk b = true) : PyData.strOk (a ++ b) = true := by
  unfold PyData.strOk at *
  have e : (a ++ b).cps = a.cps ++ b.cps := rfl
  rw [e, Array.all_append, ha, hb]
  rfl
theorem okT_of (s : String) : PyData.strOk (Str.ofString s) = true := by
  unfold PyData.strOk
  rw [Str.ofString_eq_toList]
  rw [Array.all_eq_true_iff_forall_mem]
  intro n hn
  simp only [List.mem_toArray, List.mem_map] at hn
  obtain ⟨c, _, rfl⟩ := hn
  have := c.valid
  apply decide_eq_true
  unfold Char.toNat
  rcases this with h | h
  · exact Nat.lt_trans h (by decide)
  · exact h.2
theorem okT_from : ∀ (ts : List Str) (k : Nat) (acc : Str), PyData.strOk acc = true → (∀ t ∈ ts, PyData.strOk t = true) → PyData.strOk (textFrom k acc ts) = true
  | [], _, _, h, _ => h
  | t :: ts, k, acc, h, ht => okT_from ts (k + 1) _ (okT_app (okT_app h (okT_of _)) (ht t (by simp))) fun u hu => ht u (by simp [hu])
theorem okT_join : ∀ ts : List Str, (∀ t ∈ ts, PyData.strOk t = true) → PyData.strOk (Str.join ", " ts) = true
  | [], _ => by decide +kernel
  | [x], h => h x (by simp)
  | x :: y :: r, h => okT_app (okT_app (h x (by simp)) (okT_of _)) (okT_join (y :: r) fun u hu => h u (by simp [hu]))
theorem len_from : ∀ (ts : List Str) (k : Nat) (acc : Str), (textFrom k acc ts).length ≤ acc.length + piled ts
  | [], _, _ => by simp [textFrom, piled_nil]
  | t :: ts, k, acc => by
    have := len_from ts (k + 1) (acc ++ (if k > 0 then ", " else "" : String) ++ t)
    rw [strLen_append, strLen_append] at this
    have h2 : (Str.ofString (if k > 0 then ", " else "")).length ≤ 2 := by
      split
      · exact Nat.le_refl 2
      · exact Nat.zero_le 2
    have e : (textFrom k acc (t :: ts)) = textFrom (k + 1) (acc ++ (if k > 0 then ", " else "" : String) ++ t) ts := rfl
    rw [e, piled_cons]
    omega
theorem len_join : ∀ ts : List Str, (Str.join ", " ts).length ≤ piled ts
  | [] => Nat.le_refl 0
  | x :: r => by
    have := join_length_add (x :: r) (by simp)
    omega
mutual
def D.sm : D → Bool
  | .non => true
  | .bl _ => true
  | .int i => decide (i.natAbs < big)
  | .lst xs => D.sms xs
  | .tup xs => D.sms xs
  | _ => false
def D.sms : List D → Bool
  | [] => true
  | x :: xs => D.sm x && D.sms xs
end
mutual
def D.wd : D → Nat
  | .lst xs => 4 + D.wds xs
  | .tup xs => 4 + D.wds xs
  | _ => 101
def D.wds : List D → Nat
  | [] => 0
  | x :: xs => D.wd x + 2 + D.wds xs
end
mutual
theorem sm_txt : ∀ x : D, x.sm = true → x.py.showable = true ∧ x.py.shown.length ≤ x.wd ∧ PyData.strOk x.py.shown = true
  | .non, _ => ⟨rfl, by decide, okT_of _⟩
  | .bl b, _ => ⟨rfl, by cases b <;> decide, by cases b <;> exact okT_of _⟩
  | .int i, h => by
    have hb : i.natAbs < big := of_decide_eq_true h
    refine ⟨decide_eq_true ?_, ?_, okT_of _⟩
    · exact Nat.lt_of_lt_of_le (PySem.Flt.log2_lt_of (by decide : 0 < 400) (bigLog hb)) (by decide)
    · have h1 := int_text_length_le10 (a := i) (k := 100) (by decide) hb
      show (Str.ofString (toString i)).length ≤ 101
      rw [Str.ofString_eq_toList]
      show (List.map Char.toNat (toString i).toList).toArray.size ≤ 101
      rw [List.size_toArray, List.length_map]
      exact h1
  | .lst xs, h => by
    obtain ⟨h1, h2, h3⟩ := sms_txt xs h
    refine ⟨h1, ?_, okT_app (okT_from _ _ _ (okT_of _) h3) (okT_of _)⟩
    show (textFrom 0 "[" (PyData.shownAll (D.pys xs)) ++ "]").length ≤ 4 + D.wds xs
    rw [strLen_append]
    have := len_from (PyData.shownAll (D.pys xs)) 0 "["
    have e1 : (Str.ofString "[").length = 1 := rfl
    have e2 : (Str.ofString "]").length = 1 := rfl
    omega
  | .tup xs, h => by
    obtain ⟨h1, h2, h3⟩ := sms_txt xs h
    refine ⟨h1, ?_, okT_app (okT_app (okT_of _) (okT_join _ h3)) (okT_of _)⟩
    show (("(" : Str) ++ Str.join ", " (PyData.shownAll (D.pys xs)) ++ (if (PyData.shownAll (D.pys xs)).length == 1 then ",)" else ")" : String)).length ≤ 4 + D.wds xs
    rw [strLen_append, strLen_append]
    have := len_join (PyData.shownAll (D.pys xs))
    have e1 : (Str.ofString "(").length = 1 := rfl
    have e2 : (Str.ofString (if (PyData.shownAll (D.pys xs)).length == 1 then ",)" else ")")).length ≤ 2 := by
      split
      · exact Nat.le_refl 2
      · exact Nat.le_succ 1
    omega
  | .str _, h => by cases h
  | .dct _, h => by cases h
  | .obj _ _, h => by cases h
  | .bag, h => by cases h
theorem sms_txt : ∀ xs : List D, D.sms xs = true → PyData.showableAll (D.pys xs) = true ∧ piled (PyData.shownAll (D.pys xs)) ≤ D.wds xs ∧ ∀ t ∈ PyData.shownAll (D.pys xs), PyData.strOk t = true
  | [], _ => ⟨rfl, Nat.le_refl 0, fun t ht => by cases ht⟩
  | x :: xs, h => by
    obtain ⟨a, b⟩ := and2 (show (D.sm x && D.sms xs) = true from h)
    obtain ⟨p1, p2, p3⟩ := sm_txt x a
    obtain ⟨q1, q2, q3⟩ := sms_txt xs b
    refine ⟨?_, ?_, fun t ht => ?_⟩
    · show (PyData.showable x.py && PyData.showableAll (D.pys xs)) = true
      rw [p1, q1]
      rfl
    · show piled (PyData.shown x.py :: PyData.shownAll (D.pys xs)) ≤ D.wd x + 2 + D.wds xs
      rw [piled_cons]
      omega
    · rcases List.mem_cons.mp (show t ∈ PyData.shown x.py :: PyData.shownAll (D.pys xs) from ht) with e | e
      · rw [e]
        exact p3
      · exact q3 t e
end
mutual
theorem eq_self : ∀ (x : D) (n : Nat), x.ok n = true → D.eq x x = true
  | .non, _, _ => rfl
  | .bl b, _, _ => by
    show (b == b) = true
    simp
  | .int i, _, _ => by
    show (i == i) = true
    simp
  | .str s, _, _ => by
    show (s == s) = true
    simp
  | .lst xs, n, h => by
    cases n with
    | zero => simp [D.ok] at h
    | succ n => exact eqs_self xs n (by simpa [D.ok] using h)
  | .tup xs, n, h => by
    cases n with
    | zero => simp [D.ok] at h
    | succ n => exact eqs_self xs n (by simpa [D.ok] using h)
  | .dct _, n, h => by simp [D.ok] at h
  | .obj _ _, n, h => by simp [D.ok] at h
  | .bag, n, h => by simp [D.ok] at h
theorem eqs_self : ∀ (xs : List D) (n : Nat), D.oks xs n = true → D.eqs xs xs = true
  | [], _, _ => rfl
  | x :: xs, n, h => by
    obtain ⟨a, b⟩ := and2 (show (D.ok x n && D.oks xs n) = true from h)
    show (D.eq x x && D.eqs xs xs) = true
    rw [eq_self x n a, eqs_self xs n b]
    rfl
end
def D.tell (x : D) : Prop := x.ok 60 = true ∧ x.sm = true ∧ x.wd ≤ 1000000
mutual
theorem okq_of : ∀ (x : D) (n : Nat), x.ok n = true → x.okq n = true
  | .non, _, _ => rfl
  | .bl b, _, _ => rfl
  | .int i, _, _ => rfl
  | .str s, n, h => by simpa [D.ok, D.okq] using h
  | .lst xs, n, h => by
    cases n with
    | zero => simp [D.ok] at h
    | succ n => simpa [D.okq] using okqs_of xs n (by simpa [D.ok] using h)
  | .tup xs, n, h => by
    cases n with
    | zero => simp [D.ok] at h
    | succ n => simpa [D.okq] using okqs_of xs n (by simpa [D.ok] using h)
  | .dct _, n, h => by simp [D.ok] at h
  | .obj _ _, n, h => by simp [D.ok] at h
  | .bag, n, h => by simp [D.ok] at h
theorem okqs_of : ∀ (xs : List D) (n : Nat), D.oks xs n = true → D.okqs xs n = true
  | [], _, _ => by simp [D.okqs]
  | x :: xs, n, h => by
    obtain ⟨a, b⟩ := and2 (show (D.ok x n && D.oks xs n) = true from h)
    show (D.okq x n && D.okqs xs n) = true
    rw [okq_of x n a, okqs_of xs n b]
    rfl
end
theorem tell_repr {x : D} (h : x.tell) : dRepr x = some (.str x.py.shown) := by
  obtain ⟨h1, h2, h3⟩ := h
  obtain ⟨k1, k2, _⟩ := sm_txt x h2
  unfold dRepr D.fits
  rw [okq_of x 60 h1, k1, decide_eq_true (Nat.le_trans k2 h3)]
  rfl
theorem tell_str {x : D} (h : x.tell) : D.ok (.str x.py.shown) 60 = true := (sm_txt x h.2.1).2.2
open Classical in
noncomputable def mAlike : Mir := fun ds β => match ds with
  | [x, y] => if x = y ∧ x.tell then some (.bl true, β) else none
  | _ => none
theorem mAlike_eq {x : D} {β : BS} (h : x.tell) : mAlike [x, x] β = some (.bl true, β) := if_pos ⟨rfl, h⟩
def alikeBody : List CS := [.ret (.andV (.cmp .Eq (.var 0) (.var 1)) (.cmp .Eq (.prim .repr [(.var 0)]) (.prim .repr [(.var 1)])))]
theorem alike_run {M : Nat → Mir} {x : D} {β : BS} (h : x.tell) : evSs M alikeBody [some (.d x), some (.d x)] β = some (.ret (.bl true) β) := by
  have h1 := h.1
  have h2 := eq_self x 60 h1
  have h3 := tell_repr h
  have h4 := tell_str h
  have h5 := eq_self (.str x.py.shown) 60 h4
  unfold alikeBody
  simp only [ev, List.getElem?_cons_zero, List.getElem?_cons_succ, h1, h2, h3, h4, h5, Bool.and_self, if_true]
theorem hm_alike {M : Nat → Mir} {d : Fd} (hid : M d.id = mAlike) (hb : d.body = alikeBody) (hps : d.ps.length = 2) (hN : d.N.length = 2) : ∀ ds β r, M d.id ds β = some r → evFd M d ds β = some r := by
  intro ds β r e
  rw [hid] at e
  unfold mAlike at e
  split at e
  · split at e
    · rename_i hh
      obtain ⟨rfl, ht⟩ := hh
      cases e
      rename_i x
      rw [evFd_eq, hb, hps, hN, if_pos ⟨rfl, Nat.le_refl 2⟩]
      show kFd (evSs M alikeBody [some (.d x), some (.d x)] β) = _
      rw [alike_run ht]
      rfl
    · cases e
  · cases e
theorem tell_int {i : Int} (h : i.natAbs < big) : (D.int i).tell := ⟨rfl, decide_eq_true h, show 101 ≤ 1000000 by decide⟩
end LT

namespace LT
open PySem PySem.Spec PyProof.Rows L2
def Le (M N : Nat → Mir) : Prop := ∀ f ds β r, M f ds β = some r → N f ds β = some r
theorem bindO {α γ : Type} {o p : Option α} {f g : α → Option γ} {r : γ} (h : o.bind f = some r) (h1 : ∀ a, o = some a → p = some a) (h2 : ∀ a r, f a = some r → g a = some r) : p.bind g = some r := by
  obtain ⟨a, e1, e2⟩ := Option.bind_eq_some_iff.mp h
  rw [h1 a e1]
  exact h2 a r e2
theorem mapO {α γ : Type} {o p : Option α} {f : α → γ} {r : γ} (h : o.map f = some r) (h1 : ∀ a, o = some a → p = some a) : p.map f = some r := by
  obtain ⟨a, e1, e2⟩ := Option.map_eq_some_iff.mp h
  rw [h1 a e1]
  exact congrArg some e2
theorem mapE_mono {f g : D → BS → Option (D × BS)} (h : ∀ x β r, f x β = some r → g x β = some r) : ∀ (xs : List D) (β : BS) r, mapE f xs β = some r → mapE g xs β = some r
  | [], _, _, e => e
  | x :: xs, β, r, e => bindO e (h x β) fun a r e2 => mapO e2 (mapE_mono h xs a.2)
theorem mapIf_mono {t u : D → BS → Option (Bool × BS)} {f g : D → BS → Option (D × BS)} (ht : ∀ x β r, t x β = some r → u x β = some r) (h : ∀ x β r, f x β = some r → g x β = some r) : ∀ (xs : List D) (β : BS) r, mapIf t f xs β = some r → mapIf u g xs β = some r
  | [], _, _, e => e
  | x :: xs, β, r, e => bindO e (ht x β) fun a r e2 => by
    obtain ⟨b, β1⟩ := a
    cases b with
    | true => exact bindO e2 (h x β1) fun a r e3 => mapO e3 (mapIf_mono ht h xs a.2)
    | false => exact mapIf_mono ht h xs β1 r e2
theorem flatE_mono {f g : D → BS → Option (List D × BS)} (h : ∀ x β r, f x β = some r → g x β = some r) : ∀ (xs : List D) (β : BS) r, flatE f xs β = some r → flatE g xs β = some r
  | [], _, _, e => e
  | x :: xs, β, r, e => bindO e (h x β) fun a r e2 => mapO e2 (flatE_mono h xs a.2)
theorem forE_mono {t : CT} {f g : LT.Env → BS → Option Out} (h : ∀ e β r, f e β = some r → g e β = some r) : ∀ (xs : List D) (env : LT.Env) (β : BS) r, forE t f xs env β = some r → forE t g xs env β = some r
  | [], _, _, _, e => e
  | x :: xs, env, β, r, e => bindO e (fun _ z => z) fun e1 r e2 => bindO e2 (h e1 β) fun o r e3 => by
    cases o with
    | nx e4 β2 => exact forE_mono h xs e4 β2 r e3
    | ret y β2 => exact e3
section
variable {M N : Nat → Mir}
theorem pk_mono {env : LT.Env} {c : CE} {β : BS} {o p : Option (D × BS)} (h : ∀ r, o = some r → p = some r) : ∀ r, pk env c o β = some r → pk env c p β = some r := by
  intro r e
  unfold pk at *
  split at e
  · exact e
  · exact h r e
theorem dPr_mono (hM : Le M N) (p : Prm) (ds : List D) (β : BS) (r : D × BS) (h : dPr M p ds β = some r) : dPr N p ds β = some r := by
  unfold dPr at *
  split at h <;> first
    | exact h
    | (split at h
       · rename_i hc
         rw [if_pos hc]
         first
           | exact h
           | exact hM _ _ _ _ h
           | exact bindO h (hM _ _ _) fun _ _ z => z
           | exact bindO h (fun _ z => z) fun _ _ z => bindO z (hM _ _ _) fun _ _ z => z
       · cases h)
mutual
theorem evP_mono (hM : Le M N) : ∀ (c : CE) (env : LT.Env) (β : BS) r, evP M c env β = some r → evP N c env β = some r
  | .var i, env, β, r, h => by simpa only [evP] using h
  | .cst c, env, β, r, h => by simpa only [evP] using h
  | .tup es, env, β, r, h => by
    simp only [evP] at *
    exact bindO h (evA_mono hM es env β) fun _ _ z => z
  | .lst es, env, β, r, h => by
    simp only [evP] at *
    exact bindO h (evA_mono hM es env β) fun _ _ z => z
  | .bin op a b, env, β, r, h => by
    simp only [evP] at *
    exact bindO h (pk_mono (evP_mono hM a env β)) fun x _ z => bindO z (pk_mono (evP_mono hM b env x.2)) fun _ _ z => z
  | .neg a, env, β, r, h => by
    simp only [evP] at *
    exact bindO h (evP_mono hM a env β) fun _ _ z => z
  | .notV a, env, β, r, h => by
    simp only [evP] at *
    exact bindO h (pk_mono (evP_mono hM a env β)) fun _ _ z => z
  | .andV a b, env, β, r, h => by
    simp only [evP] at *
    exact bindO h (evP_mono hM a env β) fun x _ z => bindO z (fun _ w => w) fun t _ z => by
      cases t with
      | true => exact evP_mono hM b env x.2 _ z
      | false => exact z
  | .orV a b, env, β, r, h => by
    simp only [evP] at *
    exact bindO h (evP_mono hM a env β) fun x _ z => bindO z (fun _ w => w) fun t _ z => by
      cases t with
      | true => exact z
      | false => exact evP_mono hM b env x.2 _ z
  | .ite c a b, env, β, r, h => by
    simp only [evP] at *
    exact bindO h (evB_mono hM c env β) fun x _ z => by
      obtain ⟨t, β1⟩ := x
      cases t with
      | true => exact evP_mono hM a env β1 _ z
      | false => exact evP_mono hM b env β1 _ z
  | .cmp op a b, env, β, r, h => by
    simp only [evP] at *
    exact bindO h (pk_mono (evP_mono hM a env β)) fun x _ z => bindO z (pk_mono (evP_mono hM b env x.2)) fun _ _ z => z
  | .chain o1 o2 a b c, env, β, r, h => by
    simp only [evP] at *
    exact bindO h (evP_mono hM a env β) fun x _ z => bindO z (evP_mono hM b env x.2) fun y _ z => bindO z (fun _ w => w) fun t _ z => by
      cases t with
      | true => exact bindO z (evP_mono hM c env y.2) fun _ _ z => z
      | false => exact z
  | .call f es, env, β, r, h => by
    simp only [evP] at *
    refine bindO h (evA_mono hM es env β) fun x _ z => ?_
    split at z
    · rename_i hc
      rw [if_pos hc]
      exact hM _ _ _ _ z
    · cases z
  | .star _, env, β, r, h => by
    simp only [evP] at h
    cases h
  | .prim p es, env, β, r, h => by
    simp only [evP] at *
    exact bindO h (evV_mono hM es env β) fun x r z => dPr_mono hM p x.1 x.2 r z
  | .meth c nm i o es, env, β, r, h => by
    simp only [evP] at *
    refine bindO h (evP_mono hM o env β) fun x _ z => ?_
    obtain ⟨x, β1⟩ := x
    cases x with
    | obj c' fs =>
      have z' : (if c' = c ∧ i < 100000 then (evA M es env β1).bind fun q => M i (.obj c' fs :: q.1) q.2 else none) = some _ := z
      show (if c' = c ∧ i < 100000 then (evA N es env β1).bind fun q => N i (.obj c' fs :: q.1) q.2 else none) = some _
      split at z'
      · rename_i hc
        rw [if_pos hc]
        exact bindO z' (evA_mono hM es env β1) fun y _ w => hM _ _ _ _ w
      · cases z'
    | _ => cases z
  | .make c i es df, env, β, r, h => by
    simp only [evP] at *
    refine bindO h (evA_mono hM es env β) fun x _ z => ?_
    split at z
    · rename_i hc
      rw [if_pos hc]
      exact bindO z (hM _ _ _) fun _ _ w => w
    · cases z
  | .blt b es, env, β, r, h => by
    simp only [evP] at *
    exact bindO h (evV_mono hM es env β) fun _ _ z => z
  | .ix a b, env, β, r, h => by
    simp only [evP] at *
    exact bindO h (pk_mono (evP_mono hM a env β)) fun x _ z => bindO z (evP_mono hM b env x.2) fun _ _ z => z
  | .slA a, env, β, r, h => by
    simp only [evP] at *
    exact bindO h (pk_mono (evP_mono hM a env β)) fun _ _ z => z
  | .slF a lo, env, β, r, h => by
    simp only [evP] at *
    exact bindO h (pk_mono (evP_mono hM a env β)) fun x _ z => bindO z (evP_mono hM lo env x.2) fun _ _ z => z
  | .slT a hi, env, β, r, h => by
    simp only [evP] at *
    exact bindO h (pk_mono (evP_mono hM a env β)) fun x _ z => bindO z (evP_mono hM hi env x.2) fun _ _ z => z
  | .slFT a lo hi, env, β, r, h => by
    simp only [evP] at *
    exact bindO h (pk_mono (evP_mono hM a env β)) fun x _ z => bindO z (evP_mono hM lo env x.2) fun y _ z => bindO z (fun _ w => w) fun i _ z => bindO z (evP_mono hM hi env y.2) fun _ _ z => z
  | .rev a, env, β, r, h => by
    simp only [evP] at *
    exact bindO h (pk_mono (evP_mono hM a env β)) fun _ _ z => z
  | .bm _ _ _, env, β, r, h => by
    simp only [evP] at h
    cases h
  | .lc elt tg it own, env, β, r, h => by
    simp only [evP] at *
    split at h
    · rename_i hc
      refine bindO h (evI_mono hM it env β) fun x _ z => ?_
      split at z
      · rename_i hl
        rw [if_pos hl]
        exact mapO z (mapE_mono (fun y β1 r e => bindO e (fun _ w => w) fun e1 r w => evP_mono hM elt e1 β1 r w) x.1 x.2)
      · cases z
    · cases h
  | .lcIf elt tg it c own, env, β, r, h => by
    simp only [evP] at *
    split at h
    · rename_i hc
      refine bindO h (evI_mono hM it env β) fun x _ z => ?_
      split at z
      · rename_i hl
        rw [if_pos hl]
        exact mapO z (mapIf_mono (fun y β1 r e => bindO e (fun _ w => w) fun e1 r w => evB_mono hM c e1 β1 r w) (fun y β1 r e => bindO e (fun _ w => w) fun e1 r w => evP_mono hM elt e1 β1 r w) x.1 x.2)
      · cases z
    · cases h
  | .cold a, env, β, r, h => by
    simp only [evP] at *
    exact bindO h (evP_mono hM a (coldE env) β) fun _ _ z => z
  | .lc2 elt tg it tg1 it1 own, env, β, r, h => by
    simp only [evP] at *
    split at h
    · rename_i hc
      refine bindO h (evI_mono hM it env β) fun x _ z => ?_
      split at z
      · rename_i hl
        rw [if_pos hl]
        refine bindO z (flatE_mono (fun y β1 r e => bindO e (fun _ w => w) fun e1 r w => ?_) x.1 x.2) fun _ _ w => w
        split at w
        · rename_i ha
          show (if allD e1 = true then _ else none) = some r; rw [if_pos ha]
          exact bindO w (evI_mono hM it1 e1 β1) fun s r v => mapE_mono (fun y β2 r e => bindO e (fun _ w => w) fun e2 r w => evP_mono hM elt e2 β2 r w) s.1 s.2 r v
        · cases w
      · cases z
    · cases h
  | .lc2If elt tg it tg1 it1 c own, env, β, r, h => by
    simp only [evP] at *
    split at h
    · rename_i hc
      refine bindO h (evI_mono hM it env β) fun x _ z => ?_
      split at z
      · rename_i hl
        rw [if_pos hl]
        refine bindO z (flatE_mono (fun y β1 r e => bindO e (fun _ w => w) fun e1 r w => ?_) x.1 x.2) fun _ _ w => w
        split at w
        · rename_i ha
          show (if allD e1 = true then _ else none) = some r; rw [if_pos ha]
          exact bindO w (evI_mono hM it1 e1 β1) fun s r v => mapIf_mono (fun y β2 r e => bindO e (fun _ w => w) fun e2 r w => evB_mono hM c e2 β2 r w) (fun y β2 r e => bindO e (fun _ w => w) fun e2 r w => evP_mono hM elt e2 β2 r w) s.1 s.2 r v
        · cases w
      · cases z
    · cases h
  | .ssc elt tg it own, env, β, r, h => by
    simp only [evP] at *
    split at h
    · rename_i hc
      refine bindO h (evI_mono hM it env β) fun x _ z => ?_
      split at z
      · rename_i hl
        rw [if_pos hl]
        exact bindO z (mapE_mono (fun y β1 r e => bindO e (fun _ w => w) fun e1 r w => evP_mono hM elt e1 β1 r w) x.1 x.2) fun _ _ w => w
      · cases z
    · cases h
theorem evA_mono (hM : Le M N) : ∀ (cs : List CE) (env : LT.Env) (β : BS) r, evA M cs env β = some r → evA N cs env β = some r
  | [], env, β, r, h => by simpa only [evA] using h
  | c :: cs, env, β, r, h => by
    cases c with
    | star a =>
      simp only [evA] at *
      refine bindO h (pk_mono (evP_mono hM a env β)) fun x _ z => ?_
      obtain ⟨x, β1⟩ := x
      cases x with
      | lst xs => exact mapO z (evA_mono hM cs env β1)
      | tup xs => exact mapO z (evA_mono hM cs env β1)
      | _ => cases z
    | _ =>
      rw [evA_cons (by intro a z; cases z)] at h ⊢
      exact bindO h (evP_mono hM _ env β) fun x _ z => mapO z (evA_mono hM cs env x.2)
theorem evV_mono (hM : Le M N) : ∀ (cs : List CE) (env : LT.Env) (β : BS) r, evV M cs env β = some r → evV N cs env β = some r
  | [], env, β, r, h => by simpa only [evV] using h
  | c :: cs, env, β, r, h => by
    simp only [evV] at *
    exact bindO h (pk_mono (evP_mono hM c env β)) fun x _ z => mapO z (evV_mono hM cs env x.2)
theorem evB_mono (hM : Le M N) : ∀ (c : CB) (env : LT.Env) (β : BS) r, evB M c env β = some r → evB N c env β = some r
  | .not a, env, β, r, h => by
    simp only [evB] at *
    exact mapO h (evB_mono hM a env β)
  | .and a b, env, β, r, h => by
    simp only [evB] at *
    exact bindO h (evB_mono hM a env β) fun x _ z => by
      obtain ⟨t, β1⟩ := x
      cases t with
      | true => exact evB_mono hM b env β1 _ z
      | false => exact z
  | .or a b, env, β, r, h => by
    simp only [evB] at *
    exact bindO h (evB_mono hM a env β) fun x _ z => by
      obtain ⟨t, β1⟩ := x
      cases t with
      | true => exact z
      | false => exact evB_mono hM b env β1 _ z
  | .cmp op a b, env, β, r, h => by
    simp only [evB] at *
    exact bindO h (pk_mono (evP_mono hM a env β)) fun x _ z => bindO z (pk_mono (evP_mono hM b env x.2)) fun _ _ z => z
  | .chain o1 o2 a b c, env, β, r, h => by
    simp only [evB] at *
    exact bindO h (evP_mono hM a env β) fun x _ z => bindO z (evP_mono hM b env x.2) fun y _ z => bindO z (fun _ w => w) fun t _ z => by
      cases t with
      | true => exact bindO z (evP_mono hM c env y.2) fun _ _ z => z
      | false => exact z
  | .tru a, env, β, r, h => by
    simp only [evB] at *
    exact bindO h (pk_mono (evP_mono hM a env β)) fun _ _ z => z
theorem evI_mono (hM : Le M N) : ∀ (c : CI) (env : LT.Env) (β : BS) r, evI M c env β = some r → evI N c env β = some r
  | .seq a, env, β, r, h => by
    simp only [evI] at *
    exact bindO h (pk_mono (evP_mono hM a env β)) fun _ _ z => z
  | .rng1 a, env, β, r, h => by
    simp only [evI] at *
    exact bindO h (evP_mono hM a env β) fun _ _ z => z
  | .rng2 a b, env, β, r, h => by
    simp only [evI] at *
    exact bindO h (evP_mono hM a env β) fun x _ z => bindO z (evP_mono hM b env x.2) fun _ _ z => z
  | .enum a, env, β, r, h => by
    simp only [evI] at *
    exact bindO h (pk_mono (evP_mono hM a env β)) fun _ _ z => z
  | .zip a b, env, β, r, h => by
    simp only [evI] at *
    exact bindO h (pk_mono (evP_mono hM a env β)) fun x _ z => bindO z (pk_mono (evP_mono hM b env x.2)) fun _ _ z => z
  | .zip3 a b c, env, β, r, h => by
    simp only [evI] at *
    exact bindO h (pk_mono (evP_mono hM a env β)) fun x _ z => bindO z (pk_mono (evP_mono hM b env x.2)) fun y _ z => bindO z (pk_mono (evP_mono hM c env y.2)) fun _ _ z => z
  | .rvs a, env, β, r, h => by
    simp only [evI] at *
    exact bindO h (pk_mono (evP_mono hM a env β)) fun _ _ z => z
end
theorem evF_mono (hM : Le M N) (c : CE) (env : LT.Env) (β : BS) r (h : evF M c env β = some r) : evF N c env β = some r := by
  unfold evF at *
  split at h
  · exact bindO h (evA_mono hM _ env β) fun _ _ z => z
  · exact bindO h (pk_mono (evP_mono hM _ env β)) fun _ _ z => z
  · exact bindO h (pk_mono (evP_mono hM _ env β)) fun x _ z => bindO z (pk_mono (evP_mono hM _ env x.2)) fun _ _ z => z
  · split at h
    · rename_i hc
      refine bindO h (evI_mono hM _ env β) fun x _ z => ?_
      split at z
      · rename_i hl
        rw [if_pos hl]
        exact mapE_mono (fun y β1 r e => bindO e (fun _ w => w) fun e1 r w => evP_mono hM _ e1 β1 r w) x.1 x.2 _ z
      · cases z
    · cases h
  · split at h
    · rename_i hc
      refine bindO h (evI_mono hM _ env β) fun x _ z => ?_
      split at z
      · rename_i hl
        rw [if_pos hl]
        exact mapIf_mono (fun y β1 r e => bindO e (fun _ w => w) fun e1 r w => evB_mono hM _ e1 β1 r w) (fun y β1 r e => bindO e (fun _ w => w) fun e1 r w => evP_mono hM _ e1 β1 r w) x.1 x.2 _ z
      · cases z
    · cases h
  · split at h
    · rename_i hc
      refine bindO h (evI_mono hM _ env β) fun x _ z => ?_
      split at z
      · rename_i hl
        rw [if_pos hl]
        exact bindO z (mapE_mono (fun y β1 r e => bindO e (fun _ w => w) fun e1 r w => evP_mono hM _ e1 β1 r w) x.1 x.2) fun _ _ w => w
      · cases z
    · cases h
  · exact bindO h (evV_mono hM _ env β) fun x _ z => bindO z (dPr_mono hM _ _ _) fun _ _ w => w
  · refine bindO h (evA_mono hM _ env β) fun x _ z => ?_
    split at z
    · rename_i hf
      rw [if_pos hf]
      exact bindO z (hM _ _ _) fun _ _ w => w
    · cases z
  · refine bindO h (evP_mono hM _ env β) fun x _ z => ?_
    obtain ⟨x, β1⟩ := x
    cases x with
    | obj c' fs =>
      simp only at z ⊢
      split at z
      · rename_i hf
        rw [if_pos hf]
        exact bindO z (evA_mono hM _ env β1) fun y _ w => bindO w (hM _ _ _) fun _ _ w => w
      · cases z
    | _ => cases z
  · cases h
theorem evFr_mono (hM : Le M N) (c : CE) (env : LT.Env) (β : BS) r (h : evFr M c env β = some r) : evFr N c env β = some r := by
  unfold evFr at *
  split at h
  · exact h
  · exact evF_mono hM c env β r h
theorem evOwn_mono (hM : Le M N) (e : CE) (env : LT.Env) (β : BS) r (h : evOwn M e env β = some r) : evOwn N e env β = some r := by
  unfold evOwn at *
  split at h
  · refine bindO h (evA_mono hM _ env β) fun x r z => ?_
    split at z
    · rename_i hf
      rw [if_pos hf]
      exact bindO z (fun y hy => hM _ _ _ _ hy) fun _ _ z => z
    · cases z
  · exact mapO h (evF_mono hM _ env β)
theorem evO_mono (hM : Le M N) (o : Bool) (c : CE) (env : LT.Env) (β : BS) r (h : evO M o c env β = some r) : evO N o c env β = some r := by
  unfold evO at *
  cases o with
  | true => exact mapO h (evF_mono hM c env β)
  | false => exact mapO h (evP_mono hM c env β)
theorem evOs_mono (hM : Le M N) : ∀ (os : List Bool) (cs : List CE) (env : LT.Env) (β : BS) r, evOs M os cs env β = some r → evOs N os cs env β = some r
  | [], [], env, β, r, h => h
  | [], _ :: _, env, β, r, h => by cases h
  | _ :: _, [], env, β, r, h => by cases h
  | o :: os, c :: cs, env, β, r, h => bindO h (evO_mono hM o c env β) fun x _ z => mapO z (evOs_mono hM os cs env x.2)
mutual
theorem evS_mono (hM : Le M N) : ∀ (c : CS) (env : LT.Env) (β : BS) r, evS M c env β = some r → evS N c env β = some r
  | .pass, env, β, r, h => by simpa only [evS] using h
  | .fz is, env, β, r, h => by simpa only [evS] using h
  | .nev, env, β, r, h => by simpa only [evS] using h
  | .retN, env, β, r, h => by simpa only [evS] using h
  | .expr e, env, β, r, h => by
    simp only [evS] at *
    split at h
    · split at h
      · rename_i hi
        exact bindO h (evP_mono hM _ env β) fun _ _ z => z
      · cases h
    · split at h
      · rename_i hi
        exact bindO h (evP_mono hM _ env β) fun _ _ z => z
      · cases h
    · split at h
      · rename_i hi
        exact bindO h (evP_mono hM _ env β) fun x _ z => bindO z (evP_mono hM _ env x.2) fun _ _ z => z
      · cases h
    · exact mapO h (evP_mono hM _ env β)
  | .ret e, env, β, r, h => by
    simp only [evS] at *
    exact mapO h (evP_mono hM e env β)
  | .ifs c a b, env, β, r, h => by
    simp only [evS] at *
    exact bindO h (evB_mono hM c env β) fun x _ z => by
      obtain ⟨t, β1⟩ := x
      cases t with
      | true => exact evSs_mono hM a env β1 _ z
      | false => exact evSs_mono hM b env β1 _ z
  | .asg t e, env, β, r, h => by
    simp only [evS] at *
    exact bindO h (evP_mono hM e env β) fun _ _ z => z
  | .asgP os is es, env, β, r, h => by
    simp only [evS] at *
    exact bindO h (evOs_mono hM os es env β) fun _ _ z => z
  | .asgO i e, env, β, r, h => by
    simp only [evS] at *
    exact mapO h (evOwn_mono hM e env β)
  | .par2 oi oj i j a b, env, β, r, h => by
    simp only [evS] at *
    exact bindO h (evO_mono hM oi a env β) fun x _ z => mapO z (evO_mono hM oj b env x.2)
  | .par3 oi oj ol i j l a b c, env, β, r, h => by
    simp only [evS] at *
    exact bindO h (evO_mono hM oi a env β) fun x _ z => bindO z (evO_mono hM oj b env x.2) fun y _ z => mapO z (evO_mono hM ol c env y.2)
  | .aug i op e, env, β, r, h => by
    simp only [evS] at *
    split at h
    · exact bindO h (evP_mono hM e env β) fun _ _ z => z
    · cases h
  | .setIx o a e, env, β, r, h => by
    simp only [evS] at *
    split at h
    · split at h
      · rename_i hi
        exact bindO h (evP_mono hM e env β) fun x _ z => bindO z (evP_mono hM a env x.2) fun _ _ z => z
      · cases h
    · cases h
  | .augIx _ _ _ _, env, β, r, h => by simpa only [evS] using h
  | .forS t it body, env, β, r, h => by
    simp only [evS] at *
    split at h
    · rename_i hc
      exact bindO h (evI_mono hM it env β) fun x r z => forE_mono (fun e1 β1 r w => evSs_mono hM body e1 β1 r w) x.1 env x.2 r z
    · cases h
theorem evSs_mono (hM : Le M N) : ∀ (cs : List CS) (env : LT.Env) (β : BS) r, evSs M cs env β = some r → evSs N cs env β = some r
  | [], env, β, r, h => by simpa only [evSs] using h
  | c :: cs, env, β, r, h => by
    simp only [evSs] at *
    exact bindO h (evS_mono hM c env β) fun o _ z => by
      cases o with
      | nx e1 β1 => exact evSs_mono hM cs e1 β1 _ z
      | ret x β1 => exact z
end
theorem evFd_mono (hM : Le M N) (d : Fd) (ds : List D) (β : BS) r (h : evFd M d ds β = some r) : evFd N d ds β = some r := by
  unfold evFd at *
  split at h
  · rename_i hc
    rw [if_pos hc]
    exact mapO h (evSs_mono hM d.body _ β)
  · cases h
theorem evFdO_mono (hM : Le M N) (d : Fd) (ds : List D) (β : BS) r (h : evFdO M d ds β = some r) : evFdO N d ds β = some r := by
  unfold evFdO at *
  split at h
  · rename_i hc
    rw [if_pos hc]
    refine bindO h (evSs_mono hM _ _ β) fun o r z => ?_
    split at z
    · exact mapO z (evFr_mono hM _ _ _)
    · exact z
    · cases z
  · cases h
theorem evFdI_mono (hM : Le M N) (d : Fd) (x : Addr) (ds : List D) (β : BS) r (h : evFdI M d x ds β = some r) : evFdI N d x ds β = some r := by
  unfold evFdI at *
  split at h
  · rename_i hc
    rw [if_pos hc]
    exact bindO h (evSs_mono hM d.body _ β) fun _ _ z => z
  · cases h
end
end LT

namespace LT
open PySem PySem.Spec PyProof.Rows L2
open Classical in
noncomputable def iniM (M : Nat → Mir) (d : Fd) : Mir := fun ds β => if h : ∃ r, ∀ x, evFdI M d x ds β = some r then some h.choose else none
theorem iniM_eq {M : Nat → Mir} {d : Fd} {ds : List D} {β : BS} {r : D × BS} (h : ∀ x, evFdI M d x ds β = some r) : iniM M d ds β = some r := by
  unfold iniM
  have hh : ∃ r, ∀ x, evFdI M d x ds β = some r := ⟨r, h⟩
  rw [dif_pos hh]
  have k := hh.choose_spec 0
  rw [h 0] at k
  exact k.symm
theorem iniM_of {M : Nat → Mir} {d : Fd} {ds : List D} {β : BS} {r : D × BS} (h : iniM M d ds β = some r) : ∀ x, evFdI M d x ds β = some r := by
  unfold iniM at h
  split at h
  · rename_i hh
    cases h
    exact hh.choose_spec
  · cases h
noncomputable def run (E : List Fd) (tk : Nat) : Nat → Nat → Mir
  | 0, _ => fun _ _ => none
  | n + 1, f => if f = tk then takeMir else match E.find? (fun d => d.id == f) with
    | none => fun _ _ => none
    | some d => if f < 100000 then evFd (run E tk n) d else if f < 200000 then iniM (run E tk n) d else evFdO (run E tk n) d
section
variable {E : List Fd} {tk : Nat}
theorem run_le : ∀ n : Nat, Le (run E tk n) (run E tk (n + 1))
  | 0 => fun f ds β r h => by cases h
  | n + 1 => fun f ds β r h => by
    have ih := run_le n
    by_cases hf : f = tk
    · have e1 : run E tk (n + 1) f = takeMir := if_pos hf
      have e2 : run E tk (n + 1 + 1) f = takeMir := if_pos hf
      rw [e1] at h
      rw [e2]
      exact h
    · cases hd : E.find? (fun d => d.id == f) with
      | none =>
        have e1 : run E tk (n + 1) f = fun _ _ => none := by
          show (if f = tk then _ else _) = _
          rw [if_neg hf, hd]
        rw [e1] at h
        cases h
      | some d =>
        have e : ∀ m, run E tk (m + 1) f = if f < 100000 then evFd (run E tk m) d else if f < 200000 then iniM (run E tk m) d else evFdO (run E tk m) d := fun m => by
          show (if f = tk then _ else _) = _
          rw [if_neg hf, hd]
        rw [e] at h ⊢
        by_cases hl : f < 100000
        · rw [if_pos hl] at h ⊢
          exact evFd_mono ih d ds β r h
        · rw [if_neg hl] at h ⊢
          by_cases hl2 : f < 200000
          · rw [if_pos hl2] at h ⊢
            exact iniM_eq fun x => evFdI_mono ih d x ds β r (iniM_of h x)
          · rw [if_neg hl2] at h ⊢
            exact evFdO_mono ih d ds β r h
theorem run_take (n : Nat) : run E tk (n + 1) tk = takeMir := if_pos rfl
theorem find_of {d : Fd} : ∀ {E : List Fd}, (E.map Fd.id).Nodup → d ∈ E → E.find? (fun e => e.id == d.id) = some d
  | [], _, h => by cases h
  | e :: E, nd, h => by
    rw [List.map_cons, List.nodup_cons] at nd
    rcases List.mem_cons.mp h with q | q
    · subst q
      rw [List.find?_cons_of_pos (by simp)]
    · have : e.id ≠ d.id := fun z => nd.1 (by rw [z]; exact List.mem_map_of_mem q)
      rw [List.find?_cons_of_neg (by simpa using this)]
      exact find_of nd.2 q
theorem run_none {f n : Nat} (h1 : f ≠ tk) (h2 : f ∉ E.map Fd.id) : run E tk n f = fun _ _ => none := by
  cases n with
  | zero => rfl
  | succ n =>
    unfold run
    rw [if_neg h1]
    have : E.find? (fun d => d.id == f) = none := by
      rw [List.find?_eq_none]
      intro d hd hz
      exact h2 (by rw [← (by simpa using hz : d.id = f)]; exact List.mem_map_of_mem hd)
    rw [this]
theorem run_fn {d : Fd} {n : Nat} (nd : (E.map Fd.id).Nodup) (hd : d ∈ E) (h1 : d.id ≠ tk) (h2 : d.id < 100000) : run E tk (n + 1) d.id = evFd (run E tk n) d := by
  show (if d.id = tk then _ else _) = _
  rw [if_neg h1, find_of nd hd]
  exact if_pos h2
theorem run_ini {d : Fd} {n : Nat} (nd : (E.map Fd.id).Nodup) (hd : d ∈ E) (h1 : d.id ≠ tk) (h2 : ¬ d.id < 100000) (h3 : d.id < 200000) : run E tk (n + 1) d.id = iniM (run E tk n) d := by
  show (if d.id = tk then _ else _) = _
  rw [if_neg h1, find_of nd hd]
  exact (if_neg h2).trans (if_pos h3)
theorem run_frs {d : Fd} {n : Nat} (nd : (E.map Fd.id).Nodup) (hd : d ∈ E) (h1 : d.id ≠ tk) (h2 : ¬ d.id < 100000) (h3 : ¬ d.id < 200000) : run E tk (n + 1) d.id = evFdO (run E tk n) d := by
  show (if d.id = tk then _ else _) = _
  rw [if_neg h1, find_of nd hd]
  exact (if_neg h2).trans (if_neg h3)
def gamL (K : PySem.W.Frag) (M : Nat → Mir) (bg lw : Nat) (f : Nat) : Sp := if f = bg then spBag K else if f = lw then spLaw K else if f < 100000 then gam K M f else if f < 200000 then gamI K M f else gamF K M f
theorem gam_no {K : PySem.W.Frag} {M : Nat → Mir} {f : Nat} (h : M f = fun _ _ => none) {vs H Q X} (g : gam K M f vs H Q X) : False := by
  obtain ⟨B, G, β, ds, x, β', h1, _⟩ := g
  rw [h] at h1
  cases h1
theorem hg_of {K : PySem.W.Frag} {M : Nat → Mir} {bg lw : Nat} (h1 : M bg = fun _ _ => none) (h2 : M lw = fun _ _ => none) (hb : bg < 100000) (hl : lw < 100000) : HG K M (gamL K M bg lw) where
  fn := fun f hf vs H Q X g => by
    unfold gamL
    rw [if_pos hf]
    split
    · rename_i e
      subst e
      exact (gam_no h1 g).elim
    · split
      · rename_i e
        subst e
        exact (gam_no h2 g).elim
      · exact g
  ini := fun f hf vs H Q X g => by
    unfold gamL
    rw [if_neg (by omega), if_neg (by omega), if_neg (by omega), if_pos hf.2]
    exact g
  fr := fun f hf vs H Q X g => by
    unfold gamL
    rw [if_neg (by omega), if_neg (by omega), if_neg (by omega), if_neg (by omega)]
    exact g
theorem obl_all {K : PySem.W.Frag} {tab : List Fd} {dB dT dL : Fd} {rest : List CS} {N : Nat} (hE : ∀ d ∈ tab, d = dB ∨ d = dT ∨ d = dL ∨ d ∈ E) (nd : (E.map Fd.id).Nodup) (no : ∀ i ∈ [dB.id, dT.id, dL.id], i ∉ E.map Fd.id ∧ i < 100000) (n1 : dB.id ≠ dT.id) (n2 : dL.id ≠ dT.id) (n3 : dL.id ≠ dB.id)
    (b1 : dB.body = dBagBody) (b2 : dB.ps.length = 1) (b3 : dB.N.length = 2) (t1 : dT.body = dTakeBody) (t2 : dT.ps.length = 2) (t3 : dT.N.length = 7) (l1 : dL.body = .asg (.name 1) (.call dB.id [.var 0]) :: rest) (l2 : dL.ps.length = 1) (l3 : 2 ≤ dL.N.length)
    (hr : ∀ (ns : List Int) (C : Addr), ns.length ≤ 63 → ∃ β', evSs (run E dT.id (N + 1)) rest (none :: some (.d .bag) :: List.replicate (dL.N.length - 2) none) ⟨0, 1234567891, 0, ns.map absI, C⟩ = some (.ret (.bl true) β')) : ∀ d ∈ tab, Obl (gamL K (run E dT.id (N + 1)) dB.id dL.id) K d := by
  have oB := no dB.id (by simp)
  have oT := no dT.id (by simp)
  have oL := no dL.id (by simp)
  have hg : HG K (run E dT.id (N + 1)) (gamL K (run E dT.id (N + 1)) dB.id dL.id) := hg_of (run_none n1 oB.1) (run_none n2 oL.1) oB.2 oL.2
  intro d hd
  rcases hE d hd with rfl | rfl | rfl | he
  · exact obl_bag b1 b2 b3 (if_pos rfl)
  · refine obl_take (M := run E d.id (N + 1)) (run_take N) t1 t2 t3 fun vs H Q X g => ?_
    unfold gamL at g
    rw [if_neg n1.symm, if_neg n2.symm, if_pos oT.2] at g
    exact g
  · exact obl_law hg l1 l2 l3 (if_pos rfl) (by unfold gamL; rw [if_neg n3, if_pos rfl]) hr
  · have m1 : d.id ∈ E.map Fd.id := List.mem_map_of_mem he
    have k1 : d.id ≠ dB.id := fun z => oB.1 (z ▸ m1)
    have k2 : d.id ≠ dT.id := fun z => oT.1 (z ▸ m1)
    have k3 : d.id ≠ dL.id := fun z => oL.1 (z ▸ m1)
    by_cases hl : d.id < 100000
    · refine obl_ev hg (fun vs H Q X g => ?_) fun ds β r h => ?_
      · unfold gamL at g
        rw [if_neg k1, if_neg k3, if_pos hl] at g
        exact g
      · rw [run_fn nd he k2 hl] at h
        exact evFd_mono (run_le N) d ds β r h
    · by_cases hl2 : d.id < 200000
      · refine obl_init hg (fun vs H Q X g => ?_) fun x ds β r h => ?_
        · unfold gamL at g
          rw [if_neg k1, if_neg k3, if_neg hl, if_pos hl2] at g
          exact g
        · rw [run_ini nd he k2 hl hl2] at h
          exact evFdI_mono (run_le N) d x ds β r (iniM_of h x)
      · refine obl_evO hg (fun vs H Q X g => ?_) fun ds β r h => ?_
        · unfold gamL at g
          rw [if_neg k1, if_neg k3, if_neg hl, if_neg hl2] at g
          exact g
        · rw [run_frs nd he k2 hl hl2] at h
          exact evFdO_mono (run_le N) d ds β r h
end
end LT

namespace LT
open PySem PySem.Spec PyProof.Rows L2
def cornerI (s : Int) : Int := if 0 ≤ s then (s + 1) * (s + 2) / 2 else 0
def pairsI (a b c d lim : Int) : Int := cornerI (lim - a + d) - cornerI (lim - a + d - (b - a + 1)) - cornerI (lim - a + d - (d - c + 1)) + cornerI (lim - a + d - (b - a + 1) - (d - c + 1))
def manyI (lu ld a m : Int) : Int := if mx 0 lu > m ∨ mx 0 ld > m ∨ lu - a > a - ld then 0 else pairsI (mx 0 lu) m (mx 0 ld) m (a - ld) - pairsI (mx 0 lu) m (mx 0 ld) m (lu - a - 1)
def safeB (u d lu ld a : Int) : Bool := decide (lu ≤ u) && decide (ld ≤ d) && decide (lu ≤ a + u - d) && decide (ld ≤ a + d - u)
theorem safe_iff {u d lu ld a : Int} : safeB u d lu ld a = true ↔ lu ≤ u ∧ ld ≤ d ∧ lu ≤ a + u - d ∧ ld ≤ a + d - u := by
  unfold safeB
  simp only [Bool.and_eq_true, decide_eq_true_eq, and_assoc]
def pos0 (t : Int) : Int := if 0 ≤ t then t else 0
theorem corner_step (s : Int) : cornerI s = cornerI (s - 1) + pos0 (s + 1) := by
  unfold cornerI pos0
  by_cases h : 0 ≤ s
  · have h2 : 0 ≤ s + 1 := by omega
    rw [if_pos h, if_pos h2]
    by_cases h1 : 0 ≤ s - 1
    · rw [if_pos h1]
      have e : (s + 1) * (s + 2) = (s - 1 + 1) * (s - 1 + 2) + (s + 1) * 2 := by
        have : s - 1 + 1 = s := by omega
        have e2 : s - 1 + 2 = s + 1 := by omega
        rw [this, e2, Int.mul_comm s (s + 1), ← Int.mul_add]
      rw [e, Int.add_mul_ediv_right _ _ (by decide)]
    · rw [if_neg h1]
      have : s = 0 := by omega
      subst this
      decide
  · have h1 : ¬ 0 ≤ s - 1 := by omega
    rw [if_neg h, if_neg h1]
    split <;> omega
def gI (B t : Int) : Int := pos0 (t + 1) - pos0 (t - B + 1)
def sumR (f : Int → Int) : Nat → Int
  | 0 => 0
  | n + 1 => sumR f n + f n
theorem sum_g (B s : Int) : ∀ A : Nat, sumR (fun x => gI B (s - x)) A = cornerI s - cornerI (s - A) - cornerI (s - B) + cornerI (s - A - B)
  | 0 => by
    simp only [sumR]
    have : s - ((0 : Nat) : Int) = s := by omega
    rw [this]
    omega
  | A + 1 => by
    have e1 := corner_step (s - A)
    have e2 := corner_step (s - A - B)
    rw [sumR, sum_g B s A]
    unfold gI
    have k1 : s - ((A + 1 : Nat) : Int) = s - A - 1 := by omega
    have k2 : s - ((A + 1 : Nat) : Int) - B = s - A - B - 1 := by omega
    rw [k2, k1]
    omega
theorem sumR_congr {f g : Int → Int} : ∀ {n : Nat}, (∀ k : Nat, k < n → f k = g k) → sumR f n = sumR g n
  | 0, _ => rfl
  | n + 1, h => by rw [sumR, sumR, h n (by omega), sumR_congr fun k hk => h k (by omega)]
theorem sumR_sub (f g : Int → Int) : ∀ n : Nat, sumR (fun x => f x - g x) n = sumR f n - sumR g n
  | 0 => rfl
  | n + 1 => by
    rw [sumR, sumR, sumR, sumR_sub f g n]
    omega
theorem sumR_zero {f : Int → Int} : ∀ {n : Nat}, (∀ k : Nat, k < n → f k = 0) → sumR f n = 0
  | 0, _ => rfl
  | n + 1, h => by rw [sumR, h n (by omega), sumR_zero fun k hk => h k (by omega)]; rfl
theorem sumR_shift {f : Int → Int} (l : Nat) : ∀ n : Nat, sumR f (l + n) = sumR f l + sumR (fun x => f (l + x)) n
  | 0 => by simp [sumR]
  | n + 1 => by
    rw [← Nat.add_assoc, sumR, sumR_shift l n, sumR]
    have : ((l + n : Nat) : Int) = l + n := by omega
    rw [this]
    omega
theorem cnt_range (lo hi : Int) : ∀ n : Nat, (((List.range n).filter fun d : Nat => decide (lo ≤ (d : Int)) && decide ((d : Int) ≤ hi)).length : Int) = pos0 (min (hi + 1) n - max lo 0)
  | 0 => by
    simp only [List.range_zero, List.filter_nil, List.length_nil]
    unfold pos0
    split <;> omega
  | n + 1 => by
    rw [List.range_succ, List.filter_append, List.length_append]
    have ih := cnt_range lo hi n
    by_cases h : lo ≤ (n : Int) ∧ (n : Int) ≤ hi
    · rw [List.filter_cons_of_pos (by simp [h]), List.filter_nil, List.length_singleton]
      unfold pos0 at ih ⊢
      split at ih <;> split <;> omega
    · rw [List.filter_cons_of_neg (by simp only [Bool.and_eq_true, decide_eq_true_eq]; exact h), List.filter_nil, List.length_nil]
      unfold pos0 at ih ⊢
      split at ih <;> split <;> omega
def onesP (lu ld a : Int) (n : Nat) : List (Int × Int) := (List.range n).flatMap fun u : Nat => ((List.range n).filter fun d : Nat => safeB u d lu ld a).map fun d : Nat => ((u : Int), (d : Int))
def rowI (lu ld a : Int) (n : Nat) (u : Int) : Int := if lu ≤ u then pos0 (min (a + u - lu + 1) n - max (max ld (u - a + ld)) 0) else 0
theorem row_len (lu ld a : Int) (n : Nat) (u : Nat) : (((List.range n).filter fun d : Nat => safeB u d lu ld a).length : Int) = rowI lu ld a n u := by
  unfold rowI
  by_cases h : lu ≤ (u : Int)
  · rw [if_pos h, show a + (u : Int) - lu + 1 = (a + u - lu) + 1 from rfl, ← cnt_range]
    congr 2
    apply List.filter_congr
    intro d _
    rw [Bool.eq_iff_iff, safe_iff]
    simp only [Bool.and_eq_true, decide_eq_true_eq]
    omega
  · rw [if_neg h]
    have : ((List.range n).filter fun d : Nat => safeB u d lu ld a) = [] := by
      rw [List.filter_eq_nil_iff]
      intro d _ z
      rw [safe_iff] at z
      omega
    rw [this]
    rfl
theorem ones_len (lu ld a : Int) (n : Nat) : ((onesP lu ld a n).length : Int) = sumR (rowI lu ld a n) n := by
  have key : ∀ k : Nat, ((((List.range k).flatMap fun u : Nat => ((List.range n).filter fun d : Nat => safeB u d lu ld a).map fun d : Nat => ((u : Int), (d : Int))).length : Nat) : Int) = sumR (rowI lu ld a n) k := by
    intro k
    induction k with
    | zero => rfl
    | succ k ih =>
      rw [List.range_succ, List.flatMap_append, List.length_append, sumR]
      simp only [List.flatMap_cons, List.flatMap_nil, List.append_nil, List.length_map]
      have := row_len lu ld a n k
      omega
  exact key n
theorem many_ok (lu ld a : Int) (m : Nat) : ((onesP lu ld a (m + 1)).length : Int) = manyI lu ld a m := by
  rw [ones_len]
  unfold manyI
  by_cases h1 : mx 0 lu > m
  · rw [if_pos (.inl h1)]
    refine sumR_zero fun k hk => ?_
    unfold rowI
    unfold mx at h1
    split at h1 <;> rw [if_neg (by omega)]
  by_cases h2 : mx 0 ld > m
  · rw [if_pos (.inr (.inl h2))]
    refine sumR_zero fun k hk => ?_
    unfold rowI pos0
    unfold mx at h2
    split
    · split
      · split at h2 <;> omega
      · rfl
    · rfl
  by_cases h3 : lu - a > a - ld
  · rw [if_pos (.inr (.inr h3))]
    refine sumR_zero fun k hk => ?_
    unfold rowI pos0
    split
    · split
      · omega
      · rfl
    · rfl
  rw [if_neg (by rintro (z | z | z) <;> contradiction)]
  obtain ⟨l, hl⟩ : ∃ l : Nat, (l : Int) = mx 0 lu := ⟨(mx 0 lu).toNat, Int.toNat_of_nonneg (by unfold mx; split <;> omega)⟩
  obtain ⟨q, hq⟩ : ∃ q : Nat, (q : Int) = mx 0 ld := ⟨(mx 0 ld).toNat, Int.toNat_of_nonneg (by unfold mx; split <;> omega)⟩
  rw [← hl, ← hq]
  rw [← hl] at h1
  rw [← hq] at h2
  have e : m + 1 = l + (m + 1 - l) := by omega
  have hsum : sumR (rowI lu ld a (m + 1)) (m + 1) = sumR (rowI lu ld a (m + 1)) l + sumR (fun x => rowI lu ld a (m + 1) (l + x)) (m + 1 - l) := by
    rw [← sumR_shift, ← e]
  rw [hsum, sumR_zero (n := l) (f := rowI lu ld a (m + 1))]
  · have B : (m : Int) - q + 1 = (m : Int) - q + 1 := rfl
    have hrow : sumR (fun x => rowI lu ld a (m + 1) (l + x)) (m + 1 - l) = sumR (fun x => gI (m - q + 1) ((a - ld) - l + m - x) - gI (m - q + 1) ((lu - a - 1) - l + m - x)) (m + 1 - l) := by
      refine sumR_congr fun k hk => ?_
      unfold rowI gI
      unfold mx at hl hq
      have kl : (k : Int) < m + 1 - l := by omega
      rw [if_pos (by split at hl <;> omega)]
      unfold pos0
      split at hl <;> split at hq <;> omega
    rw [hrow, sumR_sub, sum_g, sum_g]
    unfold pairsI
    have ea : ((m + 1 - l : Nat) : Int) = (m : Int) - l + 1 := by omega
    rw [ea]
    omega
  · intro k hk
    unfold rowI
    unfold mx at hl
    split at hl <;> rw [if_neg (by omega)]
theorem ones_mem {lu ld a : Int} {n : Nat} {p : Int × Int} : p ∈ onesP lu ld a n ↔ 0 ≤ p.1 ∧ p.1 < n ∧ 0 ≤ p.2 ∧ p.2 < n ∧ safeB p.1 p.2 lu ld a = true := by
  unfold onesP
  simp only [List.mem_flatMap, List.mem_range, List.mem_map, List.mem_filter]
  constructor
  · rintro ⟨u, hu, d, ⟨hd, hs⟩, rfl⟩
    exact ⟨Int.natCast_nonneg u, by omega, Int.natCast_nonneg d, by omega, hs⟩
  · rintro ⟨h1, h2, h3, h4, h5⟩
    have e1 : ((p.1.toNat : Nat) : Int) = p.1 := Int.toNat_of_nonneg h1
    have e2 : ((p.2.toNat : Nat) : Int) = p.2 := Int.toNat_of_nonneg h3
    refine ⟨p.1.toNat, by omega, p.2.toNat, ⟨by omega, ?_⟩, ?_⟩
    · rw [e1, e2]
      exact h5
    · rw [e1, e2]
def aboveU (r0 r1 lu ld a : Int) : Int := mx (mx r0 lu) (mx r1 ld + lu - a)
def aboveD (r0 r1 lu ld a : Int) : Int := mx (mx r1 ld) (mx r0 lu + ld - a)
theorem mx_le {i j : Int} : i ≤ mx i j ∧ j ≤ mx i j ∧ (mx i j = i ∨ mx i j = j) := by
  unfold mx
  split <;> omega
theorem mn_le {i j : Int} : mn i j ≤ i ∧ mn i j ≤ j ∧ (mn i j = i ∨ mn i j = j) := by
  unfold mn
  split <;> omega
theorem least_ok {lu ld a : Int} {n : Nat} {p : Int × Int} (hp : p ∈ onesP lu ld a n) : (aboveU 0 0 lu ld a, aboveD 0 0 lu ld a) ∈ onesP lu ld a n ∧ ∀ q ∈ onesP lu ld a n, aboveU 0 0 lu ld a ≤ q.1 ∧ aboveD 0 0 lu ld a ≤ q.2 := by
  have all : ∀ q ∈ onesP lu ld a n, aboveU 0 0 lu ld a ≤ q.1 ∧ aboveD 0 0 lu ld a ≤ q.2 := by
    intro q hq
    obtain ⟨h1, h2, h3, h4, h5⟩ := ones_mem.mp hq
    rw [safe_iff] at h5
    unfold aboveU aboveD
    have a1 := @mx_le 0 lu
    have a2 := @mx_le 0 ld
    have a3 := @mx_le (mx 0 lu) (mx 0 ld + lu - a)
    have a4 := @mx_le (mx 0 ld) (mx 0 lu + ld - a)
    omega
  refine ⟨?_, all⟩
  have hq := all p hp
  obtain ⟨h1, h2, h3, h4, h5⟩ := ones_mem.mp hp
  rw [safe_iff] at h5
  rw [ones_mem, safe_iff]
  unfold aboveU aboveD at hq ⊢
  have a1 := @mx_le 0 lu
  have a2 := @mx_le 0 ld
  have a3 := @mx_le (mx 0 lu) (mx 0 ld + lu - a)
  have a4 := @mx_le (mx 0 ld) (mx 0 lu + ld - a)
  simp only at *
  omega
end LT

namespace LT
open PySem PySem.Spec PyProof.Rows L2
abbrev Wn := Option Int × Option Int
def optD : Option Int → D
  | none => .non
  | some i => .int i
def wnD (w : Wn) : D := .tup [optD w.1, optD w.2]
def wins (sent : List Int) (b0 b1 : Int) : List Wn := (none :: sent.map fun t => some (t + b0)).zip ((sent.map fun t => some (t + b1)) ++ [none])
def mxO : Option Int → Option Int → Option Int
  | none, y => y
  | x, none => x
  | some x, some y => some (mx x y)
def mnO : Option Int → Option Int → Option Int
  | none, y => y
  | x, none => x
  | some x, some y => some (mn x y)
def gtO : Option Int → Option Int → Bool
  | some x, some y => decide (y < x)
  | _, _ => false
def common (w v : Wn) : Option Wn := if gtO (mxO w.1 v.1) (mnO w.2 v.2) then none else some (mxO w.1 v.1, mnO w.2 v.2)
def behind (w : Wn) (g0 g1 : Int) : Wn := (w.1.map (· + g0), w.2.map (· + g1))
def meetB (w v : Wn) : Bool := !gtO (mxO w.1 v.1) (mnO w.2 v.2)
def cellsP (lw tw : List Wn) (g0 g1 : Int) : List (Nat × Nat) := (List.range lw.length).flatMap fun i => ((List.range tw.length).filter fun j => meetB (behind (lw.getD i (none, none)) g0 g1) (tw.getD j (none, none))).map fun j => (i, j)
theorem cells_mem {lw tw : List Wn} {g0 g1 : Int} {c : Nat × Nat} : c ∈ cellsP lw tw g0 g1 ↔ c.1 < lw.length ∧ c.2 < tw.length ∧ meetB (behind (lw.getD c.1 (none, none)) g0 g1) (tw.getD c.2 (none, none)) = true := by
  unfold cellsP
  simp only [List.mem_flatMap, List.mem_range, List.mem_map, List.mem_filter]
  constructor
  · rintro ⟨i, hi, j, ⟨hj, hm⟩, rfl⟩
    exact ⟨hi, hj, hm⟩
  · rintro ⟨hi, hj, hm⟩
    exact ⟨c.1, hi, c.2, ⟨hj, hm⟩, rfl⟩
def overB (ps : List Int) (lw tw : List Wn) (g0 g1 : Int) : Prop := ∃ i j, i < lw.length ∧ j < tw.length ∧ meetB (behind (lw.getD i (none, none)) g0 g1) (tw.getD j (none, none)) = true ∧ ps.getD i 0 < ps.getD j 0
theorem wins1 (a b0 b1 : Int) : wins [a] b0 b1 = [(none, some (a + b1)), (some (a + b0), none)] := rfl
theorem wins2 (a b b0 b1 : Int) : wins [a, b] b0 b1 = [(none, some (a + b1)), (some (a + b0), some (b + b1)), (some (b + b0), none)] := rfl
theorem ex2 {P : Nat → Prop} : (∃ i, i < 2 ∧ P i) ↔ P 0 ∨ P 1 := by
  constructor
  · rintro ⟨i, hi, h⟩
    match i, hi with
    | 0, _ => exact .inl h
    | 1, _ => exact .inr h
  · rintro (h | h)
    · exact ⟨0, by decide, h⟩
    · exact ⟨1, by decide, h⟩
theorem ex3 {P : Nat → Prop} : (∃ i, i < 3 ∧ P i) ↔ P 0 ∨ P 1 ∨ P 2 := by
  constructor
  · rintro ⟨i, hi, h⟩
    match i, hi with
    | 0, _ => exact .inl h
    | 1, _ => exact .inr (.inl h)
    | 2, _ => exact .inr (.inr h)
  · rintro (h | h | h)
    · exact ⟨0, by decide, h⟩
    · exact ⟨1, by decide, h⟩
    · exact ⟨2, by decide, h⟩
theorem over_iff {ps : List Int} {lw tw : List Wn} {g0 g1 : Int} : overB ps lw tw g0 g1 ↔ ∃ i, i < lw.length ∧ ∃ j, j < tw.length ∧ meetB (behind (lw.getD i (none, none)) g0 g1) (tw.getD j (none, none)) = true ∧ ps.getD i 0 < ps.getD j 0 := by
  unfold overB
  constructor
  · rintro ⟨i, j, a, b, c⟩
    exact ⟨i, a, j, b, c⟩
  · rintro ⟨i, a, j, b, c⟩
    exact ⟨i, j, a, b, c⟩
theorem over1 {s a p q ll lm tl tm g0 g1 : Int} (hg : g0 ≤ g1) (hl : ll ≤ lm) (ht : tl ≤ tm) : overB [p, q] (wins [s] ll lm) (wins [a] tl tm) g0 g1 ↔ (p < q ∧ a + tl ≤ s + lm + g1) ∨ (q < p ∧ s + ll + g0 ≤ a + tm) := by
  rw [over_iff, wins1, wins1]
  simp only [List.length_cons, List.length_nil, Nat.zero_add, Nat.reduceAdd, ex2, List.getD_cons_zero, List.getD_cons_succ, behind, meetB, Option.map_none, Option.map_some, mxO, mnO, gtO, Bool.not_eq_true', decide_eq_false_iff_not, Int.not_lt]
  simp only [Bool.not_false, true_and, Int.lt_irrefl, and_false, false_or, or_false]
  constructor
  · rintro (⟨h1, h2⟩ | ⟨h1, h2⟩)
    · exact .inl ⟨h2, h1⟩
    · exact .inr ⟨h2, h1⟩
  · rintro (⟨h1, h2⟩ | ⟨h1, h2⟩)
    · exact .inl ⟨h2, h1⟩
    · exact .inr ⟨h2, h1⟩
theorem mx_cases' (i j : Int) : (i < j ∧ mx i j = j) ∨ (j ≤ i ∧ mx i j = i) := by
  unfold mx
  split <;> omega
theorem mxl {x y z : Int} : mx x y ≤ z ↔ x ≤ z ∧ y ≤ z := by
  have := @mx_le x y
  omega
theorem mnl {x y z : Int} : z ≤ mn x y ↔ z ≤ x ∧ z ≤ y := by
  have := @mn_le x y
  omega
theorem over2 {s1 s2 a1 a2 p q r ll lm tl tm g0 g1 : Int} (hg : g0 ≤ g1) (hl : ll ≤ lm) (ht : tl ≤ tm) (hs : s1 ≤ s2) (ha : a1 ≤ a2) : overB [p, q, r] (wins [s1, s2] ll lm) (wins [a1, a2] tl tm) g0 g1 ↔
    (p < q ∧ a1 + tl ≤ s1 + lm + g1) ∨ (p < r ∧ a2 + tl ≤ s1 + lm + g1) ∨ (q < p ∧ s1 + ll + g0 ≤ a1 + tm) ∨ (q < r ∧ a2 + tl ≤ s2 + lm + g1) ∨ (r < p ∧ s2 + ll + g0 ≤ a1 + tm) ∨ (r < q ∧ s2 + ll + g0 ≤ a2 + tm) := by
  rw [over_iff, wins2, wins2]
  simp only [List.length_cons, List.length_nil, Nat.zero_add, Nat.reduceAdd, ex3, List.getD_cons_zero, List.getD_cons_succ, behind, meetB, Option.map_none, Option.map_some, mxO, mnO, gtO, Bool.not_eq_true', decide_eq_false_iff_not, Int.not_lt, mxl, mnl]
  simp only [Bool.not_false, true_and, Int.lt_irrefl, and_false, false_or, or_false]
  omega
theorem short_ok {u d a ll lm tl tm g0 g1 : Int} (hg : g0 ≤ g1) (hl : ll ≤ lm) (ht : tl ≤ tm) (hu : 0 ≤ u) (hd : 0 ≤ d) (ha : 0 ≤ a) :
    safeB u d (lm + g1 - tl + 1) (tm - ll - g0 + 1) a = true ↔ ¬ overB [0, 1] (wins [0] ll lm) (wins [u] tl tm) g0 g1 ∧ ¬ overB [1, 0] (wins [d] ll lm) (wins [0] tl tm) g0 g1 ∧ ¬ overB [1, 0, 2] (wins [d, mx a d] ll lm) (wins [0, mx (a + u) 0] tl tm) g0 g1 ∧ ¬ overB [1, 2, 0] (wins [0, mx (a + d) 0] ll lm) (wins [u, mx a u] tl tm) g0 g1 := by
  rw [safe_iff, over1 hg hl ht, over1 hg hl ht, over2 hg hl ht (by have := @mx_le a d; omega) (by have := @mx_le (a + u) 0; omega), over2 hg hl ht (by have := @mx_le (a + d) 0; omega) (by have := @mx_le a u; omega)]
  have m1 := mx_cases' a d
  have m2 := mx_cases' (a + u) 0
  have m3 := mx_cases' (a + d) 0
  have m4 := mx_cases' a u
  omega
end LT

namespace LT
open PySem PySem.Spec PyProof.Rows L2
def cntL (ts : List Int) (r : Int) : Nat := (ts.filter fun t => decide (t ≤ r)).length
def Tm (ts : List Int) (P k : Int) : Int := k / ts.length * P + ts.getD (k % ts.length).toNat 0
def Nm (ts : List Int) (P x : Int) : Int := x / P * ts.length + cntL ts (x % P) - 1
structure RdOk (ts : List Int) (P : Int) : Prop where
  ne : 0 < ts.length
  srt : ts.Pairwise (· < ·)
  lo : ∀ t ∈ ts, 0 ≤ t
  hi : ∀ t ∈ ts, t < P
theorem gD_eq {ts : List Int} {i : Nat} (h : i < ts.length) : ts.getD i 0 = ts[i] := by
  rw [List.getD, List.getElem?_eq_getElem h]
  rfl
theorem gD_mem {ts : List Int} {i : Nat} (h : i < ts.length) : ts.getD i 0 ∈ ts := by
  rw [gD_eq h]
  exact List.getElem_mem h
theorem gD_lt {ts : List Int} (hp : ts.Pairwise (· < ·)) {i j : Nat} (hij : i < j) (h : j < ts.length) : ts.getD i 0 < ts.getD j 0 := by
  rw [gD_eq h, gD_eq (by omega)]
  exact List.pairwise_iff_getElem.mp hp i j (by omega) h hij
theorem cnt_iff : ∀ {ts : List Int}, ts.Pairwise (· < ·) → ∀ (r : Int) (i : Nat), i < ts.length → (i < cntL ts r ↔ ts.getD i 0 ≤ r)
  | [], _, r, i, h => by simp at h
  | t :: ts, hp, r, i, h => by
    rw [List.pairwise_cons] at hp
    obtain ⟨h1, h2⟩ := hp
    unfold cntL
    by_cases c : t ≤ r
    · rw [List.filter_cons_of_pos (by simpa using c)]
      cases i with
      | zero => simp [c]
      | succ i =>
        have ih := cnt_iff h2 r i (by simpa using h)
        unfold cntL at ih
        simp only [List.length_cons, List.getD_cons_succ]
        omega
    · rw [List.filter_cons_of_neg (by simpa using c)]
      have z : ts.filter (fun t => decide (t ≤ r)) = [] := by
        rw [List.filter_eq_nil_iff]
        intro x hx
        have := h1 x hx
        simp only [decide_eq_true_eq]
        omega
      rw [z]
      cases i with
      | zero =>
        simp only [List.getD_cons_zero, List.length_nil]
        omega
      | succ i =>
        have hi : i < ts.length := by simpa using h
        have := h1 _ (gD_mem hi)
        simp only [List.getD_cons_succ, List.length_nil]
        omega
theorem cnt_le (ts : List Int) (r : Int) : cntL ts r ≤ ts.length := List.length_filter_le _ _
theorem dm_of {k m q c : Int} (hm : 0 < m) (h : k = q * m + c) (h0 : 0 ≤ c) (h1 : c < m) : k / m = q ∧ k % m = c :=
  (Int.ediv_emod_unique hm).mpr ⟨by rw [h, Int.mul_comm, Int.add_comm], h0, h1⟩
theorem dm_is (k : Int) {m : Int} (hm : 0 < m) : k = k / m * m + k % m ∧ 0 ≤ k % m ∧ k % m < m := by
  refine ⟨?_, Int.emod_nonneg _ (by omega), Int.emod_lt_of_pos _ hm⟩
  have := Int.mul_ediv_add_emod k m
  rw [Int.mul_comm] at this
  omega
section
variable {ts : List Int} {P : Int}
theorem Tm_at (h : 0 < ts.length) (q : Int) (c : Nat) (hc : c < ts.length) : Tm ts P (q * ts.length + c) = q * P + ts.getD c 0 := by
  obtain ⟨h1, h2⟩ := dm_of (k := q * ts.length + c) (m := ts.length) (by omega) rfl (by omega) (by omega)
  unfold Tm
  rw [h1, h2]
  rfl
theorem Tm_succ (ok : RdOk ts P) (k : Int) : Tm ts P k < Tm ts P (k + 1) := by
  have hm : (0 : Int) < ts.length := by have := ok.ne; omega
  obtain ⟨e, h0, h1⟩ := dm_is k hm
  generalize k / ts.length = q at *
  obtain ⟨c, hc⟩ : ∃ c : Nat, k % ts.length = c := ⟨(k % ts.length).toNat, by omega⟩
  rw [hc] at e h0 h1
  have hcl : c < ts.length := by omega
  rw [e, Tm_at ok.ne q c hcl]
  by_cases c1 : c + 1 < ts.length
  · have e2 : q * (ts.length : Int) + c + 1 = q * ts.length + ((c + 1 : Nat) : Int) := by omega
    rw [e2, Tm_at ok.ne q (c + 1) c1]
    have := gD_lt ok.srt (by omega : c < c + 1) c1
    omega
  · have e2 : q * (ts.length : Int) + c + 1 = (q + 1) * ts.length + ((0 : Nat) : Int) := by
      rw [Int.add_mul]
      omega
    rw [e2, Tm_at ok.ne (q + 1) 0 ok.ne, Int.add_mul]
    have a := ok.hi _ (gD_mem hcl)
    have b := ok.lo _ (gD_mem ok.ne)
    omega
theorem Tm_mono (ok : RdOk ts P) {k l : Int} (h : k ≤ l) : Tm ts P k ≤ Tm ts P l := by
  obtain ⟨n, rfl⟩ : ∃ n : Nat, l = k + n := ⟨(l - k).toNat, by omega⟩
  clear h
  induction n with
  | zero => simp
  | succ n ih =>
    have := Tm_succ ok (k + n)
    rw [show k + ((n + 1 : Nat) : Int) = k + n + 1 by omega]
    omega
theorem Nm_ok (ok : RdOk ts P) (x : Int) : Tm ts P (Nm ts P x) ≤ x ∧ x < Tm ts P (Nm ts P x + 1) := by
  have hP : 0 < P := by
    have a := ok.hi _ (gD_mem ok.ne)
    have b := ok.lo _ (gD_mem ok.ne)
    omega
  obtain ⟨e, h0, h1⟩ := dm_is x hP
  unfold Nm
  generalize x / P = q at *
  generalize x % P = r at *
  have hle := cnt_le ts r
  have hne := ok.ne
  constructor
  · by_cases c : 0 < cntL ts r
    · have e2 : q * (ts.length : Int) + cntL ts r - 1 = q * ts.length + ((cntL ts r - 1 : Nat) : Int) := by omega
      rw [e2, Tm_at ok.ne q _ (by omega)]
      have := (cnt_iff ok.srt r (cntL ts r - 1) (by omega)).mp (by omega)
      omega
    · have e2 : q * (ts.length : Int) + cntL ts r - 1 = (q - 1) * ts.length + ((ts.length - 1 : Nat) : Int) := by
        rw [Int.sub_mul]
        omega
      rw [e2, Tm_at ok.ne _ _ (by omega), Int.sub_mul]
      have a := ok.hi _ (gD_mem (i := ts.length - 1) (by omega))
      omega
  · by_cases c : cntL ts r < ts.length
    · have e2 : q * (ts.length : Int) + cntL ts r - 1 + 1 = q * ts.length + ((cntL ts r : Nat) : Int) := by omega
      rw [e2, Tm_at ok.ne q _ c]
      have := (cnt_iff ok.srt r (cntL ts r) c)
      omega
    · have e2 : q * (ts.length : Int) + cntL ts r - 1 + 1 = (q + 1) * ts.length + ((0 : Nat) : Int) := by
        rw [Int.add_mul]
        omega
      rw [e2, Tm_at ok.ne _ _ ok.ne, Int.add_mul]
      have b := ok.lo _ (gD_mem ok.ne)
      omega
theorem Nm_mono (ok : RdOk ts P) {x y : Int} (h : x ≤ y) : Nm ts P x ≤ Nm ts P y := by
  have a := Nm_ok ok x
  have b := Nm_ok ok y
  by_cases c : Nm ts P x ≤ Nm ts P y
  · exact c
  · have := Tm_mono ok (show Nm ts P y + 1 ≤ Nm ts P x by omega)
    omega
def rMeets (ts : List Int) (P l0 l1 t0 t1 g0 g1 k o : Int) : Bool := decide (Tm ts P k + l0 + g0 ≤ Tm ts P (o + 1) + t1) && decide (Tm ts P o + t0 ≤ Tm ts P (k + 1) + l1 + g1)
def rLow (ts : List Int) (P l0 t1 g0 k : Int) : Int := Nm ts P (Tm ts P k + l0 + g0 - t1 - 1)
def rHigh (ts : List Int) (P l1 t0 g1 k : Int) : Int := Nm ts P (Tm ts P (k + 1) + l1 + g1 - t0)
theorem band84 (ok : RdOk ts P) {l0 l1 t0 t1 g0 g1 : Int} (hl : l0 ≤ l1) (ht : t0 ≤ t1) (hg : g0 ≤ g1) (k : Int) :
    rLow ts P l0 t1 g0 k ≤ rHigh ts P l1 t0 g1 k ∧ rMeets ts P l0 l1 t0 t1 g0 g1 k (rLow ts P l0 t1 g0 k) = true ∧ rMeets ts P l0 l1 t0 t1 g0 g1 k (rHigh ts P l1 t0 g1 k) = true ∧ rMeets ts P l0 l1 t0 t1 g0 g1 k (rLow ts P l0 t1 g0 k - 1) = false ∧ rMeets ts P l0 l1 t0 t1 g0 g1 k (rHigh ts P l1 t0 g1 k + 1) = false ∧
    rLow ts P l0 t1 g0 k ≤ rLow ts P l0 t1 g0 (k + 1) ∧ rHigh ts P l1 t0 g1 k ≤ rHigh ts P l1 t0 g1 (k + 1) := by
  have s0 := Tm_succ ok k
  have s1 := Tm_succ ok (k + 1)
  have a : rLow ts P l0 t1 g0 k ≤ rLow ts P l0 t1 g0 (k + 1) := Nm_mono ok (by omega)
  have b : rHigh ts P l1 t0 g1 k ≤ rHigh ts P l1 t0 g1 (k + 1) := Nm_mono ok (by omega)
  have c : rLow ts P l0 t1 g0 k ≤ rHigh ts P l1 t0 g1 k := Nm_mono ok (by omega)
  have x := Nm_ok ok (Tm ts P k + l0 + g0 - t1 - 1)
  have y := Nm_ok ok (Tm ts P (k + 1) + l1 + g1 - t0)
  refine ⟨c, ?_, ?_, ?_, ?_, a, b⟩
  · unfold rMeets rLow
    simp only [Bool.and_eq_true, decide_eq_true_eq]
    omega
  · unfold rMeets rHigh
    simp only [Bool.and_eq_true, decide_eq_true_eq]
    omega
  · unfold rMeets rLow
    rw [show Nm ts P (Tm ts P k + l0 + g0 - t1 - 1) - 1 + 1 = Nm ts P (Tm ts P k + l0 + g0 - t1 - 1) by omega]
    simp only [Bool.and_eq_false_iff, decide_eq_false_iff_not]
    omega
  · unfold rMeets rHigh
    simp only [Bool.and_eq_false_iff, decide_eq_false_iff_not]
    omega
end
end LT

namespace LT
open PySem PySem.Spec PyProof.Rows L2
def tabE : List Fd := [d87, d16, d273, d40, d41, d43, d100291, d200295, d15, d293, d292, d691, d11, d688, d296, d297, d689, d298, d690, d582] ++ [d692, d693, d294]
noncomputable def rn (n : Nat) : Nat → Mir := run tabE 10 n
theorem u10 (n : Nat) : rn (n + 1) 10 = takeMir := rfl
theorem u87 (n : Nat) : rn (n + 1) 87 = evFd (rn n) d87 := rfl
theorem u16 (n : Nat) : rn (n + 1) 16 = evFd (rn n) d16 := rfl
theorem u273 (n : Nat) : rn (n + 1) 273 = evFd (rn n) d273 := rfl
theorem u40 (n : Nat) : rn (n + 1) 40 = evFd (rn n) d40 := rfl
theorem u41 (n : Nat) : rn (n + 1) 41 = evFd (rn n) d41 := rfl
theorem u43 (n : Nat) : rn (n + 1) 43 = evFd (rn n) d43 := rfl
theorem u100291 (n : Nat) : rn (n + 1) 100291 = iniM (rn n) d100291 := rfl
theorem u200295 (n : Nat) : rn (n + 1) 200295 = evFdO (rn n) d200295 := rfl
theorem u15 (n : Nat) : rn (n + 1) 15 = evFd (rn n) d15 := rfl
theorem u293 (n : Nat) : rn (n + 1) 293 = evFd (rn n) d293 := rfl
theorem u292 (n : Nat) : rn (n + 1) 292 = evFd (rn n) d292 := rfl
theorem u691 (n : Nat) : rn (n + 1) 691 = evFd (rn n) d691 := rfl
theorem u11 (n : Nat) : rn (n + 1) 11 = evFd (rn n) d11 := rfl
theorem u688 (n : Nat) : rn (n + 1) 688 = evFd (rn n) d688 := rfl
theorem u296 (n : Nat) : rn (n + 1) 296 = evFd (rn n) d296 := rfl
theorem u297 (n : Nat) : rn (n + 1) 297 = evFd (rn n) d297 := rfl
theorem u689 (n : Nat) : rn (n + 1) 689 = evFd (rn n) d689 := rfl
theorem u298 (n : Nat) : rn (n + 1) 298 = evFd (rn n) d298 := rfl
theorem u690 (n : Nat) : rn (n + 1) 690 = evFd (rn n) d690 := rfl
theorem u582 (n : Nat) : rn (n + 1) 582 = evFd (rn n) d582 := rfl
theorem u692 (n : Nat) : rn (n + 1) 692 = evFd (rn n) d692 := rfl
theorem u693 (n : Nat) : rn (n + 1) 693 = evFd (rn n) d693 := rfl
theorem u294 (n : Nat) : rn (n + 1) 294 = evFd (rn n) d294 := rfl
end LT

namespace LT
open PySem PySem.Spec PyProof.Rows L2
def needU (lm tl g1 : Int) : Int := lm + g1 - tl + 1
def needD (tm ll g0 : Int) : Int := tm - ll - g0 + 1
abbrev bdD (ll lm tl tm : Int) : D := .tup [.tup [.int ll, .int lm], .tup [.int tl, .int tm]]
abbrev prD (a b : Int) : D := .tup [.int a, .int b]
def chD (c : Int × Int) : D := prD c.1 c.2
theorem tk {n : Nat} (β : BS) (m : Int) (h : 0 < m ∧ m.natAbs < big) : ∃ v β', rn (n + 1) 10 [.bag, .int m] β = some (.int v, β') ∧ 0 ≤ v ∧ v < m := by
  rw [u10]
  exact take_draw β m h
theorem big_ok {i : Int} (h : -(10 ^ 60) < i ∧ i < 10 ^ 60) : i.natAbs < big := by
  have : (10 : Nat) ^ 60 < big := by unfold big; decide +kernel
  omega
theorem p10 {k : Int} (h : 0 ≤ k ∧ k ≤ 1000) : dBin .Pow (.int 10) (.int k) = some (.int (10 ^ k.toNat)) := if_pos ⟨h.1, h.2, by decide⟩
theorem atI_toNat {xs : List D} {i : Int} (h0 : 0 ≤ i) (h1 : i < xs.length) : ∃ x, atI xs i = some x ∧ x ∈ xs := by
  have e : ((i.toNat : Nat) : Int) = i := Int.toNat_of_nonneg h0
  have hl : i.toNat < xs.length := by omega
  have k := atI_nat (xs := xs) (j := i.toNat) (List.getElem?_eq_getElem hl)
  rw [e] at k
  exact ⟨xs[i.toNat], k, List.getElem_mem hl⟩
theorem forE_invK {t : CT} {f : Env → BS → Option Out} (P : Nat → Env → BS → Prop) : ∀ {xs : List D} (k0 : Nat), (∀ k x, xs[k]? = some x → ∀ env β, P (k0 + k) env β → ∃ e2 β2, ((bindT t x env).bind fun e1 => f e1 β) = some (.nx e2 β2) ∧ P (k0 + k + 1) e2 β2) → ∀ {env : Env} {β : BS}, P k0 env β → ∃ e2 β2, forE t f xs env β = some (.nx e2 β2) ∧ P (k0 + xs.length) e2 β2
  | [], k0, _, env, β, p => ⟨env, β, rfl, p⟩
  | x :: xs, k0, h, env, β, p => by
    obtain ⟨e2, β2, h1, p2⟩ := h 0 x rfl env β p
    obtain ⟨e3, β3, h3, p3⟩ := forE_invK P (xs := xs) (k0 + 1) (fun k y hy env β q => by
      have q' : P (k0 + (k + 1)) env β := by
        rw [show k0 + (k + 1) = k0 + 1 + k by omega]
        exact q
      have z := h (k + 1) y hy env β q'
      rw [show k0 + (k + 1) + 1 = k0 + 1 + k + 1 by omega] at z
      exact z) p2
    obtain ⟨e1, k1, k2⟩ := Option.bind_eq_some_iff.mp h1
    rw [show k0 + 1 + xs.length = k0 + (x :: xs).length by simp; omega] at p3
    exact ⟨e3, β3, by simp only [forE, k1, Option.bind_some, k2]; exact h3, p3⟩
theorem for_keepK {M : Nat → Mir} {ss : List CS} {t : CT} {f : Env → BS → Option Out} {xs : List D} {env : Env} {β : BS} (P : Nat → Env → BS → Prop) (h0 : P 0 env β) (hs : ∀ k x, xs[k]? = some x → ∀ env β, P k env β → ∃ e2 β2, ((bindT t x env).bind fun e1 => f e1 β) = some (.nx e2 β2) ∧ P (k + 1) e2 β2) {R : Option Out → Prop} (hr : ∀ e2 β2, P xs.length e2 β2 → R (evSs M ss e2 β2)) : R (kSs M ss (forE t f xs env β)) := by
  obtain ⟨e2, β2, h1, h2⟩ := forE_invK (t := t) (f := f) P 0 (fun k x hx env β p => by rw [Nat.zero_add] at p ⊢; exact hs k x hx env β p) h0
  rw [Nat.zero_add] at h2
  rw [h1]
  exact hr e2 β2 h2
theorem evSs_app (M : Nat → Mir) : ∀ (xs ys : List CS) (env : Env) (β : BS), evSs M (xs ++ ys) env β = kSs M ys (evSs M xs env β)
  | [], ys, env, β => rfl
  | x :: xs, ys, env, β => by
    show kSs M (xs ++ ys) (evS M x env β) = kSs M ys (kSs M xs (evS M x env β))
    cases evS M x env β with
    | none => rfl
    | some o => cases o with
      | nx e1 β1 => exact evSs_app M xs ys e1 β1
      | ret y β1 => rfl
theorem r11 (n : Nat) (xs : List D) (β : BS) (h : 0 < xs.length ∧ xs.length ≤ 1000000) : ∃ x β', rn (n + 2) 11 [.bag, .lst xs] β = some (x, β') ∧ x ∈ xs := by
  obtain ⟨v, β1, e1, a1, b1⟩ := tk (n := n) β xs.length ⟨by omega, big_ok (by omega)⟩
  obtain ⟨x, hx, hm⟩ := atI_toNat a1 b1
  refine ⟨x, β1, ?_, hm⟩
  rw [u11]
  simp only [ev, List.getElem?_cons_zero, List.getElem?_cons_succ, List.set_cons_zero, List.set_cons_succ, List.length_cons, List.length_nil, Nat.reduceAdd, Nat.reduceLeDiff, Nat.reduceSub, ↓reduceIte, List.map_cons, List.map_nil, Bool.and_true, Bool.true_and, Bool.and_self, and_self, and_true, List.cons_append, List.nil_append, List.replicate_succ, List.replicate_zero, evFd_eq, decide_true, decide_false, Bool.not_true, Bool.not_false, Bool.false_and, Bool.and_false, List.contains_cons, List.contains_nil, beq_self_eq_true, Bool.true_or, Bool.or_true, Bool.or_false, Bool.false_or, List.all_cons, List.all_nil, Nat.reduceBEq, ev2, ev3, ev4, ev5, ev6, ev7, true_or, or_true, evFdO_eq, dl, Nat.reduceLT, true_and, false_and, if_true, if_false, Option.map_some, Option.bind_some, Int.cast_ofNat_Int, d11, e1, hx]
theorem r15 (n : Nat) {x : D} (β : BS) (h : x.tell) : rn (n + 1) 15 [x, x] β = some (.bl true, β) := by
  rw [u15, evFd_eq]
  show kFd (evSs (rn n) alikeBody [some (.d x), some (.d x)] β) = _
  rw [alike_run h]
  rfl
theorem r16 (n : Nat) (β : BS) : ∃ v β', rn (n + 2) 16 [.bag] β = some (.int v, β') ∧ 1 ≤ v ∧ v ≤ 10 ^ 29 := by
  obtain ⟨w, β1, e1, a1, b1⟩ := tk (n := n) β 8 (by decide)
  have q4 := p10 (k := 4) (by decide)
  have q9 := p10 (k := 9) (by decide)
  have q17 := p10 (k := 17) (by decide)
  have q28 := p10 (k := 28) (by decide)
  by_cases c : w < 6
  · have hw : ∃ m : Int, atI [D.int 1, .int 2, .int 3, .int 5, .int 9, .int 30] w = some (.int m) ∧ 1 ≤ m ∧ m ≤ 30 := by
      have : w = 0 ∨ w = 1 ∨ w = 2 ∨ w = 3 ∨ w = 4 ∨ w = 5 := by omega
      rcases this with rfl | rfl | rfl | rfl | rfl | rfl
      · exact ⟨1, rfl, by decide, by decide⟩
      · exact ⟨2, rfl, by decide, by decide⟩
      · exact ⟨3, rfl, by decide, by decide⟩
      · exact ⟨5, rfl, by decide, by decide⟩
      · exact ⟨9, rfl, by decide, by decide⟩
      · exact ⟨30, rfl, by decide, by decide⟩
    obtain ⟨m, h1, h2, h3⟩ := hw
    obtain ⟨t, β2, e2, a2, b2⟩ := tk (n := n) β1 m ⟨by omega, big_ok (by omega)⟩
    refine ⟨1 + t, β2, ?_, by omega, by omega⟩
    rw [u16]
    simp only [ev, List.getElem?_cons_zero, List.getElem?_cons_succ, List.set_cons_zero, List.set_cons_succ, List.length_cons, List.length_nil, Nat.reduceAdd, Nat.reduceLeDiff, Nat.reduceSub, ↓reduceIte, List.map_cons, List.map_nil, Bool.and_true, Bool.true_and, Bool.and_self, and_self, and_true, List.cons_append, List.nil_append, List.replicate_succ, List.replicate_zero, evFd_eq, decide_true, decide_false, Bool.not_true, Bool.not_false, Bool.false_and, Bool.and_false, List.contains_cons, List.contains_nil, beq_self_eq_true, Bool.true_or, Bool.or_true, Bool.or_false, Bool.false_or, List.all_cons, List.all_nil, Nat.reduceBEq, ev2, ev3, ev4, ev5, ev6, ev7, true_or, or_true, evFdO_eq, dl, Nat.reduceLT, true_and, false_and, if_true, if_false, Option.map_some, Option.bind_some, Int.cast_ofNat_Int, d16, e1, c, h1, e2]
  · obtain ⟨u, β2, e2, a2, b2⟩ := tk (n := n) β1 4 (by decide)
    obtain ⟨t, β3, e3, a3, b3⟩ := tk (n := n) β2 5 (by decide)
    have hu : ∃ m : Int, atI [D.int (10 ^ (4 : Int).toNat), .int (10 ^ (9 : Int).toNat), .int (10 ^ (17 : Int).toNat), .int (10 ^ (28 : Int).toNat)] u = some (.int m) ∧ 1 ≤ m ∧ m ≤ 10 ^ 28 := by
      have : u = 0 ∨ u = 1 ∨ u = 2 ∨ u = 3 := by omega
      rcases this with rfl | rfl | rfl | rfl
      · exact ⟨_, rfl, by decide, by decide⟩
      · exact ⟨_, rfl, by decide, by decide⟩
      · exact ⟨_, rfl, by decide, by decide⟩
      · exact ⟨_, rfl, by decide, by decide⟩
    obtain ⟨m, h1, h2, h3⟩ := hu
    refine ⟨m + t, β3, ?_, by omega, by omega⟩
    rw [u16]
    simp only [ev, List.getElem?_cons_zero, List.getElem?_cons_succ, List.set_cons_zero, List.set_cons_succ, List.length_cons, List.length_nil, Nat.reduceAdd, Nat.reduceLeDiff, Nat.reduceSub, ↓reduceIte, List.map_cons, List.map_nil, Bool.and_true, Bool.true_and, Bool.and_self, and_self, and_true, List.cons_append, List.nil_append, List.replicate_succ, List.replicate_zero, evFd_eq, decide_true, decide_false, Bool.not_true, Bool.not_false, Bool.false_and, Bool.and_false, List.contains_cons, List.contains_nil, beq_self_eq_true, Bool.true_or, Bool.or_true, Bool.or_false, Bool.false_or, List.all_cons, List.all_nil, Nat.reduceBEq, ev2, ev3, ev4, ev5, ev6, ev7, true_or, or_true, evFdO_eq, dl, Nat.reduceLT, true_and, false_and, if_true, if_false, Option.map_some, Option.bind_some, Int.cast_ofNat_Int, d16, e1, c, e2, q4, q9, q17, q28, h1, e3]
theorem btB : ((Bty.int == Bty.bool) = false) ∧ ((Bty.int == Bty.tuple) = false) ∧ ((Bty.int == Bty.list) = false) ∧ ((Bty.int == Bty.str) = false) ∧ ((Bty.int == Bty.dict) = false) ∧ ((Bty.bool == Bty.int) = false) ∧ ((Bty.bool == Bty.tuple) = false) ∧ ((Bty.bool == Bty.list) = false) ∧ ((Bty.bool == Bty.str) = false) ∧ ((Bty.tuple == Bty.int) = false) ∧ ((Bty.tuple == Bty.bool) = false) ∧ ((Bty.tuple == Bty.list) = false) ∧ ((Bty.tuple == Bty.str) = false) ∧ ((Bty.list == Bty.int) = false) ∧ ((Bty.list == Bty.bool) = false) ∧ ((Bty.list == Bty.tuple) = false) ∧ ((Bty.list == Bty.str) = false) ∧ ((Bty.str == Bty.int) = false) ∧ ((Bty.str == Bty.bool) = false) ∧ ((Bty.str == Bty.tuple) = false) ∧ ((Bty.str == Bty.list) = false) := by decide
theorem big_ok9 {i : Int} (h : -(10 ^ 90) < i ∧ i < 10 ^ 90) : i.natAbs < big := by
  have : (10 : Nat) ^ 90 < big := by unfold big; decide +kernel
  omega
theorem boolsD_map {α : Type} (p : α → Bool) : ∀ xs : List α, boolsD (xs.map fun x => D.bl (p x)) = some (xs.map p)
  | [] => rfl
  | x :: xs => by
    show (boolsD (xs.map fun x => D.bl (p x))).map (p x :: ·) = _
    rw [boolsD_map p xs]
    rfl
theorem dAll {α : Type} (p : α → Bool) (xs : List α) : dBlt .all [.lst (xs.map fun x => D.bl (p x))] = some (.bl (xs.all p)) := by
  show (boolsD (xs.map fun x => D.bl (p x))).map (fun l => D.bl (l.all id)) = _
  rw [boolsD_map, Option.map_some, List.all_map]
  rfl
theorem dAllT {α : Type} (xs : List α) : dBlt .all [.lst (xs.map fun _ => D.bl true)] = some (.bl true) := by
  rw [dAll (fun _ => true)]
  simp
theorem atI_I {α : Type} (f : α → D) (xs : List α) {i : Int} (x : α) (h0 : 0 ≤ i) (h1 : i < xs.length) : atI (xs.map f) i = some (f (xs.getD i.toNat x)) := by
  have e : ((i.toNat : Nat) : Int) = i := Int.toNat_of_nonneg h0
  have hl : i.toNat < xs.length := by omega
  have k := atI_nat (xs := xs.map f) (j := i.toNat) (v := f (xs.getD i.toNat x)) (by rw [List.getElem?_map, List.getElem?_eq_getElem hl, List.getD, List.getElem?_eq_getElem hl]; rfl)
  rw [e] at k
  exact k
theorem bindN (i : Nat) (x : D) (env : Env) (f : Env → Option Out) : (bindT (.name i) x env).bind f = f (env.set i (some (.d x))) := rfl
theorem bindN2 (i j : Nat) (x y : D) (env : Env) (f : Env → Option Out) : (bindT (.tup [.name i, .name j]) (.tup [x, y]) env).bind f = f ((env.set i (some (.d x))).set j (some (.d y))) := rfl
theorem ran_mem {lo : Int} {n : Nat} {x : D} (h : x ∈ rangeD lo n) : ∃ k : Int, x = .int k ∧ lo ≤ k ∧ k < lo + n := by
  obtain ⟨k, hk, rfl⟩ := rangeD_mem.mp h
  exact ⟨_, rfl, by omega, by omega⟩
theorem enum_mem {xs : List D} {x : D} (h : x ∈ enumD xs) : ∃ (k : Nat) (y : D), x = .tup [.int k, y] ∧ xs[k]? = some y := by
  unfold enumD at h
  obtain ⟨⟨y, k⟩, hk, rfl⟩ := List.mem_map.mp h
  exact ⟨k, y, rfl, by have := List.mem_zipIdx_iff_getElem?.mp hk; simpa using this⟩
theorem notOS_map (o : Option D) : notOS (some (o.map .d)) = true := by
  cases o <;> rfl
theorem fd2 (i : Int) : dBin .FloorDiv (.int i) (.int 2) = some (.int (i / 2)) := by
  show (if (0 : Int) < 2 ∧ (2 : Int).natAbs < big then some (D.int (i / 2)) else none) = _
  rw [if_pos ⟨by decide, by unfold big; decide +kernel⟩]
theorem atI_l {α : Type} (f : α → D) (xs : List α) (x : α) (h : 0 < xs.length) : atI (xs.map f) (-1) = some (f (xs.getD (xs.length - 1) x)) := by
  unfold atI ixN
  rw [if_neg (by decide), if_pos (by rw [List.length_map]; omega), List.length_map, Option.bind_some, List.getElem?_map, List.getD]
  have e : (-1 + (xs.length : Int)).toNat = xs.length - 1 := by omega
  rw [e, List.getElem?_eq_getElem (by omega)]
  rfl
theorem rg2 (lo hi : Nat) : (((hi : Nat) : Int) + 1 - ((lo : Nat) : Int)).toNat = hi + 1 - lo := by omega
theorem r87 (n : Nat) (β : BS) : ∃ v β', rn (n + 2) 87 [.bag] β = some (.int v, β') ∧ 0 ≤ v ∧ v ≤ 10 ^ 30 := by
  obtain ⟨w, β1, e1, a1, b1⟩ := tk (n := n) β 6 (by decide)
  have q9 := p10 (k := 9) (by decide)
  have q29 := p10 (k := 29) (by decide)
  by_cases c : w < 4
  · have hw : ∃ m : Int, atI [D.int 2, .int 4, .int 8, .int 100] w = some (.int m) ∧ 1 ≤ m ∧ m ≤ 100 := by
      have : w = 0 ∨ w = 1 ∨ w = 2 ∨ w = 3 := by omega
      rcases this with rfl | rfl | rfl | rfl
      · exact ⟨2, rfl, by decide, by decide⟩
      · exact ⟨4, rfl, by decide, by decide⟩
      · exact ⟨8, rfl, by decide, by decide⟩
      · exact ⟨100, rfl, by decide, by decide⟩
    obtain ⟨m, h1, h2, h3⟩ := hw
    obtain ⟨t, β2, e2, a2, b2⟩ := tk (n := n) β1 m ⟨by omega, big_ok (by omega)⟩
    refine ⟨t, β2, ?_, by omega, by omega⟩
    rw [u87]
    simp only [ev, List.getElem?_cons_zero, List.getElem?_cons_succ, List.set_cons_zero, List.set_cons_succ, List.length_cons, List.length_nil, Nat.reduceAdd, Nat.reduceLeDiff, Nat.reduceSub, ↓reduceIte, List.map_cons, List.map_nil, Bool.and_true, Bool.true_and, Bool.and_self, and_self, and_true, List.cons_append, List.nil_append, List.replicate_succ, List.replicate_zero, evFd_eq, decide_true, decide_false, Bool.not_true, Bool.not_false, Bool.false_and, Bool.and_false, List.contains_cons, List.contains_nil, beq_self_eq_true, Bool.true_or, Bool.or_true, Bool.or_false, Bool.false_or, List.all_cons, List.all_nil, Nat.reduceBEq, ev2, ev3, ev4, ev5, ev6, ev7, true_or, or_true, evFdO_eq, dl, Nat.reduceLT, true_and, false_and, if_true, if_false, Option.map_some, Option.bind_some, Int.cast_ofNat_Int, d87, e1, c, h1, e2]
  · have hu : ∃ m : Int, atI [D.int (10 ^ (9 : Int).toNat), .int (10 ^ (29 : Int).toNat)] (w - 4) = some (.int m) ∧ 1 ≤ m ∧ m ≤ 10 ^ 29 := by
      have : w = 4 ∨ w = 5 := by omega
      rcases this with rfl | rfl
      · exact ⟨_, rfl, by decide, by decide⟩
      · exact ⟨_, rfl, by decide, by decide⟩
    obtain ⟨m, h1, h2, h3⟩ := hu
    obtain ⟨t, β3, e3, a3, b3⟩ := tk (n := n) β1 3 (by decide)
    refine ⟨m + t, β3, ?_, by omega, by omega⟩
    rw [u87]
    simp only [ev, List.getElem?_cons_zero, List.getElem?_cons_succ, List.set_cons_zero, List.set_cons_succ, List.length_cons, List.length_nil, Nat.reduceAdd, Nat.reduceLeDiff, Nat.reduceSub, ↓reduceIte, List.map_cons, List.map_nil, Bool.and_true, Bool.true_and, Bool.and_self, and_self, and_true, List.cons_append, List.nil_append, List.replicate_succ, List.replicate_zero, evFd_eq, decide_true, decide_false, Bool.not_true, Bool.not_false, Bool.false_and, Bool.and_false, List.contains_cons, List.contains_nil, beq_self_eq_true, Bool.true_or, Bool.or_true, Bool.or_false, Bool.false_or, List.all_cons, List.all_nil, Nat.reduceBEq, ev2, ev3, ev4, ev5, ev6, ev7, true_or, or_true, evFdO_eq, dl, Nat.reduceLT, true_and, false_and, if_true, if_false, Option.map_some, Option.bind_some, Int.cast_ofNat_Int, d87, e1, c, q9, q29, h1, e3]
theorem r40i (n : Nat) (i : Int) (β : BS) : rn (n + 1) 40 [.int i] β = some (.bl true, β) := by
  rw [u40]
  simp only [ev, List.getElem?_cons_zero, List.getElem?_cons_succ, List.set_cons_zero, List.set_cons_succ, List.length_cons, List.length_nil, Nat.reduceAdd, Nat.reduceLeDiff, Nat.reduceSub, ↓reduceIte, List.map_cons, List.map_nil, Bool.and_true, Bool.true_and, Bool.and_self, and_self, and_true, List.cons_append, List.nil_append, List.replicate_succ, List.replicate_zero, evFd_eq, decide_true, decide_false, Bool.not_true, Bool.not_false, Bool.false_and, Bool.and_false, List.contains_cons, List.contains_nil, beq_self_eq_true, Bool.true_or, Bool.or_true, Bool.or_false, Bool.false_or, List.all_cons, List.all_nil, Nat.reduceBEq, ev2, ev3, ev4, ev5, ev6, ev7, true_or, or_true, evFdO_eq, dl, Nat.reduceLT, true_and, false_and, if_true, if_false, Option.map_some, Option.bind_some, Int.cast_ofNat_Int, d40, btB]
theorem r41i (n : Nat) (i : Int) (β : BS) : rn (n + 2) 41 [.int i] β = some (.bl (decide (0 ≤ i)), β) := by
  rw [u41]
  simp only [ev, List.getElem?_cons_zero, List.getElem?_cons_succ, List.set_cons_zero, List.set_cons_succ, List.length_cons, List.length_nil, Nat.reduceAdd, Nat.reduceLeDiff, Nat.reduceSub, ↓reduceIte, List.map_cons, List.map_nil, Bool.and_true, Bool.true_and, Bool.and_self, and_self, and_true, List.cons_append, List.nil_append, List.replicate_succ, List.replicate_zero, evFd_eq, decide_true, decide_false, Bool.not_true, Bool.not_false, Bool.false_and, Bool.and_false, List.contains_cons, List.contains_nil, beq_self_eq_true, Bool.true_or, Bool.or_true, Bool.or_false, Bool.false_or, List.all_cons, List.all_nil, Nat.reduceBEq, ev2, ev3, ev4, ev5, ev6, ev7, true_or, or_true, evFdO_eq, dl, Nat.reduceLT, true_and, false_and, if_true, if_false, Option.map_some, Option.bind_some, Int.cast_ofNat_Int, d41, r40i n]
theorem r43c (n : Nat) (c : Int × Int) (β : BS) : rn (n + 3) 43 [chD c] β = some (.bl (decide (0 ≤ c.2)), β) := by
  unfold chD
  rw [u43]
  simp only [ev, List.getElem?_cons_zero, List.getElem?_cons_succ, List.set_cons_zero, List.set_cons_succ, List.length_cons, List.length_nil, Nat.reduceAdd, Nat.reduceLeDiff, Nat.reduceSub, ↓reduceIte, List.map_cons, List.map_nil, Bool.and_true, Bool.true_and, Bool.and_self, and_self, and_true, List.cons_append, List.nil_append, List.replicate_succ, List.replicate_zero, evFd_eq, decide_true, decide_false, Bool.not_true, Bool.not_false, Bool.false_and, Bool.and_false, List.contains_cons, List.contains_nil, beq_self_eq_true, Bool.true_or, Bool.or_true, Bool.or_false, Bool.false_or, List.all_cons, List.all_nil, Nat.reduceBEq, ev2, ev3, ev4, ev5, ev6, ev7, true_or, or_true, evFdO_eq, dl, Nat.reduceLT, true_and, false_and, if_true, if_false, Option.map_some, Option.bind_some, Int.cast_ofNat_Int, d43, btB, r40i (n + 1), r41i n]
abbrev rdD (P : Int) (cs : List (Int × Int)) : D := .tup [.int P, .lst (cs.map chD)]
abbrev roD (P : Int) (cs : List (Int × Int)) : D := .obj 4 [.int P, .tup (cs.map chD)]
def tsO (cs : List (Int × Int)) : List Int := cs.map (·.1)
structure RcOk (cs : List (Int × Int)) (P : Int) : Prop where
  rd : RdOk (tsO cs) P
  pr : ∀ c ∈ cs, 0 ≤ c.2 ∧ c.2 ≤ 10 ^ 30
  len : cs.length ≤ 6
  top : P ≤ 10 ^ 31
section
variable {cs : List (Int × Int)} {P : Int}
theorem RcOk.pos (ok : RcOk cs P) : 0 < P := by
  have a := ok.rd.hi _ (gD_mem ok.rd.ne)
  have b := ok.rd.lo _ (gD_mem ok.rd.ne)
  omega
theorem RcOk.ne (ok : RcOk cs P) : 0 < cs.length := by
  have := ok.rd.ne
  unfold tsO at this
  rwa [List.length_map] at this
theorem ts_len : (tsO cs).length = cs.length := by
  unfold tsO
  rw [List.length_map]
theorem ts_get (i : Nat) : (cs.getD i (0, 0)).1 = (tsO cs).getD i 0 := by
  unfold tsO
  rw [List.getD, List.getD, List.getElem?_map]
  cases cs[i]? <;> rfl
theorem cnt_len (r : Int) : (cs.filter fun c => decide (c.1 ≤ r)).length = cntL (tsO cs) r := by
  unfold cntL tsO
  rw [List.filter_map, List.length_map]
  rfl
theorem div_bd {x m : Int} (hm : 0 < m) (h : -(10 ^ 80) < x ∧ x < 10 ^ 80) : -(10 ^ 81) < x / m ∧ x / m < 10 ^ 81 := by
  have a := Int.natAbs_ediv_le_natAbs x m
  omega
theorem r100291 (n : Nat) (β : BS) (ok : RcOk cs P) : rn (n + 4) 100291 [.int P, .lst (cs.map chD)] β = some (roD P cs, β) := by
  have hp := ok.pos
  have hne := ok.ne
  have hl := ok.len
  rw [u100291]
  refine iniM_eq fun x => ?_
  rw [evFdI_eq]
  have hp1 : decide (0 ≤ P) = true := decide_eq_true (by omega)
  have hp0 : (P == 0) = false := by simpa using (by omega : P ≠ 0)
  have hl0 : ((cs.length : Int) == 0) = false := by simpa using (by intro z; rw [z] at hne; simp at hne : cs ≠ [])
  simp only [ev, List.getElem?_cons_zero, List.getElem?_cons_succ, List.set_cons_zero, List.set_cons_succ, List.length_cons, List.length_nil, Nat.reduceAdd, Nat.reduceLeDiff, Nat.reduceSub, ↓reduceIte, List.map_cons, List.map_nil, Bool.and_true, Bool.true_and, Bool.and_self, and_self, and_true, List.cons_append, List.nil_append, List.replicate_succ, List.replicate_zero, evFd_eq, decide_true, decide_false, Bool.not_true, Bool.not_false, Bool.false_and, Bool.and_false, List.contains_cons, List.contains_nil, beq_self_eq_true, Bool.true_or, Bool.or_true, Bool.or_false, Bool.false_or, List.all_cons, List.all_nil, Nat.reduceBEq, ev2, ev3, ev4, ev5, ev6, ev7, true_or, or_true, evFdO_eq, dl, Nat.reduceLT, true_and, false_and, if_true, if_false, Option.map_some, Option.bind_some, Int.cast_ofNat_Int, d100291, r41i (n + 1), hp1, hp0, btB, List.length_map, hl0, show cs.length ≤ 1000000 by omega]
  rw [mapE_of chD (fun c => D.bl true) (fun c hc β => by
    have h0 : decide (0 ≤ c.2) = true := decide_eq_true (ok.pr c hc).1
    simp only [ev, List.getElem?_cons_zero, List.getElem?_cons_succ, List.set_cons_zero, List.set_cons_succ, List.length_cons, List.length_nil, Nat.reduceAdd, Nat.reduceLeDiff, Nat.reduceSub, ↓reduceIte, List.map_cons, List.map_nil, Bool.and_true, Bool.true_and, Bool.and_self, and_self, and_true, List.cons_append, List.nil_append, List.replicate_succ, List.replicate_zero, evFd_eq, decide_true, decide_false, Bool.not_true, Bool.not_false, Bool.false_and, Bool.and_false, List.contains_cons, List.contains_nil, beq_self_eq_true, Bool.true_or, Bool.or_true, Bool.or_false, Bool.false_or, List.all_cons, List.all_nil, Nat.reduceBEq, ev2, ev3, ev4, ev5, ev6, ev7, true_or, or_true, evFdO_eq, dl, Nat.reduceLT, true_and, false_and, if_true, if_false, Option.map_some, Option.bind_some, Int.cast_ofNat_Int, r43c n, h0])]
  simp only [ev, List.getElem?_cons_zero, List.getElem?_cons_succ, List.set_cons_zero, List.set_cons_succ, List.length_cons, List.length_nil, Nat.reduceAdd, Nat.reduceLeDiff, Nat.reduceSub, ↓reduceIte, List.map_cons, List.map_nil, Bool.and_true, Bool.true_and, Bool.and_self, and_self, and_true, List.cons_append, List.nil_append, List.replicate_succ, List.replicate_zero, evFd_eq, decide_true, decide_false, Bool.not_true, Bool.not_false, Bool.false_and, Bool.and_false, List.contains_cons, List.contains_nil, beq_self_eq_true, Bool.true_or, Bool.or_true, Bool.or_false, Bool.false_or, List.all_cons, List.all_nil, Nat.reduceBEq, ev2, ev3, ev4, ev5, ev6, ev7, true_or, or_true, evFdO_eq, dl, Nat.reduceLT, true_and, false_and, if_true, if_false, Option.map_some, Option.bind_some, Int.cast_ofNat_Int, dAllT, List.length_map]
  refine for_keep (R := fun o => kFI x 4 o = some (roD P cs, β)) (fun env β1 => β1 = β ∧ ∃ s4 : Option D, env = [some (.slf x 4 []), some (.d (.int P)), some (.d (.lst (cs.map chD))), none, s4.map .d, none]) ⟨rfl, none, rfl⟩ ?_ ?_
  · rintro y hy env β1 ⟨rfl, s4, rfl⟩
    obtain ⟨k, rfl, k0, k1⟩ := ran_mem hy
    have k2 : k < cs.length := by omega
    rw [bindN]
    have q := gD_lt ok.rd.srt (i := (k - 1).toNat) (j := k.toNat) (by omega) (by rw [ts_len]; omega)
    rw [← ts_get, ← ts_get] at q
    have hn : ¬ (cs.getD k.toNat (0, 0)).1 ≤ (cs.getD (k - 1).toNat (0, 0)).1 := by omega
    simp only [ev, List.getElem?_cons_zero, List.getElem?_cons_succ, List.set_cons_zero, List.set_cons_succ, List.length_cons, List.length_nil, Nat.reduceAdd, Nat.reduceLeDiff, Nat.reduceSub, ↓reduceIte, List.map_cons, List.map_nil, Bool.and_true, Bool.true_and, Bool.and_self, and_self, and_true, List.cons_append, List.nil_append, List.replicate_succ, List.replicate_zero, evFd_eq, decide_true, decide_false, Bool.not_true, Bool.not_false, Bool.false_and, Bool.and_false, List.contains_cons, List.contains_nil, beq_self_eq_true, Bool.true_or, Bool.or_true, Bool.or_false, Bool.false_or, List.all_cons, List.all_nil, Nat.reduceBEq, ev2, ev3, ev4, ev5, ev6, ev7, true_or, or_true, evFdO_eq, dl, Nat.reduceLT, true_and, false_and, if_true, if_false, Option.map_some, Option.bind_some, Int.cast_ofNat_Int, atI_I chD cs (i := k) (0, 0) (by omega) k2, atI_I chD cs (i := k - 1) (0, 0) (by omega) (by omega), chD, hn]
    exact ⟨_, _, rfl, rfl, some _, rfl⟩
  · rintro e2 β2 ⟨rfl, s4, rfl⟩
    simp only [ev, List.getElem?_cons_zero, List.getElem?_cons_succ, List.set_cons_zero, List.set_cons_succ, List.length_cons, List.length_nil, Nat.reduceAdd, Nat.reduceLeDiff, Nat.reduceSub, ↓reduceIte, List.map_cons, List.map_nil, Bool.and_true, Bool.true_and, Bool.and_self, and_self, and_true, List.cons_append, List.nil_append, List.replicate_succ, List.replicate_zero, evFd_eq, decide_true, decide_false, Bool.not_true, Bool.not_false, Bool.false_and, Bool.and_false, List.contains_cons, List.contains_nil, beq_self_eq_true, Bool.true_or, Bool.or_true, Bool.or_false, Bool.false_or, List.all_cons, List.all_nil, Nat.reduceBEq, ev2, ev3, ev4, ev5, ev6, ev7, true_or, or_true, evFdO_eq, dl, Nat.reduceLT, true_and, false_and, if_true, if_false, Option.map_some, Option.bind_some, Int.cast_ofNat_Int, notOwn_map]
    refine for_keep (R := fun o => kFI x 4 o = some (roD P cs, β2)) (fun env β1 => β1 = β2 ∧ ∃ s4 s5 : Option D, env = [some (.slf x 4 []), some (.d (.int P)), some (.d (.lst (cs.map chD))), none, s4.map .d, s5.map .d]) ⟨rfl, s4, none, rfl⟩ ?_ ?_
    · rintro y hy env β1 ⟨rfl, s4, s5, rfl⟩
      obtain ⟨k, z, rfl, hz⟩ := enum_mem hy
      rw [List.getElem?_map] at hz
      obtain ⟨c, hc, rfl⟩ := Option.map_eq_some_iff.mp hz
      have hm : c ∈ cs := List.mem_of_getElem? hc
      have h1 : decide (0 ≤ c.1) = true := decide_eq_true (ok.rd.lo c.1 (List.mem_map_of_mem hm))
      have h2 : decide (c.1 < P) = true := decide_eq_true (ok.rd.hi c.1 (List.mem_map_of_mem hm))
      rw [bindN2]
      simp only [ev, List.getElem?_cons_zero, List.getElem?_cons_succ, List.set_cons_zero, List.set_cons_succ, List.length_cons, List.length_nil, Nat.reduceAdd, Nat.reduceLeDiff, Nat.reduceSub, ↓reduceIte, List.map_cons, List.map_nil, Bool.and_true, Bool.true_and, Bool.and_self, and_self, and_true, List.cons_append, List.nil_append, List.replicate_succ, List.replicate_zero, evFd_eq, decide_true, decide_false, Bool.not_true, Bool.not_false, Bool.false_and, Bool.and_false, List.contains_cons, List.contains_nil, beq_self_eq_true, Bool.true_or, Bool.or_true, Bool.or_false, Bool.false_or, List.all_cons, List.all_nil, Nat.reduceBEq, ev2, ev3, ev4, ev5, ev6, ev7, true_or, or_true, evFdO_eq, dl, Nat.reduceLT, true_and, false_and, if_true, if_false, Option.map_some, Option.bind_some, Int.cast_ofNat_Int, chD, h1, h2]
      exact ⟨_, _, rfl, rfl, some _, some _, rfl⟩
    · rintro e2 β1 ⟨rfl, s4, s5, rfl⟩
      simp only [ev, List.getElem?_cons_zero, List.getElem?_cons_succ, List.set_cons_zero, List.set_cons_succ, List.length_cons, List.length_nil, Nat.reduceAdd, Nat.reduceLeDiff, Nat.reduceSub, ↓reduceIte, List.map_cons, List.map_nil, Bool.and_true, Bool.true_and, Bool.and_self, and_self, and_true, List.cons_append, List.nil_append, List.replicate_succ, List.replicate_zero, evFd_eq, decide_true, decide_false, Bool.not_true, Bool.not_false, Bool.false_and, Bool.and_false, List.contains_cons, List.contains_nil, beq_self_eq_true, Bool.true_or, Bool.or_true, Bool.or_false, Bool.false_or, List.all_cons, List.all_nil, Nat.reduceBEq, ev2, ev3, ev4, ev5, ev6, ev7, true_or, or_true, evFdO_eq, dl, Nat.reduceLT, true_and, false_and, if_true, if_false, Option.map_some, Option.bind_some, Int.cast_ofNat_Int, show (cfl 4).length = 2 from rfl]
theorem r688 (n : Nat) (k : Int) (β : BS) (ok : RcOk cs P) (hk : -(10 ^ 80) < k ∧ k < 10 ^ 80) : rn (n + 1) 688 [rdD P cs, .int k] β = some (.int (Tm (tsO cs) P k), β) := by
  have hp := ok.pos
  have hne := ok.ne
  have hl := ok.len
  have ht := ok.top
  have hm : (0 : Int) < cs.length := by omega
  obtain ⟨e, h0, h1⟩ := dm_is k hm
  have e' : k - k / cs.length * cs.length = k % cs.length := by omega
  have hd := div_bd hm hk
  rw [u688]
  simp only [ev, List.getElem?_cons_zero, List.getElem?_cons_succ, List.set_cons_zero, List.set_cons_succ, List.length_cons, List.length_nil, Nat.reduceAdd, Nat.reduceLeDiff, Nat.reduceSub, ↓reduceIte, List.map_cons, List.map_nil, Bool.and_true, Bool.true_and, Bool.and_self, and_self, and_true, List.cons_append, List.nil_append, List.replicate_succ, List.replicate_zero, evFd_eq, decide_true, decide_false, Bool.not_true, Bool.not_false, Bool.false_and, Bool.and_false, List.contains_cons, List.contains_nil, beq_self_eq_true, Bool.true_or, Bool.or_true, Bool.or_false, Bool.false_or, List.all_cons, List.all_nil, Nat.reduceBEq, ev2, ev3, ev4, ev5, ev6, ev7, true_or, or_true, evFdO_eq, dl, Nat.reduceLT, true_and, false_and, if_true, if_false, Option.map_some, Option.bind_some, Int.cast_ofNat_Int, d688, List.length_map, hm, big_ok9 (i := (cs.length : Int)) (by omega), big_ok9 (i := k / cs.length) (by omega), big_ok9 (i := P) (by omega), true_or, e', atI_I chD cs (i := k % cs.length) (0, 0) h0 h1, chD, ts_get]
  unfold Tm
  rw [ts_len]
theorem r691 (n : Nat) (x : Int) (β : BS) (ok : RcOk cs P) (hx : -(10 ^ 80) < x ∧ x < 10 ^ 80) : rn (n + 1) 691 [rdD P cs, .int x] β = some (.int (Nm (tsO cs) P x), β) := by
  have hp := ok.pos
  have hne := ok.ne
  have hl := ok.len
  have ht := ok.top
  obtain ⟨e, h0, h1⟩ := dm_is x hp
  have e' : x - x / P * P = x % P := by omega
  have hd := div_bd hp hx
  rw [u691]
  simp only [ev, List.getElem?_cons_zero, List.getElem?_cons_succ, List.set_cons_zero, List.set_cons_succ, List.length_cons, List.length_nil, Nat.reduceAdd, Nat.reduceLeDiff, Nat.reduceSub, ↓reduceIte, List.map_cons, List.map_nil, Bool.and_true, Bool.true_and, Bool.and_self, and_self, and_true, List.cons_append, List.nil_append, List.replicate_succ, List.replicate_zero, evFd_eq, decide_true, decide_false, Bool.not_true, Bool.not_false, Bool.false_and, Bool.and_false, List.contains_cons, List.contains_nil, beq_self_eq_true, Bool.true_or, Bool.or_true, Bool.or_false, Bool.false_or, List.all_cons, List.all_nil, Nat.reduceBEq, ev2, ev3, ev4, ev5, ev6, ev7, true_or, or_true, evFdO_eq, dl, Nat.reduceLT, true_and, false_and, if_true, if_false, Option.map_some, Option.bind_some, Int.cast_ofNat_Int, d691, List.length_map, hp, big_ok9 (i := P) (by omega), big_ok9 (i := x / P) (by omega), big_ok9 (i := (cs.length : Int)) (by omega), true_or, e', show cs.length ≤ 1000000 by omega]
  rw [mapIf_of chD chD (fun c => decide (c.1 ≤ x % P)) (fun c _ β => by simp only [ev, List.getElem?_cons_zero, List.getElem?_cons_succ, List.set_cons_zero, List.set_cons_succ, List.length_cons, List.length_nil, Nat.reduceAdd, Nat.reduceLeDiff, Nat.reduceSub, ↓reduceIte, List.map_cons, List.map_nil, Bool.and_true, Bool.true_and, Bool.and_self, and_self, and_true, List.cons_append, List.nil_append, List.replicate_succ, List.replicate_zero, evFd_eq, decide_true, decide_false, Bool.not_true, Bool.not_false, Bool.false_and, Bool.and_false, List.contains_cons, List.contains_nil, beq_self_eq_true, Bool.true_or, Bool.or_true, Bool.or_false, Bool.false_or, List.all_cons, List.all_nil, Nat.reduceBEq, ev2, ev3, ev4, ev5, ev6, ev7, true_or, or_true, evFdO_eq, dl, Nat.reduceLT, true_and, false_and, if_true, if_false, Option.map_some, Option.bind_some, Int.cast_ofNat_Int, chD]) (fun c _ _ β => by simp only [ev, List.getElem?_cons_zero, List.getElem?_cons_succ, List.set_cons_zero, List.set_cons_succ, List.length_cons, List.length_nil, Nat.reduceAdd, Nat.reduceLeDiff, Nat.reduceSub, ↓reduceIte, List.map_cons, List.map_nil, Bool.and_true, Bool.true_and, Bool.and_self, and_self, and_true, List.cons_append, List.nil_append, List.replicate_succ, List.replicate_zero, evFd_eq, decide_true, decide_false, Bool.not_true, Bool.not_false, Bool.false_and, Bool.and_false, List.contains_cons, List.contains_nil, beq_self_eq_true, Bool.true_or, Bool.or_true, Bool.or_false, Bool.false_or, List.all_cons, List.all_nil, Nat.reduceBEq, ev2, ev3, ev4, ev5, ev6, ev7, true_or, or_true, evFdO_eq, dl, Nat.reduceLT, true_and, false_and, if_true, if_false, Option.map_some, Option.bind_some, Int.cast_ofNat_Int])]
  simp only [ev, List.getElem?_cons_zero, List.getElem?_cons_succ, List.set_cons_zero, List.set_cons_succ, List.length_cons, List.length_nil, Nat.reduceAdd, Nat.reduceLeDiff, Nat.reduceSub, ↓reduceIte, List.map_cons, List.map_nil, Bool.and_true, Bool.true_and, Bool.and_self, and_self, and_true, List.cons_append, List.nil_append, List.replicate_succ, List.replicate_zero, evFd_eq, decide_true, decide_false, Bool.not_true, Bool.not_false, Bool.false_and, Bool.and_false, List.contains_cons, List.contains_nil, beq_self_eq_true, Bool.true_or, Bool.or_true, Bool.or_false, Bool.false_or, List.all_cons, List.all_nil, Nat.reduceBEq, ev2, ev3, ev4, ev5, ev6, ev7, true_or, or_true, evFdO_eq, dl, Nat.reduceLT, true_and, false_and, if_true, if_false, Option.map_some, Option.bind_some, Int.cast_ofNat_Int, List.length_map, cnt_len]
  unfold Nm
  rw [ts_len]
theorem r297 (n : Nat) (k : Int) (β : BS) (ok : RcOk cs P) (hk : -(10 ^ 80) < k ∧ k < 10 ^ 80) : rn (n + 1) 297 [roD P cs, .int k] β = some (.int (Tm (tsO cs) P k), β) := by
  have hp := ok.pos
  have hne := ok.ne
  have hl := ok.len
  have ht := ok.top
  have hm : (0 : Int) < cs.length := by omega
  obtain ⟨e, h0, h1⟩ := dm_is k hm
  have hd := div_bd hm hk
  rw [u297]
  simp only [ev, List.getElem?_cons_zero, List.getElem?_cons_succ, List.set_cons_zero, List.set_cons_succ, List.length_cons, List.length_nil, Nat.reduceAdd, Nat.reduceLeDiff, Nat.reduceSub, ↓reduceIte, List.map_cons, List.map_nil, Bool.and_true, Bool.true_and, Bool.and_self, and_self, and_true, List.cons_append, List.nil_append, List.replicate_succ, List.replicate_zero, evFd_eq, decide_true, decide_false, Bool.not_true, Bool.not_false, Bool.false_and, Bool.and_false, List.contains_cons, List.contains_nil, beq_self_eq_true, Bool.true_or, Bool.or_true, Bool.or_false, Bool.false_or, List.all_cons, List.all_nil, Nat.reduceBEq, ev2, ev3, ev4, ev5, ev6, ev7, true_or, or_true, evFdO_eq, dl, Nat.reduceLT, true_and, false_and, if_true, if_false, Option.map_some, Option.bind_some, Int.cast_ofNat_Int, d297, List.length_map, hm, big_ok9 (i := (cs.length : Int)) (by omega), big_ok9 (i := k / cs.length) (by omega), big_ok9 (i := P) (by omega), true_or, atI_I chD cs (i := k % cs.length) (0, 0) h0 h1, chD, ts_get]
  unfold Tm
  rw [ts_len]
theorem r298 (n : Nat) (x : Int) (β : BS) (ok : RcOk cs P) (hx : -(10 ^ 80) < x ∧ x < 10 ^ 80) : rn (n + 1) 298 [roD P cs, .int x] β = some (.int (Nm (tsO cs) P x), β) := by
  have hp := ok.pos
  have hne := ok.ne
  have hl := ok.len
  have ht := ok.top
  have hd := div_bd hp hx
  rw [u298]
  simp only [ev, List.getElem?_cons_zero, List.getElem?_cons_succ, List.set_cons_zero, List.set_cons_succ, List.length_cons, List.length_nil, Nat.reduceAdd, Nat.reduceLeDiff, Nat.reduceSub, ↓reduceIte, List.map_cons, List.map_nil, Bool.and_true, Bool.true_and, Bool.and_self, and_self, and_true, List.cons_append, List.nil_append, List.replicate_succ, List.replicate_zero, evFd_eq, decide_true, decide_false, Bool.not_true, Bool.not_false, Bool.false_and, Bool.and_false, List.contains_cons, List.contains_nil, beq_self_eq_true, Bool.true_or, Bool.or_true, Bool.or_false, Bool.false_or, List.all_cons, List.all_nil, Nat.reduceBEq, ev2, ev3, ev4, ev5, ev6, ev7, true_or, or_true, evFdO_eq, dl, Nat.reduceLT, true_and, false_and, if_true, if_false, Option.map_some, Option.bind_some, Int.cast_ofNat_Int, d298, List.length_map, hp, big_ok9 (i := P) (by omega), big_ok9 (i := x / P) (by omega), big_ok9 (i := (cs.length : Int)) (by omega), true_or, show cs.length ≤ 1000000 by omega]
  rw [mapIf_of chD chD (fun c => decide (c.1 ≤ x % P)) (fun c _ β => by simp only [ev, List.getElem?_cons_zero, List.getElem?_cons_succ, List.set_cons_zero, List.set_cons_succ, List.length_cons, List.length_nil, Nat.reduceAdd, Nat.reduceLeDiff, Nat.reduceSub, ↓reduceIte, List.map_cons, List.map_nil, Bool.and_true, Bool.true_and, Bool.and_self, and_self, and_true, List.cons_append, List.nil_append, List.replicate_succ, List.replicate_zero, evFd_eq, decide_true, decide_false, Bool.not_true, Bool.not_false, Bool.false_and, Bool.and_false, List.contains_cons, List.contains_nil, beq_self_eq_true, Bool.true_or, Bool.or_true, Bool.or_false, Bool.false_or, List.all_cons, List.all_nil, Nat.reduceBEq, ev2, ev3, ev4, ev5, ev6, ev7, true_or, or_true, evFdO_eq, dl, Nat.reduceLT, true_and, false_and, if_true, if_false, Option.map_some, Option.bind_some, Int.cast_ofNat_Int, chD]) (fun c _ _ β => by simp only [ev, List.getElem?_cons_zero, List.getElem?_cons_succ, List.set_cons_zero, List.set_cons_succ, List.length_cons, List.length_nil, Nat.reduceAdd, Nat.reduceLeDiff, Nat.reduceSub, ↓reduceIte, List.map_cons, List.map_nil, Bool.and_true, Bool.true_and, Bool.and_self, and_self, and_true, List.cons_append, List.nil_append, List.replicate_succ, List.replicate_zero, evFd_eq, decide_true, decide_false, Bool.not_true, Bool.not_false, Bool.false_and, Bool.and_false, List.contains_cons, List.contains_nil, beq_self_eq_true, Bool.true_or, Bool.or_true, Bool.or_false, Bool.false_or, List.all_cons, List.all_nil, Nat.reduceBEq, ev2, ev3, ev4, ev5, ev6, ev7, true_or, or_true, evFdO_eq, dl, Nat.reduceLT, true_and, false_and, if_true, if_false, Option.map_some, Option.bind_some, Int.cast_ofNat_Int])]
  simp only [ev, List.getElem?_cons_zero, List.getElem?_cons_succ, List.set_cons_zero, List.set_cons_succ, List.length_cons, List.length_nil, Nat.reduceAdd, Nat.reduceLeDiff, Nat.reduceSub, ↓reduceIte, List.map_cons, List.map_nil, Bool.and_true, Bool.true_and, Bool.and_self, and_self, and_true, List.cons_append, List.nil_append, List.replicate_succ, List.replicate_zero, evFd_eq, decide_true, decide_false, Bool.not_true, Bool.not_false, Bool.false_and, Bool.and_false, List.contains_cons, List.contains_nil, beq_self_eq_true, Bool.true_or, Bool.or_true, Bool.or_false, Bool.false_or, List.all_cons, List.all_nil, Nat.reduceBEq, ev2, ev3, ev4, ev5, ev6, ev7, true_or, or_true, evFdO_eq, dl, Nat.reduceLT, true_and, false_and, if_true, if_false, Option.map_some, Option.bind_some, Int.cast_ofNat_Int, List.length_map, cnt_len]
  unfold Nm
  rw [ts_len]
end
def In273 (mo : D) (k : Nat) (env : Env) (_ : BS) : Prop := ∃ (cs : List (Int × Int)) (m : Int) (s4 s5 : Option D), env = [some (.d .bag), some (.d mo), some (.d (.int m)), some (.own (cs.map chD)), s4.map .d, s5.map .d] ∧ cs.length = k ∧ (tsO cs).Pairwise (· < ·) ∧ (∀ c ∈ cs, 0 ≤ c.1 ∧ c.1 < m ∧ 0 ≤ c.2 ∧ c.2 ≤ 10 ^ 30) ∧ 0 ≤ m ∧ m ≤ 4 + k * 10 ^ 30
theorem r273 (n : Nat) (mo : Int) (β : BS) (hmo : 1 ≤ mo ∧ mo ≤ 6) : ∃ P cs β', rn (n + 3) 273 [.bag, .int mo] β = some (rdD P cs, β') ∧ RcOk cs P := by
  obtain ⟨m0, β1, e1, a1, b1⟩ := tk (n := n + 1) β 4 (by decide)
  obtain ⟨q, β2, e2, a2, b2⟩ := tk (n := n + 1) β1 mo ⟨by omega, big_ok (by omega)⟩
  rw [u273]
  simp only [ev, List.getElem?_cons_zero, List.getElem?_cons_succ, List.set_cons_zero, List.set_cons_succ, List.length_cons, List.length_nil, Nat.reduceAdd, Nat.reduceLeDiff, Nat.reduceSub, ↓reduceIte, List.map_cons, List.map_nil, Bool.and_true, Bool.true_and, Bool.and_self, and_self, and_true, List.cons_append, List.nil_append, List.replicate_succ, List.replicate_zero, evFd_eq, decide_true, decide_false, Bool.not_true, Bool.not_false, Bool.false_and, Bool.and_false, List.contains_cons, List.contains_nil, beq_self_eq_true, Bool.true_or, Bool.or_true, Bool.or_false, Bool.false_or, List.all_cons, List.all_nil, Nat.reduceBEq, ev2, ev3, ev4, ev5, ev6, ev7, true_or, or_true, evFdO_eq, dl, Nat.reduceLT, true_and, false_and, if_true, if_false, Option.map_some, Option.bind_some, Int.cast_ofNat_Int, d273, e1, e2]
  have key : ∀ o, (∃ P cs β', o = some (Out.ret (rdD P cs) β') ∧ RcOk cs P) → ∃ P cs β', kFd o = some (rdD P cs, β') ∧ RcOk cs P := by
    rintro o ⟨P, cs, β', rfl, h⟩
    exact ⟨P, cs, β', rfl, h⟩
  apply key
  refine for_keepK (R := fun o => ∃ P cs β', o = some (Out.ret (rdD P cs) β') ∧ RcOk cs P) (In273 (.int mo)) ⟨[], m0, none, none, rfl, rfl, .nil, by simp, a1, by omega⟩ ?_ ?_
  · rintro k x hx env β ⟨cs, m, s4, s5, rfl, hl, hs, hc, hm0, hm1⟩
    have hk : k < (1 + q).toNat := by
      have := (List.getElem?_eq_some_iff.mp hx).1
      rwa [rangeD_len] at this
    rw [bindN]
    obtain ⟨w, β3, e3, a3, b3⟩ := tk (n := n + 1) β 3 (by decide)
    have pr : ∃ p β', (if 0 < w then rn (n + 2) 10 [.bag, .int 4] β3 else rn (n + 2) 87 [.bag] β3) = some (.int p, β') ∧ 0 ≤ p ∧ p ≤ 10 ^ 30 := by
      by_cases c : 0 < w
      · obtain ⟨p, β4, e4, a4, b4⟩ := tk (n := n + 1) β3 4 (by decide)
        exact ⟨p, β4, by rw [if_pos c]; exact e4, a4, by omega⟩
      · obtain ⟨p, β4, e4, a4, b4⟩ := r87 n β3
        exact ⟨p, β4, by rw [if_neg c]; exact e4, a4, b4⟩
    obtain ⟨p, β4, e4, a4, b4⟩ := pr
    obtain ⟨t, β5, e5, a5, b5⟩ := tk (n := n + 1) β4 3 (by decide)
    obtain ⟨g, β6, e6, a6, b6⟩ := r16 n β5
    obtain ⟨z, β7, e7, a7, b7⟩ := tk (n := n + 1) β6 2 (by decide)
    have st : ∃ s : Int, atI [D.int (1 + t), .int g] z = some (.int s) ∧ 1 ≤ s ∧ s ≤ 10 ^ 29 := by
      have : z = 0 ∨ z = 1 := by omega
      rcases this with rfl | rfl
      · exact ⟨1 + t, rfl, by omega, by omega⟩
      · exact ⟨g, rfl, a6, b6⟩
    obtain ⟨s, h1, h2, h3⟩ := st
    have fin : ∃ e2 β2, some (Out.nx [some (.d .bag), some (.d (.int mo)), some (.d (.int (m + s))), some (.own (cs.map chD ++ [prD m p])), some (.d x), some (.d (.int p))] β7) = some (Out.nx e2 β2) ∧ In273 (.int mo) (k + 1) e2 β2 := by
      refine ⟨_, _, rfl, cs ++ [(m, p)], m + s, some x, some (.int p), ?_, ?_, ?_, ?_, by omega, ?_⟩
      · rw [List.map_append]
        rfl
      · rw [List.length_append, hl]
        rfl
      · unfold tsO at hs ⊢
        rw [List.map_append, List.pairwise_append]
        refine ⟨hs, by simp, fun a ha b hb => ?_⟩
        obtain ⟨c, hc1, rfl⟩ := List.mem_map.mp ha
        have : b = m := by simpa using hb
        rw [this]
        exact (hc c hc1).2.1
      · intro c hc1
        rcases List.mem_append.mp hc1 with h | h
        · have := hc c h
          omega
        · have e : c = (m, p) := by simpa using h
          rw [e]
          refine ⟨hm0, ?_, a4, b4⟩
          show m < m + s
          omega
      · have : ((k + 1 : Nat) : Int) * 10 ^ 30 = k * 10 ^ 30 + 10 ^ 30 := by omega
        omega
    by_cases c : 0 < w
    · rw [if_pos c] at e4
      simp only [ev, List.getElem?_cons_zero, List.getElem?_cons_succ, List.set_cons_zero, List.set_cons_succ, List.length_cons, List.length_nil, Nat.reduceAdd, Nat.reduceLeDiff, Nat.reduceSub, ↓reduceIte, List.map_cons, List.map_nil, Bool.and_true, Bool.true_and, Bool.and_self, and_self, and_true, List.cons_append, List.nil_append, List.replicate_succ, List.replicate_zero, evFd_eq, decide_true, decide_false, Bool.not_true, Bool.not_false, Bool.false_and, Bool.and_false, List.contains_cons, List.contains_nil, beq_self_eq_true, Bool.true_or, Bool.or_true, Bool.or_false, Bool.false_or, List.all_cons, List.all_nil, Nat.reduceBEq, ev2, ev3, ev4, ev5, ev6, ev7, true_or, or_true, evFdO_eq, dl, Nat.reduceLT, true_and, false_and, if_true, if_false, Option.map_some, Option.bind_some, Int.cast_ofNat_Int, e3, c, e4, e5, e6, e7, h1, List.length_map, show cs.length < 1000000 by omega]
      exact fin
    · rw [if_neg c] at e4
      simp only [ev, List.getElem?_cons_zero, List.getElem?_cons_succ, List.set_cons_zero, List.set_cons_succ, List.length_cons, List.length_nil, Nat.reduceAdd, Nat.reduceLeDiff, Nat.reduceSub, ↓reduceIte, List.map_cons, List.map_nil, Bool.and_true, Bool.true_and, Bool.and_self, and_self, and_true, List.cons_append, List.nil_append, List.replicate_succ, List.replicate_zero, evFd_eq, decide_true, decide_false, Bool.not_true, Bool.not_false, Bool.false_and, Bool.and_false, List.contains_cons, List.contains_nil, beq_self_eq_true, Bool.true_or, Bool.or_true, Bool.or_false, Bool.false_or, List.all_cons, List.all_nil, Nat.reduceBEq, ev2, ev3, ev4, ev5, ev6, ev7, true_or, or_true, evFdO_eq, dl, Nat.reduceLT, true_and, false_and, if_true, if_false, Option.map_some, Option.bind_some, Int.cast_ofNat_Int, e3, c, e4, e5, e6, e7, h1, List.length_map, show cs.length < 1000000 by omega]
      exact fin
  · rintro e2 β3 ⟨cs, m, s4, s5, rfl, hl, hs, hc, hm0, hm1⟩
    rw [rangeD_len] at hl hm1
    obtain ⟨w, β4, e4, a4, b4⟩ := tk (n := n + 1) β3 4 (by decide)
    simp only [ev, List.getElem?_cons_zero, List.getElem?_cons_succ, List.set_cons_zero, List.set_cons_succ, List.length_cons, List.length_nil, Nat.reduceAdd, Nat.reduceLeDiff, Nat.reduceSub, ↓reduceIte, List.map_cons, List.map_nil, Bool.and_true, Bool.true_and, Bool.and_self, and_self, and_true, List.cons_append, List.nil_append, List.replicate_succ, List.replicate_zero, evFd_eq, decide_true, decide_false, Bool.not_true, Bool.not_false, Bool.false_and, Bool.and_false, List.contains_cons, List.contains_nil, beq_self_eq_true, Bool.true_or, Bool.or_true, Bool.or_false, Bool.false_or, List.all_cons, List.all_nil, Nat.reduceBEq, ev2, ev3, ev4, ev5, ev6, ev7, true_or, or_true, evFdO_eq, dl, Nat.reduceLT, true_and, false_and, if_true, if_false, Option.map_some, Option.bind_some, Int.cast_ofNat_Int, e4, atI_l chD cs (0, 0) (by omega), chD]
    have hmem : cs.getD (cs.length - 1) (0, 0) ∈ cs := by
      rw [List.getD, List.getElem?_eq_getElem (by omega)]
      exact List.getElem_mem _
    have hlast := hc _ hmem
    refine ⟨_, cs, β4, rfl, ⟨by rw [ts_len]; omega, hs, fun t ht => ?_, fun t ht => ?_⟩, fun c hc1 => (hc c hc1).2.2, by omega, ?_⟩
    · obtain ⟨c, hc1, rfl⟩ := List.mem_map.mp ht
      exact (hc c hc1).1
    · obtain ⟨c, hc1, rfl⟩ := List.mem_map.mp ht
      have le : c.1 ≤ (cs.getD (cs.length - 1) (0, 0)).1 := by
        obtain ⟨i, hi, e⟩ := List.getElem_of_mem hc1
        have e1 : (tsO cs).getD i 0 = c.1 := by
          rw [← ts_get, List.getD, List.getElem?_eq_getElem hi, e]
          rfl
        rw [ts_get, ← e1]
        by_cases c2 : i = cs.length - 1
        · rw [c2]
          exact Int.le_refl _
        · exact Int.le_of_lt (gD_lt hs (by omega) (by rw [ts_len]; omega))
      omega
    · have : (k : Nat) → (k ≤ 6) → (4 : Int) + k * 10 ^ 30 ≤ 4 + 6 * 10 ^ 30 := fun k hk => by omega
      have := this (1 + q).toNat (by omega)
      omega
theorem Tm_bd {cs : List (Int × Int)} {P k B : Int} (ok : RcOk cs P) (hB : 1 ≤ B) (hk : -B ≤ k ∧ k ≤ B) : -(10 ^ 31 * B) ≤ Tm (tsO cs) P k ∧ Tm (tsO cs) P k ≤ 10 ^ 31 * B + 10 ^ 31 := by
  have hp := ok.pos
  have ht := ok.top
  have hm : (0 : Int) < (tsO cs).length := by have := ok.rd.ne; omega
  obtain ⟨e, h0, h1⟩ := dm_is k hm
  have g1 := ok.rd.lo _ (gD_mem (i := (k % (tsO cs).length).toNat) (by omega))
  have g2 := ok.rd.hi _ (gD_mem (i := (k % (tsO cs).length).toNat) (by omega))
  have q := Int.natAbs_ediv_le_natAbs k (tsO cs).length
  unfold Tm
  generalize k / (tsO cs).length = d at *
  have d1 : d ≤ B := by omega
  have d2 : -B ≤ d := by omega
  have m1 : d * P ≤ B * P := Int.mul_le_mul_of_nonneg_right d1 (by omega)
  have m2 : (-B) * P ≤ d * P := Int.mul_le_mul_of_nonneg_right d2 (by omega)
  have m3 : B * P ≤ B * 10 ^ 31 := Int.mul_le_mul_of_nonneg_left ht (by omega)
  rw [Int.neg_mul] at m2
  omega
theorem Nm_bd {cs : List (Int × Int)} {P x B : Int} (ok : RcOk cs P) (hk : -B ≤ x ∧ x ≤ B) : -(6 * B) - 1 ≤ Nm (tsO cs) P x ∧ Nm (tsO cs) P x ≤ 6 * B + 6 := by
  have hl := ok.len
  have hne := ok.ne
  have c := cnt_le (tsO cs) (x % P)
  rw [ts_len] at c
  have q := Int.natAbs_ediv_le_natAbs x P
  unfold Nm
  rw [ts_len]
  generalize x / P = d at *
  have d1 : d ≤ B := by omega
  have d2 : -B ≤ d := by omega
  have m1 : d * cs.length ≤ B * cs.length := Int.mul_le_mul_of_nonneg_right d1 (by omega)
  have m2 : (-B) * cs.length ≤ d * cs.length := Int.mul_le_mul_of_nonneg_right d2 (by omega)
  have m3 : B * cs.length ≤ B * 6 := Int.mul_le_mul_of_nonneg_left (by omega) (by omega)
  rw [Int.neg_mul] at m2
  omega
theorem r690 (n : Nat) (P : Int) (cs : List (Int × Int)) (β : BS) (ok : RcOk cs P) : ∃ x β', rn (n + 3) 690 [.bag, rdD P cs] β = some (.int x, β') ∧ -(10 ^ 33) ≤ x ∧ x ≤ 10 ^ 33 := by
  have q20 := p10 (k := 20) (by decide)
  have q19 := p10 (k := 19) (by decide)
  have q29 := p10 (k := 29) (by decide)
  obtain ⟨a, β1, e1, a1, b1⟩ := tk (n := n + 1) β 30 (by decide)
  obtain ⟨b, β2, e2, a2, b2⟩ := tk (n := n + 1) β1 (10 ^ (20 : Int).toNat) (by decide)
  obtain ⟨z, β3, e3, a3, b3⟩ := tk (n := n + 1) β2 2 (by decide)
  have b2' : b < 10 ^ 20 := b2
  have st : ∃ s : Int, atI [D.int (a - 15), .int (b - 10 ^ (19 : Int).toNat)] z = some (.int s) ∧ -(10 ^ 20) ≤ s ∧ s ≤ 10 ^ 20 := by
    have : z = 0 ∨ z = 1 := by omega
    rcases this with rfl | rfl
    · exact ⟨_, rfl, by omega, by omega⟩
    · exact ⟨_, rfl, by show -(10 ^ 20) ≤ b - 10 ^ 19; omega, by show b - 10 ^ 19 ≤ 10 ^ 20; omega⟩
  obtain ⟨s, h1, h2, h3⟩ := st
  have k1 := r688 (n + 1) s β3 ok (by omega)
  have m9 : (9 : Int).natAbs < 2 ^ 64 := by decide
  have end_ : ∀ (k : Int) (β4 : BS), -(10 ^ 20) ≤ k → k ≤ 10 ^ 20 → (-(9 * 10 ^ 30) ≤ Tm (tsO cs) P k ∧ Tm (tsO cs) P k ≤ 9 * 10 ^ 30 ∨ (0 ≤ k ∧ k ≤ 9)) → ∃ y x β', rn (n + 2) 688 [rdD P cs, .int k] β4 = some (.int (Tm (tsO cs) P k), β4) ∧ rn (n + 2) 11 [.bag, .lst [.int 0, .int 0, .int 1, .int (-1), .int 3]] β4 = some (.int y, β') ∧ x = Tm (tsO cs) P k + y ∧ -(10 ^ 33) ≤ x ∧ x ≤ 10 ^ 33 := by
    intro k β4 k1 k2 k3
    obtain ⟨y, β5, e5, hy⟩ := r11 n [.int 0, .int 0, .int 1, .int (-1), .int 3] β4 (by simp)
    obtain ⟨f, rfl, hf0, hf1⟩ : ∃ f : Int, y = .int f ∧ -1 ≤ f ∧ f ≤ 3 := by
      simp only [List.mem_cons, List.not_mem_nil, or_false] at hy
      rcases hy with rfl | rfl | rfl | rfl | rfl <;> exact ⟨_, rfl, by decide, by decide⟩
    refine ⟨f, _, β5, r688 (n + 1) k β4 ok (by omega), e5, rfl, ?_⟩
    rcases k3 with k3 | k3
    · omega
    · have := Tm_bd ok (B := 9) (by decide) (k := k) (by omega)
      omega
  rw [u690]
  by_cases c : 9 * 10 ^ (29 : Int).toNat < absI (Tm (tsO cs) P s)
  · obtain ⟨k, β4, e4, a4, b4⟩ := tk (n := n + 1) β3 9 (by decide)
    obtain ⟨y, x, β5, g1, g2, rfl, g4⟩ := end_ k β4 (by omega) (by omega) (.inr (by omega))
    simp only [ev, List.getElem?_cons_zero, List.getElem?_cons_succ, List.set_cons_zero, List.set_cons_succ, List.length_cons, List.length_nil, Nat.reduceAdd, Nat.reduceLeDiff, Nat.reduceSub, ↓reduceIte, List.map_cons, List.map_nil, Bool.and_true, Bool.true_and, Bool.and_self, and_self, and_true, List.cons_append, List.nil_append, List.replicate_succ, List.replicate_zero, evFd_eq, decide_true, decide_false, Bool.not_true, Bool.not_false, Bool.false_and, Bool.and_false, List.contains_cons, List.contains_nil, beq_self_eq_true, Bool.true_or, Bool.or_true, Bool.or_false, Bool.false_or, List.all_cons, List.all_nil, Nat.reduceBEq, ev2, ev3, ev4, ev5, ev6, ev7, true_or, or_true, evFdO_eq, dl, Nat.reduceLT, true_and, false_and, if_true, if_false, Option.map_some, Option.bind_some, Int.cast_ofNat_Int, d690, q20, q19, q29, e1, e2, e3, h1, k1, m9, true_or, or_true, c, e4, g1, g2]
    exact ⟨_, _, rfl, g4⟩
  · have c' : absI (Tm (tsO cs) P s) ≤ 9 * 10 ^ 29 := by
      have : ¬ 9 * 10 ^ 29 < absI (Tm (tsO cs) P s) := c
      omega
    unfold absI at c'
    obtain ⟨y, x, β5, g1, g2, rfl, g4⟩ := end_ s β3 h2 h3 (.inl (by split at c' <;> omega))
    simp only [ev, List.getElem?_cons_zero, List.getElem?_cons_succ, List.set_cons_zero, List.set_cons_succ, List.length_cons, List.length_nil, Nat.reduceAdd, Nat.reduceLeDiff, Nat.reduceSub, ↓reduceIte, List.map_cons, List.map_nil, Bool.and_true, Bool.true_and, Bool.and_self, and_self, and_true, List.cons_append, List.nil_append, List.replicate_succ, List.replicate_zero, evFd_eq, decide_true, decide_false, Bool.not_true, Bool.not_false, Bool.false_and, Bool.and_false, List.contains_cons, List.contains_nil, beq_self_eq_true, Bool.true_or, Bool.or_true, Bool.or_false, Bool.false_or, List.all_cons, List.all_nil, Nat.reduceBEq, ev2, ev3, ev4, ev5, ev6, ev7, true_or, or_true, evFdO_eq, dl, Nat.reduceLT, true_and, false_and, if_true, if_false, Option.map_some, Option.bind_some, Int.cast_ofNat_Int, d690, q20, q19, q29, e1, e2, e3, h1, k1, m9, true_or, or_true, c, g1, g2]
    exact ⟨_, _, rfl, g4⟩
theorem tell_pr {a b : Int} (ha : a.natAbs < big) (hb : b.natAbs < big) : (prD a b).tell := by
  refine ⟨rfl, ?_, by show 4 + (101 + 2 + (101 + 2 + 0)) ≤ 1000000; decide⟩
  show (decide (a.natAbs < big) && (decide (b.natAbs < big) && true)) = true
  rw [decide_eq_true ha, decide_eq_true hb]
  rfl
theorem r582 (n : Nat) (i : Int) (β : BS) : rn (n + 1) 582 [.int i] β = some (.bl true, β) := by
  rw [u582]
  simp only [ev, List.getElem?_cons_zero, List.getElem?_cons_succ, List.set_cons_zero, List.set_cons_succ, List.length_cons, List.length_nil, Nat.reduceAdd, Nat.reduceLeDiff, Nat.reduceSub, ↓reduceIte, List.map_cons, List.map_nil, Bool.and_true, Bool.true_and, Bool.and_self, and_self, and_true, List.cons_append, List.nil_append, List.replicate_succ, List.replicate_zero, evFd_eq, decide_true, decide_false, Bool.not_true, Bool.not_false, Bool.false_and, Bool.and_false, List.contains_cons, List.contains_nil, beq_self_eq_true, Bool.true_or, Bool.or_true, Bool.or_false, Bool.false_or, List.all_cons, List.all_nil, Nat.reduceBEq, ev2, ev3, ev4, ev5, ev6, ev7, true_or, or_true, evFdO_eq, dl, Nat.reduceLT, true_and, false_and, if_true, if_false, Option.map_some, Option.bind_some, Int.cast_ofNat_Int, d582, btB]
theorem sms_ints : ∀ {ns : List Int}, (∀ i ∈ ns, i.natAbs < big) → D.sms (ns.map D.int) = true
  | [], _ => rfl
  | n :: ns, h => by
    show (decide (n.natAbs < big) && D.sms (ns.map D.int)) = true
    rw [decide_eq_true (h n (by simp)), sms_ints fun i hi => h i (by simp [hi])]
    rfl
theorem wds_ints : ∀ ns : List Int, D.wds (ns.map D.int) = 103 * ns.length
  | [] => rfl
  | n :: ns => by
    show 101 + 2 + D.wds (ns.map D.int) = _
    rw [wds_ints ns, List.length_cons]
    omega
theorem oks_ints (k : Nat) : ∀ ns : List Int, D.oks (ns.map D.int) k = true
  | [] => rfl
  | n :: ns => by
    show (D.ok (.int n) k && D.oks (ns.map D.int) k) = true
    rw [oks_ints k ns]
    simp [D.ok]
theorem tell_ints {ns : List Int} (h : ∀ i ∈ ns, i.natAbs < big) (hl : ns.length ≤ 1000) : (D.lst (ns.map D.int)).tell := by
  refine ⟨oks_ints 59 ns, sms_ints h, ?_⟩
  show 4 + D.wds (ns.map D.int) ≤ 1000000
  rw [wds_ints]
  omega
theorem eraseDups_len (ns : List Int) : (ddI ns).length ≤ ns.length := nodup_le (ddI_nodup ns) fun k hk => ddI_mem.mp hk
theorem sset_len (ns : List Int) : (sortI (ddI ns)).length ≤ ns.length := by
  rw [(sortI_perm _).length_eq]
  exact eraseDups_len ns
def prc (cs : List (Int × Int)) (k : Int) : Int := (cs.getD (k % cs.length).toNat (0, 0)).2
section
variable {cs : List (Int × Int)} {P : Int}
theorem prc_bd (ok : RcOk cs P) (k : Int) : 0 ≤ prc cs k ∧ prc cs k ≤ 10 ^ 30 := by
  have hne := ok.ne
  have h0 := Int.emod_nonneg k (show (cs.length : Int) ≠ 0 by omega)
  have h1 := Int.emod_lt_of_pos k (show (0 : Int) < cs.length by omega)
  have hm : (k % cs.length).toNat < cs.length := by omega
  unfold prc
  refine ok.pr _ ?_
  rw [List.getD, List.getElem?_eq_getElem hm]
  exact List.getElem_mem hm
theorem r296 (n : Nat) (k : Int) (β : BS) (ok : RcOk cs P) : rn (n + 1) 296 [roD P cs, .int k] β = some (.int (prc cs k), β) := by
  have hne := ok.ne
  have h0 := Int.emod_nonneg k (show (cs.length : Int) ≠ 0 by omega)
  have h1 := Int.emod_lt_of_pos k (show (0 : Int) < cs.length by omega)
  rw [u296]
  simp only [ev, List.getElem?_cons_zero, List.getElem?_cons_succ, List.set_cons_zero, List.set_cons_succ, List.length_cons, List.length_nil, Nat.reduceAdd, Nat.reduceLeDiff, Nat.reduceSub, ↓reduceIte, List.map_cons, List.map_nil, Bool.and_true, Bool.true_and, Bool.and_self, and_self, and_true, List.cons_append, List.nil_append, List.replicate_succ, List.replicate_zero, evFd_eq, decide_true, decide_false, Bool.not_true, Bool.not_false, Bool.false_and, Bool.and_false, List.contains_cons, List.contains_nil, beq_self_eq_true, Bool.true_or, Bool.or_true, Bool.or_false, Bool.false_or, List.all_cons, List.all_nil, Nat.reduceBEq, ev2, ev3, ev4, ev5, ev6, ev7, true_or, or_true, evFdO_eq, dl, Nat.reduceLT, true_and, false_and, if_true, if_false, Option.map_some, Option.bind_some, Int.cast_ofNat_Int, d296, List.length_map, show (0 : Int) < cs.length by omega, atI_I chD cs (i := k % cs.length) (0, 0) h0 h1, chD]
  rfl
end
section
variable {cs : List (Int × Int)} {P : Int}
theorem r689 (n : Nat) (k : Int) (β : BS) (ok : RcOk cs P) (hk : -(10 ^ 80) < k ∧ k < 10 ^ 80) : rn (n + 1) 689 [rdD P cs, .int k] β = some (.int (prc cs k), β) := by
  have hne := ok.ne
  have hl := ok.len
  have hm : (0 : Int) < cs.length := by omega
  obtain ⟨e, h0, h1⟩ := dm_is k hm
  have e' : k - k / cs.length * cs.length = k % cs.length := by omega
  have hd := div_bd hm hk
  rw [u689]
  simp only [ev, List.getElem?_cons_zero, List.getElem?_cons_succ, List.set_cons_zero, List.set_cons_succ, List.length_cons, List.length_nil, Nat.reduceAdd, Nat.reduceLeDiff, Nat.reduceSub, ↓reduceIte, List.map_cons, List.map_nil, Bool.and_true, Bool.true_and, Bool.and_self, and_self, and_true, List.cons_append, List.nil_append, List.replicate_succ, List.replicate_zero, evFd_eq, decide_true, decide_false, Bool.not_true, Bool.not_false, Bool.false_and, Bool.and_false, List.contains_cons, List.contains_nil, beq_self_eq_true, Bool.true_or, Bool.or_true, Bool.or_false, Bool.false_or, List.all_cons, List.all_nil, Nat.reduceBEq, ev2, ev3, ev4, ev5, ev6, ev7, true_or, or_true, evFdO_eq, dl, Nat.reduceLT, true_and, false_and, if_true, if_false, Option.map_some, Option.bind_some, Int.cast_ofNat_Int, d689, List.length_map, hm, big_ok9 (i := (cs.length : Int)) (by omega), big_ok9 (i := k / cs.length) (by omega), true_or, e', atI_I chD cs (i := k % cs.length) (0, 0) h0 h1, chD]
  rfl
end
theorem wds_ch : ∀ l : List (Int × Int), D.wds (l.map chD) = l.length * 212
  | [] => rfl
  | c :: l => by
    show 210 + 2 + D.wds (l.map chD) = _
    rw [wds_ch l, List.length_cons]
    omega
theorem sms_ch : ∀ {l : List (Int × Int)}, (∀ c ∈ l, c.1.natAbs < big ∧ c.2.natAbs < big) → D.sms (l.map chD) = true
  | [], _ => rfl
  | c :: l, h => by
    show ((decide (c.1.natAbs < big) && (decide (c.2.natAbs < big) && true)) && D.sms (l.map chD)) = true
    rw [decide_eq_true (h c (by simp)).1, decide_eq_true (h c (by simp)).2, sms_ch fun x hx => h x (by simp [hx])]
    rfl
theorem tell_chs {ss : List (Int × Int)} (hl : ss.length ≤ 100) (h : ∀ c ∈ ss, c.1.natAbs < big ∧ c.2.natAbs < big) : (D.lst (ss.map chD)).tell := by
  refine ⟨?_, sms_ch h, ?_⟩
  · exact oks_all (n := 59) fun x hx => by
      obtain ⟨c, _, rfl⟩ := List.mem_map.mp hx
      rfl
  · show 4 + D.wds (ss.map chD) ≤ 1000000
    rw [wds_ch]
    omega
structure RcW (cs : List (Int × Int)) (P : Int) : Prop where
  rd : RdOk (tsO cs) P
  pr : ∀ c ∈ cs, 0 ≤ c.2
  len : cs.length ≤ 6
theorem RcOk.w {cs : List (Int × Int)} {P : Int} (ok : RcOk cs P) : RcW cs P := ⟨ok.rd, fun c hc => (ok.pr c hc).1, ok.len⟩
section
variable {cs : List (Int × Int)} {P : Int}
theorem RcW.pos (ok : RcW cs P) : 0 < P := by
  have a := ok.rd.hi _ (gD_mem ok.rd.ne)
  have b := ok.rd.lo _ (gD_mem ok.rd.ne)
  omega
theorem RcW.ne (ok : RcW cs P) : 0 < cs.length := by
  have := ok.rd.ne
  unfold tsO at this
  rwa [List.length_map] at this
theorem r100291v (n : Nat) (β : BS) (ok : RcW cs P) : rn (n + 4) 100291 [.int P, .lst (cs.map chD)] β = some (roD P cs, β) := by
  have hp := ok.pos
  have hne := ok.ne
  have hl := ok.len
  rw [u100291]
  refine iniM_eq fun x => ?_
  rw [evFdI_eq]
  have hp1 : decide (0 ≤ P) = true := decide_eq_true (by omega)
  have hp0 : (P == 0) = false := by simpa using (by omega : P ≠ 0)
  have hl0 : ((cs.length : Int) == 0) = false := by simpa using (by intro z; rw [z] at hne; simp at hne : cs ≠ [])
  simp only [ev, List.getElem?_cons_zero, List.getElem?_cons_succ, List.set_cons_zero, List.set_cons_succ, List.length_cons, List.length_nil, Nat.reduceAdd, Nat.reduceLeDiff, Nat.reduceSub, ↓reduceIte, List.map_cons, List.map_nil, Bool.and_true, Bool.true_and, Bool.and_self, and_self, and_true, List.cons_append, List.nil_append, List.replicate_succ, List.replicate_zero, evFd_eq, decide_true, decide_false, Bool.not_true, Bool.not_false, Bool.false_and, Bool.and_false, List.contains_cons, List.contains_nil, beq_self_eq_true, Bool.true_or, Bool.or_true, Bool.or_false, Bool.false_or, List.all_cons, List.all_nil, Nat.reduceBEq, ev2, ev3, ev4, ev5, ev6, ev7, true_or, or_true, evFdO_eq, dl, Nat.reduceLT, true_and, false_and, if_true, if_false, Option.map_some, Option.bind_some, Int.cast_ofNat_Int, d100291, r41i (n + 1), hp1, hp0, btB, List.length_map, hl0, show cs.length ≤ 1000000 by omega]
  rw [mapE_of chD (fun c => D.bl true) (fun c hc β => by
    have h0 : decide (0 ≤ c.2) = true := decide_eq_true (ok.pr c hc)
    simp only [ev, List.getElem?_cons_zero, List.getElem?_cons_succ, List.set_cons_zero, List.set_cons_succ, List.length_cons, List.length_nil, Nat.reduceAdd, Nat.reduceLeDiff, Nat.reduceSub, ↓reduceIte, List.map_cons, List.map_nil, Bool.and_true, Bool.true_and, Bool.and_self, and_self, and_true, List.cons_append, List.nil_append, List.replicate_succ, List.replicate_zero, evFd_eq, decide_true, decide_false, Bool.not_true, Bool.not_false, Bool.false_and, Bool.and_false, List.contains_cons, List.contains_nil, beq_self_eq_true, Bool.true_or, Bool.or_true, Bool.or_false, Bool.false_or, List.all_cons, List.all_nil, Nat.reduceBEq, ev2, ev3, ev4, ev5, ev6, ev7, true_or, or_true, evFdO_eq, dl, Nat.reduceLT, true_and, false_and, if_true, if_false, Option.map_some, Option.bind_some, Int.cast_ofNat_Int, r43c n, h0])]
  simp only [ev, List.getElem?_cons_zero, List.getElem?_cons_succ, List.set_cons_zero, List.set_cons_succ, List.length_cons, List.length_nil, Nat.reduceAdd, Nat.reduceLeDiff, Nat.reduceSub, ↓reduceIte, List.map_cons, List.map_nil, Bool.and_true, Bool.true_and, Bool.and_self, and_self, and_true, List.cons_append, List.nil_append, List.replicate_succ, List.replicate_zero, evFd_eq, decide_true, decide_false, Bool.not_true, Bool.not_false, Bool.false_and, Bool.and_false, List.contains_cons, List.contains_nil, beq_self_eq_true, Bool.true_or, Bool.or_true, Bool.or_false, Bool.false_or, List.all_cons, List.all_nil, Nat.reduceBEq, ev2, ev3, ev4, ev5, ev6, ev7, true_or, or_true, evFdO_eq, dl, Nat.reduceLT, true_and, false_and, if_true, if_false, Option.map_some, Option.bind_some, Int.cast_ofNat_Int, dAllT, List.length_map]
  refine for_keep (R := fun o => kFI x 4 o = some (roD P cs, β)) (fun env β1 => β1 = β ∧ ∃ s4 : Option D, env = [some (.slf x 4 []), some (.d (.int P)), some (.d (.lst (cs.map chD))), none, s4.map .d, none]) ⟨rfl, none, rfl⟩ ?_ ?_
  · rintro y hy env β1 ⟨rfl, s4, rfl⟩
    obtain ⟨k, rfl, k0, k1⟩ := ran_mem hy
    have k2 : k < cs.length := by omega
    rw [bindN]
    have q := gD_lt ok.rd.srt (i := (k - 1).toNat) (j := k.toNat) (by omega) (by rw [ts_len]; omega)
    rw [← ts_get, ← ts_get] at q
    have hn : ¬ (cs.getD k.toNat (0, 0)).1 ≤ (cs.getD (k - 1).toNat (0, 0)).1 := by omega
    simp only [ev, List.getElem?_cons_zero, List.getElem?_cons_succ, List.set_cons_zero, List.set_cons_succ, List.length_cons, List.length_nil, Nat.reduceAdd, Nat.reduceLeDiff, Nat.reduceSub, ↓reduceIte, List.map_cons, List.map_nil, Bool.and_true, Bool.true_and, Bool.and_self, and_self, and_true, List.cons_append, List.nil_append, List.replicate_succ, List.replicate_zero, evFd_eq, decide_true, decide_false, Bool.not_true, Bool.not_false, Bool.false_and, Bool.and_false, List.contains_cons, List.contains_nil, beq_self_eq_true, Bool.true_or, Bool.or_true, Bool.or_false, Bool.false_or, List.all_cons, List.all_nil, Nat.reduceBEq, ev2, ev3, ev4, ev5, ev6, ev7, true_or, or_true, evFdO_eq, dl, Nat.reduceLT, true_and, false_and, if_true, if_false, Option.map_some, Option.bind_some, Int.cast_ofNat_Int, atI_I chD cs (i := k) (0, 0) (by omega) k2, atI_I chD cs (i := k - 1) (0, 0) (by omega) (by omega), chD, hn]
    exact ⟨_, _, rfl, rfl, some _, rfl⟩
  · rintro e2 β2 ⟨rfl, s4, rfl⟩
    simp only [ev, List.getElem?_cons_zero, List.getElem?_cons_succ, List.set_cons_zero, List.set_cons_succ, List.length_cons, List.length_nil, Nat.reduceAdd, Nat.reduceLeDiff, Nat.reduceSub, ↓reduceIte, List.map_cons, List.map_nil, Bool.and_true, Bool.true_and, Bool.and_self, and_self, and_true, List.cons_append, List.nil_append, List.replicate_succ, List.replicate_zero, evFd_eq, decide_true, decide_false, Bool.not_true, Bool.not_false, Bool.false_and, Bool.and_false, List.contains_cons, List.contains_nil, beq_self_eq_true, Bool.true_or, Bool.or_true, Bool.or_false, Bool.false_or, List.all_cons, List.all_nil, Nat.reduceBEq, ev2, ev3, ev4, ev5, ev6, ev7, true_or, or_true, evFdO_eq, dl, Nat.reduceLT, true_and, false_and, if_true, if_false, Option.map_some, Option.bind_some, Int.cast_ofNat_Int, notOwn_map]
    refine for_keep (R := fun o => kFI x 4 o = some (roD P cs, β2)) (fun env β1 => β1 = β2 ∧ ∃ s4 s5 : Option D, env = [some (.slf x 4 []), some (.d (.int P)), some (.d (.lst (cs.map chD))), none, s4.map .d, s5.map .d]) ⟨rfl, s4, none, rfl⟩ ?_ ?_
    · rintro y hy env β1 ⟨rfl, s4, s5, rfl⟩
      obtain ⟨k, z, rfl, hz⟩ := enum_mem hy
      rw [List.getElem?_map] at hz
      obtain ⟨c, hc, rfl⟩ := Option.map_eq_some_iff.mp hz
      have hm : c ∈ cs := List.mem_of_getElem? hc
      have h1 : decide (0 ≤ c.1) = true := decide_eq_true (ok.rd.lo c.1 (List.mem_map_of_mem hm))
      have h2 : decide (c.1 < P) = true := decide_eq_true (ok.rd.hi c.1 (List.mem_map_of_mem hm))
      rw [bindN2]
      simp only [ev, List.getElem?_cons_zero, List.getElem?_cons_succ, List.set_cons_zero, List.set_cons_succ, List.length_cons, List.length_nil, Nat.reduceAdd, Nat.reduceLeDiff, Nat.reduceSub, ↓reduceIte, List.map_cons, List.map_nil, Bool.and_true, Bool.true_and, Bool.and_self, and_self, and_true, List.cons_append, List.nil_append, List.replicate_succ, List.replicate_zero, evFd_eq, decide_true, decide_false, Bool.not_true, Bool.not_false, Bool.false_and, Bool.and_false, List.contains_cons, List.contains_nil, beq_self_eq_true, Bool.true_or, Bool.or_true, Bool.or_false, Bool.false_or, List.all_cons, List.all_nil, Nat.reduceBEq, ev2, ev3, ev4, ev5, ev6, ev7, true_or, or_true, evFdO_eq, dl, Nat.reduceLT, true_and, false_and, if_true, if_false, Option.map_some, Option.bind_some, Int.cast_ofNat_Int, chD, h1, h2]
      exact ⟨_, _, rfl, rfl, some _, some _, rfl⟩
    · rintro e2 β1 ⟨rfl, s4, s5, rfl⟩
      simp only [ev, List.getElem?_cons_zero, List.getElem?_cons_succ, List.set_cons_zero, List.set_cons_succ, List.length_cons, List.length_nil, Nat.reduceAdd, Nat.reduceLeDiff, Nat.reduceSub, ↓reduceIte, List.map_cons, List.map_nil, Bool.and_true, Bool.true_and, Bool.and_self, and_self, and_true, List.cons_append, List.nil_append, List.replicate_succ, List.replicate_zero, evFd_eq, decide_true, decide_false, Bool.not_true, Bool.not_false, Bool.false_and, Bool.and_false, List.contains_cons, List.contains_nil, beq_self_eq_true, Bool.true_or, Bool.or_true, Bool.or_false, Bool.false_or, List.all_cons, List.all_nil, Nat.reduceBEq, ev2, ev3, ev4, ev5, ev6, ev7, true_or, or_true, evFdO_eq, dl, Nat.reduceLT, true_and, false_and, if_true, if_false, Option.map_some, Option.bind_some, Int.cast_ofNat_Int, show (cfl 4).length = 2 from rfl]
theorem r100291t (n : Nat) (β : BS) (ok : RcW cs P) : rn (n + 4) 100291 [.int P, .tup (cs.map chD)] β = some (roD P cs, β) := by
  have hp := ok.pos
  have hne := ok.ne
  have hl := ok.len
  rw [u100291]
  refine iniM_eq fun x => ?_
  rw [evFdI_eq]
  have hp1 : decide (0 ≤ P) = true := decide_eq_true (by omega)
  have hp0 : (P == 0) = false := by simpa using (by omega : P ≠ 0)
  have hl0 : ((cs.length : Int) == 0) = false := by simpa using (by intro z; rw [z] at hne; simp at hne : cs ≠ [])
  simp only [ev, List.getElem?_cons_zero, List.getElem?_cons_succ, List.set_cons_zero, List.set_cons_succ, List.length_cons, List.length_nil, Nat.reduceAdd, Nat.reduceLeDiff, Nat.reduceSub, ↓reduceIte, List.map_cons, List.map_nil, Bool.and_true, Bool.true_and, Bool.and_self, and_self, and_true, List.cons_append, List.nil_append, List.replicate_succ, List.replicate_zero, evFd_eq, decide_true, decide_false, Bool.not_true, Bool.not_false, Bool.false_and, Bool.and_false, List.contains_cons, List.contains_nil, beq_self_eq_true, Bool.true_or, Bool.or_true, Bool.or_false, Bool.false_or, List.all_cons, List.all_nil, Nat.reduceBEq, ev2, ev3, ev4, ev5, ev6, ev7, true_or, or_true, evFdO_eq, dl, Nat.reduceLT, true_and, false_and, if_true, if_false, Option.map_some, Option.bind_some, Int.cast_ofNat_Int, d100291, r41i (n + 1), hp1, hp0, btB, List.length_map, hl0, show cs.length ≤ 1000000 by omega]
  rw [mapE_of chD (fun c => D.bl true) (fun c hc β => by
    have h0 : decide (0 ≤ c.2) = true := decide_eq_true (ok.pr c hc)
    simp only [ev, List.getElem?_cons_zero, List.getElem?_cons_succ, List.set_cons_zero, List.set_cons_succ, List.length_cons, List.length_nil, Nat.reduceAdd, Nat.reduceLeDiff, Nat.reduceSub, ↓reduceIte, List.map_cons, List.map_nil, Bool.and_true, Bool.true_and, Bool.and_self, and_self, and_true, List.cons_append, List.nil_append, List.replicate_succ, List.replicate_zero, evFd_eq, decide_true, decide_false, Bool.not_true, Bool.not_false, Bool.false_and, Bool.and_false, List.contains_cons, List.contains_nil, beq_self_eq_true, Bool.true_or, Bool.or_true, Bool.or_false, Bool.false_or, List.all_cons, List.all_nil, Nat.reduceBEq, ev2, ev3, ev4, ev5, ev6, ev7, true_or, or_true, evFdO_eq, dl, Nat.reduceLT, true_and, false_and, if_true, if_false, Option.map_some, Option.bind_some, Int.cast_ofNat_Int, r43c n, h0])]
  simp only [ev, List.getElem?_cons_zero, List.getElem?_cons_succ, List.set_cons_zero, List.set_cons_succ, List.length_cons, List.length_nil, Nat.reduceAdd, Nat.reduceLeDiff, Nat.reduceSub, ↓reduceIte, List.map_cons, List.map_nil, Bool.and_true, Bool.true_and, Bool.and_self, and_self, and_true, List.cons_append, List.nil_append, List.replicate_succ, List.replicate_zero, evFd_eq, decide_true, decide_false, Bool.not_true, Bool.not_false, Bool.false_and, Bool.and_false, List.contains_cons, List.contains_nil, beq_self_eq_true, Bool.true_or, Bool.or_true, Bool.or_false, Bool.false_or, List.all_cons, List.all_nil, Nat.reduceBEq, ev2, ev3, ev4, ev5, ev6, ev7, true_or, or_true, evFdO_eq, dl, Nat.reduceLT, true_and, false_and, if_true, if_false, Option.map_some, Option.bind_some, Int.cast_ofNat_Int, dAllT, List.length_map]
  refine for_keep (R := fun o => kFI x 4 o = some (roD P cs, β)) (fun env β1 => β1 = β ∧ ∃ s4 : Option D, env = [some (.slf x 4 []), some (.d (.int P)), some (.d (.tup (cs.map chD))), none, s4.map .d, none]) ⟨rfl, none, rfl⟩ ?_ ?_
  · rintro y hy env β1 ⟨rfl, s4, rfl⟩
    obtain ⟨k, rfl, k0, k1⟩ := ran_mem hy
    have k2 : k < cs.length := by omega
    rw [bindN]
    have q := gD_lt ok.rd.srt (i := (k - 1).toNat) (j := k.toNat) (by omega) (by rw [ts_len]; omega)
    rw [← ts_get, ← ts_get] at q
    have hn : ¬ (cs.getD k.toNat (0, 0)).1 ≤ (cs.getD (k - 1).toNat (0, 0)).1 := by omega
    simp only [ev, List.getElem?_cons_zero, List.getElem?_cons_succ, List.set_cons_zero, List.set_cons_succ, List.length_cons, List.length_nil, Nat.reduceAdd, Nat.reduceLeDiff, Nat.reduceSub, ↓reduceIte, List.map_cons, List.map_nil, Bool.and_true, Bool.true_and, Bool.and_self, and_self, and_true, List.cons_append, List.nil_append, List.replicate_succ, List.replicate_zero, evFd_eq, decide_true, decide_false, Bool.not_true, Bool.not_false, Bool.false_and, Bool.and_false, List.contains_cons, List.contains_nil, beq_self_eq_true, Bool.true_or, Bool.or_true, Bool.or_false, Bool.false_or, List.all_cons, List.all_nil, Nat.reduceBEq, ev2, ev3, ev4, ev5, ev6, ev7, true_or, or_true, evFdO_eq, dl, Nat.reduceLT, true_and, false_and, if_true, if_false, Option.map_some, Option.bind_some, Int.cast_ofNat_Int, atI_I chD cs (i := k) (0, 0) (by omega) k2, atI_I chD cs (i := k - 1) (0, 0) (by omega) (by omega), chD, hn]
    exact ⟨_, _, rfl, rfl, some _, rfl⟩
  · rintro e2 β2 ⟨rfl, s4, rfl⟩
    simp only [ev, List.getElem?_cons_zero, List.getElem?_cons_succ, List.set_cons_zero, List.set_cons_succ, List.length_cons, List.length_nil, Nat.reduceAdd, Nat.reduceLeDiff, Nat.reduceSub, ↓reduceIte, List.map_cons, List.map_nil, Bool.and_true, Bool.true_and, Bool.and_self, and_self, and_true, List.cons_append, List.nil_append, List.replicate_succ, List.replicate_zero, evFd_eq, decide_true, decide_false, Bool.not_true, Bool.not_false, Bool.false_and, Bool.and_false, List.contains_cons, List.contains_nil, beq_self_eq_true, Bool.true_or, Bool.or_true, Bool.or_false, Bool.false_or, List.all_cons, List.all_nil, Nat.reduceBEq, ev2, ev3, ev4, ev5, ev6, ev7, true_or, or_true, evFdO_eq, dl, Nat.reduceLT, true_and, false_and, if_true, if_false, Option.map_some, Option.bind_some, Int.cast_ofNat_Int, notOwn_map]
    refine for_keep (R := fun o => kFI x 4 o = some (roD P cs, β2)) (fun env β1 => β1 = β2 ∧ ∃ s4 s5 : Option D, env = [some (.slf x 4 []), some (.d (.int P)), some (.d (.tup (cs.map chD))), none, s4.map .d, s5.map .d]) ⟨rfl, s4, none, rfl⟩ ?_ ?_
    · rintro y hy env β1 ⟨rfl, s4, s5, rfl⟩
      obtain ⟨k, z, rfl, hz⟩ := enum_mem hy
      rw [List.getElem?_map] at hz
      obtain ⟨c, hc, rfl⟩ := Option.map_eq_some_iff.mp hz
      have hm : c ∈ cs := List.mem_of_getElem? hc
      have h1 : decide (0 ≤ c.1) = true := decide_eq_true (ok.rd.lo c.1 (List.mem_map_of_mem hm))
      have h2 : decide (c.1 < P) = true := decide_eq_true (ok.rd.hi c.1 (List.mem_map_of_mem hm))
      rw [bindN2]
      simp only [ev, List.getElem?_cons_zero, List.getElem?_cons_succ, List.set_cons_zero, List.set_cons_succ, List.length_cons, List.length_nil, Nat.reduceAdd, Nat.reduceLeDiff, Nat.reduceSub, ↓reduceIte, List.map_cons, List.map_nil, Bool.and_true, Bool.true_and, Bool.and_self, and_self, and_true, List.cons_append, List.nil_append, List.replicate_succ, List.replicate_zero, evFd_eq, decide_true, decide_false, Bool.not_true, Bool.not_false, Bool.false_and, Bool.and_false, List.contains_cons, List.contains_nil, beq_self_eq_true, Bool.true_or, Bool.or_true, Bool.or_false, Bool.false_or, List.all_cons, List.all_nil, Nat.reduceBEq, ev2, ev3, ev4, ev5, ev6, ev7, true_or, or_true, evFdO_eq, dl, Nat.reduceLT, true_and, false_and, if_true, if_false, Option.map_some, Option.bind_some, Int.cast_ofNat_Int, chD, h1, h2]
      exact ⟨_, _, rfl, rfl, some _, some _, rfl⟩
    · rintro e2 β1 ⟨rfl, s4, s5, rfl⟩
      simp only [ev, List.getElem?_cons_zero, List.getElem?_cons_succ, List.set_cons_zero, List.set_cons_succ, List.length_cons, List.length_nil, Nat.reduceAdd, Nat.reduceLeDiff, Nat.reduceSub, ↓reduceIte, List.map_cons, List.map_nil, Bool.and_true, Bool.true_and, Bool.and_self, and_self, and_true, List.cons_append, List.nil_append, List.replicate_succ, List.replicate_zero, evFd_eq, decide_true, decide_false, Bool.not_true, Bool.not_false, Bool.false_and, Bool.and_false, List.contains_cons, List.contains_nil, beq_self_eq_true, Bool.true_or, Bool.or_true, Bool.or_false, Bool.false_or, List.all_cons, List.all_nil, Nat.reduceBEq, ev2, ev3, ev4, ev5, ev6, ev7, true_or, or_true, evFdO_eq, dl, Nat.reduceLT, true_and, false_and, if_true, if_false, Option.map_some, Option.bind_some, Int.cast_ofNat_Int, show (cfl 4).length = 2 from rfl]
end
theorem eqs_ch : ∀ a b : List (Int × Int), D.eqs (a.map chD) (b.map chD) = decide (a = b)
  | [], [] => rfl
  | [], _ :: _ => rfl
  | _ :: _, [] => rfl
  | (x, y) :: a, (u, v) :: b => by
    show (((x == u) && ((y == v) && true)) && D.eqs (a.map chD) (b.map chD)) = _
    rw [eqs_ch a b, Bool.eq_iff_iff]
    simp
theorem oks_ch (n : Nat) (a : List (Int × Int)) : D.oks (a.map chD) (n + 1) = true := oks_all fun x hx => by
  obtain ⟨c, _, rfl⟩ := List.mem_map.mp hx
  rfl
theorem eq_tup (a b : List D) : D.eq (.tup a) (.tup b) = D.eqs a b := by simp only [D.eq]
theorem ok_tup (a : List D) (n : Nat) : D.ok (.tup a) (n + 1) = D.oks a n := by simp only [D.ok]
theorem lfs_ch : ∀ a : List (Int × Int), D.lfs (a.map chD) = true
  | [] => rfl
  | c :: a => by
    show (D.lf (chD c) && D.lfs (a.map chD)) = true
    rw [lfs_ch a]
    rfl
def sameR (P : Int) (cs : List (Int × Int)) (Q : Int) (ds : List (Int × Int)) : Bool := decide (P = Q) && decide (cs = ds)
theorem sameR_sym (P : Int) (cs : List (Int × Int)) (Q : Int) (ds : List (Int × Int)) : sameR Q ds P cs = sameR P cs Q ds := by
  unfold sameR
  rw [Bool.eq_iff_iff]
  simp only [Bool.and_eq_true, decide_eq_true_eq]
  exact ⟨fun h => ⟨h.1.symm, h.2.symm⟩, fun h => ⟨h.1.symm, h.2.symm⟩⟩
section
variable {cs : List (Int × Int)} {P : Int}
theorem r295F (n : Nat) (β : BS) (hl : cs.length ≤ 1000) : rn (n + 1) 200295 [roD P cs] β = some (.lst (cs.map chD), β) := by
  rw [u200295]
  simp only [ev, List.getElem?_cons_zero, List.getElem?_cons_succ, List.set_cons_zero, List.set_cons_succ, List.length_cons, List.length_nil, Nat.reduceAdd, Nat.reduceLeDiff, Nat.reduceSub, ↓reduceIte, List.map_cons, List.map_nil, Bool.and_true, Bool.true_and, Bool.and_self, and_self, and_true, List.cons_append, List.nil_append, List.replicate_succ, List.replicate_zero, evFd_eq, decide_true, decide_false, Bool.not_true, Bool.not_false, Bool.false_and, Bool.and_false, List.contains_cons, List.contains_nil, beq_self_eq_true, Bool.true_or, Bool.or_true, Bool.or_false, Bool.false_or, List.all_cons, List.all_nil, Nat.reduceBEq, ev2, ev3, ev4, ev5, ev6, ev7, true_or, or_true, evFdO_eq, dl, Nat.reduceLT, true_and, false_and, if_true, if_false, Option.map_some, Option.bind_some, Int.cast_ofNat_Int, d200295, List.length_map, show cs.length ≤ 1000000 by omega]
theorem r292 (n : Nat) (β : BS) : rn (n + 1) 292 [roD P cs] β = some (.int P, β) := by
  rw [u292]
  simp only [ev, List.getElem?_cons_zero, List.getElem?_cons_succ, List.set_cons_zero, List.set_cons_succ, List.length_cons, List.length_nil, Nat.reduceAdd, Nat.reduceLeDiff, Nat.reduceSub, ↓reduceIte, List.map_cons, List.map_nil, Bool.and_true, Bool.true_and, Bool.and_self, and_self, and_true, List.cons_append, List.nil_append, List.replicate_succ, List.replicate_zero, evFd_eq, decide_true, decide_false, Bool.not_true, Bool.not_false, Bool.false_and, Bool.and_false, List.contains_cons, List.contains_nil, beq_self_eq_true, Bool.true_or, Bool.or_true, Bool.or_false, Bool.false_or, List.all_cons, List.all_nil, Nat.reduceBEq, ev2, ev3, ev4, ev5, ev6, ev7, true_or, or_true, evFdO_eq, dl, Nat.reduceLT, true_and, false_and, if_true, if_false, Option.map_some, Option.bind_some, Int.cast_ofNat_Int, d292]
theorem r293 (n : Nat) (β : BS) : rn (n + 1) 293 [roD P cs] β = some (.int cs.length, β) := by
  rw [u293]
  simp only [ev, List.getElem?_cons_zero, List.getElem?_cons_succ, List.set_cons_zero, List.set_cons_succ, List.length_cons, List.length_nil, Nat.reduceAdd, Nat.reduceLeDiff, Nat.reduceSub, ↓reduceIte, List.map_cons, List.map_nil, Bool.and_true, Bool.true_and, Bool.and_self, and_self, and_true, List.cons_append, List.nil_append, List.replicate_succ, List.replicate_zero, evFd_eq, decide_true, decide_false, Bool.not_true, Bool.not_false, Bool.false_and, Bool.and_false, List.contains_cons, List.contains_nil, beq_self_eq_true, Bool.true_or, Bool.or_true, Bool.or_false, Bool.false_or, List.all_cons, List.all_nil, Nat.reduceBEq, ev2, ev3, ev4, ev5, ev6, ev7, true_or, or_true, evFdO_eq, dl, Nat.reduceLT, true_and, false_and, if_true, if_false, Option.map_some, Option.bind_some, Int.cast_ofNat_Int, d293, List.length_map]
theorem r294 (n : Nat) (Q : Int) (ds : List (Int × Int)) (β : BS) : rn (n + 1) 294 [roD P cs, roD Q ds] β = some (.bl (sameR P cs Q ds), β) := by
  have k1 : ∀ l : List (Int × Int), D.ok (.tup (l.map chD)) 60 = true := fun l => by rw [ok_tup]; exact oks_ch 58 _
  have e1 := eqs_ch cs ds
  have ei : D.eq (.int P) (.int Q) = decide (P = Q) := by
    show (P == Q) = _
    rw [Bool.eq_iff_iff]
    simp
  unfold sameR
  rw [u294]
  cases c : decide (P = Q) with
  | true =>
    rw [c] at ei
    simp only [ev, List.getElem?_cons_zero, List.getElem?_cons_succ, List.set_cons_zero, List.set_cons_succ, List.length_cons, List.length_nil, Nat.reduceAdd, Nat.reduceLeDiff, Nat.reduceSub, ↓reduceIte, List.map_cons, List.map_nil, Bool.and_true, Bool.true_and, Bool.and_self, and_self, and_true, List.cons_append, List.nil_append, List.replicate_succ, List.replicate_zero, evFd_eq, decide_true, decide_false, Bool.not_true, Bool.not_false, Bool.false_and, Bool.and_false, List.contains_cons, List.contains_nil, beq_self_eq_true, Bool.true_or, Bool.or_true, Bool.or_false, Bool.false_or, List.all_cons, List.all_nil, Nat.reduceBEq, ev2, ev3, ev4, ev5, ev6, ev7, true_or, or_true, evFdO_eq, dl, Nat.reduceLT, true_and, false_and, if_true, if_false, Option.map_some, Option.bind_some, Int.cast_ofNat_Int, d294, tyIs, k1, eq_tup, e1, ei]
  | false =>
    rw [c] at ei
    simp only [ev, List.getElem?_cons_zero, List.getElem?_cons_succ, List.set_cons_zero, List.set_cons_succ, List.length_cons, List.length_nil, Nat.reduceAdd, Nat.reduceLeDiff, Nat.reduceSub, ↓reduceIte, List.map_cons, List.map_nil, Bool.and_true, Bool.true_and, Bool.and_self, and_self, and_true, List.cons_append, List.nil_append, List.replicate_succ, List.replicate_zero, evFd_eq, decide_true, decide_false, Bool.not_true, Bool.not_false, Bool.false_and, Bool.and_false, List.contains_cons, List.contains_nil, beq_self_eq_true, Bool.true_or, Bool.or_true, Bool.or_false, Bool.false_or, List.all_cons, List.all_nil, Nat.reduceBEq, ev2, ev3, ev4, ev5, ev6, ev7, true_or, or_true, evFdO_eq, dl, Nat.reduceLT, true_and, false_and, if_true, if_false, Option.map_some, Option.bind_some, Int.cast_ofNat_Int, d294, tyIs, k1, eq_tup, e1, ei]
theorem r294n (n : Nat) (x : D) (β : BS) (h : tyIs (.c 4) x = some false) : rn (n + 1) 294 [roD P cs, x] β = some (.bl false, β) := by
  rw [u294]
  simp only [ev, List.getElem?_cons_zero, List.getElem?_cons_succ, List.set_cons_zero, List.set_cons_succ, List.length_cons, List.length_nil, Nat.reduceAdd, Nat.reduceLeDiff, Nat.reduceSub, ↓reduceIte, List.map_cons, List.map_nil, Bool.and_true, Bool.true_and, Bool.and_self, and_self, and_true, List.cons_append, List.nil_append, List.replicate_succ, List.replicate_zero, evFd_eq, decide_true, decide_false, Bool.not_true, Bool.not_false, Bool.false_and, Bool.and_false, List.contains_cons, List.contains_nil, beq_self_eq_true, Bool.true_or, Bool.or_true, Bool.or_false, Bool.false_or, List.all_cons, List.all_nil, Nat.reduceBEq, ev2, ev3, ev4, ev5, ev6, ev7, true_or, or_true, evFdO_eq, dl, Nat.reduceLT, true_and, false_and, if_true, if_false, Option.map_some, Option.bind_some, Int.cast_ofNat_Int, d294, h]
theorem tell_rd (ok : RcOk cs P) : (D.lst [.lst (cs.map chD), .int cs.length, .int P]).tell := by
  have hl := ok.len
  have hp := ok.pos
  have ht := ok.top
  have hc : ∀ c ∈ cs, c.1.natAbs < big ∧ c.2.natAbs < big := fun c hc => by
    have a := ok.rd.lo c.1 (List.mem_map.mpr ⟨c, hc, rfl⟩)
    have b := ok.rd.hi c.1 (List.mem_map.mpr ⟨c, hc, rfl⟩)
    have d := ok.pr c hc
    exact ⟨big_ok (by omega), big_ok (by omega)⟩
  refine ⟨?_, ?_, ?_⟩
  · show (D.oks (cs.map chD) 58 && true) = true
    rw [oks_ch 57]
    rfl
  · show (D.sms (cs.map chD) && (decide ((cs.length : Int).natAbs < big) && (decide (P.natAbs < big) && true))) = true
    rw [sms_ch hc, decide_eq_true (big_ok (by omega)), decide_eq_true (big_ok (by omega))]
    rfl
  · show 4 + (4 + D.wds (cs.map chD) + 2 + (101 + 2 + (101 + 2 + 0))) ≤ 1000000
    rw [wds_ch]
    omega
theorem Nm_Tm (ok : RcOk cs P) (k : Int) : Nm (tsO cs) P (Tm (tsO cs) P k) = k := by
  obtain ⟨a, b⟩ := Nm_ok ok.rd (Tm (tsO cs) P k)
  have c1 : ¬ k < Nm (tsO cs) P (Tm (tsO cs) P k) := fun h => by
    have := Tm_succ ok.rd k
    have := Tm_mono ok.rd (show k + 1 ≤ Nm (tsO cs) P (Tm (tsO cs) P k) by omega)
    omega
  have c2 : ¬ Nm (tsO cs) P (Tm (tsO cs) P k) < k := fun h => by
    have := Tm_mono ok.rd (show Nm (tsO cs) P (Tm (tsO cs) P k) + 1 ≤ k by omega)
    omega
  omega
theorem Nm_Tm1 (ok : RcOk cs P) (k : Int) : Nm (tsO cs) P (Tm (tsO cs) P k - 1) = k - 1 := by
  obtain ⟨a, b⟩ := Nm_ok ok.rd (Tm (tsO cs) P k - 1)
  have c1 : ¬ k ≤ Nm (tsO cs) P (Tm (tsO cs) P k - 1) := fun h => by
    have := Tm_mono ok.rd h
    omega
  have c2 : ¬ Nm (tsO cs) P (Tm (tsO cs) P k - 1) < k - 1 := fun h => by
    have := Tm_mono ok.rd (show Nm (tsO cs) P (Tm (tsO cs) P k - 1) + 1 ≤ k - 1 by omega)
    have := Tm_succ ok.rd (k - 1)
    rw [show k - 1 + 1 = k by omega] at this
    omega
  omega
def Fr692 (P : Int) (cs : List (Int × Int)) (env : Env) (_ : BS) : Prop := ∃ (s5 s7 s8 s9 s10 : Option D) (s6 : Option Sl), env = [some (.d .bag), some (.d (roD P cs)), some (.d (rdD P cs)), some (.d (.int P)), some (.d (.lst (cs.map chD))), s5.map .d, s6, s7.map .d, s8.map .d, s9.map .d, s10.map .d]
theorem r692 (n : Nat) (β : BS) (ok : RcOk cs P) : ∃ β', rn (n + 5) 692 [.bag, roD P cs, rdD P cs] β = some (.bl true, β') := by
  have hl := ok.len
  have q295 := fun β => r295F (P := P) (cs := cs) (n + 3) β (by omega)
  have q292 := fun β => r292 (P := P) (cs := cs) (n + 3) β
  have q293 := fun β => r293 (P := P) (cs := cs) (n + 3) β
  have q15 := fun β => r15 (n + 3) β (tell_rd ok)
  have q29 := p10 (k := 29) (by decide)
  have key : ∀ o, (∃ β', o = some (Out.ret (.bl true) β')) → ∃ β', kFd o = some (.bl true, β') := by
    rintro o ⟨β', rfl⟩
    exact ⟨β', rfl⟩
  have zz : (0 : Int) ≤ (cs.length : Int) ∧ (cs.length : Int) < 2 ^ 62 := by omega
  rw [u692]
  simp only [ev, List.getElem?_cons_zero, List.getElem?_cons_succ, List.set_cons_zero, List.set_cons_succ, List.length_cons, List.length_nil, Nat.reduceAdd, Nat.reduceLeDiff, Nat.reduceSub, ↓reduceIte, List.map_cons, List.map_nil, Bool.and_true, Bool.true_and, Bool.and_self, and_self, and_true, List.cons_append, List.nil_append, List.replicate_succ, List.replicate_zero, evFd_eq, decide_true, decide_false, Bool.not_true, Bool.not_false, Bool.false_and, Bool.and_false, List.contains_cons, List.contains_nil, beq_self_eq_true, Bool.true_or, Bool.or_true, Bool.or_false, Bool.false_or, List.all_cons, List.all_nil, Nat.reduceBEq, ev2, ev3, ev4, ev5, ev6, ev7, true_or, or_true, evFdO_eq, dl, Nat.reduceLT, true_and, false_and, if_true, if_false, Option.map_some, Option.bind_some, Int.cast_ofNat_Int, d692, bindT, bindTs]
  apply key
  refine for_keep (R := fun o => ∃ β', o = some (Out.ret (.bl true) β')) (fun env β' => β' = β ∧ ∃ (s5 : Option D) (s6 : Option Sl), env = [some (.d .bag), some (.d (roD P cs)), some (.d (rdD P cs)), some (.d (.int P)), some (.d (.lst (cs.map chD))), s5.map .d, s6, none, none, none, none]) ⟨rfl, none, none, rfl⟩ ?_ ?_
  · rintro x hx env β1 ⟨rfl, s5, s6, rfl⟩
    rw [bindN]
    simp only [ev, List.getElem?_cons_zero, List.getElem?_cons_succ, List.set_cons_zero, List.set_cons_succ, List.length_cons, List.length_nil, Nat.reduceAdd, Nat.reduceLeDiff, Nat.reduceSub, ↓reduceIte, List.map_cons, List.map_nil, Bool.and_true, Bool.true_and, Bool.and_self, and_self, and_true, List.cons_append, List.nil_append, List.replicate_succ, List.replicate_zero, evFd_eq, decide_true, decide_false, Bool.not_true, Bool.not_false, Bool.false_and, Bool.and_false, List.contains_cons, List.contains_nil, beq_self_eq_true, Bool.true_or, Bool.or_true, Bool.or_false, Bool.false_or, List.all_cons, List.all_nil, Nat.reduceBEq, ev2, ev3, ev4, ev5, ev6, ev7, true_or, or_true, evFdO_eq, dl, Nat.reduceLT, true_and, false_and, if_true, if_false, Option.map_some, Option.bind_some, Int.cast_ofNat_Int, q295, q292, q293, zz, List.length_map, q15, show cs.length < 1000000 by omega]
    exact ⟨_, _, rfl, rfl, some x, _, rfl⟩
  · rintro e2 β2 ⟨rfl, s5, s6, rfl⟩
    simp only [ev, List.getElem?_cons_zero, List.getElem?_cons_succ, List.set_cons_zero, List.set_cons_succ, List.length_cons, List.length_nil, Nat.reduceAdd, Nat.reduceLeDiff, Nat.reduceSub, ↓reduceIte, List.map_cons, List.map_nil, Bool.and_true, Bool.true_and, Bool.and_self, and_self, and_true, List.cons_append, List.nil_append, List.replicate_succ, List.replicate_zero, evFd_eq, decide_true, decide_false, Bool.not_true, Bool.not_false, Bool.false_and, Bool.and_false, List.contains_cons, List.contains_nil, beq_self_eq_true, Bool.true_or, Bool.or_true, Bool.or_false, Bool.false_or, List.all_cons, List.all_nil, Nat.reduceBEq, ev2, ev3, ev4, ev5, ev6, ev7, true_or, or_true, evFdO_eq, dl, Nat.reduceLT, true_and, false_and, if_true, if_false, Option.map_some, Option.bind_some, Int.cast_ofNat_Int]
    refine for_keep (R := fun o => ∃ β', o = some (Out.ret (.bl true) β')) (Fr692 P cs) ⟨s5, none, none, none, none, s6, rfl⟩ ?_ ?_
    · rintro x hx env β3 ⟨s5, s7, s8, s9, s10, s6, rfl⟩
      have f1 : (10 : Int) ^ (29 : Int).toNat = 10 ^ 29 := rfl
      have m9 : (9 : Int).natAbs < 2 ^ 64 := by decide
      have m9n : (-9 : Int).natAbs < 2 ^ 64 := by decide
      have n1 := Nm_bd (x := 9 * 10 ^ 29) (B := 10 ^ 30) ok (by omega)
      have n2 := Nm_bd (x := (-9) * 10 ^ 29) (B := 10 ^ 30) ok (by omega)
      have q1 := fun β => r691 (n + 3) (9 * 10 ^ 29) β ok (by omega)
      have q2 := fun β => r691 (n + 3) ((-9) * 10 ^ 29) β ok (by omega)
      obtain ⟨v, β4, e4, v0, v1⟩ := tk (n := n + 3) β3 40 (by decide)
      obtain ⟨y, β5, e5, hy⟩ := r11 (n + 2) [.int (Nm (tsO cs) P (9 * 10 ^ 29)), .int (Nm (tsO cs) P ((-9) * 10 ^ 29)), .int (v - 20)] β4 (by simp)
      obtain ⟨k, rfl, k0⟩ : ∃ k : Int, y = .int k ∧ -(10 ^ 32) ≤ k ∧ k ≤ 10 ^ 32 := by
        simp only [List.mem_cons, List.not_mem_nil, or_false] at hy
        rcases hy with rfl | rfl | rfl
        · exact ⟨_, rfl, by omega⟩
        · exact ⟨_, rfl, by omega⟩
        · exact ⟨_, rfl, by omega⟩
      have tb := Tm_bd (B := 10 ^ 32) (k := k) ok (by decide) k0
      have q3 := r688 (n + 3) k β5 ok (by omega)
      have q4 := r296 (n + 3) k β5 ok
      have q5 := r297 (n + 3) k β5 ok (by omega)
      have q6 := r689 (n + 3) k β5 ok (by omega)
      have q7 := r298 (n + 3) (Tm (tsO cs) P k) β5 ok (by omega)
      have q8 := r298 (n + 3) (Tm (tsO cs) P k - 1) β5 ok (by omega)
      rw [Nm_Tm ok] at q7
      rw [Nm_Tm1 ok] at q8
      have pb := prc_bd ok k
      have qa : ∀ β, rn (n + 4) 15 [D.lst [.int (prc cs k), .int (Tm (tsO cs) P k)], D.lst [.int (prc cs k), .int (Tm (tsO cs) P k)]] β = some (.bl true, β) := fun β => r15 (n + 3) β (tell_ints (ns := [prc cs k, Tm (tsO cs) P k]) (fun i hi => by
        simp only [List.mem_cons, List.not_mem_nil, or_false] at hi
        rcases hi with rfl | rfl
        · exact big_ok (by omega)
        · exact big_ok9 (by omega)) (by show 2 ≤ 1000; decide))
      have qb : ∀ β, rn (n + 4) 15 [D.lst [.int k, .int (k - 1)], D.lst [.int k, .int (k - 1)]] β = some (.bl true, β) := fun β => r15 (n + 3) β (tell_ints (ns := [k, k - 1]) (fun i hi => by
        simp only [List.mem_cons, List.not_mem_nil, or_false] at hi
        rcases hi with rfl | rfl <;> exact big_ok (by omega)) (by show 2 ≤ 1000; decide))
      obtain ⟨z, β6, e6, z0⟩ := r690 (n + 1) P cs β5 ok
      obtain ⟨w1, w2⟩ := Nm_ok ok.rd z
      have nz := Nm_bd (x := z) (B := 10 ^ 33) ok (by omega)
      have q9 := r298 (n + 3) z β6 ok (by omega)
      have qc := r582 (n + 3) (Nm (tsO cs) P z) β6
      have qd := r688 (n + 3) (Nm (tsO cs) P z) β6 ok (by omega)
      have qe := r688 (n + 3) (Nm (tsO cs) P z + 1) β6 ok (by omega)
      have d1 : decide (z < Tm (tsO cs) P (Nm (tsO cs) P z)) = false := decide_eq_false (by omega)
      have d2 : decide (Tm (tsO cs) P (Nm (tsO cs) P z + 1) ≤ z) = false := decide_eq_false (by omega)
      rw [bindN]
      simp only [ev, List.getElem?_cons_zero, List.getElem?_cons_succ, List.set_cons_zero, List.set_cons_succ, List.length_cons, List.length_nil, Nat.reduceAdd, Nat.reduceLeDiff, Nat.reduceSub, ↓reduceIte, List.map_cons, List.map_nil, Bool.and_true, Bool.true_and, Bool.and_self, and_self, and_true, List.cons_append, List.nil_append, List.replicate_succ, List.replicate_zero, evFd_eq, decide_true, decide_false, Bool.not_true, Bool.not_false, Bool.false_and, Bool.and_false, List.contains_cons, List.contains_nil, beq_self_eq_true, Bool.true_or, Bool.or_true, Bool.or_false, Bool.false_or, List.all_cons, List.all_nil, Nat.reduceBEq, ev2, ev3, ev4, ev5, ev6, ev7, true_or, or_true, evFdO_eq, dl, Nat.reduceLT, true_and, false_and, if_true, if_false, Option.map_some, Option.bind_some, Int.cast_ofNat_Int, q29, f1, m9, m9n, q1, q2, e4, e5, q3, q4, q5, q6, q7, q8, qa, qb, e6, q9, qc, qd, qe, d1, d2]
      exact ⟨_, _, rfl, s5, some x, some _, some _, some _, s6, rfl⟩
    · rintro e2 β3 ⟨s5, s7, s8, s9, s10, s6, rfl⟩
      simp only [ev, List.getElem?_cons_zero, List.getElem?_cons_succ, List.set_cons_zero, List.set_cons_succ, List.length_cons, List.length_nil, Nat.reduceAdd, Nat.reduceLeDiff, Nat.reduceSub, ↓reduceIte, List.map_cons, List.map_nil, Bool.and_true, Bool.true_and, Bool.and_self, and_self, and_true, List.cons_append, List.nil_append, List.replicate_succ, List.replicate_zero, evFd_eq, decide_true, decide_false, Bool.not_true, Bool.not_false, Bool.false_and, Bool.and_false, List.contains_cons, List.contains_nil, beq_self_eq_true, Bool.true_or, Bool.or_true, Bool.or_false, Bool.false_or, List.all_cons, List.all_nil, Nat.reduceBEq, ev2, ev3, ev4, ev5, ev6, ev7, true_or, or_true, evFdO_eq, dl, Nat.reduceLT, true_and, false_and, if_true, if_false, Option.map_some, Option.bind_some, Int.cast_ofNat_Int]
      exact ⟨β3, rfl⟩
end
theorem cutA8 (xs : List D) (k : Nat) (h : k ≤ xs.length) : cutD xs none (some (k : Int)) = xs.take k := by
  unfold cutD HT.sIx
  simp only [show ¬ ((k : Int) < 0) by omega, if_false, Int.toNat_natCast, List.drop_zero, Nat.sub_zero]
  rw [Nat.min_eq_left h]
theorem cutB8 (xs : List D) (k : Nat) (h : k ≤ xs.length) : cutD xs (some (k : Int)) none = xs.drop k := by
  unfold cutD HT.sIx
  simp only [show ¬ ((k : Int) < 0) by omega, if_false, Int.toNat_natCast]
  rw [Nat.min_eq_left h]
  exact List.take_of_length_le (by rw [List.length_drop]; exact Nat.le_refl _)
theorem ts_set (cs : List (Int × Int)) (k : Nat) (v : Int × Int) : tsO (cs.set k v) = (tsO cs).set k v.1 := by
  unfold tsO
  rw [List.map_set]
theorem set_asc {l : List Int} (h : l.Pairwise (· < ·)) {k : Nat} (hk : k < l.length) (hn : ∀ (h1 : k + 1 < l.length), l[k] + 1 < l[k + 1]) : (l.set k (l[k] + 1)).Pairwise (· < ·) := by
  rw [List.pairwise_iff_getElem] at h ⊢
  intro i j hi hj hij
  rw [List.length_set] at hi hj
  rw [List.getElem_set, List.getElem_set]
  by_cases c1 : k = i
  · subst c1
    rw [if_pos rfl, if_neg (by omega)]
    have a := hn (by omega)
    by_cases c2 : j = k + 1
    · subst c2
      exact a
    · have := h (k + 1) j (by omega) hj (by omega)
      omega
  · rw [if_neg c1]
    by_cases c2 : k = j
    · subst c2
      rw [if_pos rfl]
      have := h i k hi hk hij
      omega
    · rw [if_neg c2]
      exact h i j hi hj hij
theorem r693 (n : Nat) (P : Int) (cs : List (Int × Int)) (β : BS) (ok : RcOk cs P) : ∃ Q ds β', rn (n + 2) 693 [.bag, rdD P cs] β = some (rdD Q ds, β') ∧ RcW ds Q := by
  have hl := ok.len
  have hne := ok.ne
  obtain ⟨w, β1, e1, w0, w1⟩ := tk (n := n) β 5 (by decide)
  obtain ⟨a, β2, e2, a0, a1⟩ := tk (n := n) β1 (cs.length : Int) ⟨by omega, big_ok (by omega)⟩
  have hw := ok.w
  have hk : a.toNat < cs.length := by omega
  have ea : a = (a.toNat : Int) := by omega
  have at1 := atI_I chD cs (i := a) (0, 0) a0 a1
  have ix : ixN cs.length a = some a.toNat := by
    unfold ixN
    rw [if_pos a0, if_pos (by omega)]
  have gm : cs.getD a.toNat (0, 0) ∈ cs := by
    rw [List.getD, List.getElem?_eq_getElem hk]
    exact List.getElem_mem _
  have ge : cs.getD a.toNat (0, 0) = cs[a.toNat] := by
    rw [List.getD, List.getElem?_eq_getElem hk]
    rfl
  have p0 := (ok.pr _ gm).1
  have st : ∀ v : Int × Int, (cs.map chD).set a.toNat (prD v.1 v.2) = (cs.set a.toNat v).map chD := fun v => by rw [List.map_set]; rfl
  have tg : (tsO cs)[a.toNat]'(by rw [ts_len]; exact hk) = (cs.getD a.toNat (0, 0)).1 := by
    rw [ge]
    unfold tsO
    rw [List.getElem_map]
  have key : ∀ o, (∃ Q ds β', o = some (Out.ret (rdD Q ds) β') ∧ RcW ds Q) → ∃ Q ds β', kFd o = some (rdD Q ds, β') ∧ RcW ds Q := by
    rintro o ⟨Q, ds, β', rfl, h⟩
    exact ⟨Q, ds, β', rfl, h⟩
  rw [u693]
  have ww : w = 0 ∨ w = 1 ∨ w = 2 ∨ w = 3 ∨ w = 4 := by omega
  rcases ww with rfl | rfl | rfl | rfl | rfl
  · refine ⟨P + 1, cs, β2, ?_, ⟨⟨hw.rd.ne, hw.rd.srt, hw.rd.lo, fun t ht => by have := hw.rd.hi t ht; omega⟩, hw.pr, hw.len⟩⟩
    simp only [ev, List.getElem?_cons_zero, List.getElem?_cons_succ, List.set_cons_zero, List.set_cons_succ, List.length_cons, List.length_nil, Nat.reduceAdd, Nat.reduceLeDiff, Nat.reduceSub, ↓reduceIte, List.map_cons, List.map_nil, Bool.and_true, Bool.true_and, Bool.and_self, and_self, and_true, List.cons_append, List.nil_append, List.replicate_succ, List.replicate_zero, evFd_eq, decide_true, decide_false, Bool.not_true, Bool.not_false, Bool.false_and, Bool.and_false, List.contains_cons, List.contains_nil, beq_self_eq_true, Bool.true_or, Bool.or_true, Bool.or_false, Bool.false_or, List.all_cons, List.all_nil, Nat.reduceBEq, ev2, ev3, ev4, ev5, ev6, ev7, true_or, or_true, evFdO_eq, dl, Nat.reduceLT, true_and, false_and, if_true, if_false, Option.map_some, Option.bind_some, Int.cast_ofNat_Int, d693, e1, List.length_map, e2]
  · refine ⟨P, cs.set a.toNat ((cs.getD a.toNat (0, 0)).1, (cs.getD a.toNat (0, 0)).2 + 1), β2, ?_, ⟨?_, fun c hc => ?_, by rw [List.length_set]; exact hl⟩⟩
    · have s1 := st ((cs.getD a.toNat (0, 0)).1, (cs.getD a.toNat (0, 0)).2 + 1)
      simp only [ev, List.getElem?_cons_zero, List.getElem?_cons_succ, List.set_cons_zero, List.set_cons_succ, List.length_cons, List.length_nil, Nat.reduceAdd, Nat.reduceLeDiff, Nat.reduceSub, ↓reduceIte, List.map_cons, List.map_nil, Bool.and_true, Bool.true_and, Bool.and_self, and_self, and_true, List.cons_append, List.nil_append, List.replicate_succ, List.replicate_zero, evFd_eq, decide_true, decide_false, Bool.not_true, Bool.not_false, Bool.false_and, Bool.and_false, List.contains_cons, List.contains_nil, beq_self_eq_true, Bool.true_or, Bool.or_true, Bool.or_false, Bool.false_or, List.all_cons, List.all_nil, Nat.reduceBEq, ev2, ev3, ev4, ev5, ev6, ev7, true_or, or_true, evFdO_eq, dl, Nat.reduceLT, true_and, false_and, if_true, if_false, Option.map_some, Option.bind_some, Int.cast_ofNat_Int, d693, e1, List.length_map, e2, show ((1 : Int) == 0) = false from rfl, show ((1 : Int) == 2) = false from rfl, show ((1 : Int) == 3) = false from rfl, at1, chD, ix, s1]
    · have : tsO (cs.set a.toNat ((cs.getD a.toNat (0, 0)).1, (cs.getD a.toNat (0, 0)).2 + 1)) = tsO cs := by
        rw [ts_set]
        dsimp only
        rw [← tg]
        exact List.set_getElem_self _
      rw [this]
      exact hw.rd
    · rcases List.mem_or_eq_of_mem_set hc with h | h
      · exact hw.pr c h
      · rw [h]
        dsimp only
        omega
  · by_cases c : 1 < cs.length
    · have c' : decide ((1 : Int) < cs.length) = true := decide_eq_true (by omega)
      have x1 : cutD (cs.map chD) none (some a) = (cs.take a.toNat).map chD := by
        rw [ea, cutA8 _ _ (by rw [List.length_map]; omega), List.map_take]
        rfl
      have x2 : cutD (cs.map chD) (some (a + 1)) none = (cs.drop (a.toNat + 1)).map chD := by
        rw [show a + 1 = ((a.toNat + 1 : Nat) : Int) by omega, cutB8 _ _ (by rw [List.length_map]; omega), List.map_drop]
      have xl : (cs.take a.toNat).length + (cs.drop (a.toNat + 1)).length = cs.length - 1 := by
        rw [List.length_take, List.length_drop]
        omega
      have sb : List.Sublist (cs.take a.toNat ++ cs.drop (a.toNat + 1)) cs := by
        have h1 : List.Sublist (cs.take a.toNat ++ cs.drop (a.toNat + 1)) (cs.take a.toNat ++ cs.drop a.toNat) := List.Sublist.append (List.Sublist.refl _) (by
          rw [show cs.drop (a.toNat + 1) = (cs.drop a.toNat).drop 1 by rw [List.drop_drop]]
          exact List.drop_sublist _ _)
        rwa [List.take_append_drop] at h1
      refine ⟨P, cs.take a.toNat ++ cs.drop (a.toNat + 1), β2, ?_, ⟨⟨?_, ?_, fun t ht => ?_, fun t ht => ?_⟩, fun c hc => hw.pr c (sb.subset hc), ?_⟩⟩
      · simp only [ev, List.getElem?_cons_zero, List.getElem?_cons_succ, List.set_cons_zero, List.set_cons_succ, List.length_cons, List.length_nil, Nat.reduceAdd, Nat.reduceLeDiff, Nat.reduceSub, ↓reduceIte, List.map_cons, List.map_nil, Bool.and_true, Bool.true_and, Bool.and_self, and_self, and_true, List.cons_append, List.nil_append, List.replicate_succ, List.replicate_zero, evFd_eq, decide_true, decide_false, Bool.not_true, Bool.not_false, Bool.false_and, Bool.and_false, List.contains_cons, List.contains_nil, beq_self_eq_true, Bool.true_or, Bool.or_true, Bool.or_false, Bool.false_or, List.all_cons, List.all_nil, Nat.reduceBEq, ev2, ev3, ev4, ev5, ev6, ev7, true_or, or_true, evFdO_eq, dl, Nat.reduceLT, true_and, false_and, if_true, if_false, Option.map_some, Option.bind_some, Int.cast_ofNat_Int, d693, e1, List.length_map, e2, show ((2 : Int) == 0) = false from rfl, show ((2 : Int) == 1) = false from rfl, c', x1, x2, show (cs.take a.toNat).length + (cs.drop (a.toNat + 1)).length ≤ 1000000 by omega]
        rw [← List.map_append]
      · rw [ts_len, List.length_append]
        omega
      · unfold tsO
        exact List.Pairwise.sublist (sb.map _) hw.rd.srt
      · exact hw.rd.lo t ((sb.map (·.1)).subset ht)
      · exact hw.rd.hi t ((sb.map (·.1)).subset ht)
      · rw [List.length_append]
        omega
    · have c' : decide ((1 : Int) < cs.length) = false := decide_eq_false (by omega)
      refine ⟨P, cs, β2, ?_, hw⟩
      simp only [ev, List.getElem?_cons_zero, List.getElem?_cons_succ, List.set_cons_zero, List.set_cons_succ, List.length_cons, List.length_nil, Nat.reduceAdd, Nat.reduceLeDiff, Nat.reduceSub, ↓reduceIte, List.map_cons, List.map_nil, Bool.and_true, Bool.true_and, Bool.and_self, and_self, and_true, List.cons_append, List.nil_append, List.replicate_succ, List.replicate_zero, evFd_eq, decide_true, decide_false, Bool.not_true, Bool.not_false, Bool.false_and, Bool.and_false, List.contains_cons, List.contains_nil, beq_self_eq_true, Bool.true_or, Bool.or_true, Bool.or_false, Bool.false_or, List.all_cons, List.all_nil, Nat.reduceBEq, ev2, ev3, ev4, ev5, ev6, ev7, true_or, or_true, evFdO_eq, dl, Nat.reduceLT, true_and, false_and, if_true, if_false, Option.map_some, Option.bind_some, Int.cast_ofNat_Int, d693, e1, List.length_map, e2, show ((2 : Int) == 0) = false from rfl, show ((2 : Int) == 1) = false from rfl, show ((2 : Int) == 3) = false from rfl, c']
  · have ap : cs.map chD ++ [prD P 0] = (cs ++ [(P, 0)]).map chD := by
      rw [List.map_append]
      rfl
    have at2 := atI_I chD (cs ++ [(P, 0)]) (i := a + 1) (0, 0) (by omega) (by rw [List.length_append, List.length_singleton]; omega)
    rw [show (a + 1).toNat = a.toNat + 1 by omega] at at2
    by_cases c : (cs.getD a.toNat (0, 0)).1 + 1 < ((cs ++ [(P, 0)]).getD (a.toNat + 1) (0, 0)).1
    · have c' : decide ((cs.getD a.toNat (0, 0)).1 + 1 < ((cs ++ [(P, 0)]).getD (a.toNat + 1) (0, 0)).1) = true := decide_eq_true c
      have s1 := st ((cs.getD a.toNat (0, 0)).1 + 1, (cs.getD a.toNat (0, 0)).2)
      have nx : ∀ h1 : a.toNat + 1 < (tsO cs).length, (tsO cs)[a.toNat]'(by omega) + 1 < (tsO cs)[a.toNat + 1] := fun h1 => by
        rw [tg]
        rw [ts_len] at h1
        have : ((cs ++ [(P, 0)]).getD (a.toNat + 1) (0, 0)).1 = (tsO cs)[a.toNat + 1]'(by rw [ts_len]; exact h1) := by
          unfold tsO
          rw [List.getElem_map, List.getD, List.getElem?_append_left h1, List.getElem?_eq_getElem h1]
          rfl
        omega
      have tsr : tsO (cs.set a.toNat ((cs.getD a.toNat (0, 0)).1 + 1, (cs.getD a.toNat (0, 0)).2)) = (tsO cs).set a.toNat ((tsO cs)[a.toNat]'(by rw [ts_len]; exact hk) + 1) := by
        rw [ts_set, tg]
      have lt : (cs.getD a.toNat (0, 0)).1 + 1 < P := by
        by_cases c3 : a.toNat + 1 < cs.length
        · have k1 := nx (by rw [ts_len]; exact c3)
          rw [tg] at k1
          have := hw.rd.hi _ (List.getElem_mem (l := tsO cs) (n := a.toNat + 1) (by rw [ts_len]; exact c3))
          omega
        · have : ((cs ++ [(P, 0)]).getD (a.toNat + 1) (0, 0)).1 = P := by
            rw [List.getD, List.getElem?_append_right (by omega), show a.toNat + 1 - cs.length = 0 by omega]
            rfl
          omega
      have lo1 := hw.rd.lo _ (List.mem_map.mpr ⟨_, gm, rfl⟩)
      refine ⟨P, cs.set a.toNat ((cs.getD a.toNat (0, 0)).1 + 1, (cs.getD a.toNat (0, 0)).2), β2, ?_, ⟨⟨?_, ?_, fun t ht => ?_, fun t ht => ?_⟩, fun c hc => ?_, by rw [List.length_set]; exact hl⟩⟩
      · simp only [ev, List.getElem?_cons_zero, List.getElem?_cons_succ, List.set_cons_zero, List.set_cons_succ, List.length_cons, List.length_nil, Nat.reduceAdd, Nat.reduceLeDiff, Nat.reduceSub, ↓reduceIte, List.map_cons, List.map_nil, Bool.and_true, Bool.true_and, Bool.and_self, and_self, and_true, List.cons_append, List.nil_append, List.replicate_succ, List.replicate_zero, evFd_eq, decide_true, decide_false, Bool.not_true, Bool.not_false, Bool.false_and, Bool.and_false, List.contains_cons, List.contains_nil, beq_self_eq_true, Bool.true_or, Bool.or_true, Bool.or_false, Bool.false_or, List.all_cons, List.all_nil, Nat.reduceBEq, ev2, ev3, ev4, ev5, ev6, ev7, true_or, or_true, evFdO_eq, dl, Nat.reduceLT, true_and, false_and, if_true, if_false, Option.map_some, Option.bind_some, Int.cast_ofNat_Int, d693, e1, List.length_map, e2, show ((3 : Int) == 0) = false from rfl, show ((3 : Int) == 1) = false from rfl, show ((3 : Int) == 2) = false from rfl, at1, chD, show cs.length + 1 ≤ 1000000 by omega]
        rw [show cs.map chD ++ [D.tup [D.int P, D.int 0]] = (cs ++ [(P, 0)]).map chD from ap]
        simp only [ev, List.getElem?_cons_zero, List.getElem?_cons_succ, List.set_cons_zero, List.set_cons_succ, List.length_cons, List.length_nil, Nat.reduceAdd, Nat.reduceLeDiff, Nat.reduceSub, ↓reduceIte, List.map_cons, List.map_nil, Bool.and_true, Bool.true_and, Bool.and_self, and_self, and_true, List.cons_append, List.nil_append, List.replicate_succ, List.replicate_zero, evFd_eq, decide_true, decide_false, Bool.not_true, Bool.not_false, Bool.false_and, Bool.and_false, List.contains_cons, List.contains_nil, beq_self_eq_true, Bool.true_or, Bool.or_true, Bool.or_false, Bool.false_or, List.all_cons, List.all_nil, Nat.reduceBEq, ev2, ev3, ev4, ev5, ev6, ev7, true_or, or_true, evFdO_eq, dl, Nat.reduceLT, true_and, false_and, if_true, if_false, Option.map_some, Option.bind_some, Int.cast_ofNat_Int, at1, at2, chD, List.length_map, c', ix, s1]
      · rw [tsr, List.length_set]
        exact hw.rd.ne
      · rw [tsr]
        exact set_asc hw.rd.srt (by rw [ts_len]; exact hk) nx
      · rw [ts_set] at ht
        rcases List.mem_or_eq_of_mem_set ht with h | h
        · exact hw.rd.lo t h
        · rw [h]
          dsimp only
          omega
      · rw [ts_set] at ht
        rcases List.mem_or_eq_of_mem_set ht with h | h
        · exact hw.rd.hi t h
        · rw [h]
          exact lt
      · rcases List.mem_or_eq_of_mem_set hc with h | h
        · exact hw.pr c h
        · rw [h]
          exact p0
    · have c' : decide ((cs.getD a.toNat (0, 0)).1 + 1 < ((cs ++ [(P, 0)]).getD (a.toNat + 1) (0, 0)).1) = false := decide_eq_false c
      refine ⟨P, cs, β2, ?_, hw⟩
      simp only [ev, List.getElem?_cons_zero, List.getElem?_cons_succ, List.set_cons_zero, List.set_cons_succ, List.length_cons, List.length_nil, Nat.reduceAdd, Nat.reduceLeDiff, Nat.reduceSub, ↓reduceIte, List.map_cons, List.map_nil, Bool.and_true, Bool.true_and, Bool.and_self, and_self, and_true, List.cons_append, List.nil_append, List.replicate_succ, List.replicate_zero, evFd_eq, decide_true, decide_false, Bool.not_true, Bool.not_false, Bool.false_and, Bool.and_false, List.contains_cons, List.contains_nil, beq_self_eq_true, Bool.true_or, Bool.or_true, Bool.or_false, Bool.false_or, List.all_cons, List.all_nil, Nat.reduceBEq, ev2, ev3, ev4, ev5, ev6, ev7, true_or, or_true, evFdO_eq, dl, Nat.reduceLT, true_and, false_and, if_true, if_false, Option.map_some, Option.bind_some, Int.cast_ofNat_Int, d693, e1, List.length_map, e2, show ((3 : Int) == 0) = false from rfl, show ((3 : Int) == 1) = false from rfl, show ((3 : Int) == 2) = false from rfl, at1, chD, show cs.length + 1 ≤ 1000000 by omega]
      rw [show cs.map chD ++ [D.tup [D.int P, D.int 0]] = (cs ++ [(P, 0)]).map chD from ap]
      simp only [ev, List.getElem?_cons_zero, List.getElem?_cons_succ, List.set_cons_zero, List.set_cons_succ, List.length_cons, List.length_nil, Nat.reduceAdd, Nat.reduceLeDiff, Nat.reduceSub, ↓reduceIte, List.map_cons, List.map_nil, Bool.and_true, Bool.true_and, Bool.and_self, and_self, and_true, List.cons_append, List.nil_append, List.replicate_succ, List.replicate_zero, evFd_eq, decide_true, decide_false, Bool.not_true, Bool.not_false, Bool.false_and, Bool.and_false, List.contains_cons, List.contains_nil, beq_self_eq_true, Bool.true_or, Bool.or_true, Bool.or_false, Bool.false_or, List.all_cons, List.all_nil, Nat.reduceBEq, ev2, ev3, ev4, ev5, ev6, ev7, true_or, or_true, evFdO_eq, dl, Nat.reduceLT, true_and, false_and, if_true, if_false, Option.map_some, Option.bind_some, Int.cast_ofNat_Int, at1, at2, chD, c']
  · refine ⟨P, cs, β2, ?_, hw⟩
    simp only [ev, List.getElem?_cons_zero, List.getElem?_cons_succ, List.set_cons_zero, List.set_cons_succ, List.length_cons, List.length_nil, Nat.reduceAdd, Nat.reduceLeDiff, Nat.reduceSub, ↓reduceIte, List.map_cons, List.map_nil, Bool.and_true, Bool.true_and, Bool.and_self, and_self, and_true, List.cons_append, List.nil_append, List.replicate_succ, List.replicate_zero, evFd_eq, decide_true, decide_false, Bool.not_true, Bool.not_false, Bool.false_and, Bool.and_false, List.contains_cons, List.contains_nil, beq_self_eq_true, Bool.true_or, Bool.or_true, Bool.or_false, Bool.false_or, List.all_cons, List.all_nil, Nat.reduceBEq, ev2, ev3, ev4, ev5, ev6, ev7, true_or, or_true, evFdO_eq, dl, Nat.reduceLT, true_and, false_and, if_true, if_false, Option.map_some, Option.bind_some, Int.cast_ofNat_Int, d693, e1, List.length_map, e2, show ((4 : Int) == 0) = false from rfl, show ((4 : Int) == 1) = false from rfl, show ((4 : Int) == 2) = false from rfl, show ((4 : Int) == 3) = false from rfl]
end LT

namespace LT
open PySem PySem.Spec PyProof.Rows L2
theorem tkC {n : Nat} (β : BS) (m : Int) (h : 0 < m ∧ m.natAbs < big) : ∃ v β', rn (n + 1) 10 [.bag, .int m] β = some (.int v, β') ∧ 0 ≤ v ∧ v < m ∧ β'.cell = β.cell := by
  rw [u10]
  refine ⟨(β.take m).1, (β.take m).2, if_pos h, (BS.take_range β h.1).1, (BS.take_range β h.1).2, ?_⟩
  unfold BS.take
  dsimp only
  split <;> exact turn_cell β
theorem tell_b3 (a b c : Bool) : (D.lst [.bl a, .bl b, .bl c]).tell := ⟨rfl, rfl, by show 4 + (101 + 2 + (101 + 2 + (101 + 2 + 0))) ≤ 1000000; decide⟩
theorem eq_lst (a b : List D) : D.eq (.lst a) (.lst b) = D.eqs a b := by simp only [D.eq]
theorem eq_rd (P : Int) (cs : List (Int × Int)) (Q : Int) (ds : List (Int × Int)) : D.eq (rdD Q ds) (rdD P cs) = sameR P cs Q ds := by
  rw [← sameR_sym]
  unfold sameR
  show ((Q == P) && (D.eq (.lst (ds.map chD)) (.lst (cs.map chD)) && true)) = _
  rw [eq_lst, eqs_ch, Bool.and_true, Bool.eq_iff_iff]
  simp
theorem ok_rd (P : Int) (cs : List (Int × Int)) : D.ok (rdD P cs) 60 = true := by
  show (true && (D.oks (cs.map chD) 58 && true)) = true
  rw [oks_ch 57]
  rfl
def Fr80 (env : Env) (_ : BS) : Prop := ∃ (s2 s3 s5 s6 s7 s8 s9 : Option D) (s4 : Option Sl), env = [none, some (.d .bag), s2.map .d, s3.map .d, s4, s5.map .d, s6.map .d, s7.map .d, s8.map .d, s9.map .d]
theorem law80 (n : Nat) (β : BS) : ∃ β', evSs (rn (n + 6)) (d694.body.drop 1) (none :: some (.d .bag) :: List.replicate (d694.N.length - 2) none) β = some (.ret (.bl true) β') := by
  show ∃ β', evSs (rn (n + 6)) [_, _] [none, some (.d .bag), none, none, none, none, none, none, none, none] β = _
  refine for_keep (R := fun o => ∃ β', o = some (.ret (.bl true) β')) Fr80 ⟨none, none, none, none, none, none, none, none, rfl⟩ ?_ ?_
  · rintro x hx env β ⟨s2, s3, s5, s6, s7, s8, s9, s4, rfl⟩
    obtain ⟨P, cs, β1, e1, ok⟩ := r273 (n + 3) 6 β (by decide)
    obtain ⟨v, β2, e2, v0, v1, hc⟩ := tkC (n := n + 5) β1 2 (by decide)
    have hl := ok.len
    obtain ⟨β3, e3⟩ := r692 (n + 1) β2 ok
    have mv := r100291v (n + 2) β2 ok.w
    have mt := r100291t (n + 2) β2 ok.w
    have lfR : (roD P cs).lf = true := by
      simp only [D.lf, D.lfs, lfs_ch]
      rfl
    have q294 := fun Q ds β => r294 (P := P) (cs := cs) (n + 5) Q ds β
    have q294b := fun Q ds β => r294 (P := Q) (cs := ds) (n + 5) P cs β
    have qn1 := fun β => r294n (P := P) (cs := cs) (n + 5) (rdD P cs) β rfl
    have qn2 := fun β => r294n (P := P) (cs := cs) (n + 5) .non β rfl
    have qn3 := fun β => r294n (P := P) (cs := cs) (n + 5) (.lst (cs.map chD)) β rfl
    have q15 := fun a b c β => r15 (n + 5) β (tell_b3 a b c)
    have at0 : ∀ (xs : List D) (x : D), atI (x :: xs) 0 = some x := fun xs x => atI_nat (xs := x :: xs) (j := 0) rfl
    have at1 : ∀ (xs : List D) (x y : D), atI (x :: y :: xs) 1 = some y := fun xs x y => atI_nat (xs := x :: y :: xs) (j := 1) rfl
    have ty1 : tyIs (.c 4) (rdD P cs) = some false := rfl
    have ty2 : tyIs (.c 4) D.non = some false := rfl
    have ty3 : tyIs (.c 4) (D.lst (cs.map chD)) = some false := rfl
    have ty4 : ∀ Q ds, tyIs (.c 4) (roD Q ds) = some true := fun _ _ => rfl
    have tail : ∃ e2 β2', evSs (rn (n + 6)) [.forS (.name 6) (.rng1 (.cst (.int 2))) [.asg (.name 7) (.call 693 [.var 1, .var 3]), .par2 false false 8 9 (.make 4 100291 [.ix (.var 7) (.cst (.int 0)), .ix (.var 7) (.cst (.int 1))] []) (.cmp .Eq (.var 7) (.var 3)), .ifs (.not (.tru (.call 15 [.lst [.prim (.eqO 4 294 false) [.var 5, .var 8], .prim (.eqO 4 294 false) [.var 8, .var 5], .prim (.eqO 4 294 true) [.var 5, .var 8]], .lst [.var 9, .var 9, .notV (.var 9)]]))) [.ret (.cst (.bool false))] []], .ifs (.not (.tru (.call 15 [.lst [.prim (.eqO 4 294 false) [.var 5, .var 3], .prim (.eqO 4 294 false) [.var 5, .cst .none], .prim (.eqO 4 294 false) [.var 5, .ix (.var 3) (.cst (.int 1))]], .lst [.cst (.bool false), .cst (.bool false), .cst (.bool false)]]))) [.ret (.cst (.bool false))] []] [none, some (.d .bag), some (.d x), some (.d (rdD P cs)), some (.own (cs.map chD ++ [.tup [.int P, .int 5]])), some (.d (roD P cs)), s6.map .d, s7.map .d, s8.map .d, s9.map .d] β3 = some (.nx e2 β2') ∧ Fr80 e2 β2' := by
      simp only [ev, List.getElem?_cons_zero, List.getElem?_cons_succ, List.set_cons_zero, List.set_cons_succ, List.length_cons, List.length_nil, Nat.reduceAdd, Nat.reduceLeDiff, Nat.reduceSub, ↓reduceIte, List.map_cons, List.map_nil, Bool.and_true, Bool.true_and, Bool.and_self, and_self, and_true, List.cons_append, List.nil_append, List.replicate_succ, List.replicate_zero, evFd_eq, decide_true, decide_false, Bool.not_true, Bool.not_false, Bool.false_and, Bool.and_false, List.contains_cons, List.contains_nil, beq_self_eq_true, Bool.true_or, Bool.or_true, Bool.or_false, Bool.false_or, List.all_cons, List.all_nil, Nat.reduceBEq, ev2, ev3, ev4, ev5, ev6, ev7, true_or, or_true, evFdO_eq, dl, Nat.reduceLT, true_and, false_and, if_true, if_false, Option.map_some, Option.bind_some, Int.cast_ofNat_Int]
      refine for_keep (R := fun o => ∃ e2 β2', o = some (.nx e2 β2') ∧ Fr80 e2 β2') (fun env _ => ∃ s6 s7 s8 s9 : Option D, env = [none, some (.d .bag), some (.d x), some (.d (rdD P cs)), some (.own (cs.map chD ++ [.tup [.int P, .int 5]])), some (.d (roD P cs)), s6.map .d, s7.map .d, s8.map .d, s9.map .d]) ⟨s6, s7, s8, s9, rfl⟩ ?_ ?_
      · rintro y hy env β4 ⟨s6, s7, s8, s9, rfl⟩
        obtain ⟨Q, ds, β5, e5, ok2⟩ := r693 (n + 4) P cs β4 ok
        have mo := r100291v (n + 2) β5 ok2
        have q1 := q294 Q ds β5
        have q2 := q294b Q ds β5
        rw [sameR_sym] at q2
        have eq1 := eq_rd P cs Q ds
        have o1 := ok_rd P cs
        have o2 := ok_rd Q ds
        rw [bindN]
        generalize sameR P cs Q ds = b at *
        have q3 := q15 b b (!b) β5
        simp only [ev, List.getElem?_cons_zero, List.getElem?_cons_succ, List.set_cons_zero, List.set_cons_succ, List.length_cons, List.length_nil, Nat.reduceAdd, Nat.reduceLeDiff, Nat.reduceSub, ↓reduceIte, List.map_cons, List.map_nil, Bool.and_true, Bool.true_and, Bool.and_self, and_self, and_true, List.cons_append, List.nil_append, List.replicate_succ, List.replicate_zero, evFd_eq, decide_true, decide_false, Bool.not_true, Bool.not_false, Bool.false_and, Bool.and_false, List.contains_cons, List.contains_nil, beq_self_eq_true, Bool.true_or, Bool.or_true, Bool.or_false, Bool.false_or, List.all_cons, List.all_nil, Nat.reduceBEq, ev2, ev3, ev4, ev5, ev6, ev7, true_or, or_true, evFdO_eq, dl, Nat.reduceLT, true_and, false_and, if_true, if_false, Option.map_some, Option.bind_some, Int.cast_ofNat_Int, e5, at0, at1, mo, q1, q2, ty4, Option.bind_some, o1, o2, eq1, q3]
        exact ⟨_, _, rfl, some y, some _, some _, some _, rfl⟩
      · rintro e2 β4 ⟨s6, s7, s8, s9, rfl⟩
        have q3 := q15 false false false β4
        simp only [ev, List.getElem?_cons_zero, List.getElem?_cons_succ, List.set_cons_zero, List.set_cons_succ, List.length_cons, List.length_nil, Nat.reduceAdd, Nat.reduceLeDiff, Nat.reduceSub, ↓reduceIte, List.map_cons, List.map_nil, Bool.and_true, Bool.true_and, Bool.and_self, and_self, and_true, List.cons_append, List.nil_append, List.replicate_succ, List.replicate_zero, evFd_eq, decide_true, decide_false, Bool.not_true, Bool.not_false, Bool.false_and, Bool.and_false, List.contains_cons, List.contains_nil, beq_self_eq_true, Bool.true_or, Bool.or_true, Bool.or_false, Bool.false_or, List.all_cons, List.all_nil, Nat.reduceBEq, ev2, ev3, ev4, ev5, ev6, ev7, true_or, or_true, evFdO_eq, dl, Nat.reduceLT, true_and, false_and, if_true, if_false, Option.map_some, Option.bind_some, Int.cast_ofNat_Int, at1, qn1, qn2, qn3, ty1, ty2, ty3, Option.bind_some, q3]
        exact ⟨_, _, rfl, some x, some _, some _, s6, s7, s8, s9, _, rfl⟩
    rw [bindN]
    have vv : v = 0 ∨ v = 1 := by omega
    rcases vv with rfl | rfl
    · simp only [ev, List.getElem?_cons_zero, List.getElem?_cons_succ, List.set_cons_zero, List.set_cons_succ, List.length_cons, List.length_nil, Nat.reduceAdd, Nat.reduceLeDiff, Nat.reduceSub, ↓reduceIte, List.map_cons, List.map_nil, Bool.and_true, Bool.true_and, Bool.and_self, and_self, and_true, List.cons_append, List.nil_append, List.replicate_succ, List.replicate_zero, evFd_eq, decide_true, decide_false, Bool.not_true, Bool.not_false, Bool.false_and, Bool.and_false, List.contains_cons, List.contains_nil, beq_self_eq_true, Bool.true_or, Bool.or_true, Bool.or_false, Bool.false_or, List.all_cons, List.all_nil, Nat.reduceBEq, ev2, ev3, ev4, ev5, ev6, ev7, true_or, or_true, evFdO_eq, dl, Nat.reduceLT, true_and, false_and, if_true, if_false, Option.map_some, Option.bind_some, Int.cast_ofNat_Int, e1, at0, at1, e2, mv, kCd_any, hc, lfR, List.length_map, show cs.length < 1000000 by omega, e3]
      exact tail
    · simp only [ev, List.getElem?_cons_zero, List.getElem?_cons_succ, List.set_cons_zero, List.set_cons_succ, List.length_cons, List.length_nil, Nat.reduceAdd, Nat.reduceLeDiff, Nat.reduceSub, ↓reduceIte, List.map_cons, List.map_nil, Bool.and_true, Bool.true_and, Bool.and_self, and_self, and_true, List.cons_append, List.nil_append, List.replicate_succ, List.replicate_zero, evFd_eq, decide_true, decide_false, Bool.not_true, Bool.not_false, Bool.false_and, Bool.and_false, List.contains_cons, List.contains_nil, beq_self_eq_true, Bool.true_or, Bool.or_true, Bool.or_false, Bool.false_or, List.all_cons, List.all_nil, Nat.reduceBEq, ev2, ev3, ev4, ev5, ev6, ev7, true_or, or_true, evFdO_eq, dl, Nat.reduceLT, true_and, false_and, if_true, if_false, Option.map_some, Option.bind_some, Int.cast_ofNat_Int, e1, at0, at1, e2, show ((1 : Int) == 0) = false from rfl, mt, kCd_any, hc, lfR, List.length_map, show cs.length < 1000000 by omega, e3]
      exact tail
  · rintro e2 β2 ⟨s2, s3, s5, s6, s7, s8, s9, s4, rfl⟩
    refine ⟨β2, ?_⟩
    simp only [ev, List.getElem?_cons_zero, List.getElem?_cons_succ, List.set_cons_zero, List.set_cons_succ, List.length_cons, List.length_nil, Nat.reduceAdd, Nat.reduceLeDiff, Nat.reduceSub, ↓reduceIte, List.map_cons, List.map_nil, Bool.and_true, Bool.true_and, Bool.and_self, and_self, and_true, List.cons_append, List.nil_append, List.replicate_succ, List.replicate_zero, evFd_eq, decide_true, decide_false, Bool.not_true, Bool.not_false, Bool.false_and, Bool.and_false, List.contains_cons, List.contains_nil, beq_self_eq_true, Bool.true_or, Bool.or_true, Bool.or_false, Bool.false_or, List.all_cons, List.all_nil, Nat.reduceBEq, ev2, ev3, ev4, ev5, ev6, ev7, true_or, or_true, evFdO_eq, dl, Nat.reduceLT, true_and, false_and, if_true, if_false, Option.map_some, Option.bind_some, Int.cast_ofNat_Int]
end LT

namespace LT
open PySem PySem.Spec PyProof.Rows L2
theorem oblL (K : PySem.W.Frag) : ∀ d ∈ tab, Obl (gamL K (rn 6) 9 694) K d :=
  obl_all (E := tabE) (dB := d9) (dT := d10) (dL := d694) (rest := d694.body.drop 1) (N := 5) (fun d hd => by
    simp only [tab, tab0, tabE, List.cons_append, List.nil_append, List.mem_cons, List.not_mem_nil, or_false] at hd ⊢
    rcases hd with rfl | rfl | rfl | rfl | rfl | rfl | rfl | rfl | rfl | rfl | rfl | rfl | rfl | rfl | rfl | rfl | rfl | rfl | rfl | rfl | rfl | rfl | rfl | rfl | rfl | rfl <;> simp [tabE]) (by decide) (by decide) (by decide) (by decide) (by decide) rfl rfl rfl rfl rfl rfl rfl rfl (by decide) fun ns _ _ => law80 0 _
end LT
open PySem PySem.W PySem.Calls PyProof.Rows
theorem PySem.Challenge.cw_labeltill_k80_rounds_told_holds : PySem.Challenge.rw_labeltill_k80_rounds_told.Holds := by
  w_on; o_law
  refine HandSHeadRun.head_any (r := OpenLaw.row PySem.Challenge.rw_labeltill_k80_rounds_told) (q := view (OpenLaw.row PySem.Challenge.rw_labeltill_k80_rounds_told).prog [27]) (H := LT.hkL) (ob := LT.obL) (M := 20000) (loose := LT.looseL) (d := HandSHeadRun.topDef (OpenLaw.row PySem.Challenge.rw_labeltill_k80_rounds_told).prog 27) (kwd := []) LT.obeL
    (by kernel_rfl) (fun s => by kernel_rfl) LT.runL (by kernel_rfl) (by kernel_rfl) (by kernel_rfl) (by rfl) (by first | assumption | decide +kernel) (by decide +kernel) ⟨rfl, rfl, rfl, rfl, rfl, by decide +kernel⟩ ?hw ?hc
  case hw => w_witness2
  case hc =>
    refine LT.walkG (l := PySem.Challenge.rw_labeltill_k80_rounds_told) (n := 63) (k := 2 * LT.tab.length) (x := "_law_script") rfl (by decide) (by kernel_rfl) ⟨rfl, by decide, by decide⟩ ?F
    intro w mg fa h Y G hmg0
    obtain ⟨K, KX, c⟩ := Y
    have hmg : mg (LT.d694.name : PySem.Str) = some (.ref fa) := by
      have e : (HandSHeadRun.topDef (OpenLaw.row PySem.Challenge.rw_labeltill_k80_rounds_told).prog 27).name = LT.d694.name := by kernel_rfl
      rw [← e]
      exact hmg0
    obtain ⟨fd, hb, hF⟩ := LT.whole (l := PySem.Challenge.rw_labeltill_k80_rounds_told) (w := w) (Γ := LT.gamL K (LT.rn 6) 9 694) LT.d694 (by simp [LT.tab, LT.tab0]) (x := "_law_script") rfl rfl rfl KX G hmg c LT.chk (LT.oblL K)
    exact ⟨K, fd, _, KX, hb, fun H a ns hl hS => ⟨a, ns, rfl, hS, hl, fun _ => rfl⟩, hF⟩

