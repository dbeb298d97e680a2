import PyProof.Rows.All
import Wide.All
import OpenK.AllK
import Wide.FinOn
import HandS.ForMost
import HandS.Codes
import HandS.TupAny
import HandS.NoneIn
import HandS.TupLen
import HandS.Deep
import HandS.Conv
import HandS.Flow
import HandS.Style
import HandS.DictComp
import HandS.DictTup
import HandS.IsInst
import HandS.Defaults
import HandS.Star
import HandS.ClsMeth
import HandS.More
import HandS.Wide
import KE.KOpsOwn
import KE.Datum
import PyProof.ReprReads
import HandS.Walk
import HandS.RaiseMore
import HandS.SetFor
import PySem.Challenge.RW_noneorsome_k53_whole_one_counter_by_numb
import HandS.Set
import HandS.Strs
import PyProof.Rows.SortShellAny
import HandS.Ends
import HandS.HeadHook2
import HandS.Head2
import KE.KStateDown
set_option Elab.async false
set_option linter.all false
set_option maxRecDepth 100000
set_option maxHeartbeats 4000000
/-! Rules that the layer lacks: own operators, own items, data attributes called, static methods. -/
namespace Nos
open PySem PySem.Spec PyProof.Rows L2
open C8 (Met Cal Mak Def fnScope fnArgs fnBody)
section
variable {X : Cx} {pins : List (Addr × Obj)} {σ : L2.St} {H : Hp} {s : Shared}

theorem inst_of (I : Inv X pins σ H s) {a C dx : Addr} {fs : List (Str × V)} (h : H a = some (.ins C dx fs)) : ∃ ox od, PySem.W.InstAt s.heap a ox C (some od) ∧ ox.data = .plain ∧ ∀ f : Str, fs.lookup f = none → PySem.W.lookIn f od = some none := by
  obtain ⟨mA, O, r, _, _, _⟩ := ins_get I.hok h
  obtain ⟨od, J, hl⟩ := O.look
  exact ⟨_, od, J, rfl, fun f e => by rw [hl f, show mA f = none from RelO.none_of (by rw [← e]; exact r f)]⟩

/-- a def runs anywhere below the body -/
theorem run_at {A' : Around} {k : Nat} {f : Addr} {fd : FuncData} {ps : List Str} {sp : Sp} {ds : List Value} {dvs : List V} {Q : VK} {us : List Value} {vs : List V}
    (F : FnOk X.prog X.w X.K X.mg X.base CX0 k f fd ps sp) (hr : Room k A') (hf : A'.frames = X.A.frames) (hb : Binds X.K fd ps ds) (hd : Vals dvs ds)
    (I : Inv X pins σ H s) (r : Vals vs us) (h : sp (vs ++ dvs) H Q E0) : wpAny (model X.prog X.w) A' (call (.ref f) us) (EP X pins σ Q) X.xe s := by
  have e := I.env0
  have e0 : Env0 X.prog X.w X.K X.mg X.base A' X.stack s H := ⟨by rw [hf]; exact e.frames, e.mod, e.bs, e.bsz, e.funs, e.frf, e.hok, e.bare⟩
  have r2 : Vals (vs ++ dvs) (us ++ ds) := r.append hd
  have hl : (us ++ ds).length = ps.length := by
    rw [← r2.length]
    exact F.len _ _ _ _ h
  refine wpAny_call (codeAny_mono (F.run A' X.stack s H ⟨us, []⟩ (us ++ ds) (vs ++ dvs) Q E0 hr e0 (hb s us I.kIn hl) r2 h) fun w s' hq => ?_)
  cases w with
  | error e => exact hq.elim
  | ok fl =>
    cases fl with
    | ret u => exact I.after hq
    | next => exact False.elim hq
    | brk => exact False.elim hq
    | cont => exact False.elim hq
theorem ep_cmp {Q : VK} {A : Around} {M : Model} {E : Value → Shared → Prop} {t : Sem Value} (h : wpAny M A t (EP X pins σ Q) E s) : wpAny M A t (PySem.W.CmpBack (EP X pins σ Q)) E s := by
  refine wpAny_mono h (fun u s' z => ?_) fun _ _ z => z
  obtain ⟨v, H', I', r, q⟩ := z
  cases v with
  | non => cases r; exact ⟨.non, H', I', rfl, q⟩
  | bl b => cases r; exact ⟨.bl b, H', I', rfl, q⟩
  | int i => obtain ⟨t, rfl⟩ := r; exact ⟨.int i, H', I', ⟨t, rfl⟩, q⟩
  | str x => obtain ⟨t, rfl⟩ := r; exact ⟨.str x, H', I', ⟨t, rfl⟩, q⟩
  | byt x => obtain ⟨t, rfl⟩ := r; exact ⟨.byt x, H', I', ⟨t, rfl⟩, q⟩
  | flt x => obtain ⟨t, rfl⟩ := r; exact ⟨.flt x, H', I', ⟨t, rfl⟩, q⟩
  | ref a => cases r; exact ⟨.ref a, H', I', rfl, q⟩
  | ty n => cases r; exact ⟨.ty n, H', I', rfl, q⟩

variable {C : Addr} {m : Str} {sp : Sp} {k j : Nat}
/-- x op y of two instances of the class at C, by its own method -/
def rOwn2 (C : Addr) (sp : Sp) : R2 := fun x y H Q => ∃ a b dx fs dy gs, x = .ref a ∧ y = .ref b ∧ H a = some (.ins C dx fs) ∧ H b = some (.ins C dy gs) ∧ sp [.ref a, .ref b] H Q E0
theorem op_own {op : Operator} (c : Met X.prog X.w X.K X.mg X.base k C m sp []) (hm : PySem.dunder op.info.2 = m) (sf : PySem.W.selfFirst X.K C = true) (hr : Room j X.A) (hk : k ≤ j) : OpR X (binaryOp op) (rOwn2 C sp) := by
  intro pins s σ H x y v u Q I rx ry h
  obtain ⟨a, b, dx, fs, dy, gs, rfl, rfl, ha, hb, q⟩ := h
  cases rx
  cases ry
  obtain ⟨f, fd, ps, ds, hc, me, F, bi, d⟩ := c.ex
  cases d
  obtain ⟨ox, od, J, _, _⟩ := inst_of I ha
  obtain ⟨ox2, od2, J2, _, _⟩ := inst_of I hb
  obtain ⟨ml, hF⟩ := I.fr
  refine PySem.W.binop_K hF I.ok.mod.kin J J2.type sf (by rw [hm]; exact me.at_) me.fn (ep_cmp ?_)
  exact run_at (vs := [V.ref a, V.ref b]) F (hr.mono hk) rfl bi .nil I (.cons rfl (.cons rfl .nil)) q
/-- ~x -/
def rOwn1 (C : Addr) (sp : Sp) : V → Hp → VK → Prop := fun x H Q => ∃ a dx fs, x = .ref a ∧ H a = some (.ins C dx fs) ∧ sp [.ref a] H Q E0
theorem un_own (c : Met X.prog X.w X.K X.mg X.base k C "__invert__" sp []) (hr : Room j X.A) (hk : k ≤ j) : UnR X (unaryOp .Invert) (rOwn1 C sp) := by
  intro pins s σ H x v Q I rx h
  obtain ⟨a, dx, fs, rfl, ha, q⟩ := h
  cases rx
  obtain ⟨f, fd, ps, ds, hc, me, F, bi, d⟩ := c.ex
  cases d
  obtain ⟨ox, od, J, _, _⟩ := inst_of I ha
  obtain ⟨ml, hF⟩ := I.fr
  exact PySem.W.ksp_inv hF I.ok.mod.kin J me.at_ me.fn (run_at (vs := [V.ref a]) F (hr.mono hk) rfl bi .nil I (.cons rfl .nil) q)
/-- len(x) by an own __len__ -/
def rOwnLen (C : Addr) (sp : Sp) : List V → Hp → VK → Prop := fun xs H Q => ∃ a dx fs, xs = [.ref a] ∧ H a = some (.ins C dx fs) ∧ sp [.ref a] H (fun v H' => ∃ n : Int, v = .int n ∧ (0 ≤ n ∧ n < 2 ^ 63) ∧ Q (.int n) H') E0
theorem cr_ownLen (c : Met X.prog X.w X.K X.mg X.base k C "__len__" sp []) (hr : Room j X.A) (hk : k + 1 ≤ j) : CallR X (.builtin "len") (rOwnLen C sp) := by
  intro pins s σ H xs us Q I r h
  obtain ⟨a, dx, fs, rfl, ha, q⟩ := h
  obtain ⟨u, rfl, ru⟩ := vals1 r
  cases ru
  obtain ⟨f, fd, ps, ds, hc, me, F, bi, d⟩ := c.ex
  cases d
  obtain ⟨ox, od, J, _, _⟩ := inst_of I ha
  obtain ⟨ml, hF⟩ := I.fr
  refine PySem.W.len_K hF I.ok.mod.kin J me.at_ me.fn ?_
  refine wpAny_mono (run_at (A' := X.A.in1) (vs := [V.ref a]) F (hr.mono hk).in1 rfl bi .nil I (.cons rfl .nil) q) (fun w s' z => ?_) fun _ _ z => z
  obtain ⟨v, H', I', rv, n, rfl, hn, q2⟩ := z
  obtain ⟨t, rfl⟩ := rv
  exact ⟨hn, .int n, H', I'.tok _, ⟨_, rfl⟩, q2⟩
/-- x[y] by an own __getitem__ -/
def rOwnIx (C : Addr) (sp : Sp) : R2 := fun x y H Q => ∃ a dx fs, x = .ref a ∧ H a = some (.ins C dx fs) ∧ sp [.ref a, y] H Q E0
theorem pe_ownIx {o e : Expr} {pos : Pos} {ta tb : TE} (c : Met X.prog X.w X.K X.mg X.base k C "__getitem__" sp []) (hr : Room j X.A) (hk : k + 1 ≤ j) (hfn : ∀ f : Addr, PySem.W.findIn X.K (.ref C) "__getitem__" = some (some (.ref f)) → PySem.W.fnIn X.K f = true) (ho : PE X o ta) (he : PE X e tb)
    (hsl : ∀ a v, subscripted e true (.ref a) v = runValue (.builtin "lifetime.subscript" ⟨[.ref a, v], []⟩) := by intro _ _; with_unfolding_all rfl) : PE X (.Subscript o e pos) (tOp (rOwnIx C sp) ta tb) := by
  refine ⟨fun pins s σ H Q I h => ?_⟩
  refine Subscript_ (binT ho he I h fun v u s2 x y H2 I2 rx ry q => ?_)
  obtain ⟨a, dx, fs, rfl, ha, q⟩ := q
  cases rx
  obtain ⟨f, fd, ps, ds, hc, me, F, bi, d⟩ := c.ex
  cases d
  obtain ⟨ox, od, J, _, _⟩ := inst_of I2 ha
  obtain ⟨ml, hF⟩ := I2.fr
  refine PySem.W.sub_K hF I2.ok.mod.kin J me.at_ (hfn f me.at_) me.fn ?_ (hsl a u)
  exact run_at (A' := X.A.in1) (vs := [V.ref a, y]) F (hr.mono hk).in1 rfl bi .nil I2 (.cons rfl (.cons ry .nil)) q
/-- x[i] = v by an own __setitem__ -/
def rOwnSet (C : Addr) (sp : Sp) : TSet := fun o i v H Q => ∃ a dx fs, o = .ref a ∧ H a = some (.ins C dx fs) ∧ sp [.ref a, i, v] H (fun _ H' => Q H') E0
theorem set_own (c : Met X.prog X.w X.K X.mg X.base k C "__setitem__" sp []) (hq : PySem.W.noSeq X.K C = true) (hr : Room j X.A) (hk : k ≤ j) : PSet X (rOwnSet C sp) := by
  intro pins s σ H o i v ov iv u Q I ro ri rv h
  obtain ⟨a, dx, fs, rfl, ha, q⟩ := h
  cases ro
  obtain ⟨f, fd, ps, ds, hc, me, F, bi, d⟩ := c.ex
  cases d
  obtain ⟨ox, od, J, _, _⟩ := inst_of I ha
  obtain ⟨ml, hF⟩ := I.fr
  refine PySem.W.ksp_setItem hF I.ok.mod.kin J hq me.at_ me.fn ?_
  refine wpAny_mono (run_at (vs := [V.ref a, i, v]) F (hr.mono hk) rfl bi .nil I (.cons rfl (.cons ri (.cons rv .nil))) q) (fun w s' z => ?_) fun _ _ z => z
  obtain ⟨v', H', I', _, q2⟩ := z
  exact ⟨H', I', q2⟩
/-- o.m(e, ..) where m is an attribute that holds an instance of D, called by D's __call__ -/
def tAttCall (C : Addr) (m : Str) (D : Addr) (sp : Sp) (ta : TE) (t : TA) : TE := fun σ H Q => ta σ H fun x H1 => ∃ a dx fs b, x = .ref a ∧ H1 a = some (.ins C dx fs) ∧ fs.lookup m = some (.ref b) ∧
  t σ H1 fun vs H2 => (∃ dy gs, H2 b = some (.ins D dy gs)) ∧ sp (.ref b :: vs) H2 Q E0
theorem pe_attCall {o e : Expr} {es : List Expr} {pos apos : Pos} {D : Addr} {pl : Sem Bool} {ta : TE} {t : TA} (cl : Cls X.K C) (na : NoAttr X.K C m) (c : Met X.prog X.w X.K X.mg X.base k D "__call__" sp []) (hfn : ∀ f : Addr, PySem.W.findIn X.K (.ref D) "__call__" = some (some (.ref f)) → PySem.W.fnIn X.K f = true)
    (hr : Room j X.A) (hk : k ≤ j) (he : PE X o ta) (ha : PA X (e :: es) t)
    (hst : starEach (e :: es) X.env = (false, eval e X.env) :: starEach es X.env := by rfl) (hpl : (backTo pos (starEach es X.env)).any (·.1) = false := by rfl)
    (ht : eval (.Call (.Attribute o m apos) (e :: es) [] pos) X.env = (do
      let ov ← eval o X.env
      standAt apos.atName
      let (f, first) ← holding [ov] (getMethod ov m pl)
      callWith pos f first (backTo pos (starEach (e :: es) X.env)) (backToKw pos (keywordEach [] X.env))) := by rfl) :
    PE X (.Call (.Attribute o m apos) (e :: es) [] pos) (tAttCall C m D sp ta t) := by
  refine ⟨fun pins s σ H Q I h => ?_⟩
  refine PySem.W.methodCall_KW (pl := pl) (thn (he.run pins s σ H _ I h) fun u s1 ⟨x, H1, I1, rx, a, dx, fs, b, ex, ea, l, q⟩ => ?_) ht
  subst ex
  obtain rfl : u = Value.ref a := rx
  obtain ⟨ox, od, J, _, _⟩ := inst_of I1 ea
  refine PySem.W.method_usual (r := none) I1.kIn J (PySem.W.plainGet_of (cl.get m)).1 (PySem.W.plainGet_of (cl.get m)).2 na rfl ?_
  refine getattr_ok I1 ea cl na l fun u' s2 I2 ru => ?_
  obtain rfl : u' = Value.ref b := ru
  obtain ⟨f, fd, ps, ds, hc, me, F, bi, d⟩ := c.ex
  cases d
  refine StX.callO_with (thn (ha.run pos pins s2 σ H1 _ I2 q) fun us s3 ⟨vs, H2, I3, r, ⟨dy, gs, hb⟩, q2⟩ => ?_) hst hpl
  obtain ⟨ox', od', J', hp, _⟩ := inst_of I3 hb
  refine ⟨⟨D, ox', some od', J', hp⟩, ?_⟩
  have e0 := I3.env0
  have hsp : sp (V.ref b :: vs) H2 Q E0 := q2
  refine wpAny_call (PySem.W.kco_code I3.kIn J' hp me.at_ me.fn (hfn f me.at_) ?_)
  have hl : (Value.ref b :: us).length = ps.length := by
    rw [← F.len _ _ _ _ hsp, List.length_cons, List.length_cons, r.length]
  have bb := bi s3 (Value.ref b :: us) I3.kIn (by rw [List.append_nil]; exact hl)
  rw [List.append_nil] at bb
  refine codeAny_mono (F.run X.A X.stack s3 H2 ⟨Value.ref b :: us, []⟩ (Value.ref b :: us) (V.ref b :: vs) Q E0 (hr.mono hk) e0 bb (.cons rfl r) hsp) fun w s' hq => ?_
  cases w with
  | error e => exact hq.elim
  | ok fl =>
    cases fl with
    | ret u => exact I3.after hq
    | next => exact False.elim hq
    | brk => exact False.elim hq
    | cont => exact False.elim hq
/-- D.m(..), D a class, m a static method of it, its record at p, its def at g -/
structure SMet (K : PySem.W.Frag) (C : Addr) (mc : Value) (m : Str) (p g : Addr) : Prop where
  at_ : PySem.W.findCls K (.ref C) mc m = some (.get (.builtin "staticmethod.__get__") (.ref p) .none (.ref C))
  rc : ∃ rest, PySem.W.recIn K p "staticmethod" = some (.ref g :: rest)
  kp : PySem.W.keepIn K (.ref g) = true
def tSMeth (C : Addr) (sp : Sp) (ta : TE) (t : TA) : TE := fun σ H Q => ta σ H fun x H1 => x = .ref C ∧ t σ H1 fun vs H2 => sp vs H2 Q E0
section
variable {o e : Expr} {es : List Expr} {pos apos : Pos} {mc : Value} {p g : Addr} {fd : FuncData} {ps : List Str} {pl : Sem Bool} {ta : TE} {t : TA}
theorem pe_smeth (he : PE X o ta) (rd : ClX.CRead X.K C mc) (sm : SMet X.K C mc m p g) (F : FnOk X.prog X.w X.K X.mg X.base CX0 k g fd ps sp) (bi : Binds X.K fd ps []) (hr : Room j X.A) (hk : k ≤ j) (ha : PA X (e :: es) t)
    (hst : starEach (e :: es) X.env = (false, eval e X.env) :: starEach es X.env := by rfl) (hpl : (backTo pos (starEach es X.env)).any (·.1) = false := by rfl)
    (ht : eval (.Call (.Attribute o m apos) (e :: es) [] pos) X.env = (do
      let ov ← eval o X.env
      standAt apos.atName
      let (f, first) ← holding [ov] (getMethod ov m pl)
      callWith pos f first (backTo pos (starEach (e :: es) X.env)) (backToKw pos (keywordEach [] X.env))) := by rfl) :
    PE X (.Call (.Attribute o m apos) (e :: es) [] pos) (tSMeth C sp ta t) := by
  refine ⟨fun pins s σ H Q I h => ?_⟩
  refine PySem.W.methodCall_KW (pl := pl) (thn (he.run pins s σ H _ I h) fun u s1 ⟨x, H1, I1, rx, ex, q⟩ => ?_) ht
  subst ex
  obtain rfl : u = Value.ref C := rx
  obtain ⟨rest, hp⟩ := sm.rc
  refine PySem.W.method_cls I1.kIn rd.ga ?_
  refine PySem.W.cls_bind I1.kIn rd.rd sm.at_ (wpAny_call (PySem.W.sm_get (s := { s1 with toks := s1.toks + 1 }) I1.kIn hp (PySem.W.handed_on rfl ?_)))
  have I1' : Inv X pins σ H1 { s1 with toks := s1.toks + 1 } := I1.tok _
  refine PySem.W.callWith_K (first := []) (h₀ := X.base) I1.ok.mod.kin sm.kp (thn (ha.run pos pins _ σ H1 _ I1' q) fun us s2 ⟨vs, H2, I2, r, q2⟩ => ⟨I2.kIn, ?_⟩) hst hpl
  exact run_at F (hr.mono hk) rfl bi .nil I2 r (by rw [List.append_nil]; exact q2)
theorem pe_smeth0 (he : PE X o ta) (rd : ClX.CRead X.K C mc) (sm : SMet X.K C mc m p g) (F : FnOk X.prog X.w X.K X.mg X.base CX0 k g fd ps sp) (bi : Binds X.K fd ps []) (hr : Room j X.A) (hk : k ≤ j)
    (ht : eval (.Call (.Attribute o m apos) [] [] pos) X.env = (do
      let ov ← eval o X.env
      standAt apos.atName
      let (f, first) ← holding [ov] (getMethod ov m pl)
      callWith pos f first (backTo pos (starEach [] X.env)) (backToKw pos (keywordEach [] X.env))) := by rfl) :
    PE X (.Call (.Attribute o m apos) [] [] pos) (tSMeth C sp ta tNil) := by
  refine ⟨fun pins s σ H Q I h => ?_⟩
  refine PySem.W.methodCall_KW (pl := pl) (thn (he.run pins s σ H _ I h) fun u s1 ⟨x, H1, I1, rx, ex, q⟩ => ?_) ht
  subst ex
  obtain rfl : u = Value.ref C := rx
  obtain ⟨rest, hp⟩ := sm.rc
  refine PySem.W.method_cls I1.kIn rd.ga ?_
  refine PySem.W.cls_bind I1.kIn rd.rd sm.at_ (wpAny_call (PySem.W.sm_get (s := { s1 with toks := s1.toks + 1 }) I1.kIn hp (PySem.W.handed_on rfl ?_)))
  have I1' : Inv X pins σ H1 { s1 with toks := s1.toks + 1 } := I1.tok _
  exact PySem.W.callWith_K0 (first := []) I1'.kIn sm.kp (run_at F (hr.mono hk) rfl bi .nil I1' .nil (by rw [List.append_nil]; exact q))
end
end
end Nos
/-! A list or a dict that is put aside while an expression is evaluated. -/
namespace Nos
open PySem PySem.Spec PyProof.Rows L2
open C8 (Met Cal Mak Def fnScope fnArgs fnBody)
/-- what may be put aside -/
def Aside : HO → Prop
  | .lst _ => True
  | .dK _ => True
  | .dT _ => True
  | _ => False
/-- what it leans on stays -/
def Stays (G G' : Hp) : HO → Prop
  | .dT _ => ∀ b xs, G b = some (.tup xs) → G' b = some (.tup xs)
  | _ => True
section
variable {X : Cx} {pins : List (Addr × Obj)} {σ : L2.St} {s s' : Shared} {G G' : Hp} {D : Addr} {o : HO} {ob : Obj}
theorem aside_raw {P : Program} {w : World} {h : Heap} {H : Hp} (a : Aside o) (x : ObjOk P w H h D o) : ∃ ob : Obj, h.get? D = some ob ∧ ∀ v, ob.data ≠ .cell v := by
  cases o with
  | lst xs =>
    obtain ⟨_, its, n, _, e⟩ := x
    exact ⟨_, e, fun v z => nomatch z⟩
  | dK kvs =>
    obtain ⟨_, _, vs, _, d⟩ := x
    obtain ⟨ob, es, ep, h1, h2, h3, _⟩ := d
    exact ⟨ob, h1, fun v z => by rw [h3] at z; cases z⟩
  | dT kvs =>
    obtain ⟨_, _, xs, _, ob, es, ep, h1, h2, h3, _⟩ := x
    exact ⟨ob, h1, fun v z => by rw [h3] at z; cases z⟩
  | _ => exact a.elim
theorem aside_not (a : Aside o) : (∀ y, o ≠ .own y) ∧ (∀ xs, o ≠ .tup xs) ∧ (∀ q u, o ≠ .frz q u) ∧ ∀ ps, o ≠ .tbl ps := by
  cases o <;> first | exact a.elim | refine ⟨?_, ?_, ?_, ?_⟩
  all_goals (intros; intro z; cases z)
theorem inv_hide (I : Inv X pins σ (upd G D o) s) (nD : G D = none) (a : Aside o) (hob : s.heap.get? D = some ob) (hc : ∀ v, ob.data ≠ .cell v) : Inv X ((D, ob) :: pins) σ G s := by
  obtain ⟨n1, n2, n3, n4⟩ := aside_not a
  have off : ∀ {b : Addr}, upd G D o b = none → G b = none := fun {b} e => by
    by_cases h : b = D
    · rw [h]; exact nD
    · rwa [upd_ne h] at e
  have at_ : ∀ {b : Addr} {u : HO}, upd G D o b = some u → u ≠ o → G b = some u := fun {b u} e ne => by
    by_cases h : b = D
    · rw [h, upd_same] at e
      exact absurd (Option.some.inj e).symm ne
    · rwa [upd_ne h] at e
  have up : ∀ {b : Addr} {u : HO}, G b = some u → upd G D o b = some u := fun {b u} e => by
    rw [upd_ne (ne_of_none e nD)]
    exact e
  have ne1 : ∀ {b : Addr}, upd G D o b = none → b ≠ D := fun {b} e z => by
    rw [z, upd_same] at e
    cases e
  refine ⟨I.ok, I.os, I.bare, ⟨I.base.keep, I.base.slot, fun b q e n hx => off (I.base.free b q e n hx), I.base.there, fun b xs e => at_ (I.base.tups b xs e) (n2 xs).symm, fun b q u e => at_ (I.base.frzs b q u e) (n3 q u).symm, fun b ps e => ?_⟩,
    I.loc, I.cell, off I.free, fun x c e => off (I.freeC x c e), fun p hp => ?_, fun b u e => ?_, I.len⟩
  · obtain ⟨m, q⟩ := I.base.tbls b ps e
    exact ⟨m, at_ q (n4 _).symm⟩
  · have old : ∀ p ∈ X.pn ++ pins, s.heap.get? p.1 = some p.2 ∧ G p.1 = none ∧ p.1 ≠ X.env.locals ∧ p.1 ∉ X.fs ∧ ∀ v, p.2.data ≠ .cell v := fun p hp =>
      let ⟨q1, q2, q3, q4, q5⟩ := I.pin p hp
      ⟨q1, off q2, q3, q4, q5⟩
    rcases List.mem_append.mp hp with h | h
    · exact old p (List.mem_append_left _ h)
    · rcases List.mem_cons.mp h with e | h
      · subst e
        refine ⟨hob, nD, fun z => ?_, fun z => ?_, hc⟩
        · have z' : D = X.env.locals := z
          have q := I.free
          rw [← z', upd_same] at q
          cases q
        · have z' : D ∈ frs X.outer := z
          have q := I.stkFree D (by
            rcases I.ok.stk with e | ⟨e, hf⟩
            · rw [e]; exact z'
            · rw [e]
              unfold frs
              rw [List.filterMap_cons, hf]
              exact List.mem_cons_of_mem _ z')
          rw [upd_same] at q
          cases q
      · exact old p (List.mem_append_right _ h)
  · exact (I.hok b u (up e)).stay (fun _ _ _ q => q) (fun c q => at_ q (n1 b).symm) fun c xs q => at_ q (n2 xs).symm
theorem inv_show (I : Inv X pins σ (upd G D o) s) (nD : G D = none) (a : Aside o) (hob : s.heap.get? D = some ob) (J : Inv X ((D, ob) :: pins) σ G' s') (st : Stays G G' o) : G' D = none ∧ Inv X pins σ (upd G' D o) s' := by
  obtain ⟨n1, n2, n3, n4⟩ := aside_not a
  obtain ⟨p1, p2, p3, p4, p5⟩ := J.pin (D, ob) (List.mem_append_right _ List.mem_cons_self)
  have p1 : s'.heap.get? D = some ob := p1
  have p2 : G' D = none := p2
  have ne1 : ∀ {b : Addr}, upd G D o b = none → b ≠ D := fun {b} e z => by
    rw [z, upd_same] at e
    cases e
  have up : ∀ {b : Addr} {u : HO}, G' b = some u → upd G' D o b = some u := fun {b u} e => by
    rw [upd_ne (ne_of_none e p2)]
    exact e
  refine ⟨p2, ⟨J.ok, J.os, J.bare, ⟨J.base.keep, J.base.slot, fun b q e n hx => ?_, J.base.there, fun b xs e => up (J.base.tups b xs e), fun b q u e => up (J.base.frzs b q u e), fun b ps e => ?_⟩,
    J.loc, J.cell, ?_, fun x c e => ?_, fun p hp => ?_, fun b u e => ?_, J.len⟩⟩
  · rw [upd_ne (ne1 (I.base.free b q e n hx))]
    exact J.base.free b q e n hx
  · obtain ⟨m, q⟩ := J.base.tbls b ps e
    exact ⟨m, up q⟩
  · rw [upd_ne (ne1 I.free)]
    exact J.free
  · rw [upd_ne (ne1 (I.freeC x c e))]
    exact J.freeC x c e
  · have hp' : p ∈ X.pn ++ (D, ob) :: pins := by
      rcases List.mem_append.mp hp with h | h
      · exact List.mem_append_left _ h
      · exact List.mem_append_right _ (List.mem_cons_of_mem _ h)
    obtain ⟨q1, q2, q3, q4, q5⟩ := J.pin p hp'
    refine ⟨q1, ?_, q3, q4, q5⟩
    rw [upd_ne (ne1 (I.pin p hp).2.1)]
    exact q2
  · by_cases hb : b = D
    · subst hb
      rw [upd_same] at e
      cases e
      have x := I.hok b _ upd_same
      have same : ∀ q, s.heap.get? b = some q → s'.heap.get? b = some q := fun q e => by
        rw [hob] at e
        rw [p1]
        exact e
      cases o with
      | lst xs =>
        obtain ⟨z, its, n, r, e⟩ := x
        exact ⟨z, its, n, r, same _ e⟩
      | dK kvs =>
        obtain ⟨z, y, vs, r, ob2, es, ep, e, c⟩ := x
        exact ⟨z, y, vs, r, ob2, es, ep, same _ e, c⟩
      | dT kvs =>
        obtain ⟨z, y, xs, r, ob2, es, ep, e, c⟩ := x
        refine ⟨z, y, xs, Paired.mapP r fun p q z => ⟨z.1, ?_, z.2.2⟩, ob2, es, ep, same _ e, c⟩
        have z2 := z.2.1
        by_cases hq : q.2.1 = b
        · rw [hq, upd_same] at z2
          cases z2
        · rw [upd_ne hq] at z2
          exact up (st _ _ z2)
      | _ => exact a.elim
    · rw [upd_ne hb] at e
      exact (J.hok b u e).stay (fun _ _ _ q => q) (fun c q => up q) fun c xs q => up q
end
/-- H is G and, apart, o at D; e is evaluated over G -/
def tHide (t : TE) : TE := fun σ H Q => ∃ (G : Hp) (D : Addr) (o : HO), H = upd G D o ∧ G D = none ∧ Aside o ∧ t σ G fun v G' => Stays G G' o ∧ (G' D = none → Q v (upd G' D o))
def tHideT (t : TT) : TT := fun σ H Q => ∃ (G : Hp) (D : Addr) (o : HO), H = upd G D o ∧ G D = none ∧ Aside o ∧ t σ G fun v G' => Stays G G' o ∧ (G' D = none → Q v (upd G' D o))
section
variable {X : Cx} {e : Expr} {t : TE} {tt : TT}
theorem pe_hide (h : PE X e t) : PE X e (tHide t) := by
  refine ⟨fun pins s σ H Q I q => ?_⟩
  obtain ⟨G, D, o, rfl, nD, a, q⟩ := q
  obtain ⟨ob, hob, hc⟩ := aside_raw a (I.hok D o upd_same)
  refine thn (h.run _ s σ G _ (inv_hide I nD a hob hc) q) fun u s1 z => ?_
  obtain ⟨v, G', J, r, st, k⟩ := z
  obtain ⟨p2, J2⟩ := inv_show I nD a hob J st
  exact ⟨v, _, J2, r, k p2⟩
theorem pt_hide (h : PT X e tt) : PT X e (tHideT tt) := by
  refine ⟨fun pins s σ H Q I q => ?_⟩
  obtain ⟨G, D, o, rfl, nD, a, q⟩ := q
  obtain ⟨ob, hob, hc⟩ := aside_raw a (I.hok D o upd_same)
  refine thn (h.run _ s σ G _ (inv_hide I nD a hob hc) q) fun u s1 z => ?_
  obtain ⟨G', J, st, k⟩ := z
  obtain ⟨p2, J2⟩ := inv_show I nD a hob J st
  exact ⟨_, J2, k p2⟩
end
end Nos
/-! What stands for what: data of plain Lean and the values that bear it. -/
namespace Nos
open PySem PySem.Spec PyProof.Rows L2
open C8 (Met Cal Mak Def fnScope fnArgs fnBody)
local macro_rules | `(tactic| walk_at "same") => `(tactic| first | exact Same.refl _ | assumption | (refine Same.trans ?_ (by assumption); walk_at "same"))

/-! ### the text by places -/
def topS (i : Nat) : Stmt := PySem.Challenge.pw_noneorsome_k53_whole_one_counter_by_numb.main.body.getD i (.Pass ⟨0, 0, 0, 0⟩)

/-! ### heaps -/
theorem same_new {H : Hp} {p : Addr} {o : HO} (h : H p = none) : Same H (upd H p o) := fun b x e => by
  rw [upd_ne (ne_of_none e h)]
  exact e
/-- what H does not know may change -/
theorem same_mut {H H' : Hp} {p : Addr} {o : HO} (e : Same H H') (h : H p = none) : Same H (upd H' p o) := fun b x q => by
  rw [upd_ne (ne_of_none q h)]
  exact e b x q
theorem same_made {H H1 : Hp} {x dx C : Addr} (nx : H x = Option.none) (nd : H dx = Option.none) (s : Same (upd (upd H dx (.own x)) x (.ins C dx [])) H1) : Same H H1 := fun b o e =>
  s b o (by rw [upd_ne (ne_of_none e nx), upd_ne (ne_of_none e nd)]; exact e)
theorem SqT.same {K : PySem.W.Frag} {H H' : Hp} {a : Addr} {xs : List V} (e : Same H H') (h : SqT K H a xs) : SqT K H' a xs :=
  h.elim (fun h => .inl (h.elim (fun h => .inl (e _ _ h)) fun ⟨o, h⟩ => .inr ⟨o, e _ _ h⟩)) fun h => .inr h
theorem big5 {n : Nat} (h : n ≤ 100000) : n ≤ sizeLine := Nat.le_trans h (by decide)
theorem big5' {n : Nat} (h : n < 100000) : n < sizeLine := Nat.lt_of_lt_of_le h (by decide)

/-! ### what stands for what -/
abbrev Rep (α : Type) := Hp → V → α → Prop
/-- the same, but for dicts that are locked -/
def NotD : HO → Prop
  | .dK kvs => ∀ p ∈ kvs, ∀ a, p.2 ≠ V.ref a
  | .dT _ => False
  | _ => True
structure Ex (H H' : Hp) : Prop where
  o' : ∀ b o, NotD o → H b = some o → H' b = some o
  d : ∀ b kvs, H b = some (.dK kvs) → Rd H' b (.dK kvs)
theorem Ex.o {H H' : Hp} {b : Addr} {o : HO} (e : Ex H H') (h : H b = some o) (n : NotD o := by trivial) : H' b = some o := e.o' b o n h
theorem Ex.of {H H' : Hp} (e : Same H H') : Ex H H' := ⟨fun b o _ h => e b o h, fun b kvs h => .inl (e b _ h)⟩
theorem Ex.rd {H H' : Hp} {b : Addr} {kvs : List (Key × V)} (e : Ex H H') (h : Rd H b (.dK kvs)) : Rd H' b (.dK kvs) := h.elim (e.d b kvs) fun ⟨o, h⟩ => .inr ⟨o, e.o h⟩
theorem Ex.lock {H : Hp} {b : Addr} {kvs : List (Key × V)} {ob : Obj} (h : H b = some (.dK kvs)) (ne : ∃ p ∈ kvs, ∃ a, p.2 = V.ref a) : Ex H (upd H b (.frz ob (.dK kvs))) := ⟨fun x o n q => by
  by_cases z : x = b
  · subst z
    rw [h] at q
    cases q
    obtain ⟨p, hp, a, e⟩ := ne
    exact absurd e (n p hp a)
  · rw [upd_ne z]
    exact q, fun x k q => by
  by_cases z : x = b
  · subst z
    rw [h] at q
    cases q
    exact .inr ⟨ob, upd_same⟩
  · exact .inl (by rw [upd_ne z]; exact q)⟩
theorem Ex.butT {H H' : Hp} {b : Addr} {kvs : List (List Key × V)} (h : H b = some (.dT kvs)) (e : ∀ x o, x ≠ b → H x = some o → H' x = some o) : Ex H H' := ⟨fun x o n q => e x o (fun z => by
  rw [z, h] at q
  cases q
  exact n) q, fun x k q => .inl (e x _ (fun z => by rw [z, h] at q; cases q) q)⟩
/-- unlocked again -/
theorem same_unlock {H H' : Hp} {b : Addr} {kvs : List (Key × V)} {ob : Obj} (h : H b = some (.dK kvs)) (e : Same (upd H b (.frz ob (.dK kvs))) H') : Same H (upd H' b (.dK kvs)) := fun x o q => by
  by_cases z : x = b
  · subst z
    rw [h] at q
    cases q
    exact upd_same
  · rw [upd_ne z]
    exact e _ _ (by rw [upd_ne z]; exact q)
class Mono {α : Type} (R : Rep α) : Prop where
  mono : ∀ {H H' : Hp} {v : V} {x : α}, Ex H H' → R H v x → R H' v x
theorem mono {α : Type} {R : Rep α} [m : Mono R] {H H' : Hp} {v : V} {x : α} (h : R H v x) (e : Same H H') : R H' v x := m.mono (.of e) h
theorem monoE {α : Type} {R : Rep α} [m : Mono R] {H H' : Hp} {v : V} {x : α} (h : R H v x) (e : Ex H H') : R H' v x := m.mono e h
def rStr : Rep Str := fun _ v s => v = .str s
def rInt : Rep Int := fun _ v i => v = .int i
def rBool : Rep Bool := fun _ v b => v = .bl b
instance : Mono rStr := ⟨fun _ h => h⟩
instance : Mono rInt := ⟨fun _ h => h⟩
instance : Mono rBool := ⟨fun _ h => h⟩
/-- a tuple of texts -/
def rTupS : Rep (List Str) := fun H v l => ∃ a, v = .ref a ∧ H a = some (.tup (l.map V.str))
instance : Mono rTupS := ⟨fun e ⟨a, h1, h2⟩ => ⟨a, h1, e.o h2⟩⟩
/-- a list of texts -/
def rLstS : Rep (List Str) := fun H v l => ∃ a, v = .ref a ∧ H a = some (.lst (l.map V.str))
instance : Mono rLstS := ⟨fun e ⟨a, h1, h2⟩ => ⟨a, h1, e.o h2⟩⟩
theorem paired_monoE {α : Type} {R : Rep α} [Mono R] {H H' : Hp} (e : Ex H H') : ∀ {vs : List V} {l : List α}, Paired (R H) vs l → Paired (R H') vs l
  | _, _, .nil => .nil
  | _, _, .cons h t => .cons (monoE h e) (paired_monoE e t)
theorem paired_mono {α : Type} {R : Rep α} [Mono R] {H H' : Hp} (e : Same H H') {vs : List V} {l : List α} (h : Paired (R H) vs l) : Paired (R H') vs l := paired_monoE (.of e) h
/-- a list of such -/
def rLst {α : Type} (R : Rep α) : Rep (List α) := fun H v l => ∃ a vs, v = .ref a ∧ H a = some (.lst vs) ∧ Paired (R H) vs l
instance {α : Type} {R : Rep α} [Mono R] : Mono (rLst R) := ⟨fun e ⟨a, vs, h1, h2, h3⟩ => ⟨a, vs, h1, e.o h2, paired_monoE e h3⟩⟩
/-- a pair, three, five -/
def rTup2 {α β : Type} (R : Rep α) (S : Rep β) : Rep (α × β) := fun H v p => ∃ a x y, v = .ref a ∧ H a = some (.tup [x, y]) ∧ R H x p.1 ∧ S H y p.2
instance {α β : Type} {R : Rep α} {S : Rep β} [Mono R] [Mono S] : Mono (rTup2 R S) := ⟨fun e ⟨a, x, y, h1, h2, h3, h4⟩ => ⟨a, x, y, h1, e.o h2, monoE h3 e, monoE h4 e⟩⟩
def rTup3 {α β γ : Type} (R : Rep α) (S : Rep β) (T : Rep γ) : Rep (α × β × γ) := fun H v p => ∃ a x y z, v = .ref a ∧ H a = some (.tup [x, y, z]) ∧ R H x p.1 ∧ S H y p.2.1 ∧ T H z p.2.2
instance {α β γ : Type} {R : Rep α} {S : Rep β} {T : Rep γ} [Mono R] [Mono S] [Mono T] : Mono (rTup3 R S T) := ⟨fun e ⟨a, x, y, z, h1, h2, h3, h4, h5⟩ => ⟨a, x, y, z, h1, e.o h2, monoE h3 e, monoE h4 e, monoE h5 e⟩⟩
/-- None or such -/
def rOpt {α : Type} (R : Rep α) : Rep (Option α) := fun H v o => match o with
  | none => v = .non
  | some x => R H v x
instance {α : Type} {R : Rep α} [Mono R] : Mono (rOpt R) := ⟨fun {H H' v x} e h => by cases x with
  | none => exact h
  | some x => exact monoE (R := R) h e⟩

theorem paired_get {α : Type} {F : V → α → Prop} : ∀ {vs : List V} {l : List α} {i : Nat} {x : V}, Paired F vs l → vs[i]? = some x → ∃ y, l[i]? = some y ∧ F x y
  | _, _, _, _, .nil, e => by simp at e
  | _, _, 0, _, .cons h _, e => by
    simp at e
    subst e
    exact ⟨_, rfl, h⟩
  | _, _, i + 1, x, .cons _ t, e => by
    obtain ⟨y, h1, h2⟩ := paired_get (i := i) (x := x) t (by simpa using e)
    exact ⟨y, by simpa using h1, h2⟩
theorem paired_at {α : Type} {F : V → α → Prop} : ∀ {vs : List V} {l : List α} {i : Nat} {y : α}, Paired F vs l → l[i]? = some y → ∃ x, vs[i]? = some x ∧ F x y
  | _, _, _, _, .nil, e => by simp at e
  | _, _, 0, _, .cons h _, e => by
    simp at e
    subst e
    exact ⟨_, rfl, h⟩
  | _, _, i + 1, x, .cons _ t, e => by
    obtain ⟨y, h1, h2⟩ := paired_at (i := i) (y := x) t (by simpa using e)
    exact ⟨y, by simpa using h1, h2⟩
theorem paired_len {α : Type} {F : V → α → Prop} {vs : List V} {l : List α} (h : Paired F vs l) : vs.length = l.length := Paired.length h
theorem paired_append {α : Type} {F : V → α → Prop} : ∀ {vs ws : List V} {l m : List α}, Paired F vs l → Paired F ws m → Paired F (vs ++ ws) (l ++ m)
  | _, _, _, _, .nil, s => s
  | _, _, _, _, .cons h t, s => .cons h (paired_append t s)
theorem paired_snoc {α : Type} {F : V → α → Prop} {vs : List V} {l : List α} {v : V} {x : α} (h : Paired F vs l) (q : F v x) : Paired F (vs ++ [v]) (l ++ [x]) := paired_append h (.cons q .nil)
theorem paired_imp {α : Type} {F G : V → α → Prop} (f : ∀ v x, F v x → G v x) : ∀ {vs : List V} {l : List α}, Paired F vs l → Paired G vs l
  | _, _, .nil => .nil
  | _, _, .cons h t => .cons (f _ _ h) (paired_imp f t)
theorem paired_strs {H : Hp} : ∀ {vs : List V} {l : List Str}, Paired (rStr H) vs l → vs = l.map V.str
  | _, _, .nil => rfl
  | _, _, .cons h t => by rw [paired_strs t, show _ = V.str _ from h]; rfl
theorem strs_paired {H : Hp} : ∀ {l : List Str}, Paired (rStr H) (l.map V.str) l
  | [] => .nil
  | _ :: _ => .cons rfl strs_paired

/-! ### comprehensions over what is known -/
theorem take_more {α : Type} {l : List α} {i : Nat} {x : α} (h : l[i]? = some x) : l.take (i + 1) = l.take i ++ [x] := by
  rw [List.take_add_one, h]
  rfl
theorem tYes_i {σ : L2.St} {H : Hp} {Q : Bool → Hp → Prop} (h : Q true H) : tYes σ H Q := h
theorem filter_one {α : Type} {p : α → Bool} {x : α} : List.filter p [x] = if p x = true then [x] else [] := by
  rw [List.filter_cons]
  rfl
section
variable {α β : Type} {J : It} {n : Nat} {Gd : Hp → Prop} {Y : Nat → Hp → V → Hp → Prop} {D : Addr} {ys : List α} {j : Nat} {tt : TT} {te : TE} {vs : List Nat} {σ : L2.St} {H1 : Hp} {Qd : Hp → Prop}
/-- [te for x in .. if tt]: te and tt are told over the heap without the new list -/
theorem lc_w (w : Walk J n Gd Y) (R : Rep α) (S : Rep β) [Mono R] [Mono S] (keep : α → Bool) (f : α → β) (hn : n = ys.length) (hG : ∀ H, Same H1 H → Gd H)
    (hY : ∀ i H x H', i < n → Y i H x H' → H' = H ∧ ∃ y, ys[i]? = some y ∧ R H1 x y) (hl : ys.length < 100000) (nD : H1 D = none)
    (hw : ∀ x, wipe ((wipe σ vs).set j (some x)) vs = wipe σ vs)
    (ht : ∀ x y G, Same H1 G → R G x y → y ∈ ys → ∀ Q : Bool → Hp → Prop, (∀ G2, Same G G2 → Q (keep y) G2) → tt ((wipe σ vs).set j (some x)) G Q)
    (he : ∀ x y G, Same H1 G → R G x y → y ∈ ys → keep y = true → ∀ Q : VK, (∀ v G2, Same G G2 → S G2 v (f y) → Q v G2) → te ((wipe σ vs).set j (some x)) G Q)
    (hq : ∀ H2 zs, Same H1 H2 → H2 D = some (.lst zs) → Paired (S H2) zs ((ys.filter keep).map f) → Qd H2) :
    ∃ W : Nat → Nat → Hp → Prop, (∃ m, W 0 m (upd H1 D (.lst []))) ∧ ∀ i m H, W i m H →
      (J.stop i H ∧ Qd H) ∨ (J.go i H ∧ ∃ Nx : Hp → Prop, (∀ H', Nx H' → ∃ m', m' < m ∧ W (i + 1) m' H') ∧ ∀ x H', J.yld i H x H' → gName j x (wipe σ vs) H' fun σ2 H2 => wipe σ2 vs = wipe σ vs ∧ tHideT tt σ2 H2 fun b H3 =>
        if b = true then tHide te σ2 H3 fun y H4 => ∃ acc, H4 D = some (.lst acc) ∧ acc.length < sizeLine ∧ Nx (upd H4 D (.lst (acc ++ [y]))) else Nx H3) := by
  refine lc_it w (fun i H => ∃ G zs, H = upd G D (.lst zs) ∧ G D = none ∧ Same H1 G ∧ Paired (S G) zs (((ys.take i).filter keep).map f)) ⟨H1, [], rfl, nD, Same.refl _, .nil⟩ (fun i H _ ⟨G, zs, e, nG, s, _⟩ => hG H (by rw [e]; exact same_mut s nD)) (fun i x H H' hi ⟨G, zs, e, nG, s, hz⟩ hyy => ?_) (fun H ⟨G, zs, e, nG, s, hz⟩ => ?_)
  · obtain ⟨rfl, y, hy, hr⟩ := hY i H x H' hi hyy
    subst e
    have hm : y ∈ ys := List.mem_of_getElem? hy
    have hlz : zs.length ≤ i := by
      rw [paired_len hz, List.length_map]
      exact Nat.le_trans (List.length_filter_le _ _) (by rw [List.length_take]; exact Nat.min_le_left _ _)
    refine ⟨hw x, G, D, .lst zs, rfl, nG, trivial, ht x y G s (mono hr s) hm _ fun G2 s2 => ⟨trivial, fun n2 => ?_⟩⟩
    rw [take_more hy, List.filter_append, filter_one]
    cases hk : keep y with
    | false =>
      rw [if_neg Bool.false_ne_true, if_neg Bool.false_ne_true, List.append_nil]
      exact ⟨G2, zs, rfl, n2, s.trans s2, paired_mono s2 hz⟩
    | true =>
      rw [if_pos rfl, if_pos rfl]
      refine ⟨G2, D, .lst zs, rfl, n2, trivial, he x y G2 (s.trans s2) (mono hr (s.trans s2)) hm hk _ fun v G3 s3 hv => ⟨trivial, fun n3 => ⟨zs, upd_same, big5' (by omega), G3, zs ++ [v], upd_upd, n3, (s.trans s2).trans s3, ?_⟩⟩⟩
      rw [List.map_append]
      exact paired_snoc (paired_mono (s2.trans s3) hz) hv
  · subst e
    rw [List.take_of_length_le (by omega)] at hz
    exact hq _ zs (same_mut s nD) upd_same (paired_mono (same_new nG) hz)
/-- the same without a test -/
theorem lc_wm (w : Walk J n Gd Y) (R : Rep α) (S : Rep β) [Mono R] [Mono S] (f : α → β) (hn : n = ys.length) (hG : ∀ H, Same H1 H → Gd H)
    (hY : ∀ i H x H', i < n → Y i H x H' → H' = H ∧ ∃ y, ys[i]? = some y ∧ R H1 x y) (hl : ys.length < 100000) (nD : H1 D = none)
    (hw : ∀ x, wipe ((wipe σ vs).set j (some x)) vs = wipe σ vs)
    (he : ∀ x y G, Same H1 G → R G x y → y ∈ ys → ∀ Q : VK, (∀ v G2, Same G G2 → S G2 v (f y) → Q v G2) → te ((wipe σ vs).set j (some x)) G Q)
    (hq : ∀ H2 zs, Same H1 H2 → H2 D = some (.lst zs) → Paired (S H2) zs (ys.map f) → Qd H2) :
    ∃ W : Nat → Nat → Hp → Prop, (∃ m, W 0 m (upd H1 D (.lst []))) ∧ ∀ i m H, W i m H →
      (J.stop i H ∧ Qd H) ∨ (J.go i H ∧ ∃ Nx : Hp → Prop, (∀ H', Nx H' → ∃ m', m' < m ∧ W (i + 1) m' H') ∧ ∀ x H', J.yld i H x H' → gName j x (wipe σ vs) H' fun σ2 H2 => wipe σ2 vs = wipe σ vs ∧ tYes σ2 H2 fun b H3 =>
        if b = true then tHide te σ2 H3 fun y H4 => ∃ acc, H4 D = some (.lst acc) ∧ acc.length < sizeLine ∧ Nx (upd H4 D (.lst (acc ++ [y]))) else Nx H3) := by
  refine lc_it w (fun i H => ∃ G zs, H = upd G D (.lst zs) ∧ G D = none ∧ Same H1 G ∧ Paired (S G) zs ((ys.take i).map f)) ⟨H1, [], rfl, nD, Same.refl _, .nil⟩ (fun i H _ ⟨G, zs, e, nG, s, _⟩ => hG H (by rw [e]; exact same_mut s nD)) (fun i x H H' hi ⟨G, zs, e, nG, s, hz⟩ hyy => ?_) (fun H ⟨G, zs, e, nG, s, hz⟩ => ?_)
  · obtain ⟨rfl, y, hy, hr⟩ := hY i H x H' hi hyy
    subst e
    have hm : y ∈ ys := List.mem_of_getElem? hy
    have hlz : zs.length ≤ i := by
      rw [paired_len hz, List.length_map, List.length_take]
      exact Nat.min_le_left _ _
    refine ⟨hw x, tYes_i ?_⟩
    rw [if_pos rfl]
    refine ⟨G, D, .lst zs, rfl, nG, trivial, he x y G s (mono hr s) hm _ fun v G3 s3 hv => ⟨trivial, fun n3 => ⟨zs, upd_same, big5' (by omega), G3, zs ++ [v], upd_upd, n3, s.trans s3, ?_⟩⟩⟩
    rw [take_more hy, List.map_append]
    exact paired_snoc (paired_mono s3 hz) hv
  · subst e
    rw [List.take_of_length_le (by omega)] at hz
    exact hq _ zs (same_mut s nD) upd_same (paired_mono (same_new nG) hz)
end
section
variable {α : Type} {K : PySem.W.Frag} {a : Addr} {xs : List V} {ys : List α} {H1 : Hp}
theorem yat_of (R : Rep α) (hp : Paired (R H1) xs ys) : ∀ i H x H', i < xs.length → YAt xs i H x H' → H' = H ∧ ∃ y, ys[i]? = some y ∧ R H1 x y := fun i H x H' _ ⟨e, h⟩ => ⟨e, paired_get hp h⟩
end
/-! ### what one list of one's own is apart -/
def off (H : Hp) (D : Addr) : Hp := fun b => if b = D then none else H b
theorem off_at {H : Hp} {D : Addr} : off H D D = none := if_pos rfl
theorem off_ne {H : Hp} {D b : Addr} (h : b ≠ D) : off H D b = H b := if_neg h
theorem upd_off {H : Hp} {D : Addr} {o : HO} : upd (off H D) D o = upd H D o := by
  funext b
  by_cases h : b = D
  · rw [h, upd_same, upd_same]
  · rw [upd_ne h, upd_ne h, off_ne h]
theorem off_self {H : Hp} {D : Addr} {o : HO} (h : H D = some o) : H = upd (off H D) D o := by
  funext b
  by_cases e : b = D
  · rw [e, upd_same, h]
  · rw [upd_ne e, off_ne e]
theorem same_off {G H' : Hp} {D : Addr} {o : HO} (n : G D = none) (e : Same (upd G D o) H') : Same G (off H' D) := fun b x h => by
  have q := ne_of_none h n
  rw [off_ne q]
  exact e _ _ (by rw [upd_ne q]; exact h)
end Nos
/-! The program's data in plain Lean; what the top has left. -/
namespace Nos
open PySem PySem.Spec PyProof.Rows L2
open C8 (Met Cal Mak Def fnScope fnArgs fnBody)
/-! ### data -/
inductive Tree where
  | is (s : Str) | not (t : Tree) | and (t u : Tree) | or (t u : Tree) | always | never
def Tree.holds (ns : List Str) : Tree → Bool
  | .is s => decide (s ∈ ns)
  | .not t => !t.holds ns
  | .and t u => t.holds ns && u.holds ns
  | .or t u => t.holds ns || u.holds ns
  | .always => true
  | .never => false
def Tree.names : Tree → List Str
  | .is s => [s]
  | .not t => t.names
  | .and t u => t.names ++ u.names
  | .or t u => t.names ++ u.names
  | .always => []
  | .never => []
def Tree.depth : Tree → Nat
  | .is _ => 0
  | .not t => t.depth + 1
  | .and t u => max t.depth u.depth + 1
  | .or t u => max t.depth u.depth + 1
  | .always => 0
  | .never => 0
inductive Ch where
  | yes | no | add | take | empty
  deriving DecidableEq
def Ch.v : Ch → V
  | .yes => .bl true
  | .no => .bl false
  | .add => .str "add"
  | .take => .str "take"
  | .empty => .str "empty"
abbrev Chg := List (Str × Ch)
def chg (o : Chg) (n : Str) : Option Ch := (o.find? fun p => decide (p.1 = n)).map (·.2)
structure Act where
  need : Tree
  outs : List Chg
structure Wd where
  facts : List Str
  piles : List Str
  reserves : List Str
  acts : List (Str × Act)
def reserved : List Str := ["and", "or", "not", "always", "never"]
def letters : Str := "abcdefghijklmnopqrstuvwxyz"
def isName (s : Str) : Bool := decide (1 ≤ s.length) && decide (s.length ≤ 8) && !decide (s ∈ reserved) && s.cps.toList.all fun c => decide (c ∈ letters.cps.toList)
/-! ### what is in order -/
structure ChgOk (o : Chg) : Prop where
  nd : (o.map (·.1)).Nodup
  len : o.length ≤ 3
  nm : ∀ p ∈ o, isName p.1 = true
structure LsOk (w : Wd) : Prop where
  nf : w.facts.length ≤ 2
  np : w.piles.length ≤ 1
  nr : w.reserves.length ≤ 1
  nd : (w.facts ++ w.piles ++ w.reserves).Nodup
  nm : ∀ n ∈ w.facts ++ w.piles ++ w.reserves, isName n = true
  sn : w.facts ++ w.piles ≠ []
  cn : w.piles ++ w.reserves ≠ []
def Fits (w : Wd) (p : Str × Ch) : Prop := (p.1 ∈ w.facts ∧ (p.2 = .yes ∨ p.2 = .no)) ∨ (p.1 ∈ w.piles ∧ (p.2 = .add ∨ p.2 = .take ∨ p.2 = .empty)) ∨ (p.1 ∈ w.reserves ∧ (p.2 = .add ∨ p.2 = .take))
structure ActOk (w : Wd) (a : Act) : Prop where
  ne : a.outs ≠ []
  len : a.outs.length ≤ 2
  dep : a.need.depth ≤ 2
  need : ∀ n ∈ a.need.names, n ∈ w.facts ++ w.piles
  ok : ∀ o ∈ a.outs, ChgOk o
  fit : ∀ o ∈ a.outs, ∀ p ∈ o, Fits w p
  free : ∃ o ∈ a.outs, ∀ r ∈ w.reserves, chg o r ≠ some .take
structure WdOk (w : Wd) : Prop extends LsOk w where
  acts : ∀ p ∈ w.acts, isName p.1 = true ∧ ActOk w p.2
  na : w.acts.length ≤ 3
  nda : (w.acts.map (·.1)).Nodup
/-! ### the classes' addresses; instances -/
structure Cs where
  W : Addr
  A : Addr
  O : Addr
  C : Addr
  T : Addr
  G : Addr
theorem lk_here {k : Str} {v : V} {r : List (Str × V)} : List.lookup k ((k, v) :: r) = some v := by
  have e : (k == k) = true := beq_self_eq_true k
  simp only [List.lookup, e]
theorem lk_past {k g : Str} {v : V} {r : List (Str × V)} (h : (k == g) = false) : List.lookup k ((g, v) :: r) = List.lookup k r := by
  simp only [List.lookup, h]
theorem ifT {b : Bool} {A B : Prop} (h : b = true) (a : A) : if b = true then A else B := by
  rw [if_pos h]
  exact a
theorem ifF {b : Bool} {A B : Prop} (h : b = false) (a : B) : if b = true then A else B := by
  rw [if_neg (by rw [h]; exact Bool.false_ne_true)]
  exact a
theorem put_past {f g : Str} {v x : V} {r : List (Str × V)} (h : ¬ g = f) : putF f v ((g, x) :: r) = (g, x) :: putF f v r := if_neg h
def fW (x0 x1 x2 x3 : V) : List (Str × V) := [("fact_names", x0), ("pile_names", x1), ("reserve_names", x2), ("table", x3)]
theorem fW_fact_names {x0 x1 x2 x3 : V} : (fW x0 x1 x2 x3).lookup ("fact_names" : Str) = some x0 := lk_here
theorem fW_pile_names {x0 x1 x2 x3 : V} : (fW x0 x1 x2 x3).lookup ("pile_names" : Str) = some x1 := (lk_past (by decide +kernel)).trans (lk_here)
theorem fW_reserve_names {x0 x1 x2 x3 : V} : (fW x0 x1 x2 x3).lookup ("reserve_names" : Str) = some x2 := (lk_past (by decide +kernel)).trans ((lk_past (by decide +kernel)).trans (lk_here))
theorem fW_table {x0 x1 x2 x3 : V} : (fW x0 x1 x2 x3).lookup ("table" : Str) = some x3 := (lk_past (by decide +kernel)).trans ((lk_past (by decide +kernel)).trans ((lk_past (by decide +kernel)).trans (lk_here)))
theorem fW_no_seen {x0 x1 x2 x3 : V} : (fW x0 x1 x2 x3).lookup ("seen" : Str) = none := (lk_past (by decide +kernel)).trans ((lk_past (by decide +kernel)).trans ((lk_past (by decide +kernel)).trans ((lk_past (by decide +kernel)).trans (rfl))))
theorem fW_no_counters {x0 x1 x2 x3 : V} : (fW x0 x1 x2 x3).lookup ("counters" : Str) = none := (lk_past (by decide +kernel)).trans ((lk_past (by decide +kernel)).trans ((lk_past (by decide +kernel)).trans ((lk_past (by decide +kernel)).trans (rfl))))
theorem fW_no_copy {x0 x1 x2 x3 : V} : (fW x0 x1 x2 x3).lookup ("copy" : Str) = none := (lk_past (by decide +kernel)).trans ((lk_past (by decide +kernel)).trans ((lk_past (by decide +kernel)).trans ((lk_past (by decide +kernel)).trans (rfl))))
theorem fW_no_check_change_of {x0 x1 x2 x3 : V} : (fW x0 x1 x2 x3).lookup ("check_change_of" : Str) = none := (lk_past (by decide +kernel)).trans ((lk_past (by decide +kernel)).trans ((lk_past (by decide +kernel)).trans ((lk_past (by decide +kernel)).trans (rfl))))
theorem fW_no_takes_reserve {x0 x1 x2 x3 : V} : (fW x0 x1 x2 x3).lookup ("takes_reserve" : Str) = none := (lk_past (by decide +kernel)).trans ((lk_past (by decide +kernel)).trans ((lk_past (by decide +kernel)).trans ((lk_past (by decide +kernel)).trans (rfl))))
theorem fW_no_check_action {x0 x1 x2 x3 : V} : (fW x0 x1 x2 x3).lookup ("check_action" : Str) = none := (lk_past (by decide +kernel)).trans ((lk_past (by decide +kernel)).trans ((lk_past (by decide +kernel)).trans ((lk_past (by decide +kernel)).trans (rfl))))
theorem fW_no_states {x0 x1 x2 x3 : V} : (fW x0 x1 x2 x3).lookup ("states" : Str) = none := (lk_past (by decide +kernel)).trans ((lk_past (by decide +kernel)).trans ((lk_past (by decide +kernel)).trans ((lk_past (by decide +kernel)).trans (rfl))))
theorem fW_no_state_of {x0 x1 x2 x3 : V} : (fW x0 x1 x2 x3).lookup ("state_of" : Str) = none := (lk_past (by decide +kernel)).trans ((lk_past (by decide +kernel)).trans ((lk_past (by decide +kernel)).trans ((lk_past (by decide +kernel)).trans (rfl))))
theorem fW_no_fits {x0 x1 x2 x3 : V} : (fW x0 x1 x2 x3).lookup ("fits" : Str) = none := (lk_past (by decide +kernel)).trans ((lk_past (by decide +kernel)).trans ((lk_past (by decide +kernel)).trans ((lk_past (by decide +kernel)).trans (rfl))))
theorem fW_no_possible {x0 x1 x2 x3 : V} : (fW x0 x1 x2 x3).lookup ("possible" : Str) = none := (lk_past (by decide +kernel)).trans ((lk_past (by decide +kernel)).trans ((lk_past (by decide +kernel)).trans ((lk_past (by decide +kernel)).trans (rfl))))
theorem fW_no_checked {x0 x1 x2 x3 : V} : (fW x0 x1 x2 x3).lookup ("checked" : Str) = none := (lk_past (by decide +kernel)).trans ((lk_past (by decide +kernel)).trans ((lk_past (by decide +kernel)).trans ((lk_past (by decide +kernel)).trans (rfl))))
theorem fW_no_behind {x0 x1 x2 x3 : V} : (fW x0 x1 x2 x3).lookup ("behind" : Str) = none := (lk_past (by decide +kernel)).trans ((lk_past (by decide +kernel)).trans ((lk_past (by decide +kernel)).trans ((lk_past (by decide +kernel)).trans (rfl))))
theorem fW_no_results {x0 x1 x2 x3 : V} : (fW x0 x1 x2 x3).lookup ("results" : Str) = none := (lk_past (by decide +kernel)).trans ((lk_past (by decide +kernel)).trans ((lk_past (by decide +kernel)).trans ((lk_past (by decide +kernel)).trans (rfl))))
theorem fW_no_shifts {x0 x1 x2 x3 : V} : (fW x0 x1 x2 x3).lookup ("shifts" : Str) = none := (lk_past (by decide +kernel)).trans ((lk_past (by decide +kernel)).trans ((lk_past (by decide +kernel)).trans ((lk_past (by decide +kernel)).trans (rfl))))
theorem fW_no_setitem {x0 x1 x2 x3 : V} : (fW x0 x1 x2 x3).lookup ("__setitem__" : Str) = none := (lk_past (by decide +kernel)).trans ((lk_past (by decide +kernel)).trans ((lk_past (by decide +kernel)).trans ((lk_past (by decide +kernel)).trans (rfl))))
theorem fW_put0 {x0 : V} : putF "fact_names" x0 ([] : List (Str × V)) = [(("fact_names" : Str), x0)] := rfl
theorem fW_put1 {x0 x1 : V} : putF "pile_names" x1 ([(("fact_names" : Str), x0)] : List (Str × V)) = [(("fact_names" : Str), x0), (("pile_names" : Str), x1)] := (put_past (by decide +kernel)).trans (congrArg _ (rfl))
theorem fW_put2 {x0 x1 x2 : V} : putF "reserve_names" x2 ([(("fact_names" : Str), x0), (("pile_names" : Str), x1)] : List (Str × V)) = [(("fact_names" : Str), x0), (("pile_names" : Str), x1), (("reserve_names" : Str), x2)] := (put_past (by decide +kernel)).trans (congrArg _ ((put_past (by decide +kernel)).trans (congrArg _ (rfl))))
theorem fW_put3 {x0 x1 x2 x3 : V} : putF "table" x3 ([(("fact_names" : Str), x0), (("pile_names" : Str), x1), (("reserve_names" : Str), x2)] : List (Str × V)) = [(("fact_names" : Str), x0), (("pile_names" : Str), x1), (("reserve_names" : Str), x2), (("table" : Str), x3)] := (put_past (by decide +kernel)).trans (congrArg _ ((put_past (by decide +kernel)).trans (congrArg _ ((put_past (by decide +kernel)).trans (congrArg _ (rfl))))))
def fA (x0 x1 : V) : List (Str × V) := [("need", x0), ("parts", x1)]
theorem fA_need {x0 x1 : V} : (fA x0 x1).lookup ("need" : Str) = some x0 := lk_here
theorem fA_parts {x0 x1 : V} : (fA x0 x1).lookup ("parts" : Str) = some x1 := (lk_past (by decide +kernel)).trans (lk_here)
theorem fA_no_outcome {x0 x1 : V} : (fA x0 x1).lookup ("outcome" : Str) = none := (lk_past (by decide +kernel)).trans ((lk_past (by decide +kernel)).trans (rfl))
theorem fA_no_len {x0 x1 : V} : (fA x0 x1).lookup ("__len__" : Str) = none := (lk_past (by decide +kernel)).trans ((lk_past (by decide +kernel)).trans (rfl))
theorem fA_put0 {x0 : V} : putF "need" x0 ([] : List (Str × V)) = [(("need" : Str), x0)] := rfl
theorem fA_put1 {x0 x1 : V} : putF "parts" x1 ([(("need" : Str), x0)] : List (Str × V)) = [(("need" : Str), x0), (("parts" : Str), x1)] := (put_past (by decide +kernel)).trans (congrArg _ (rfl))
def fO (x0 : V) : List (Str × V) := [("table", x0)]
theorem fO_table {x0 : V} : (fO x0).lookup ("table" : Str) = some x0 := lk_here
theorem fO_no_names {x0 : V} : (fO x0).lookup ("names" : Str) = none := (lk_past (by decide +kernel)).trans (rfl)
theorem fO_no_copy {x0 : V} : (fO x0).lookup ("copy" : Str) = none := (lk_past (by decide +kernel)).trans (rfl)
theorem fO_no_getitem {x0 : V} : (fO x0).lookup ("__getitem__" : Str) = none := (lk_past (by decide +kernel)).trans (rfl)
theorem fO_put0 {x0 : V} : putF "table" x0 ([] : List (Str × V)) = [(("table" : Str), x0)] := rfl
def fC (x0 : V) : List (Str × V) := [("tree", x0)]
theorem fC_tree {x0 : V} : (fC x0).lookup ("tree" : Str) = some x0 := lk_here
theorem fC_no_of {x0 : V} : (fC x0).lookup ("of" : Str) = none := (lk_past (by decide +kernel)).trans (rfl)
theorem fC_no_always {x0 : V} : (fC x0).lookup ("always" : Str) = none := (lk_past (by decide +kernel)).trans (rfl)
theorem fC_no_never {x0 : V} : (fC x0).lookup ("never" : Str) = none := (lk_past (by decide +kernel)).trans (rfl)
theorem fC_no_names {x0 : V} : (fC x0).lookup ("names" : Str) = none := (lk_past (by decide +kernel)).trans (rfl)
theorem fC_no_call {x0 : V} : (fC x0).lookup ("__call__" : Str) = none := (lk_past (by decide +kernel)).trans (rfl)
theorem fC_no_and {x0 : V} : (fC x0).lookup ("__and__" : Str) = none := (lk_past (by decide +kernel)).trans (rfl)
theorem fC_no_or {x0 : V} : (fC x0).lookup ("__or__" : Str) = none := (lk_past (by decide +kernel)).trans (rfl)
theorem fC_no_invert {x0 : V} : (fC x0).lookup ("__invert__" : Str) = none := (lk_past (by decide +kernel)).trans (rfl)
theorem fC_put0 {x0 : V} : putF "tree" x0 ([] : List (Str × V)) = [(("tree" : Str), x0)] := rfl
def fT (x0 x1 x2 : V) : List (Str × V) := [("inner", x0), ("begin", x1), ("aimed", x2)]
theorem fT_inner {x0 x1 x2 : V} : (fT x0 x1 x2).lookup ("inner" : Str) = some x0 := lk_here
theorem fT_begin {x0 x1 x2 : V} : (fT x0 x1 x2).lookup ("begin" : Str) = some x1 := (lk_past (by decide +kernel)).trans (lk_here)
theorem fT_aimed {x0 x1 x2 : V} : (fT x0 x1 x2).lookup ("aimed" : Str) = some x2 := (lk_past (by decide +kernel)).trans ((lk_past (by decide +kernel)).trans (lk_here))
theorem fT_no_base {x0 x1 x2 : V} : (fT x0 x1 x2).lookup ("base" : Str) = none := (lk_past (by decide +kernel)).trans ((lk_past (by decide +kernel)).trans ((lk_past (by decide +kernel)).trans (rfl)))
theorem fT_no_goals {x0 x1 x2 : V} : (fT x0 x1 x2).lookup ("goals" : Str) = none := (lk_past (by decide +kernel)).trans ((lk_past (by decide +kernel)).trans ((lk_past (by decide +kernel)).trans (rfl)))
theorem fT_put0 {x0 : V} : putF "inner" x0 ([] : List (Str × V)) = [(("inner" : Str), x0)] := rfl
theorem fT_put1 {x0 x1 : V} : putF "begin" x1 ([(("inner" : Str), x0)] : List (Str × V)) = [(("inner" : Str), x0), (("begin" : Str), x1)] := (put_past (by decide +kernel)).trans (congrArg _ (rfl))
theorem fT_put2 {x0 x1 x2 : V} : putF "aimed" x2 ([(("inner" : Str), x0), (("begin" : Str), x1)] : List (Str × V)) = [(("inner" : Str), x0), (("begin" : Str), x1), (("aimed" : Str), x2)] := (put_past (by decide +kernel)).trans (congrArg _ ((put_past (by decide +kernel)).trans (congrArg _ (rfl))))
def fG (x0 x1 x2 x3 : V) : List (Str × V) := [("order", x0), ("tallies", x1), ("edges", x2), ("choices", x3)]
theorem fG_order {x0 x1 x2 x3 : V} : (fG x0 x1 x2 x3).lookup ("order" : Str) = some x0 := lk_here
theorem fG_tallies {x0 x1 x2 x3 : V} : (fG x0 x1 x2 x3).lookup ("tallies" : Str) = some x1 := (lk_past (by decide +kernel)).trans (lk_here)
theorem fG_edges {x0 x1 x2 x3 : V} : (fG x0 x1 x2 x3).lookup ("edges" : Str) = some x2 := (lk_past (by decide +kernel)).trans ((lk_past (by decide +kernel)).trans (lk_here))
theorem fG_choices {x0 x1 x2 x3 : V} : (fG x0 x1 x2 x3).lookup ("choices" : Str) = some x3 := (lk_past (by decide +kernel)).trans ((lk_past (by decide +kernel)).trans ((lk_past (by decide +kernel)).trans (lk_here)))
theorem fG_no_added_edges {x0 x1 x2 x3 : V} : (fG x0 x1 x2 x3).lookup ("added_edges" : Str) = none := (lk_past (by decide +kernel)).trans ((lk_past (by decide +kernel)).trans ((lk_past (by decide +kernel)).trans ((lk_past (by decide +kernel)).trans (rfl))))
theorem fG_put0 {x0 : V} : putF "order" x0 ([] : List (Str × V)) = [(("order" : Str), x0)] := rfl
theorem fG_put1 {x0 x1 : V} : putF "tallies" x1 ([(("order" : Str), x0)] : List (Str × V)) = [(("order" : Str), x0), (("tallies" : Str), x1)] := (put_past (by decide +kernel)).trans (congrArg _ (rfl))
theorem fG_put2 {x0 x1 x2 : V} : putF "edges" x2 ([(("order" : Str), x0), (("tallies" : Str), x1)] : List (Str × V)) = [(("order" : Str), x0), (("tallies" : Str), x1), (("edges" : Str), x2)] := (put_past (by decide +kernel)).trans (congrArg _ ((put_past (by decide +kernel)).trans (congrArg _ (rfl))))
theorem fG_put3 {x0 x1 x2 x3 : V} : putF "choices" x3 ([(("order" : Str), x0), (("tallies" : Str), x1), (("edges" : Str), x2)] : List (Str × V)) = [(("order" : Str), x0), (("tallies" : Str), x1), (("edges" : Str), x2), (("choices" : Str), x3)] := (put_past (by decide +kernel)).trans (congrArg _ ((put_past (by decide +kernel)).trans (congrArg _ ((put_past (by decide +kernel)).trans (congrArg _ (rfl))))))
/-! ### what stands for what -/
def rTree : Rep Tree := fun H v t => match t with
  | .is s => ∃ a, v = .ref a ∧ H a = some (.tup [.str "is", .str s])
  | .not t => ∃ a x, v = .ref a ∧ H a = some (.tup [.str "not", x]) ∧ rTree H x t
  | .and t u => ∃ a x y, v = .ref a ∧ H a = some (.tup [.str "and", x, y]) ∧ rTree H x t ∧ rTree H y u
  | .or t u => ∃ a x y, v = .ref a ∧ H a = some (.tup [.str "or", x, y]) ∧ rTree H x t ∧ rTree H y u
  | .always => ∃ a, v = .ref a ∧ H a = some (.tup [.str "always"])
  | .never => ∃ a, v = .ref a ∧ H a = some (.tup [.str "never"])
theorem rTree_mono {H H' : Hp} (e : Ex H H') : ∀ (t : Tree) (v : V), rTree H v t → rTree H' v t
  | .is _, _, ⟨a, h1, h2⟩ => ⟨a, h1, e.o h2⟩
  | .not t, _, ⟨a, x, h1, h2, h3⟩ => ⟨a, x, h1, e.o h2, rTree_mono e t x h3⟩
  | .and t u, _, ⟨a, x, y, h1, h2, h3, h4⟩ => ⟨a, x, y, h1, e.o h2, rTree_mono e t x h3, rTree_mono e u y h4⟩
  | .or t u, _, ⟨a, x, y, h1, h2, h3, h4⟩ => ⟨a, x, y, h1, e.o h2, rTree_mono e t x h3, rTree_mono e u y h4⟩
  | .always, _, ⟨a, h1, h2⟩ => ⟨a, h1, e.o h2⟩
  | .never, _, ⟨a, h1, h2⟩ => ⟨a, h1, e.o h2⟩
instance : Mono rTree := ⟨fun {_ _ v t} e h => rTree_mono e t v h⟩
def rCh : Rep Ch := fun _ v x => v = x.v
instance : Mono rCh := ⟨fun _ h => h⟩
/-- a dict of changes -/
def chK (o : Chg) : List (Key × V) := o.map fun p => (Sum.inr p.1, p.2.v)
theorem chK_plain (o : Chg) : NotD (.dK (chK o)) := fun p hp a e => by
  obtain ⟨q, _, rfl⟩ := List.mem_map.mp hp
  have e : q.2.v = V.ref a := e
  cases h : q.2 <;> rw [h] at e <;> exact V.noConfusion e
def rChg : Rep Chg := fun H v o => ∃ d, v = .ref d ∧ H d = some (.dK (chK o))
instance : Mono rChg := ⟨fun e ⟨a, h1, h2⟩ => ⟨a, h1, e.o h2 (chK_plain _)⟩⟩
def rCond (c : Cs) : Rep Tree := fun H v t => ∃ a dx x, v = .ref a ∧ H a = some (.ins c.C dx (fC x)) ∧ rTree H x t ∧ t.depth ≤ 2
instance {c : Cs} : Mono (rCond c) := ⟨fun e ⟨a, dx, x, h1, h2, h3, h4⟩ => ⟨a, dx, x, h1, e.o h2, monoE h3 e, h4⟩⟩
def rOut (c : Cs) : Rep Chg := fun H v o => ∃ a dx x, v = .ref a ∧ H a = some (.ins c.O dx (fO x)) ∧ rChg H x o ∧ ChgOk o
instance {c : Cs} : Mono (rOut c) := ⟨fun e ⟨a, dx, x, h1, h2, h3, h4⟩ => ⟨a, dx, x, h1, e.o h2, monoE h3 e, h4⟩⟩
def rAct (c : Cs) : Rep Act := fun H v x => ∃ a dx n p, v = .ref a ∧ H a = some (.ins c.A dx (fA n p)) ∧ rCond c H n x.need ∧ rLst (rOut c) H p x.outs ∧ x.outs ≠ [] ∧ x.outs.length ≤ 2
instance {c : Cs} : Mono (rAct c) := ⟨fun e ⟨a, dx, n, p, h1, h2, h3, h4, h5⟩ => ⟨a, dx, n, p, h1, e.o h2, monoE h3 e, monoE h4 e, h5⟩⟩
/-- a dict from texts to such -/
def rDict {α : Type} (R : Rep α) : Rep (List (Str × α)) := fun H v l => ∃ d kvs, v = .ref d ∧ Rd H d (.dK kvs) ∧ Paired (fun (p : Key × V) (q : Str × α) => p.1 = Sum.inr q.1 ∧ R H p.2 q.2) kvs l
theorem pairedK_mono {α : Type} {R : Rep α} [Mono R] {H H' : Hp} (e : Ex H H') : ∀ {kvs : List (Key × V)} {l : List (Str × α)}, Paired (fun (p : Key × V) (q : Str × α) => p.1 = Sum.inr q.1 ∧ R H p.2 q.2) kvs l → Paired (fun (p : Key × V) (q : Str × α) => p.1 = Sum.inr q.1 ∧ R H' p.2 q.2) kvs l
  | _, _, .nil => .nil
  | _, _, .cons h t => .cons ⟨h.1, monoE h.2 e⟩ (pairedK_mono e t)
instance {α : Type} {R : Rep α} [Mono R] : Mono (rDict R) := ⟨fun e ⟨d, kvs, h1, h2, h3⟩ => ⟨d, kvs, h1, e.rd h2, pairedK_mono e h3⟩⟩
/-- the lists of a world, its table at t -/
structure WdAt (c : Cs) (H : Hp) (a dx f p r t : Addr) (w : Wd) : Prop where
  ob : H a = some (.ins c.W dx (fW (.ref f) (.ref p) (.ref r) (.ref t)))
  fa : H f = some (.lst (w.facts.map V.str))
  pi : H p = some (.lst (w.piles.map V.str))
  re : H r = some (.lst (w.reserves.map V.str))
theorem WdAt.mono {c : Cs} {H H' : Hp} {a dx f p r t : Addr} {w : Wd} (h : WdAt c H a dx f p r t w) (e : Ex H H') : WdAt c H' a dx f p r t w := ⟨e.o h.ob, e.o h.fa, e.o h.pi, e.o h.re⟩
def rWd (c : Cs) : Rep Wd := fun H v w => ∃ a dx f p r t, v = .ref a ∧ WdAt c H a dx f p r t w ∧ rDict (rAct c) H (.ref t) w.acts ∧ WdOk w
instance {c : Cs} : Mono (rWd c) := ⟨fun e ⟨a, dx, f, p, r, t, h1, h2, h3, h4⟩ => ⟨a, dx, f, p, r, t, h1, h2.mono e, monoE h3 e, h4⟩⟩
structure Tk where
  wd : Wd
  start : Tree
  goal : Tree
def rTk (c : Cs) : Rep Tk := fun H v k => ∃ a dx i b g, v = .ref a ∧ H a = some (.ins c.T dx (fT i b g)) ∧ rWd c H i k.wd ∧ rCond c H b k.start ∧ rCond c H g k.goal
instance {c : Cs} : Mono (rTk c) := ⟨fun e ⟨a, dx, i, b, g, h1, h2, h3, h4, h5⟩ => ⟨a, dx, i, b, g, h1, e.o h2, monoE h3 e, monoE h4 e, monoE h5 e⟩⟩
/-! ### what the top has left -/
structure DefT (K : PySem.W.Frag) (mg : Str → Option Value) (x : Str) (st : Stmt) (ps : List Str) : Prop where
  ex : ∃ f fd, Def K mg x st f fd ∧ Binds K fd ps []
structure KwT (K : PySem.W.Frag) (mg : Str → Option Value) (x : Str) (st : Stmt) (ps : List Str) : Prop where
  ex : ∃ f fd b, Def K mg x st f fd ∧ Binds K fd ps [.ref b] ∧ ∃ (ob : Obj) (n : Nat), K.lookup b = some ob ∧ ob.cls = .type "tuple" ∧ ob.data = .seq #[] n
structure MetT (K : PySem.W.Frag) (C : Addr) (m qual : Str) (st : Stmt) (ps : List Str) : Prop where
  ex : ∃ f fd, Cls K C ∧ Meth K C m f ∧ C8.Fun K m qual st f fd ∧ Binds K fd ps []
structure StaT (K : PySem.W.Frag) (C : Addr) (mc : Value) (m qual : Str) (st : Stmt) (ps : List Str) : Prop where
  ex : ∃ p f fd, SMet K C mc m p f ∧ C8.Fun K m qual st f fd ∧ Binds K fd ps []
structure MakT (K : PySem.W.Frag) (mg : Str → Option Value) (x : Str) (C : Addr) (qual : Str) (st : Stmt) (ps : List Str) : Prop where
  ex : ∃ f fd, Mk K C f ∧ mg x = some (.ref C) ∧ C8.Fun K "__init__" qual st f fd ∧ Binds K fd ps []
structure MakD (K : PySem.W.Frag) (mg : Str → Option Value) (x : Str) (C : Addr) (qual : Str) (st : Stmt) (ps : List Str) (ds : List Value) : Prop where
  ex : ∃ f fd, Mk K C f ∧ mg x = some (.ref C) ∧ C8.Fun K "__init__" qual st f fd ∧ Binds K fd ps ds
section
variable {P : Program} {w : World} {K : PySem.W.Frag} {mg : Str → Option Value} {base : Heap} {x qual m : Str} {C : Addr} {st : Stmt} {N ps : List Str} {k : Nat} {sp : Sp}
abbrev Body (P : Program) (w : World) (K : PySem.W.Frag) (mg : Str → Option Value) (base : Heap) (N : List Str) (qual : Str) (st : Stmt) (k : Nat) (sp : Sp) : Prop :=
  ∀ (f : Addr) (cdv : Value) (A : Around) (outer : List Env) (s : Shared) (H : Hp) (vs : List V) (Q : VK) (E : XK), Room k (A.deeper (envOfC qual (fnScope st) s.heap.objs.size f cdv)) → sp vs H Q E →
      ∃ t, PSs (cxOf CX0 P w K mg base N qual (fnScope st) f cdv A outer s H E).nox (fnBody st) t ∧ t { nx := fun _ H' => Q .non H', rt := Q } (start N vs) H
theorem cal_of (t : DefT K mg x st ps) (S : FnScope N ps (fnScope st)) (len : ∀ vs H Q E, sp vs H Q E → vs.length = ps.length) (h : Body P w K mg base N x st k sp) : Cal P w K mg base (k + 1) x sp [] := by
  obtain ⟨f, fd, F, b⟩ := t.ex
  exact C8.cal0 F b .nil S len (h f)
theorem met_of (t : MetT K C m qual st ps) (S : FnScope N ps (fnScope st)) (len : ∀ vs H Q E, sp vs H Q E → vs.length = ps.length) (h : Body P w K mg base N qual st k sp) : Met P w K mg base (k + 1) C m sp [] := by
  obtain ⟨f, fd, c, me, F, b⟩ := t.ex
  exact C8.met0 c me F b S len (h f)
theorem mak_of (t : MakT K mg x C qual st ps) (S : FnScope N ps (fnScope st)) (len : ∀ vs H Q E, sp vs H Q E → vs.length = ps.length) (h : Body P w K mg base N qual st k sp) : Mak P w K mg base (k + 1) x C sp [] := by
  obtain ⟨f, fd, M, hm, F, b⟩ := t.ex
  exact C8.mak0 M hm F b .nil S len (h f)
theorem makd_of {ds : List Value} {dvs : List V} (d : Vals dvs ds) (t : MakD K mg x C qual st ps ds) (S : FnScope N ps (fnScope st)) (len : ∀ vs H Q E, sp vs H Q E → vs.length = ps.length) (h : Body P w K mg base N qual st k sp) : Mak P w K mg base (k + 1) x C sp dvs := by
  obtain ⟨f, fd, M, hm, F, b⟩ := t.ex
  exact C8.mak0 M hm F b d S len (h f)
/-- a static method's promise -/
structure Sta (P : Program) (w : World) (K : PySem.W.Frag) (mg : Str → Option Value) (base : Heap) (k : Nat) (C : Addr) (mc : Value) (m : Str) (sp : Sp) : Prop where
  ex : ∃ (p f : Addr) (fd : FuncData) (ps : List Str), SMet K C mc m p f ∧ FnOk P w K mg base CX0 k f fd ps sp ∧ Binds K fd ps []
theorem sta_of {mc : Value} (t : StaT K C mc m qual st ps) (S : FnScope N ps (fnScope st)) (len : ∀ vs H Q E, sp vs H Q E → vs.length = ps.length) (h : Body P w K mg base N qual st k sp) : Sta P w K mg base (k + 1) C mc m sp := by
  obtain ⟨p, f, fd, sm, F, b⟩ := t.ex
  exact ⟨p, f, fd, ps, sm, C8.fn0 F S len (h f), b⟩
end
section
variable {X : Cx} {o e : Expr} {es : List Expr} {pos apos : Pos} {mc : Value} {C : Addr} {m : Str} {k j : Nat} {sp : Sp} {pl : Sem Bool} {ta : TE} {t : TA}
theorem pe_sta (c : Sta X.prog X.w X.K X.mg X.base k C mc m sp) (rd : ClX.CRead X.K C mc) (hr : Room j X.A) (hk : k ≤ j) (he : PE X o ta) (ha : PA X (e :: es) t)
    (hst : starEach (e :: es) X.env = (false, eval e X.env) :: starEach es X.env := by rfl) (hpl : (backTo pos (starEach es X.env)).any (·.1) = false := by rfl)
    (ht : eval (.Call (.Attribute o m apos) (e :: es) [] pos) X.env = (do
      let ov ← eval o X.env
      standAt apos.atName
      let (f, first) ← holding [ov] (getMethod ov m pl)
      callWith pos f first (backTo pos (starEach (e :: es) X.env)) (backToKw pos (keywordEach [] X.env))) := by rfl) :
    PE X (.Call (.Attribute o m apos) (e :: es) [] pos) (tSMeth C sp ta t) := by
  obtain ⟨p, f, fd, ps, sm, F, b⟩ := c.ex
  exact pe_smeth (pl := pl) he rd sm F b hr hk ha hst hpl ht
theorem pe_sta0 (c : Sta X.prog X.w X.K X.mg X.base k C mc m sp) (rd : ClX.CRead X.K C mc) (hr : Room j X.A) (hk : k ≤ j) (he : PE X o ta)
    (ht : eval (.Call (.Attribute o m apos) [] [] pos) X.env = (do
      let ov ← eval o X.env
      standAt apos.atName
      let (f, first) ← holding [ov] (getMethod ov m pl)
      callWith pos f first (backTo pos (starEach [] X.env)) (backToKw pos (keywordEach [] X.env))) := by rfl) :
    PE X (.Call (.Attribute o m apos) [] [] pos) (tSMeth C sp ta tNil) := by
  obtain ⟨p, f, fd, ps, sm, F, b⟩ := c.ex
  exact pe_smeth0 (pl := pl) he rd sm F b hr hk ht
end
abbrev s_Game_init : Stmt := inClass (topS 2) 0
abbrev N_Game_init : List Str := ["self", "task", "without", "world", "reached", "state", "action"]
theorem sc_Game_init : FnScope N_Game_init ["self", "task", "without"] (fnScope s_Game_init) := C8.fnScope_by (by decide +kernel)
abbrev s_Game_added_edges : Stmt := inClass (topS 2) 1
abbrev N_Game_added_edges : List Str := ["self", "world", "reached", "state", "action", "found", "index", "gone", "behind", "taken", "added"]
theorem sc_Game_added_edges : FnScope N_Game_added_edges ["self", "world", "reached", "state", "action"] (fnScope s_Game_added_edges) := C8.fnScope_by (by decide +kernel)
abbrev s_forced_action : Stmt := topS 3
abbrev N_forced_action : List Str := ["game", "good", "bad", "table", "state", "action", "edges", "astray", "at"]
theorem sc_forced_action : FnScope N_forced_action ["game", "good", "bad", "table", "state"] (fnScope s_forced_action) := C8.fnScope_by (by decide +kernel)
abbrev s_close_table : Stmt := topS 4
abbrev N_close_table : List Str := ["game", "good", "bad", "table", "grown", "state", "action"]
theorem sc_close_table : FnScope N_close_table ["game", "good", "bad", "table"] (fnScope s_close_table) := C8.fnScope_by (by decide +kernel)
abbrev s_falling_of : Stmt := topS 5
abbrev N_falling_of : List Str := ["game", "good", "bad", "counters", "counter", "table", "rest", "at", "edge", "worse", "inside", "falls", "better", "lessened", "led", "other", "state"]
theorem sc_falling_of : FnScope N_falling_of ["game", "good", "bad", "counters", "counter", "table"] (fnScope s_falling_of) := C8.fnScope_by (by decide +kernel)
abbrev s_won_by : Stmt := topS 6
abbrev N_won_by : List Str := ["game", "good", "bad", "counters", "table", "record", "grown", "counter", "falls", "state", "fresh"]
theorem sc_won_by : FnScope N_won_by ["game", "good", "bad", "counters"] (fnScope s_won_by) := C8.fnScope_by (by decide +kernel)
abbrev s_solve_game : Stmt := topS 7
abbrev N_solve_game : List Str := ["game", "good", "edge"]
theorem sc_solve_game : FnScope N_solve_game ["game"] (fnScope s_solve_game) := C8.fnScope_by (by decide +kernel)
abbrev s_is_name : Stmt := topS 22
abbrev N_is_name : List Str := ["text", "letter"]
theorem sc_is_name : FnScope N_is_name ["text"] (fnScope s_is_name) := C8.fnScope_by (by decide +kernel)
abbrev s_ascending : Stmt := topS 23
abbrev N_ascending : List Str := ["names", "name"]
theorem sc_ascending : FnScope N_ascending ["names"] (fnScope s_ascending) := C8.fnScope_by (by decide +kernel)
abbrev s_Action_init : Stmt := inClass (topS 25) 0
abbrev N_Action_init : List Str := ["self", "need", "outcomes", "one"]
theorem sc_Action_init : FnScope N_Action_init ["self", "need", "outcomes"] (fnScope s_Action_init) := C8.fnScope_by (by decide +kernel)
abbrev s_Action_outcome : Stmt := inClass (topS 25) 1
abbrev N_Action_outcome : List Str := ["self", "index"]
theorem sc_Action_outcome : FnScope N_Action_outcome ["self", "index"] (fnScope s_Action_outcome) := C8.fnScope_by (by decide +kernel)
abbrev s_Action_len : Stmt := inClass (topS 25) 2
abbrev N_Action_len : List Str := ["self"]
theorem sc_Action_len : FnScope N_Action_len ["self"] (fnScope s_Action_len) := C8.fnScope_by (by decide +kernel)
abbrev s_check_lists : Stmt := topS 27
abbrev N_check_lists : List Str := ["lists", "known", "some", "name"]
theorem sc_check_lists : FnScope N_check_lists ["lists"] (fnScope s_check_lists) := C8.fnScope_by (by decide +kernel)
abbrev s_copied_action : Stmt := topS 28
abbrev N_copied_action : List Str := ["action", "k"]
theorem sc_copied_action : FnScope N_copied_action ["action"] (fnScope s_copied_action) := C8.fnScope_by (by decide +kernel)
abbrev s_sub_tuples : Stmt := topS 29
abbrev N_sub_tuples : List Str := ["some", "rest", "one"]
theorem sc_sub_tuples : FnScope N_sub_tuples ["some"] (fnScope s_sub_tuples) := C8.fnScope_by (by decide +kernel)
abbrev s_same_world : Stmt := topS 30
abbrev N_same_world : List Str := ["world"]
theorem sc_same_world : FnScope N_same_world ["world"] (fnScope s_same_world) := C8.fnScope_by (by decide +kernel)
abbrev s_World_init : Stmt := inClass (topS 31) 0
abbrev N_World_init : List Str := ["self", "facts", "piles", "reserves", "table", "name"]
theorem sc_World_init : FnScope N_World_init ["self", "facts", "piles", "reserves", "table"] (fnScope s_World_init) := C8.fnScope_by (by decide +kernel)
abbrev s_World_seen : Stmt := inClass (topS 31) 4
abbrev N_World_seen : List Str := ["self"]
theorem sc_World_seen : FnScope N_World_seen ["self"] (fnScope s_World_seen) := C8.fnScope_by (by decide +kernel)
abbrev s_World_counters : Stmt := inClass (topS 31) 5
abbrev N_World_counters : List Str := ["self"]
theorem sc_World_counters : FnScope N_World_counters ["self"] (fnScope s_World_counters) := C8.fnScope_by (by decide +kernel)
abbrev s_World_copy : Stmt := inClass (topS 31) 7
abbrev N_World_copy : List Str := ["self"]
theorem sc_World_copy : FnScope N_World_copy ["self"] (fnScope s_World_copy) := C8.fnScope_by (by decide +kernel)
abbrev s_World_check_change_of : Stmt := inClass (topS 31) 9
abbrev N_World_check_change_of : List Str := ["self", "name", "change"]
theorem sc_World_check_change_of : FnScope N_World_check_change_of ["self", "name", "change"] (fnScope s_World_check_change_of) := C8.fnScope_by (by decide +kernel)
abbrev s_World_takes_reserve : Stmt := inClass (topS 31) 10
abbrev N_World_takes_reserve : List Str := ["self", "outcome", "name"]
theorem sc_World_takes_reserve : FnScope N_World_takes_reserve ["self", "outcome"] (fnScope s_World_takes_reserve) := C8.fnScope_by (by decide +kernel)
abbrev s_World_check_action : Stmt := inClass (topS 31) 11
abbrev N_World_check_action : List Str := ["self", "name", "action", "other", "outcomes", "outcome", "k"]
theorem sc_World_check_action : FnScope N_World_check_action ["self", "name", "action"] (fnScope s_World_check_action) := C8.fnScope_by (by decide +kernel)
abbrev s_World_states : Stmt := inClass (topS 31) 12
abbrev N_World_states : List Str := ["self", "found", "name", "larger", "state"]
theorem sc_World_states : FnScope N_World_states ["self"] (fnScope s_World_states) := C8.fnScope_by (by decide +kernel)
abbrev s_World_state_of : Stmt := inClass (topS 31) 13
abbrev N_World_state_of : List Str := ["self", "names", "known", "name"]
theorem sc_World_state_of : FnScope N_World_state_of ["self", "names"] (fnScope s_World_state_of) := C8.fnScope_by (by decide +kernel)
abbrev s_World_fits : Stmt := inClass (topS 31) 14
abbrev N_World_fits : List Str := ["self", "state", "name", "action", "k", "outcome", "pile"]
theorem sc_World_fits : FnScope N_World_fits ["self", "state", "name"] (fnScope s_World_fits) := C8.fnScope_by (by decide +kernel)
abbrev s_World_possible : Stmt := inClass (topS 31) 15
abbrev N_World_possible : List Str := ["self", "state", "name"]
theorem sc_World_possible : FnScope N_World_possible ["self", "state"] (fnScope s_World_possible) := C8.fnScope_by (by decide +kernel)
abbrev s_World_checked : Stmt := inClass (topS 31) 16
abbrev N_World_checked : List Str := ["self", "state", "action"]
theorem sc_World_checked : FnScope N_World_checked ["self", "state", "action"] (fnScope s_World_checked) := C8.fnScope_by (by decide +kernel)
abbrev s_World_behind : Stmt := inClass (topS 31) 17
abbrev N_World_behind : List Str := ["self", "state", "outcome", "gone", "found", "name", "change", "held"]
theorem sc_World_behind : FnScope N_World_behind ["self", "state", "outcome", "gone"] (fnScope s_World_behind) := C8.fnScope_by (by decide +kernel)
abbrev s_World_results : Stmt := inClass (topS 31) 18
abbrev N_World_results : List Str := ["self", "state", "action", "found", "index", "outcome", "gone", "pile"]
theorem sc_World_results : FnScope N_World_results ["self", "state", "action"] (fnScope s_World_results) := C8.fnScope_by (by decide +kernel)
abbrev s_World_shifts : Stmt := inClass (topS 31) 20
abbrev N_World_shifts : List Str := ["self", "state", "action", "index", "outcome", "taken", "name"]
theorem sc_World_shifts : FnScope N_World_shifts ["self", "state", "action", "index"] (fnScope s_World_shifts) := C8.fnScope_by (by decide +kernel)
abbrev s_World_setitem : Stmt := inClass (topS 31) 23
abbrev N_World_setitem : List Str := ["self", "name", "action"]
theorem sc_World_setitem : FnScope N_World_setitem ["self", "name", "action"] (fnScope s_World_setitem) := C8.fnScope_by (by decide +kernel)
abbrev s_won_states : Stmt := topS 33
abbrev N_won_states : List Str := ["task", "without", "game", "table", "goals", "state"]
theorem sc_won_states : FnScope N_won_states ["task", "without"] (fnScope s_won_states) := C8.fnScope_by (by decide +kernel)
abbrev s_tree_holds : Stmt := topS 35
abbrev N_tree_holds : List Str := ["tree", "names", "word"]
theorem sc_tree_holds : FnScope N_tree_holds ["tree", "names"] (fnScope s_tree_holds) := C8.fnScope_by (by decide +kernel)
abbrev s_names_in : Stmt := topS 36
abbrev N_names_in : List Str := ["tree", "found", "part"]
theorem sc_names_in : FnScope N_names_in ["tree"] (fnScope s_names_in) := C8.fnScope_by (by decide +kernel)
abbrev s_Condition_init : Stmt := inClass (topS 41) 0
abbrev N_Condition_init : List Str := ["self", "tree"]
theorem sc_Condition_init : FnScope N_Condition_init ["self", "tree"] (fnScope s_Condition_init) := C8.fnScope_by (by decide +kernel)
abbrev s_Condition_of : Stmt := inClass (topS 41) 1
abbrev N_Condition_of : List Str := ["name"]
theorem sc_Condition_of : FnScope N_Condition_of ["name"] (fnScope s_Condition_of) := C8.fnScope_by (by decide +kernel)
abbrev s_Condition_always : Stmt := inClass (topS 41) 2
abbrev N_Condition_always : List Str := []
theorem sc_Condition_always : FnScope N_Condition_always [] (fnScope s_Condition_always) := C8.fnScope_by (by decide +kernel)
abbrev s_Condition_never : Stmt := inClass (topS 41) 3
abbrev N_Condition_never : List Str := []
theorem sc_Condition_never : FnScope N_Condition_never [] (fnScope s_Condition_never) := C8.fnScope_by (by decide +kernel)
abbrev s_Condition_names : Stmt := inClass (topS 41) 4
abbrev N_Condition_names : List Str := ["self"]
theorem sc_Condition_names : FnScope N_Condition_names ["self"] (fnScope s_Condition_names) := C8.fnScope_by (by decide +kernel)
abbrev s_Condition_call : Stmt := inClass (topS 41) 5
abbrev N_Condition_call : List Str := ["self", "names"]
theorem sc_Condition_call : FnScope N_Condition_call ["self", "names"] (fnScope s_Condition_call) := C8.fnScope_by (by decide +kernel)
abbrev s_Condition_and : Stmt := inClass (topS 41) 7
abbrev N_Condition_and : List Str := ["self", "other"]
theorem sc_Condition_and : FnScope N_Condition_and ["self", "other"] (fnScope s_Condition_and) := C8.fnScope_by (by decide +kernel)
abbrev s_Condition_or : Stmt := inClass (topS 41) 8
abbrev N_Condition_or : List Str := ["self", "other"]
theorem sc_Condition_or : FnScope N_Condition_or ["self", "other"] (fnScope s_Condition_or) := C8.fnScope_by (by decide +kernel)
abbrev s_Condition_invert : Stmt := inClass (topS 41) 9
abbrev N_Condition_invert : List Str := ["self"]
theorem sc_Condition_invert : FnScope N_Condition_invert ["self"] (fnScope s_Condition_invert) := C8.fnScope_by (by decide +kernel)
abbrev s_check_change : Stmt := topS 43
abbrev N_check_change : List Str := ["name", "change"]
theorem sc_check_change : FnScope N_check_change ["name", "change"] (fnScope s_check_change) := C8.fnScope_by (by decide +kernel)
abbrev s_Outcome_init : Stmt := inClass (topS 44) 0
abbrev N_Outcome_init : List Str := ["self", "changes", "name"]
theorem sc_Outcome_init : FnScope N_Outcome_init ["self", "changes"] (fnScope s_Outcome_init) := C8.fnScope_by (by decide +kernel)
abbrev s_Outcome_names : Stmt := inClass (topS 44) 1
abbrev N_Outcome_names : List Str := ["self"]
theorem sc_Outcome_names : FnScope N_Outcome_names ["self"] (fnScope s_Outcome_names) := C8.fnScope_by (by decide +kernel)
abbrev s_Outcome_copy : Stmt := inClass (topS 44) 2
abbrev N_Outcome_copy : List Str := ["self"]
theorem sc_Outcome_copy : FnScope N_Outcome_copy ["self"] (fnScope s_Outcome_copy) := C8.fnScope_by (by decide +kernel)
abbrev s_Outcome_getitem : Stmt := inClass (topS 44) 3
abbrev N_Outcome_getitem : List Str := ["self", "name"]
theorem sc_Outcome_getitem : FnScope N_Outcome_getitem ["self", "name"] (fnScope s_Outcome_getitem) := C8.fnScope_by (by decide +kernel)
abbrev s_check_condition : Stmt := topS 46
abbrev N_check_condition : List Str := ["world", "condition", "name"]
theorem sc_check_condition : FnScope N_check_condition ["world", "condition"] (fnScope s_check_condition) := C8.fnScope_by (by decide +kernel)
abbrev s_Task_init : Stmt := inClass (topS 47) 0
abbrev N_Task_init : List Str := ["self", "world", "start", "goal"]
theorem sc_Task_init : FnScope N_Task_init ["self", "world", "start", "goal"] (fnScope s_Task_init) := C8.fnScope_by (by decide +kernel)
abbrev s_Task_base : Stmt := inClass (topS 47) 5
abbrev N_Task_base : List Str := ["self"]
theorem sc_Task_base : FnScope N_Task_base ["self"] (fnScope s_Task_base) := C8.fnScope_by (by decide +kernel)
abbrev s_Task_goals : Stmt := inClass (topS 47) 7
abbrev N_Task_goals : List Str := ["self", "state"]
theorem sc_Task_goals : FnScope N_Task_goals ["self"] (fnScope s_Task_goals) := C8.fnScope_by (by decide +kernel)
abbrev s_l_draw : Stmt := topS 49
abbrev N_l_draw : List Str := ["_law_stream", "_law_many", "_law_digit", "_law_mixed_here"]
theorem sc_l_draw : FnScope N_l_draw ["_law_stream", "_law_many"] (fnScope s_l_draw) := C8.fnScope_by (by decide +kernel)
abbrev s_l_pick : Stmt := topS 50
abbrev N_l_pick : List Str := ["_law_stream", "_law_some"]
theorem sc_l_pick : FnScope N_l_pick ["_law_stream", "_law_some"] (fnScope s_l_pick) := C8.fnScope_by (by decide +kernel)
abbrev s_l_mixed : Stmt := topS 51
abbrev N_l_mixed : List Str := ["_law_stream", "_law_some", "_law_left", "_law_k"]
theorem sc_l_mixed : FnScope N_l_mixed ["_law_stream", "_law_some"] (fnScope s_l_mixed) := C8.fnScope_by (by decide +kernel)
abbrev s_l_same : Stmt := topS 52
abbrev N_l_same : List Str := ["_law_found", "_law_due"]
theorem sc_l_same : FnScope N_l_same ["_law_found", "_law_due"] (fnScope s_l_same) := C8.fnScope_by (by decide +kernel)
abbrev s_l_name : Stmt := topS 53
abbrev N_l_name : List Str := ["_law_stream", "_law_taken", "_law_size", "_law_name_here", "_law_k", "_law_one", "_law_letter"]
theorem sc_l_name : FnScope N_l_name ["_law_stream", "_law_taken"] (fnScope s_l_name) := C8.fnScope_by (by decide +kernel)
abbrev s_l_names : Stmt := topS 54
abbrev N_l_names : List Str := ["_law_stream", "_law_many", "_law_taken", "_law_found", "_law_k"]
theorem sc_l_names : FnScope N_l_names ["_law_stream", "_law_many", "_law_taken"] (fnScope s_l_names) := C8.fnScope_by (by decide +kernel)
abbrev s_l_condition : Stmt := topS 55
abbrev N_l_condition : List Str := ["_law_stream", "_law_names_here", "_law_deep", "_law_way", "_law_name_here", "_law_one"]
theorem sc_l_condition : FnScope N_l_condition ["_law_stream", "_law_names_here", "_law_deep"] (fnScope s_l_condition) := C8.fnScope_by (by decide +kernel)
abbrev s_l_holds : Stmt := topS 56
abbrev N_l_holds : List Str := ["_law_tree", "_law_names_here"]
theorem sc_l_holds : FnScope N_l_holds ["_law_tree", "_law_names_here"] (fnScope s_l_holds) := C8.fnScope_by (by decide +kernel)
abbrev s_l_built : Stmt := topS 57
abbrev N_l_built : List Str := ["_law_tree"]
theorem sc_l_built : FnScope N_l_built ["_law_tree"] (fnScope s_l_built) := C8.fnScope_by (by decide +kernel)
abbrev s_l_seen : Stmt := topS 58
abbrev N_l_seen : List Str := ["_law_w"]
theorem sc_l_seen : FnScope N_l_seen ["_law_w"] (fnScope s_l_seen) := C8.fnScope_by (by decide +kernel)
abbrev s_l_counters : Stmt := topS 59
abbrev N_l_counters : List Str := ["_law_w"]
theorem sc_l_counters : FnScope N_l_counters ["_law_w"] (fnScope s_l_counters) := C8.fnScope_by (by decide +kernel)
abbrev s_l_changes : Stmt := topS 60
abbrev N_l_changes : List Str := ["_law_stream", "_law_w", "_law_free", "_law_changes_here", "_law_name_here", "_law_way"]
theorem sc_l_changes : FnScope N_l_changes ["_law_stream", "_law_w", "_law_free"] (fnScope s_l_changes) := C8.fnScope_by (by decide +kernel)
abbrev s_l_action : Stmt := topS 61
abbrev N_l_action : List Str := ["_law_stream", "_law_w", "_law_name_here", "_law_most", "_law_many", "_law_free", "_law_need", "_law_k"]
theorem sc_l_action : FnScope N_l_action ["_law_stream", "_law_w", "_law_name_here", "_law_most"] (fnScope s_l_action) := C8.fnScope_by (by decide +kernel)
abbrev s_l_lists : Stmt := topS 62
abbrev N_l_lists : List Str := ["_law_stream", "_law_facts", "_law_piles", "_law_reserves", "_law_names_here"]
theorem sc_l_lists : FnScope N_l_lists ["_law_stream", "_law_facts", "_law_piles", "_law_reserves"] (fnScope s_l_lists) := C8.fnScope_by (by decide +kernel)
abbrev s_l_made : Stmt := topS 63
abbrev N_l_made : List Str := ["_law_w", "_law_world", "_law_name_here", "_law_need", "_law_outcomes", "_law_changes_here"]
theorem sc_l_made : FnScope N_l_made ["_law_w"] (fnScope s_l_made) := C8.fnScope_by (by decide +kernel)
abbrev s_l_states : Stmt := topS 64
abbrev N_l_states : List Str := ["_law_w", "_law_found", "_law_name_here", "_law_larger", "_law_state"]
theorem sc_l_states : FnScope N_l_states ["_law_w"] (fnScope s_l_states) := C8.fnScope_by (by decide +kernel)
abbrev s_l_behind : Stmt := topS 65
abbrev N_l_behind : List Str := ["_law_w", "_law_state", "_law_changes_here", "_law_gone", "_law_found", "_law_name_here", "_law_holds_here", "_law_change"]
theorem sc_l_behind : FnScope N_l_behind ["_law_w", "_law_state", "_law_changes_here", "_law_gone"] (fnScope s_l_behind) := C8.fnScope_by (by decide +kernel)
abbrev s_l_taking : Stmt := topS 66
abbrev N_l_taking : List Str := ["_law_w", "_law_changes_here", "_law_name_here"]
theorem sc_l_taking : FnScope N_l_taking ["_law_w", "_law_changes_here"] (fnScope s_l_taking) := C8.fnScope_by (by decide +kernel)
abbrev s_l_fits : Stmt := topS 67
abbrev N_l_fits : List Str := ["_law_w", "_law_state", "_law_action_here", "_law_changes_here", "_law_name_here"]
theorem sc_l_fits : FnScope N_l_fits ["_law_w", "_law_state", "_law_action_here"] (fnScope s_l_fits) := C8.fnScope_by (by decide +kernel)
abbrev s_l_possible : Stmt := topS 68
abbrev N_l_possible : List Str := ["_law_w", "_law_state", "_law_action_here"]
theorem sc_l_possible : FnScope N_l_possible ["_law_w", "_law_state"] (fnScope s_l_possible) := C8.fnScope_by (by decide +kernel)
abbrev s_l_set : Stmt := topS 69
abbrev N_l_set : List Str := ["_law_w"]
theorem sc_l_set : FnScope N_l_set ["_law_w"] (fnScope s_l_set) := C8.fnScope_by (by decide +kernel)
abbrev s_l_where : Stmt := topS 70
abbrev N_l_where : List Str := ["_law_w", "_law_tree", "_law_state"]
theorem sc_l_where : FnScope N_l_where ["_law_w", "_law_tree"] (fnScope s_l_where) := C8.fnScope_by (by decide +kernel)
abbrev s_l_pairs : Stmt := topS 71
abbrev N_l_pairs : List Str := ["_law_w", "_law_most", "_law_found", "_law_state", "_law_number"]
theorem sc_l_pairs : FnScope N_l_pairs ["_law_w", "_law_most"] (fnScope s_l_pairs) := C8.fnScope_by (by decide +kernel)
abbrev s_l_later : Stmt := topS 72
abbrev N_l_later : List Str := ["_law_w", "_law_most", "_law_pair", "_law_changes_here", "_law_name_here", "_law_number", "_law_change", "_law_numbers", "_law_one"]
theorem sc_l_later : FnScope N_l_later ["_law_w", "_law_most", "_law_pair", "_law_changes_here"] (fnScope s_l_later) := C8.fnScope_by (by decide +kernel)
abbrev s_l_offers : Stmt := topS 73
abbrev N_l_offers : List Str := ["_law_w", "_law_most", "_law_pair", "_law_found", "_law_action_here", "_law_led", "_law_changes_here"]
theorem sc_l_offers : FnScope N_l_offers ["_law_w", "_law_most", "_law_pair"] (fnScope s_l_offers) := C8.fnScope_by (by decide +kernel)
abbrev s_law : Stmt := topS 74
abbrev N_law : List Str := ["_law_script", "_law_stream", "_law_piles", "_law_w", "_law_name_here", "_law_most", "_law_pairs_here", "_law_pair", "_law_won", "_law_offers_here", "_law_grown", "_law_ways", "_law_sure", "_law_due", "_law_state", "_law_number", "_law_led", "_law_later_here"]
theorem sc_law : FnScope N_law ["_law_script"] (fnScope s_law) := C8.fnScope_by (by decide +kernel)
structure Txt (K : PySem.W.Frag) (mg : Str → Option Value) (c : Cs) : Prop where
  g_len : mg "len" = none
  g_all : mg "all" = none
  g_any : mg "any" = none
  g_sorted : mg "sorted" = none
  g_set : mg "set" = none
  g_str : mg "str" = none
  g_list : mg "list" = none
  g_tuple : mg "tuple" = none
  g_dict : mg "dict" = none
  g_range : mg "range" = none
  g_enumerate : mg "enumerate" = none
  g_repr : mg "repr" = none
  g_int : mg "int" = none
  g_isinstance : mg "isinstance" = none
  g_NotImplemented : mg "NotImplemented" = none
  cG : Cls K c.G
  gcG : mg "Game" = some (.ref c.G)
  nG_order : NoAttr K c.G "order"
  nG_tallies : NoAttr K c.G "tallies"
  nG_edges : NoAttr K c.G "edges"
  nG_choices : NoAttr K c.G "choices"
  cA : Cls K c.A
  gcA : mg "Action" = some (.ref c.A)
  nA_need : NoAttr K c.A "need"
  nA_parts : NoAttr K c.A "parts"
  cW : Cls K c.W
  gcW : mg "World" = some (.ref c.W)
  nW_fact_names : NoAttr K c.W "fact_names"
  nW_pile_names : NoAttr K c.W "pile_names"
  nW_reserve_names : NoAttr K c.W "reserve_names"
  nW_table : NoAttr K c.W "table"
  cC : Cls K c.C
  gcC : mg "Condition" = some (.ref c.C)
  nC_tree : NoAttr K c.C "tree"
  cO : Cls K c.O
  gcO : mg "Outcome" = some (.ref c.O)
  nO_table : NoAttr K c.O "table"
  cT : Cls K c.T
  gcT : mg "Task" = some (.ref c.T)
  nT_inner : NoAttr K c.T "inner"
  nT_begin : NoAttr K c.T "begin"
  nT_aimed : NoAttr K c.T "aimed"
  sfC : PySem.W.selfFirst K c.C = true
  sqW : PySem.W.noSeq K c.W = true
  fiO : ∀ f : Addr, PySem.W.findIn K (.ref c.O) "__getitem__" = some (some (.ref f)) → PySem.W.fnIn K f = true
  fiC : ∀ f : Addr, PySem.W.findIn K (.ref c.C) "__call__" = some (some (.ref f)) → PySem.W.fnIn K f = true
  rdC : ClX.CRead K c.C (.type "type")
  iC1 : PySem.W.findIn K (.ref c.C) "__class__" = some (some (.builtin "object.__class__"))
  iC2 : PySem.W.specialIn K (.builtin "object.__class__") "__get__" = some (some (.builtin "getset_descriptor.__get__"))
  iC3 : PySem.W.takesIn K (.builtin "object.__class__") = some true
  iC4 : PySem.W.mroIn K c.C (.type "object") = some true
  m_Game_init : MakT K mg "Game" c.G "Game.__init__" s_Game_init ["self", "task", "without"]
  m_Game_added_edges : MetT K c.G "added_edges" "Game.added_edges" s_Game_added_edges ["self", "world", "reached", "state", "action"]
  d_forced_action : DefT K mg "forced_action" s_forced_action ["game", "good", "bad", "table", "state"]
  d_close_table : DefT K mg "close_table" s_close_table ["game", "good", "bad", "table"]
  d_falling_of : DefT K mg "falling_of" s_falling_of ["game", "good", "bad", "counters", "counter", "table"]
  d_won_by : DefT K mg "won_by" s_won_by ["game", "good", "bad", "counters"]
  d_solve_game : DefT K mg "solve_game" s_solve_game ["game"]
  d_is_name : DefT K mg "is_name" s_is_name ["text"]
  d_ascending : DefT K mg "ascending" s_ascending ["names"]
  m_Action_init : MakT K mg "Action" c.A "Action.__init__" s_Action_init ["self", "need", "outcomes"]
  m_Action_outcome : MetT K c.A "outcome" "Action.outcome" s_Action_outcome ["self", "index"]
  m_Action_len : MetT K c.A "__len__" "Action.__len__" s_Action_len ["self"]
  d_check_lists : DefT K mg "check_lists" s_check_lists ["lists"]
  d_copied_action : DefT K mg "copied_action" s_copied_action ["action"]
  d_sub_tuples : DefT K mg "sub_tuples" s_sub_tuples ["some"]
  d_same_world : DefT K mg "same_world" s_same_world ["world"]
  m_World_init : MakT K mg "World" c.W "World.__init__" s_World_init ["self", "facts", "piles", "reserves", "table"]
  m_World_seen : MetT K c.W "seen" "World.seen" s_World_seen ["self"]
  m_World_counters : MetT K c.W "counters" "World.counters" s_World_counters ["self"]
  m_World_copy : MetT K c.W "copy" "World.copy" s_World_copy ["self"]
  m_World_check_change_of : MetT K c.W "check_change_of" "World.check_change_of" s_World_check_change_of ["self", "name", "change"]
  m_World_takes_reserve : MetT K c.W "takes_reserve" "World.takes_reserve" s_World_takes_reserve ["self", "outcome"]
  m_World_check_action : MetT K c.W "check_action" "World.check_action" s_World_check_action ["self", "name", "action"]
  m_World_states : MetT K c.W "states" "World.states" s_World_states ["self"]
  m_World_state_of : MetT K c.W "state_of" "World.state_of" s_World_state_of ["self", "names"]
  m_World_fits : MetT K c.W "fits" "World.fits" s_World_fits ["self", "state", "name"]
  m_World_possible : MetT K c.W "possible" "World.possible" s_World_possible ["self", "state"]
  m_World_checked : MetT K c.W "checked" "World.checked" s_World_checked ["self", "state", "action"]
  m_World_behind : MetT K c.W "behind" "World.behind" s_World_behind ["self", "state", "outcome", "gone"]
  m_World_results : MetT K c.W "results" "World.results" s_World_results ["self", "state", "action"]
  m_World_shifts : MetT K c.W "shifts" "World.shifts" s_World_shifts ["self", "state", "action", "index"]
  m_World_setitem : MetT K c.W "__setitem__" "World.__setitem__" s_World_setitem ["self", "name", "action"]
  d_won_states : KwT K mg "won_states" s_won_states ["task", "without"]
  d_tree_holds : DefT K mg "tree_holds" s_tree_holds ["tree", "names"]
  d_names_in : DefT K mg "names_in" s_names_in ["tree"]
  m_Condition_init : MakT K mg "Condition" c.C "Condition.__init__" s_Condition_init ["self", "tree"]
  m_Condition_of : StaT K c.C (.type "type") "of" "Condition.of" s_Condition_of ["name"]
  m_Condition_always : StaT K c.C (.type "type") "always" "Condition.always" s_Condition_always []
  m_Condition_never : StaT K c.C (.type "type") "never" "Condition.never" s_Condition_never []
  m_Condition_names : MetT K c.C "names" "Condition.names" s_Condition_names ["self"]
  m_Condition_call : MetT K c.C "__call__" "Condition.__call__" s_Condition_call ["self", "names"]
  m_Condition_and : MetT K c.C "__and__" "Condition.__and__" s_Condition_and ["self", "other"]
  m_Condition_or : MetT K c.C "__or__" "Condition.__or__" s_Condition_or ["self", "other"]
  m_Condition_invert : MetT K c.C "__invert__" "Condition.__invert__" s_Condition_invert ["self"]
  d_check_change : DefT K mg "check_change" s_check_change ["name", "change"]
  m_Outcome_init : MakT K mg "Outcome" c.O "Outcome.__init__" s_Outcome_init ["self", "changes"]
  m_Outcome_names : MetT K c.O "names" "Outcome.names" s_Outcome_names ["self"]
  m_Outcome_copy : MetT K c.O "copy" "Outcome.copy" s_Outcome_copy ["self"]
  m_Outcome_getitem : MetT K c.O "__getitem__" "Outcome.__getitem__" s_Outcome_getitem ["self", "name"]
  d_check_condition : DefT K mg "check_condition" s_check_condition ["world", "condition"]
  m_Task_init : MakT K mg "Task" c.T "Task.__init__" s_Task_init ["self", "world", "start", "goal"]
  m_Task_base : MetT K c.T "base" "Task.base" s_Task_base ["self"]
  m_Task_goals : MetT K c.T "goals" "Task.goals" s_Task_goals ["self"]
  d_l_draw : DefT K mg "_law_draw" s_l_draw ["_law_stream", "_law_many"]
  d_l_pick : DefT K mg "_law_pick" s_l_pick ["_law_stream", "_law_some"]
  d_l_mixed : DefT K mg "_law_mixed" s_l_mixed ["_law_stream", "_law_some"]
  d_l_same : DefT K mg "_law_same" s_l_same ["_law_found", "_law_due"]
  d_l_name : DefT K mg "_law_name" s_l_name ["_law_stream", "_law_taken"]
  d_l_names : DefT K mg "_law_names" s_l_names ["_law_stream", "_law_many", "_law_taken"]
  d_l_condition : DefT K mg "_law_condition" s_l_condition ["_law_stream", "_law_names_here", "_law_deep"]
  d_l_holds : DefT K mg "_law_holds" s_l_holds ["_law_tree", "_law_names_here"]
  d_l_built : DefT K mg "_law_built" s_l_built ["_law_tree"]
  d_l_seen : DefT K mg "_law_seen" s_l_seen ["_law_w"]
  d_l_counters : DefT K mg "_law_counters" s_l_counters ["_law_w"]
  d_l_changes : DefT K mg "_law_changes" s_l_changes ["_law_stream", "_law_w", "_law_free"]
  d_l_action : DefT K mg "_law_action" s_l_action ["_law_stream", "_law_w", "_law_name_here", "_law_most"]
  d_l_lists : DefT K mg "_law_lists" s_l_lists ["_law_stream", "_law_facts", "_law_piles", "_law_reserves"]
  d_l_made : DefT K mg "_law_made" s_l_made ["_law_w"]
  d_l_states : DefT K mg "_law_states" s_l_states ["_law_w"]
  d_l_behind : DefT K mg "_law_behind" s_l_behind ["_law_w", "_law_state", "_law_changes_here", "_law_gone"]
  d_l_taking : DefT K mg "_law_taking" s_l_taking ["_law_w", "_law_changes_here"]
  d_l_fits : DefT K mg "_law_fits" s_l_fits ["_law_w", "_law_state", "_law_action_here"]
  d_l_possible : DefT K mg "_law_possible" s_l_possible ["_law_w", "_law_state"]
  d_l_set : DefT K mg "_law_set" s_l_set ["_law_w"]
  d_l_where : DefT K mg "_law_where" s_l_where ["_law_w", "_law_tree"]
  d_l_pairs : DefT K mg "_law_pairs" s_l_pairs ["_law_w", "_law_most"]
  d_l_later : DefT K mg "_law_later" s_l_later ["_law_w", "_law_most", "_law_pair", "_law_changes_here"]
  d_l_offers : DefT K mg "_law_offers" s_l_offers ["_law_w", "_law_most", "_law_pair"]
  d_law : DefT K mg "law" s_law ["_law_script"]
  b_World : MakD K mg "World" c.W "World.__init__" s_World_init ["self", "facts", "piles", "reserves", "table"] [.none]
  kRES : ∃ a, mg "RESERVED" = some (.ref a) ∧ ∃ (ob : Obj) (its : Array Value) (n : Nat), K.lookup a = some ob ∧ ob.cls = .type "tuple" ∧ ob.data = .seq its n ∧ its.size ≤ sizeLine ∧ Vals (reserved.map V.str) its.toList
  kLET : ∃ t, mg "LETTERS" = some (.str "abcdefghijklmnopqrstuvwxyz" t)
end Nos
/-! The rules that speak of the written part, with the written part given by name. -/
namespace Nos
open PySem PySem.Spec PyProof.Rows L2
open C8 (Met Cal Mak Def fnScope fnArgs fnBody)
section
variable {X : Cx} (K : PySem.W.Frag) (hk : X.K = K)
include hk
theorem kInS : OpR X (compareOp .In) (rIn K false) := by
  subst hk
  exact op_in_seq
theorem kNotInS : OpR X (compareOp .NotIn) (rIn K true) := by
  subst hk
  exact op_notIn_seq
theorem kEqD (hu : X.A.units + 64 < cLine) : OpR X (compareOp .Eq) (rEqD K) := by
  subst hk
  exact op_eqD hu
theorem kNeD (hu : X.A.units + 64 < cLine) : OpR X (compareOp .NotEq) (rNeD K) := by
  subst hk
  exact op_neD hu
theorem kInD (hu : X.A.units + 65 < cLine) : OpR X (compareOp .In) (rInD K) := by
  subst hk
  exact op_inD hu
theorem kNotInD (hu : X.A.units + 65 < cLine) : OpR X (compareOp .NotIn) (rNotInD K) := by
  subst hk
  exact op_notInD hu
theorem kCatA : OpR X (binaryOp .Add) (rCatA K) := by
  subst hk
  exact op_catA
theorem kIxL : IxR X (rIxL K) := by
  subst hk
  exact ix_list
theorem kIxT : IxR X (rIxT K) := by
  subst hk
  exact ix_tup
theorem kSlL : SlR X (rSlL K) := by
  subst hk
  exact sl_list
theorem kSlA : SlR X (rSlA K) := by
  subst hk
  exact sl_tupA
def qLen (K : PySem.W.Frag) (xs : List V) (H : Hp) (Q : VK) : Prop := ∃ p zs, xs = [V.ref p] ∧ (SqL K H p zs ∨ SqT K H p zs) ∧ Q (V.int (zs.length : Int)) H
theorem kLen : CallR X (.builtin "len") (qLen K) := by
  subst hk
  exact call_len_seq
def qList (K : PySem.W.Frag) (xs : List V) (H : Hp) (Q : VK) : Prop := ∃ p zs, xs = [V.ref p] ∧ (SqL K H p zs ∨ SqT K H p zs) ∧ ∀ b, H b = none → Q (V.ref b) (upd H b (.lst zs))
theorem kList : CallR X (.type "list") (qList K) := by
  subst hk
  exact call_list_of
def qTup (K : PySem.W.Frag) (xs : List V) (H : Hp) (Q : VK) : Prop := ∃ p zs, xs = [V.ref p] ∧ ((SqL K H p zs ∧ ∀ b, H b = none → Q (V.ref b) (upd H b (.tup zs))) ∨ (SqT K H p zs ∧ Q (V.ref p) H))
theorem kTup : CallR X (.type "tuple") (qTup K) := by
  subst hk
  exact call_tuple_of
theorem kAny (hc : X.calm = true) : CallR X (.builtin "any") (rAny K) := by
  subst hk
  exact cr_any hc
theorem kAll (hc : X.calm = true) : CallR X (.builtin "all") (rAll K) := by
  subst hk
  exact cr_all hc
theorem kIsi : CallR X (.builtin "isinstance") (rIsi K) := by
  subst hk
  exact call_isi
variable {o e e' value : Expr} {es elts : List Expr} {f : Str} {pos pos' apos cpos p tpos : Pos} {to ta tv tl : TE} {t : TA} {kk n : Nat} {ts : TGs}
theorem pe_fldK (he : PE X e ta) (hb : attributeBase e f X.env (eval e X.env) = eval e X.env) : PE X (.Attribute e f pos) (tFld K ta f) := by
  subst hk
  exact pe_fld he hb
theorem ps_fldK (ha : PE X o ta) (hv : PE X value tv) (hs : swapsWith value (some (.Attribute o f pos')) pos.line X.env = pure false) : PS X (.Assign [.Attribute o f pos'] value pos) (sFld K ta tv f) := by
  subst hk
  exact ps_fld ha hv hs
theorem pi_listK (hl : PE X e tl) : PI X e' e (iList K tl) := by
  subst hk
  exact pi_list hl
theorem pi_tupK (hl : PE X e tl) : PI X e' e (iTup K tl) := by
  subst hk
  exact pi_tup hl
theorem pg_tupK (hc : X.calm = true) (h : PGs X es ts) (hn : (assignEach es X.env).length = n := by rfl) (hst : (assignEach es X.env).findIdx? (·.1) = none := by rfl) : PG X (.Tuple es kk pos) (gTup K n ts) := by
  subst hk
  exact pg_tup hc h hn hst
theorem pi_enumK (hg : Gl X "enumerate") (hm : X.mg "enumerate" = none) (ha : PA X [e] t) (hs : starEach [e] X.env = [(false, eval e X.env)] := by rfl) : PI X (.Tuple elts kk tpos) (.Call (.Name "enumerate" p) [e] [] pos) (iEnum K t) := by
  subst hk
  exact pi_enum hg hm ha hs
theorem pe_bmK {T : String} {name : Str} {id : String} {r : V → List V → Hp → VK → Prop} (pa : PlainAttrs T) (slot : Slot T name id) (hty : typeOf (.builtin id) = pure (.type "method_descriptor")) (hm : MtR X id r) (ho : PE X o to) (ha : PA X (e :: es) t)
    (hbase : attributeBase o name X.env (eval o X.env) = eval o X.env := by rfl)
    (hfew : ((backTo cpos (starEach (e :: es) X.env)).all (fun x => !x.1) && (backToKw cpos (keywordEach [] X.env)).all (fun x => x.1.isSome) && decide ((e :: es).length + ([] : List Keyword).length + (if ([] : List Keyword).isEmpty then 0 else 1) < 30)) = true := by rfl)
    (hline : (apos.endLine == cpos.line) = true := by rfl) (hs : starEach (e :: es) X.env = (false, eval e X.env) :: starEach es X.env := by rfl) (hplain : (backTo cpos (starEach es X.env)).any (·.1) = false := by rfl) :
    PE X (.Call (.Attribute o name apos) (e :: es) [] cpos) (tBM K T r to t) := by
  subst hk
  exact pe_bm pa slot hty hm ho ha hbase hfew hline hs hplain
end
end Nos
/-! Rules of one's own: count of texts, None in a dict of tuples, a dict comprehension with tuple keys. -/
namespace Nos
open PySem PySem.Spec PyProof.Rows L2
open C8 (Met Cal Mak Def fnScope fnArgs fnBody)
/-! ### count -/
theorem count_gives (k : Str) (t : Tok) : ∀ {us : List Value} {ys : List Str}, StrsAre us ys → (∀ y ∈ us, MeetsSeq.EqGives y (.str k t) (isStrOf k y)) ∧ us.countP (isStrOf k) = ys.count k
  | _, _, .nil => ⟨fun _ h => (nomatch h), rfl⟩
  | _, _, .cons n u r => by
    obtain ⟨h1, h2⟩ := count_gives k t r
    refine ⟨fun y hy => ?_, ?_⟩
    · rcases List.mem_cons.mp hy with rfl | hy
      · exact eqGives_str n k u t
      · exact h1 y hy
    · rw [List.countP_cons, List.count_cons, h2]
      rfl
def qCount (K : PySem.W.Frag) (x : V) (xs : List V) (H : Hp) (Q : VK) : Prop := ∃ (a : Addr) (ys : List Str) (k : Str), x = .ref a ∧ xs = [V.str k] ∧ SqL K H a (ys.map V.str) ∧ Q (V.int (ys.count k : Nat)) H
theorem kCount {X : Cx} (K : PySem.W.Frag) (hk : X.K = K) : MtR X "list.count" (qCount K) := by
  subst hk
  intro pins s σ H x xs v us Q I rx rxs h
  obtain ⟨a, ys, k, rfl, rfl, hs, q⟩ := h
  cases rx
  obtain ⟨u, rfl, ru⟩ := rxs.one
  obtain ⟨t, rfl⟩ := ru
  obtain ⟨its, rv, ⟨ob, n, ho, hc, hdn, hd⟩, hlen⟩ := I.list hs
  obtain ⟨cls, dd, data, sl⟩ := ob
  simp only at hc hd
  subst hc hd
  obtain ⟨g1, g2⟩ := count_gives k t (Vals.strs rv)
  have meets := SeqAt.list_countAt a its.toArray n dd sl (.str k t) (isStrOf k)
  refine call_meets PySem.F.slot_list_count ⟨_, ho, rfl⟩ PySem.F.entry_list_count (PySem.F.args_list_count_2 _ _) meets ⟨ho, fun y hy => (g1 y (by simpa using hy)).at _ _, ?_⟩
  refine ⟨V.int (ys.count k : Nat), H, I.tok _, ⟨s.toks, ?_⟩, q⟩
  have g3 : its.toArray.toList.countP (isStrOf k) = ys.count k := g2
  rw [g3]
/-! ### None in a dict whose keys are tuples -/
section
variable {P : Program} {w : World} {A : Around} {E : Value → Shared → Prop} {s : Shared}
/-- these are tuples that serve as keys -/
def TupKs (P : Program) (w : World) (h : Heap) (l : List Value) : Prop := ∀ v ∈ l, ∃ (ks : List Key) (b : Addr), v = .ref b ∧ (tupleKind (mixKind P w)).is h ks b
theorem tell_none {l : List Value} {Q : Bool → Shared → Prop} (hl : TupKs P w s.heap l) (q : Q false s) : wpAny (model P w) A (tableMayTell Value.none l) Q E s := by
  unfold tableMayTell
  split
  · exact wpAny_pure q
  · refine wpAny_bind (wpAny_pure ?_)
    simp only [Bool.not_true, Bool.false_eq_true, if_false]
    refine wpAny_bind (wpAny_forIn_list _ (fun m r t => t = s ∧ r = (Option.none, ()) ∧ TupKs P w s.heap m) _ ?_ ?_ _ _ ⟨rfl, rfl, hl⟩)
    · rintro v m r t ⟨rfl, rfl, hm⟩
      obtain ⟨ks, b, rfl, hb⟩ := hm v List.mem_cons_self
      refine wpAny_bind ((tupleKind (mixKind P w)).quiet hb ?_)
      simp only [Bool.not_true, Bool.false_eq_true, if_false]
      exact wpAny_pure ⟨rfl, rfl, fun u hu => hm u (List.mem_cons_of_mem _ hu)⟩
    · rintro r t ⟨rfl, rfl, _⟩
      exact wpAny_pure q
theorem none_eq_tup {b : Addr} {ks : List Key} {Q : Bool → Shared → Prop} (hu : A.units < cLine) (hb : (tupleKind (mixKind P w)).is s.heap ks b) (q : Q false s) : wpAny (model P w) A (eqBool (.ref b) Value.none) Q E s := by
  obtain ⟨o, its, n, h1, h2, h3, _⟩ := hb
  exact SeqAt.EqAt.tuple_none (l := b) (items := its) ⟨o, h1, h2, n, h3⟩ hu P w E Q q
theorem find_none {d : Addr} {o : Obj} {es : Array DictEntry} {ep : Nat} {z : Int} {Q : Option Nat → Shared → Prop} (hu : A.units < cLine) (ho : s.heap.get? d = some o) (hd : o.data = .dict es ep) (he : ∀ e ∈ es.toList, TupKs P w s.heap [e.key]) (q : Q none s) : wpAny (model P w) A (dictFind d Value.none z) Q E s := by
  have hk : ∀ (i : Nat) (e : DictEntry), es[i]? = some e → TupKs P w s.heap [e.key] := fun i e h => he e (Array.mem_toList_iff.mpr (Array.mem_of_getElem? h))
  generalize hpl : placesWithHash es.size (fun i => es[i]?.map (·.hash)) z = pl
  have hst : TupKs P w s.heap (pl.filterMap fun i => es[i]?.map (·.key)) := fun v hv => by
    obtain ⟨i, _, hi⟩ := List.mem_filterMap.mp hv
    cases h : es[i]? with
    | none => rw [h] at hi; cases hi
    | some e =>
      rw [h] at hi
      obtain rfl : e.key = v := Option.some.inj hi
      exact hk i e h _ List.mem_cons_self
  unfold dictFind
  refine wpAny_holding (wpAny_bind (wpAny_dictEntries ho hd ?_))
  dsimp only
  rw [hpl]
  by_cases hz : (pl.filterMap fun i => es[i]?.map (·.key)) = []
  · have hno : ∀ i ∈ pl, es[i]? = none := fun i hi => by
      have := List.filterMap_eq_nil_iff.mp hz i hi
      cases h : es[i]? with
      | none => rfl
      | some e => rw [h] at this; cases this
    rw [hz, if_pos (by rfl)]
    unfold dictWalkPlain
    refine wpAny_bind (wpAny_forIn_list _ (fun m r t => t = s ∧ r = (Option.none, ()) ∧ ∀ i ∈ m, es[i]? = none) _ ?_ ?_ _ _ ⟨rfl, rfl, hno⟩)
    · rintro i m r t ⟨rfl, rfl, hm⟩
      rw [hm i List.mem_cons_self]
      exact wpAny_pure ⟨rfl, rfl, fun j hj => hm j (List.mem_cons_of_mem _ hj)⟩
    · rintro r t ⟨rfl, rfl, _⟩
      exact wpAny_pure q
  · rw [if_neg (by
      obtain ⟨v, hv⟩ := List.exists_mem_of_ne_nil _ hz
      intro h
      rw [List.all_cons, Bool.and_eq_true_iff] at h
      have h2 := List.all_eq_true.mp h.2 v hv
      obtain ⟨_, b, rfl, _⟩ := hst v hv
      cases h2)]
    generalize (pl.filterMap fun i => es[i]?.map (·.key)) = st at hst hz
    rw [if_neg (fun h => by
      have h := beq_iff_eq.mp h
      obtain ⟨_, b, e, _⟩ := hst Value.none (by rw [h]; exact List.mem_cons_self)
      cases e)]
    refine wpAny_bind (tell_none hst ?_)
    rw [if_neg (by simp)]
    refine wpAny_bind (wpAny_forIn_list _ (fun m r t => t = s ∧ r = (Option.none, Option.none)) _ ?_ ?_ _ _ ⟨rfl, rfl⟩)
    · rintro i m r t ⟨rfl, rfl⟩
      cases h : es[i]? with
      | none => exact wpAny_pure ⟨rfl, rfl⟩
      | some e =>
        dsimp only
        by_cases hh : (e.hash == z) = true
        · obtain ⟨ks, b, e1, hb⟩ := hk i e h _ List.mem_cons_self
          rw [if_pos hh, e1]
          refine wpAny_bind (wpAny_dictEpoch ho hd (wpAny_bind (none_eq_tup hu hb (wpAny_bind (wpAny_dictEpoch ho hd ?_)))))
          rw [if_neg (by simp)]
          simp only [Bool.false_eq_true, if_false]
          refine wpAny_bind (wpAny_rule ?_)
          simp only [Bool.false_and, Bool.false_eq_true, if_false]
          exact wpAny_pure ⟨rfl, rfl⟩
        · rw [if_neg hh]
          exact wpAny_pure ⟨rfl, rfl⟩
    · rintro r t ⟨rfl, rfl⟩
      exact wpAny_pure q
theorem in_none {d : Addr} {xs : List (List Key × Addr × Value)} {Q : Value → Shared → Prop} (hu : A.units + 1 < cLine) (hs : (d == sysModules) = false) (hm : s.heap.DictOfH (tupleKind (mixKind P w)) d xs) (q : Q (.bool false) { s with toks := s.toks + 1 }) : wpAny (model P w) A (compareOp .In Value.none (.ref d)) Q E s := by
  have hc : wpAny (model P w) A (contains (.ref d) Value.none) (fun r t => Q (.bool r) t) E s := by
    unfold contains
    refine wpAny_holding (wpAny_bind (wpAny_specialOf hm.typeIs PySem.F.slot_dict_contains.lookup ?_))
    show wpAny _ _ (if (some (Value.builtin "dict.__contains__") == some Value.none) = true then _ else _) _ _ _
    rw [if_neg (fun h => by cases h)]
    refine wpAny_bind (wpAny_callSpecialUnlessNone?_slot (name := Str.ofString "__contains__") hm.typeIs PySem.F.slot_dict_contains
      (wpAny_call_entry PySem.F.slot_dict_contains hm.typeIs PySem.F.entry_dict_contains ?_ (PySem.F.args_dict_contains_2 _ _)))
    show wpAny _ _ (dictGet d Value.none >>= _) _ _ _
    refine wpAny_bind ?_
    unfold dictGet
    refine wpAny_holding (wpAny_bind ((noneKind P w).pyHash (k := Option.none) rfl (wpAny_bind ?_)))
    obtain ⟨o, es, ep, ho, _, hd, he, his, hn⟩ := hm
    refine find_none (s := { s with toks := s.toks + 1 }) (show A.in1.units < cLine from hu) ho hd (fun e hx v hv => ?_) ?_
    · rw [he] at hx
      obtain ⟨x, hx2, rfl⟩ := List.mem_map.mp hx
      rw [List.mem_singleton.mp hv]
      exact ⟨x.1, x.2.1, rfl, his x hx2⟩
    · refine wpAny_pure ?_
      show wpAny _ _ (Builtin.Dict.pendingKey? d Value.none >>= _) _ _ _
      refine wpAny_bind (wpAny_pendingKey_other hs (wpAny_pure ⟨_, rfl, wpAny_truthy_bool q⟩))
  exact wpAny_bind (wpAny_mono hc (fun r t h => wpAny_pure h) fun _ _ h => h)
end
def tDInO (ty td : TE) : TE := fun σ H Q => ty σ H fun y H1 => td σ H1 fun x H2 => (∃ a o, x = .ref a ∧ DGet H2 a y o ∧ Q (.bl o.isSome) H2) ∨ ∃ a kvs, x = .ref a ∧ y = .non ∧ Rd H2 a (.dT kvs) ∧ Q (.bl false) H2
section
variable {X : Cx} {o i : Expr} {td ty : TE}
theorem d_inNoneT {pins : List (Addr × Obj)} {σ : L2.St} {H : Hp} {s : Shared} {a : Addr} {kvs : List (List Key × V)} {A : Around} {E : Value → Shared → Prop} {Q : Value → Shared → Prop} (hu : A.units + 1 < cLine) (I : Inv X pins σ H s) (e : Rd H a (.dT kvs)) (h : ∀ s', Inv X pins σ H s' → Q (.bool false) s') : wpAny (model X.prog X.w) A (compareOp .In .none (.ref a)) Q E s := by
  obtain ⟨_, hs, xs, _, dd⟩ := dt_rd I.hok e
  exact in_none hu hs dd (h _ (I.tok _))
theorem pc_dinO (hu : X.A.units + 1 < cLine) (hi : PE X i ty) (ho : PE X o td) : PC X .In i o (tDInO ty td) := by
  refine ⟨fun pins s σ H Q I h => ?_⟩
  refine thn (hi.run pins s σ H _ I h) fun iv s1 ⟨y, H1, I1, ry, q1⟩ => thn (ho.run pins s1 σ H1 _ I1 q1) fun u s2 ⟨x, H2, I2, rx, q2⟩ => ?_
  rcases q2 with ⟨a, ov, ex, g, q2⟩ | ⟨a, kvs, ex, ey, g, q2⟩
  · subst ex
    obtain rfl : u = Value.ref a := rx
    exact d_in hu I2 g ry fun s3 I3 => ⟨.bl ov.isSome, H2, I3, rfl, q2⟩
  · subst ex ey
    obtain rfl : u = Value.ref a := rx
    obtain rfl : iv = Value.none := ry
    exact d_inNoneT hu I2 g fun s3 I3 => ⟨.bl false, H2, I3, rfl, q2⟩
end
end Nos
/-! Steps of a reading; rules for more. -/
namespace Nos
open PySem PySem.Spec PyProof.Rows L2
open C8 (Met Cal Mak Def fnScope fnArgs fnBody)
section
variable {σ : L2.St} {H : Hp} {i : Nat} {v : V} {ta tb te tv : TE} {tr t : TA} {r : R2} {Q : VK} {Qb : Bool → Hp → Prop} {Ql : List V → Hp → Prop} {tc tt tu : TT} {sp : Sp} {dvs : List V} {E : XK} {D : Ends} {t1 t2 : TS}
theorem i_var (h : σ[i]? = some (some v)) (q : Q v H) : tVar i σ H Q := ⟨v, h, q⟩
theorem i_c (q : Q v H) : tC v σ H Q := q
theorem i_op (q : ta σ H fun x H1 => tb σ H1 fun y H2 => r x y H2 Q) : tOp r ta tb σ H Q := q
theorem i_un {r : V → Hp → VK → Prop} (q : ta σ H fun x H1 => r x H1 Q) : tUn r ta σ H Q := q
theorem i_nil (q : Ql [] H) : tNil σ H Ql := q
theorem i_cons (q : ta σ H fun x H1 => tr σ H1 fun xs H2 => Ql (x :: xs) H2) : tCons ta tr σ H Ql := q
theorem i_call (q : t σ H fun vs H1 => sp (vs ++ dvs) H1 Q E) : tCall sp dvs E t σ H Q := q
theorem i_CB {r : List V → Hp → VK → Prop} (q : t σ H fun vs H1 => r vs H1 Q) : tCB r t σ H Q := q
theorem i_fld {K : PySem.W.Frag} {f : Str} (q : ta σ H fun x H1 => ∃ a C dx fs v, x = .ref a ∧ H1 a = some (.ins C dx fs) ∧ Cls K C ∧ NoAttr K C f ∧ fs.lookup f = some v ∧ Q v H1) : tFld K ta f σ H Q := q
theorem i_meth {C : Addr} {m : Str} (q : ta σ H fun x H1 => ∃ a dx fs, x = .ref a ∧ H1 a = some (.ins C dx fs) ∧ fs.lookup m = none ∧ t σ H1 fun vs H2 => sp (x :: (vs ++ dvs)) H2 Q E) : tMeth C m sp dvs E ta t σ H Q := q
theorem i_tup (q : t σ H fun xs H1 => xs.length ≤ sizeLine ∧ ∀ p, H1 p = none → Q (.ref p) (upd H1 p (.tup xs))) : tTup t σ H Q := q
theorem i_lst (q : t σ H fun xs H1 => xs.length ≤ sizeLine ∧ ∀ p, H1 p = none → Q (.ref p) (upd H1 p (.lst xs))) : tLst t σ H Q := q
theorem i_test (q : te σ H fun x H1 => ∃ b, x = .bl b ∧ Qb b H1) : tTest te σ H Qb := q
theorem i_B (q : te σ H fun x H1 => ∃ b, x = .bl b ∧ Qb b H1) : tB te σ H Qb := q
theorem i_not (q : tc σ H fun b H1 => Qb (!b) H1) : tNot tc σ H Qb := q
theorem i_and (q : tc σ H fun b H1 => if b = true then tu σ H1 Qb else Qb false H1) : tAnd tc tu σ H Qb := q
theorem i_or (q : tc σ H fun b H1 => if b = true then Qb true H1 else tu σ H1 Qb) : tOr tc tu σ H Qb := q
theorem i_andV (q : ta σ H fun x H1 => ∃ b, x = .bl b ∧ if b = true then tb σ H1 Q else Q (.bl false) H1) : tAndV ta tb σ H Q := q
theorem i_orV (q : ta σ H fun x H1 => ∃ b, x = .bl b ∧ if b = true then Q (.bl true) H1 else tb σ H1 Q) : tOrV ta tb σ H Q := q
theorem i_notV (q : ta σ H fun x H1 => ∃ b, x = .bl b ∧ Q (.bl (!b)) H1) : tNotV ta σ H Q := q
theorem i_ifE (q : tc σ H fun b H1 => if b = true then ta σ H1 Q else tb σ H1 Q) : tIf tc ta tb σ H Q := q
theorem i_seq {nx bk ct : L2.St → Hp → Prop} {rt : VK} (q : t1 ⟨t2 ⟨nx, rt, bk, ct⟩, rt, bk, ct⟩ σ H) : tSeq t1 t2 ⟨nx, rt, bk, ct⟩ σ H := q
theorem i_asg {nx bk ct : L2.St → Hp → Prop} {rt : VK} (q : te σ H fun v H1 => nx (σ.set i (some v)) H1) : tAsg te (gName i) ⟨nx, rt, bk, ct⟩ σ H := q
theorem i_asgG {nx bk ct : L2.St → Hp → Prop} {rt : VK} {g : TG} (q : te σ H fun v H1 => g v σ H1 nx) : tAsg te g ⟨nx, rt, bk, ct⟩ σ H := q
theorem i_ret {nx bk ct : L2.St → Hp → Prop} {rt : VK} (q : te σ H rt) : tRet te ⟨nx, rt, bk, ct⟩ σ H := q
theorem i_retN {nx bk ct : L2.St → Hp → Prop} {rt : VK} (q : rt .non H) : tRetN ⟨nx, rt, bk, ct⟩ σ H := q
theorem i_drop {nx bk ct : L2.St → Hp → Prop} {rt : VK} (q : te σ H fun _ H1 => nx σ H1) : tDrop te ⟨nx, rt, bk, ct⟩ σ H := q
theorem i_if {nx bk ct : L2.St → Hp → Prop} {rt : VK} (q : tc σ H fun b H1 => if b = true then t1 ⟨nx, rt, bk, ct⟩ σ H1 else t2 ⟨nx, rt, bk, ct⟩ σ H1) : tIfS tc t1 t2 ⟨nx, rt, bk, ct⟩ σ H := q
theorem i_next {nx bk ct : L2.St → Hp → Prop} {rt : VK} (q : nx σ H) : tNext ⟨nx, rt, bk, ct⟩ σ H := q
theorem i_break {nx bk ct : L2.St → Hp → Prop} {rt : VK} (q : bk σ H) : tBreak ⟨nx, rt, bk, ct⟩ σ H := q
theorem i_par {j : Nat} {nx bk ct : L2.St → Hp → Prop} {rt : VK} (q : t σ H fun vs H1 => ∃ v w, vs = [v, w] ∧ nx ((σ.set i (some v)).set j (some w)) H1) : tPar i j t ⟨nx, rt, bk, ct⟩ σ H := q
theorem i_for {nx bk ct : L2.St → Hp → Prop} {rt : VK} {wi : TI} {g : TG} (q : wi σ H fun J H1 => ∃ W : Nat → Nat → L2.St → Hp → Prop, (∃ m, W 0 m σ H1) ∧ ∀ i m σ H, W i m σ H →
  (J.stop i H ∧ nx σ H) ∨ (J.go i H ∧ ∃ N : L2.St → Hp → Prop, (∀ σ' H', N σ' H' → ∃ m', m' < m ∧ W (i + 1) m' σ' H') ∧ ∀ x H', J.yld i H x H' → g x σ H' fun σ2 H2 => t1 ⟨N, rt, nx, N⟩ σ2 H2)) : tFor wi g t1 ⟨nx, rt, bk, ct⟩ σ H := q
theorem i_ex {Qb : Bool → Prop} {b : Bool} (q : Qb b) : ∃ c, V.bl b = V.bl c ∧ Qb c := ⟨_, rfl, q⟩
theorem i_ifEq {A B : Prop} {x : V} (q : A) : if decide (x = x) = true then A else B := by
  rw [if_pos (decide_eq_true rfl)]
  exact q
theorem i_if1 {A B : Prop} (q : A) : if true = true then A else B := q
theorem i_if0 {A B : Prop} (q : B) : if false = true then A else B := q
theorem i_list {K : PySem.W.Frag} {tl : TE} {R : It → Hp → Prop} (q : tl σ H fun x H1 => ∃ a, x = .ref a ∧ (∃ xs, SqL K H1 a xs) ∧ R (Itl K a) H1) : iList K tl σ H R := q
theorem i_tupI {K : PySem.W.Frag} {tl : TE} {R : It → Hp → Prop} (q : tl σ H fun x H1 => ∃ a, x = .ref a ∧ (∃ xs, SqT K H1 a xs) ∧ R (Itt K a) H1) : iTup K tl σ H R := q
theorem i_eq {x y : V} (h : scal x y = true) (q : Q (.bl (decide (x = y))) H) : rEq x y H Q := ⟨h, q⟩
theorem i_ne {x y : V} (h : scal x y = true) (q : Q (.bl (!decide (x = y))) H) : rNe x y H Q := ⟨h, q⟩
theorem i_setF {nx bk ct : L2.St → Hp → Prop} {rt : VK} {K : PySem.W.Frag} {f : Str} (q : tv σ H fun y H1 => ta σ H1 fun x H2 => ∃ a C dx fs, x = .ref a ∧ H2 a = some (.ins C dx fs) ∧ Cls K C ∧ NoAttr K C f ∧ fs.length < 1000 ∧ nx σ (upd H2 a (.ins C dx (putF f y fs)))) : sFld K ta tv f ⟨nx, rt, bk, ct⟩ σ H := q
end
/-! the world's attributes, read -/
section
variable {K : PySem.W.Frag} {mg : Str → Option Value} {c : Cs} {H : Hp} {Q : VK} {a dx f p r t : Addr} {w : Wd}
theorem fl_fact (T : Txt K mg c) (W : WdAt c H a dx f p r t w) (q : Q (.ref f) H) : ∃ a' C dx fs v, V.ref a = .ref a' ∧ H a' = some (.ins C dx fs) ∧ Cls K C ∧ NoAttr K C "fact_names" ∧ fs.lookup ("fact_names" : Str) = some v ∧ Q v H := ⟨a, _, _, _, _, rfl, W.ob, T.cW, T.nW_fact_names, fW_fact_names, q⟩
theorem fl_pile (T : Txt K mg c) (W : WdAt c H a dx f p r t w) (q : Q (.ref p) H) : ∃ a' C dx fs v, V.ref a = .ref a' ∧ H a' = some (.ins C dx fs) ∧ Cls K C ∧ NoAttr K C "pile_names" ∧ fs.lookup ("pile_names" : Str) = some v ∧ Q v H := ⟨a, _, _, _, _, rfl, W.ob, T.cW, T.nW_pile_names, fW_pile_names, q⟩
theorem fl_res (T : Txt K mg c) (W : WdAt c H a dx f p r t w) (q : Q (.ref r) H) : ∃ a' C dx fs v, V.ref a = .ref a' ∧ H a' = some (.ins C dx fs) ∧ Cls K C ∧ NoAttr K C "reserve_names" ∧ fs.lookup ("reserve_names" : Str) = some v ∧ Q v H := ⟨a, _, _, _, _, rfl, W.ob, T.cW, T.nW_reserve_names, fW_reserve_names, q⟩
theorem fl_table (T : Txt K mg c) (W : WdAt c H a dx f p r t w) (q : Q (.ref t) H) : ∃ a' C dx fs v, V.ref a = .ref a' ∧ H a' = some (.ins C dx fs) ∧ Cls K C ∧ NoAttr K C "table" ∧ fs.lookup ("table" : Str) = some v ∧ Q v H := ⟨a, _, _, _, _, rfl, W.ob, T.cW, T.nW_table, fW_table, q⟩
end
section
variable {X : Cx}
/-- x is b, x is not b: b a truth value, x anything written -/
def rIsT (neg : Bool) : R2 := fun x y H Q => ∃ b, y = .bl b ∧ (x = .non ∨ (∃ a, x = .bl a) ∨ ∃ s, x = .str s) ∧ Q (.bl (if neg then !decide (x = .bl b) else decide (x = .bl b))) H
theorem op_isT : OpR X (compareOp .Is) (rIsT false) := by
  intro pins s σ H x y v u Q I rx ry h
  obtain ⟨b, rfl, hx, q⟩ := h
  obtain rfl : u = Value.bool b := ry
  rcases hx with rfl | ⟨a, rfl⟩ | ⟨z, rfl⟩
  · obtain rfl : v = Value.none := rx
    exact wpAny_is_other rfl (fun z => nomatch z) ⟨.bl false, H, I, rfl, q⟩
  · obtain rfl : v = Value.bool a := rx
    by_cases e : a = b
    · subst e
      exact wpAny_is_self rfl ⟨.bl true, H, I, rfl, by simpa using q⟩
    · exact wpAny_is_other rfl (fun z => e (Value.bool.inj z)) ⟨.bl false, H, I, rfl, by simpa [e] using q⟩
  · obtain ⟨t, rfl⟩ := rx
    exact wpAny_is_other rfl (fun z => nomatch z) ⟨.bl false, H, I, rfl, q⟩
theorem op_isNotT : OpR X (compareOp .IsNot) (rIsT true) := by
  intro pins s σ H x y v u Q I rx ry h
  obtain ⟨b, rfl, hx, q⟩ := h
  obtain rfl : u = Value.bool b := ry
  rcases hx with rfl | ⟨a, rfl⟩ | ⟨z, rfl⟩
  · obtain rfl : v = Value.none := rx
    exact wpAny_isNot_other rfl (fun z => nomatch z) ⟨.bl true, H, I, rfl, q⟩
  · obtain rfl : v = Value.bool a := rx
    by_cases e : a = b
    · subst e
      exact wpAny_isNot_self rfl ⟨.bl false, H, I, rfl, by simpa using q⟩
    · exact wpAny_isNot_other rfl (fun z => e (Value.bool.inj z)) ⟨.bl true, H, I, rfl, by simpa [e] using q⟩
  · obtain ⟨t, rfl⟩ := rx
    exact wpAny_isNot_other rfl (fun z => nomatch z) ⟨.bl true, H, I, rfl, q⟩
/-- a list or a tuple, walked -/
def iSeq (K : PySem.W.Frag) (tl : TE) : TI := fun σ H R => tl σ H fun x H1 => ∃ a xs, x = .ref a ∧ ((SqL K H1 a xs ∧ R (Itl K a) H1) ∨ (SqT K H1 a xs ∧ R (Itt K a) H1))
theorem pi_seq {tg l : Expr} {tl : TE} (hl : PE X l tl) : PI X tg l (iSeq X.K tl) := by
  refine ⟨fun pins s σ H R I h => ?_⟩
  refine thn (hl.run pins s σ H _ I h) fun v s1 z => ?_
  obtain ⟨x, H1, I1, r1, a, xs, e, q⟩ := z
  subst e
  obtain rfl : v = Value.ref a := r1
  have new : ∀ b ∈ [s1.heap.objs.size], FpOk X pins H1 b := fun b hb => by
    obtain rfl : b = s1.heap.objs.size := List.mem_singleton.mp hb
    exact I1.fpOk (Nat.le_refl _) (I1.hok.fresh (Nat.le_refl _))
  rcases q with ⟨hq, q⟩ | ⟨hq, q⟩
  · obtain ⟨its, _, pl, _⟩ := I1.list hq
    exact wpAny_pyIter_list pl.isList ⟨_, [s1.heap.objs.size], _, _, H1, rfl, I1.kept (t' := s1.toks) (fun b o e => Heap.get?_push_of_some _ e), turn_list a _, ⟨_, Heap.get?_push_size _ rfl, rfl, rfl⟩, new, q⟩
  · obtain ⟨its, _, pt, _⟩ := I1.tuple hq
    exact wpAny_pyIter_tuple (show s1.heap.IsTuple a its.toArray from pt) ⟨_, [s1.heap.objs.size], _, _, H1, rfl, I1.kept (t' := s1.toks) (fun b o e => Heap.get?_push_of_some _ e), turn_tuple a _, ⟨_, Heap.get?_push_size _ rfl, rfl, rfl⟩, new, q⟩
theorem pi_seqK (K : PySem.W.Frag) (hk : X.K = K) {tg l : Expr} {tl : TE} (hl : PE X l tl) : PI X tg l (iSeq K tl) := by
  subst hk
  exact pi_seq hl
theorem hu65 {k : Nat} {A : Around} (hr : Room k A) : A.units + 65 < cLine := by
  have := hr.un
  omega
end
theorem eqV_str (x y : Str) : eqV (.str x) (.str y) = decide (x = y) := by
  show (x == y) = decide (x = y)
  by_cases e : x = y
  · subst e
    simp
  · rw [decide_eq_false e]
    exact beq_eq_false_iff_ne.mpr e
theorem inV_strs (s : Str) : ∀ ns : List Str, inV (.str s) (ns.map V.str) = decide (s ∈ ns)
  | [] => by simp [inV]
  | n :: r => by
    have ih := inV_strs s r
    unfold inV at ih ⊢
    rw [List.map_cons, List.any_cons, ih, eqV_str]
    by_cases e : n = s
    · subst e
      simp
    · have e' : ¬ s = n := fun z => e z.symm
      simp [e, e']
theorem flat_strs' (ns : List Str) : (ns.map V.str).all flatV = true := by
  rw [List.all_eq_true]
  intro v hv
  obtain ⟨s, _, rfl⟩ := List.mem_map.mp hv
  rfl
theorem i_inT {K : PySem.W.Frag} {H : Hp} {Q : VK} {a : Addr} {s : Str} {ns : List Str} (h : SqT K H a (ns.map V.str) ∨ SqL K H a (ns.map V.str)) (q : Q (.bl (decide (s ∈ ns))) H) : rIn K false (.str s) (.ref a) H Q :=
  ⟨a, _, rfl, h.elim .inr .inl, rfl, flat_strs' ns, by rw [inV_strs]; exact q⟩
theorem i_notInT {K : PySem.W.Frag} {H : Hp} {Q : VK} {a : Addr} {s : Str} {ns : List Str} (h : SqT K H a (ns.map V.str) ∨ SqL K H a (ns.map V.str)) (q : Q (.bl (!decide (s ∈ ns))) H) : rIn K true (.str s) (.ref a) H Q :=
  ⟨a, _, rfl, h.elim .inr .inl, rfl, flat_strs' ns, by rw [inV_strs]; exact q⟩
/-! items, parts -/
section
variable {K : PySem.W.Frag} {H : Hp} {Q : VK} {a b : Addr}
theorem i_ixT {xs : List V} {j : Nat} {v : V} (h : SqT K H a xs) (e : xs[j]? = some v) (q : Q v H) : rIxT K (.ref a) (.int (j : Int)) H Q := ⟨a, xs, _, v, rfl, rfl, h, atI_nat e, q⟩
theorem i_ixL {xs : List V} {j : Nat} {v : V} (h : SqL K H a xs) (e : xs[j]? = some v) (q : Q v H) : rIxL K (.ref a) (.int (j : Int)) H Q := ⟨a, xs, _, v, rfl, rfl, h, atI_nat e, q⟩
theorem i_ixT0 {xs : List V} {v : V} (h : SqT K H a xs) (e : xs[0]? = some v) (q : Q v H) : rIxT K (.ref a) (.int 0) H Q := ⟨a, xs, _, v, rfl, rfl, h, atI_nat (j := 0) e, q⟩
theorem i_ixL0 {xs : List V} {v : V} (h : SqL K H a xs) (e : xs[0]? = some v) (q : Q v H) : rIxL K (.ref a) (.int 0) H Q := ⟨a, xs, _, v, rfl, rfl, h, atI_nat (j := 0) e, q⟩
theorem i_ixT1 {xs : List V} {v : V} (h : SqT K H a xs) (e : xs[1]? = some v) (q : Q v H) : rIxT K (.ref a) (.int 1) H Q := ⟨a, xs, _, v, rfl, rfl, h, atI_nat (j := 1) e, q⟩
theorem i_ixL1 {xs : List V} {v : V} (h : SqL K H a xs) (e : xs[1]? = some v) (q : Q v H) : rIxL K (.ref a) (.int 1) H Q := ⟨a, xs, _, v, rfl, rfl, h, atI_nat (j := 1) e, q⟩
theorem i_ixT2 {xs : List V} {v : V} (h : SqT K H a xs) (e : xs[2]? = some v) (q : Q v H) : rIxT K (.ref a) (.int 2) H Q := ⟨a, xs, _, v, rfl, rfl, h, atI_nat (j := 2) e, q⟩
theorem i_ixL2 {xs : List V} {v : V} (h : SqL K H a xs) (e : xs[2]? = some v) (q : Q v H) : rIxL K (.ref a) (.int 2) H Q := ⟨a, xs, _, v, rfl, rfl, h, atI_nat (j := 2) e, q⟩
theorem i_ixT3 {xs : List V} {v : V} (h : SqT K H a xs) (e : xs[3]? = some v) (q : Q v H) : rIxT K (.ref a) (.int 3) H Q := ⟨a, xs, _, v, rfl, rfl, h, atI_nat (j := 3) e, q⟩
theorem i_ixL3 {xs : List V} {v : V} (h : SqL K H a xs) (e : xs[3]? = some v) (q : Q v H) : rIxL K (.ref a) (.int 3) H Q := ⟨a, xs, _, v, rfl, rfl, h, atI_nat (j := 3) e, q⟩
theorem i_cat {xs zs : List V} (h1 : H a = some (.lst xs)) (h2 : H b = some (.lst zs)) (h3 : xs.length + zs.length ≤ 100000) (q : ∀ p, H p = none → Q (.ref p) (upd H p (.lst (xs ++ zs)))) : rCat (.ref a) (.ref b) H Q := ⟨a, b, xs, zs, rfl, rfl, h1, h2, big5 h3, q⟩
theorem paired_bools {H : Hp} : ∀ {vs : List V} {l : List Bool}, Paired (rBool H) vs l → vs = l.map V.bl
  | _, _, .nil => rfl
  | _, _, .cons h t => by rw [paired_bools t, show _ = V.bl _ from h]; rfl
theorem paired_ints {H : Hp} : ∀ {vs : List V} {l : List Int}, Paired (rInt H) vs l → vs = l.map V.int
  | _, _, .nil => rfl
  | _, _, .cons h t => by rw [paired_ints t, show _ = V.int _ from h]; rfl
theorem i_all {α : Type} {f : α → Bool} {ys : List α} {zs : List V} (h : H a = some (.lst zs)) (hp : Paired (rBool H) zs (ys.map f)) (q : Q (.bl (ys.all f)) H) : rAll K [.ref a] H Q := by
  refine ⟨a, ys.map f, rfl, ?_, ?_⟩
  · rw [← paired_bools hp]
    exact SqL.of h
  · rw [List.all_map]
    exact q
theorem i_any {α : Type} {f : α → Bool} {ys : List α} {zs : List V} (h : H a = some (.lst zs)) (hp : Paired (rBool H) zs (ys.map f)) (q : Q (.bl (ys.any f)) H) : rAny K [.ref a] H Q := by
  refine ⟨a, ys.map f, rfl, ?_, ?_⟩
  · rw [← paired_bools hp]
    exact SqL.of h
  · rw [List.any_map]
    exact q
theorem i_sl1 {x0 : V} {xs : List V} (h : SqT K H a (x0 :: xs)) (q : ∀ p, H p = none → Q (.ref p) (upd H p (.tup xs))) : rSlA K (.ref a) (some 1) none H Q := by
  have e : HT.sIx (x0 :: xs).length 0 (some 1) = 1 := by
    rw [show (some 1 : Option Int) = some ((1 : Nat) : Int) from rfl, HT.sIx_nat]
    exact Nat.min_eq_left (by simp)
  have e2 : cutV (x0 :: xs) (some 1) none = xs := by
    unfold cutV
    rw [e, HT.sIx_none]
    simp
  refine ⟨a, _, rfl, h, fun z => ?_, fun _ p hp => ?_⟩
  · rw [e] at z
    exact absurd z.1 (by decide)
  · rw [e2]
    exact q p hp
theorem i_slL1 {x0 : V} {xs : List V} (h : SqL K H a (x0 :: xs)) (q : ∀ p, H p = none → Q (.ref p) (upd H p (.lst xs))) : rSlL K (.ref a) (some 1) none H Q := by
  have e : HT.sIx (x0 :: xs).length 0 (some 1) = 1 := by
    rw [show (some 1 : Option Int) = some ((1 : Nat) : Int) from rfl, HT.sIx_nat]
    exact Nat.min_eq_left (by simp)
  have e2 : cutV (x0 :: xs) (some 1) none = xs := by
    unfold cutV
    rw [e, HT.sIx_none]
    simp
  refine ⟨a, _, rfl, h, fun p hp => ?_⟩
  rw [e2]
  exact q p hp
end
section
variable {J : It} {n : Nat} {Gd : Hp → Prop} {Y : Nat → Hp → V → Hp → Prop} {H : Hp} {σ : L2.St}
theorem for_w (w : Walk J n Gd Y) {g : TG} {tb : TS} {nx : L2.St → Hp → Prop} {rt : VK} (Pv : Nat → L2.St → Hp → Prop) (h0 : Pv 0 σ H) (hG : ∀ i σ H, i ≤ n → Pv i σ H → Gd H)
    (hs : ∀ i x σ H H', i < n → Pv i σ H → Y i H x H' → g x σ H' fun σ2 H2 => tb ⟨Pv (i + 1), rt, nx, Pv (i + 1)⟩ σ2 H2) (hd : ∀ σ H, Pv n σ H → nx σ H) :
    ∃ W : Nat → Nat → L2.St → Hp → Prop, (∃ m, W 0 m σ H) ∧ ∀ i m σ H, W i m σ H →
      (J.stop i H ∧ nx σ H) ∨ (J.go i H ∧ ∃ N : L2.St → Hp → Prop, (∀ σ' H', N σ' H' → ∃ m', m' < m ∧ W (i + 1) m' σ' H') ∧ ∀ x H', J.yld i H x H' → g x σ H' fun σ2 H2 => tb ⟨N, rt, nx, N⟩ σ2 H2) :=
  for_it (D := ⟨nx, rt, nx, nx⟩) w Pv h0 hG hs hd
theorem i_sl {r : V → Option Int → Option Int → Hp → VK → Prop} {te : TE} {tl th : TO} {Q : VK} (q : te σ H fun x H1 => tl σ H1 fun l H2 => th σ H2 fun u H3 => r x l u H3 Q) : tSl r te tl th σ H Q := q
theorem i_part {te : TE} {Q : Option Int → Hp → Prop} (q : te σ H fun x H1 => ∃ i, x = .int i ∧ Q (some i) H1) : tPart te σ H Q := q
theorem i_nopart {Q : Option Int → Hp → Prop} (q : Q none H) : tNoPart σ H Q := q
theorem i_exI {Qb : Int → Prop} {b : Int} (q : Qb b) : ∃ c, V.int b = V.int c ∧ Qb c := ⟨_, rfl, q⟩
end
section
variable {K : PySem.W.Frag} {H : Hp} {σ : L2.St} {Q : VK} {D b : Addr} {to : TE} {t : TA} {xs ys : List V} {y : V}
theorem i_bm {T : String} {r : V → List V → Hp → VK → Prop} (q : to σ H fun x H1 => tyV K T x H1 ∧ t σ H1 fun xs H2 => r x xs H2 Q) : tBM K T r to t σ H Q := q
theorem i_append (h : H D = some (.lst xs)) (n : xs.length < 100000) (q : Q .non (upd H D (.lst (xs ++ [y])))) : rAppend (.ref D) [y] H Q := ⟨D, xs, y, rfl, rfl, h, big5' n, q⟩
theorem i_extend (h : H D = some (.lst xs)) (h2 : H b = some (.lst ys)) (n : xs.length + ys.length ≤ 100000) (q : Q .non (upd H D (.lst (xs ++ ys)))) : rExtend (.ref D) [.ref b] H Q := ⟨D, b, xs, ys, rfl, rfl, h, h2, big5 n, q⟩
end
theorem i_gname {i : Nat} {x : V} {σ : L2.St} {H : Hp} {Qg : L2.St → Hp → Prop} (q : Qg (σ.set i (some x)) H) : gName i x σ H Qg := q
theorem flat_take {α β : Type} {l : List α} {f : α → List β} {i : Nat} {u : α} (h : l[i]? = some u) : (l.take (i + 1)).flatMap f = (l.take i).flatMap f ++ f u := by
  rw [take_more h]
  simp
theorem flat_len {α β : Type} {l : List α} {f : α → List β} {i : Nat} : ((l.take i).flatMap f).length ≤ (l.flatMap f).length := by
  have e : l.flatMap f = (l.take i).flatMap f ++ (l.drop i).flatMap f := by
    rw [← List.flatMap_append, List.take_append_drop]
  rw [e, List.length_append]
  omega
theorem flat_lt {α β : Type} {l : List α} {f : α → List β} {i : Nat} {u : α} (h : l[i]? = some u) : ((l.take i).flatMap f).length + (f u).length ≤ (l.flatMap f).length := by
  have e := flat_len (l := l) (f := f) (i := i + 1)
  rw [flat_take h, List.length_append] at e
  exact e
theorem i_make {C : Addr} {sp : Sp} {dvs : List V} {E : XK} {t : TA} {σ : L2.St} {H : Hp} {Q : VK} (q : t σ H fun vs H1 => ∀ x dx, H1 x = none → H1 dx = none → dx ≠ x → sp (.ref x :: (vs ++ dvs)) (upd (upd H1 dx (.own x)) x (.ins C dx [])) (fun v H2 => v = .non ∧ Q (.ref x) H2) E) : tMake C sp dvs E t σ H Q := q
theorem i_isNT {b : Bool} {x : V} {H : Hp} {Q : VK} (hx : x = .non ∨ (∃ a, x = .bl a) ∨ ∃ s, x = .str s) (q : Q (.bl (!decide (x = .bl b))) H) : rIsT true x (.bl b) H Q := ⟨b, rfl, hx, q⟩
theorem i_isYT {b : Bool} {x : V} {H : Hp} {Q : VK} (hx : x = .non ∨ (∃ a, x = .bl a) ∨ ∃ s, x = .str s) (q : Q (.bl (decide (x = .bl b))) H) : rIsT false x (.bl b) H Q := ⟨b, rfl, hx, q⟩
theorem chV (x : Ch) : x.v = .non ∨ (∃ a, x.v = .bl a) ∨ ∃ s, x.v = .str s := by
  cases x
  · exact .inr (.inl ⟨_, rfl⟩)
  · exact .inr (.inl ⟨_, rfl⟩)
  · exact .inr (.inr ⟨_, rfl⟩)
  · exact .inr (.inr ⟨_, rfl⟩)
  · exact .inr (.inr ⟨_, rfl⟩)
/-- all but what is at a -/
def SameBut (a : Addr) (H H' : Hp) : Prop := ∀ b o, b ≠ a → H b = some o → H' b = some o
theorem SameBut.of {a : Addr} {H H' : Hp} (e : Same H H') : SameBut a H H' := fun b o _ h => e b o h
theorem SameBut.trans {a : Addr} {H H' H2 : Hp} (e : SameBut a H H') (f : SameBut a H' H2) : SameBut a H H2 := fun b o n h => f b o n (e b o n h)
theorem SameBut.put {a : Addr} {H H' : Hp} {o : HO} (e : SameBut a H H') : SameBut a H (upd H' a o) := fun b x n h => by
  rw [upd_ne n]
  exact e b x n h
theorem SameBut.same {a : Addr} {H H' : Hp} (e : SameBut a H H') (n : H a = none) : Same H H' := fun b o h => e b o (ne_of_none h n) h
/-! dicts by texts -/
def gt {α : Type} (l : List (Str × α)) (n : Str) : Option α := (l.find? fun p => decide (p.1 = n)).map (·.2)
theorem gt_at {α : Type} : ∀ {l : List (Str × α)} {i : Nat} {n : Str} {x : α}, (l.map (·.1)).Nodup → l[i]? = some (n, x) → gt l n = some x
  | [], _, _, _, _, e => by simp at e
  | p :: r, 0, n, x, _, e => by
    simp at e
    subst e
    simp [gt]
  | p :: r, i + 1, n, x, d, e => by
    have e : r[i]? = some (n, x) := by simpa using e
    have d' := List.nodup_cons.mp d
    have h : ¬ p.1 = n := fun z => d'.1 (by
      show p.1 ∈ _
      rw [z]
      exact List.mem_map.mpr ⟨_, List.mem_of_getElem? e, rfl⟩)
    have ih := gt_at d'.2 e
    unfold gt at ih ⊢
    rw [List.find?_cons_of_neg (by simpa using h)]
    exact ih
theorem gt_mem {α : Type} {l : List (Str × α)} {n : Str} {x : α} (h : gt l n = some x) : (n, x) ∈ l := by
  unfold gt at h
  cases e : l.find? fun p => decide (p.1 = n) with
  | none => rw [e] at h; cases h
  | some p =>
    rw [e] at h
    have h1 := List.mem_of_find?_eq_some e
    have h2 := List.find?_some e
    have h3 : p.1 = n := of_decide_eq_true h2
    have h4 : p.2 = x := Option.some.inj h
    rw [← h3, ← h4]
    exact h1
theorem gt_none {α : Type} {l : List (Str × α)} {n : Str} : gt l n = none ↔ n ∉ l.map (·.1) := by
  unfold gt
  rw [Option.map_eq_none_iff, List.find?_eq_none]
  constructor
  · intro h m
    obtain ⟨p, hp, e⟩ := List.mem_map.mp m
    exact h p hp (decide_eq_true e)
  · intro h p hp e
    exact h (List.mem_map.mpr ⟨p, hp, of_decide_eq_true e⟩)
theorem pappend {α β : Type} {F : α → β → Prop} : ∀ {vs ws : List α} {l m : List β}, Paired F vs l → Paired F ws m → Paired F (vs ++ ws) (l ++ m)
  | _, _, _, _, .nil, s => s
  | _, _, _, _, .cons h t, s => .cons h (pappend t s)
abbrev PK {α : Type} (F : V → α → Prop) : List (Key × V) → List (Str × α) → Prop := Paired (fun (p : Key × V) (q : Str × α) => p.1 = Sum.inr q.1 ∧ F p.2 q.2)
theorem pk_some {α : Type} {F : V → α → Prop} {n : Str} {x : α} : ∀ {kvs : List (Key × V)} {l : List (Str × α)}, PK F kvs l → gt l n = some x → ∃ v, valV kvs (Sum.inr n) = some v ∧ F v x
  | _, _, .nil, e => by cases e
  | _, _, .cons (a := p) (b := q) h t, e => by
    by_cases z : q.1 = n
    · refine ⟨p.2, valV_pos (h.1.trans (congrArg _ z)), ?_⟩
      unfold gt at e
      rw [List.find?_cons_of_pos (by simpa using z)] at e
      rw [← (Option.some.inj e : q.2 = x)]
      exact h.2
    · have z' : ¬ p.1 = Sum.inr n := fun w => z (Sum.inr.inj (h.1.symm.trans w))
      rw [valV_neg z']
      unfold gt at e
      rw [List.find?_cons_of_neg (by simpa using z)] at e
      exact pk_some t e
theorem pk_none {α : Type} {F : V → α → Prop} {n : Str} : ∀ {kvs : List (Key × V)} {l : List (Str × α)}, PK F kvs l → gt l n = none → valV kvs (Sum.inr n) = none
  | _, _, .nil, _ => rfl
  | _, _, .cons (a := p) (b := q) h t, e => by
    by_cases z : q.1 = n
    · unfold gt at e
      rw [List.find?_cons_of_pos (by simpa using z)] at e
      cases e
    · have z' : ¬ p.1 = Sum.inr n := fun w => z (Sum.inr.inj (h.1.symm.trans w))
      rw [valV_neg z']
      unfold gt at e
      rw [List.find?_cons_of_neg (by simpa using z)] at e
      exact pk_none t e
theorem pk_put {α : Type} {F : V → α → Prop} {n : Str} {x : α} {v : V} {kvs : List (Key × V)} {l : List (Str × α)} (h : PK F kvs l) (hn : n ∉ l.map (·.1)) (hv : F v x) : putK kvs (Sum.inr n) v = kvs ++ [(Sum.inr n, v)] ∧ PK F (kvs ++ [(Sum.inr n, v)]) (l ++ [(n, x)]) := by
  refine ⟨?_, pappend h (Paired.cons (F := fun (p : Key × V) (q : Str × α) => p.1 = Sum.inr q.1 ∧ F p.2 q.2) (And.intro rfl hv) Paired.nil)⟩
  unfold putK
  rw [if_neg]
  rw [valV_any, pk_none h (gt_none.mpr hn)]
  exact Bool.false_ne_true
theorem pk_len {α : Type} {F : V → α → Prop} {kvs : List (Key × V)} {l : List (Str × α)} (h : PK F kvs l) : kvs.length = l.length := Paired.length h
theorem pk_ch : ∀ o : Chg, PK (fun v (x : Ch) => v = x.v) (chK o) o
  | [] => .nil
  | _ :: r => .cons ⟨rfl, rfl⟩ (pk_ch r)
theorem ch_get {o : Chg} {n : Str} : valV (chK o) (Sum.inr n) = (chg o n).map Ch.v := by
  cases e : chg o n with
  | none => exact pk_none (pk_ch o) e
  | some x =>
    obtain ⟨v, h1, h2⟩ := pk_some (pk_ch o) e
    rw [h1, h2] <;> rfl
theorem ch_put {o : Chg} {n : Str} {x : Ch} (hn : n ∉ o.map (·.1)) : putK (chK o) (Sum.inr n) x.v = chK (o ++ [(n, x)]) := by
  rw [(pk_put (pk_ch o) hn rfl).1]
  simp [chK]
theorem nodup_take_not {α : Type} [DecidableEq α] {l : List α} {i : Nat} {x : α} (d : l.Nodup) (h : l[i]? = some x) : x ∉ l.take i := by
  intro m
  obtain ⟨j, hj, e⟩ := List.getElem_of_mem m
  rw [List.length_take] at hj
  have hi : i < l.length := (List.getElem?_eq_some_iff.mp h).1
  have e1 : l[j]? = some x := by
    rw [List.getElem_take] at e
    rw [List.getElem?_eq_getElem (by omega), e]
  have := (List.getElem?_inj (by omega) d).mp (e1.trans h.symm)
  omega
section
variable {σ : L2.St} {H : Hp} {Q : VK} {td ty tv : TE} {a b : Addr} {kvs : List (Key × V)} {kts : List (List Key × V)} {n : Str} {v : V}
theorem i_dget (q : td σ H fun x H1 => ty σ H1 fun y H2 => ∃ a v, x = .ref a ∧ DGet H2 a y (some v) ∧ Q v H2) : tDGet td ty σ H Q := q
theorem i_din (q : ty σ H fun y H1 => td σ H1 fun x H2 => ∃ a o, x = .ref a ∧ DGet H2 a y o ∧ Q (.bl o.isSome) H2) : tDIn ty td σ H Q := q
theorem i_dnotin (q : ty σ H fun y H1 => td σ H1 fun x H2 => ∃ a o, x = .ref a ∧ DGet H2 a y o ∧ Q (.bl (!o.isSome)) H2) : tDNotIn ty td σ H Q := q
theorem i_dput {nx bk ct : L2.St → Hp → Prop} {rt : VK} (q : tv σ H fun v H1 => td σ H1 fun x H2 => ty σ H2 fun y H3 => ∃ a H4, x = .ref a ∧ DPut H3 a y v H4 ∧ nx σ H4) : sDPut td ty tv ⟨nx, rt, bk, ct⟩ σ H := q
theorem i_dget1 (q : td σ H fun x H1 => ∃ a, x = .ref a ∧ IsD H1 a ∧ ty σ H1 fun y H2 => ∃ o, DGet H2 a y o ∧ Q (o.getD .non) H2) : tDGet1 td ty σ H Q := q
theorem dgK {o : Option V} (h : Rd H a (.dK kvs)) (e : valV kvs (Sum.inr n) = o) : DGet H a (.str n) o := .inl ⟨kvs, Sum.inr n, h, rfl, e.symm⟩
theorem dpK (h : H a = some (.dK kvs)) (l : kvs.length < 100000) : DPut H a (.str n) v (upd H a (.dK (putK kvs (Sum.inr n) v))) := .inl ⟨kvs, Sum.inr n, h, rfl, big5' l, rfl⟩
end
theorem none_of_upd {H : Hp} {D p : Addr} {o : HO} (np : upd H D o p = none) : H p = none ∧ p ≠ D := by
  have e : p ≠ D := fun z => by rw [z, upd_same] at np; cases np
  exact ⟨by rwa [upd_ne e] at np, e⟩
/-! ### the parts of a tree -/
def Tree.parts : Tree → List Tree
  | .is _ => []
  | .not t => [t]
  | .and t u => [t, u]
  | .or t u => [t, u]
  | .always => []
  | .never => []
theorem tree_shape {H : Hp} {v : V} {t : Tree} (h : rTree H v t) : (∃ s, t = .is s) ∨ ∃ a w parts, v = .ref a ∧ H a = some (.tup (.str w :: parts)) ∧ w ≠ "is" ∧ Paired (rTree H) parts t.parts ∧ t.names = t.parts.flatMap Tree.names ∧ ∀ u ∈ t.parts, u.depth < t.depth := by
  cases t with
  | is s => exact .inl ⟨s, rfl⟩
  | not t =>
    obtain ⟨a, p, e, ha, h1⟩ := h
    refine .inr ⟨a, _, _, e, ha, by decide +kernel, .cons h1 .nil, ?_, ?_⟩
    · simp [Tree.parts, Tree.names]
    · simp [Tree.parts, Tree.depth]
  | and t u =>
    obtain ⟨a, p, r, e, ha, h1, h2⟩ := h
    refine .inr ⟨a, _, _, e, ha, by decide +kernel, .cons h1 (.cons h2 .nil), ?_, ?_⟩
    · simp [Tree.parts, Tree.names]
    · simp only [Tree.parts, Tree.depth, List.mem_cons, List.not_mem_nil, or_false]
      rintro x (rfl | rfl) <;> omega
  | or t u =>
    obtain ⟨a, p, r, e, ha, h1, h2⟩ := h
    refine .inr ⟨a, _, _, e, ha, by decide +kernel, .cons h1 (.cons h2 .nil), ?_, ?_⟩
    · simp [Tree.parts, Tree.names]
    · simp only [Tree.parts, Tree.depth, List.mem_cons, List.not_mem_nil, or_false]
      rintro x (rfl | rfl) <;> omega
  | always =>
    obtain ⟨a, e, ha⟩ := h
    exact .inr ⟨a, _, _, e, ha, by decide +kernel, .nil, rfl, by simp [Tree.parts]⟩
  | never =>
    obtain ⟨a, e, ha⟩ := h
    exact .inr ⟨a, _, _, e, ha, by decide +kernel, .nil, rfl, by simp [Tree.parts]⟩
end Nos
/-! Texts, tuples of texts, lists of these: as data. -/
namespace Nos
open PySem PySem.Spec PyProof.Rows L2
open C8 (Met Cal Mak Def fnScope fnArgs fnBody)
def dS (s : List Str) : PyData := .tuple (s.map .str)
def dL (l : List (List Str)) : PyData := .list (l.map dS)
def dQ (p : List Str × Int) : PyData := .tuple [dS p.1, .int p.2]
theorem name_ok {s : Str} (h : isName s = true) : PyData.strOk s = true := by
  unfold isName at h
  simp only [Bool.and_eq_true] at h
  have h2 : ∀ c ∈ s.cps.toList, c ∈ letters.cps.toList := fun c hc => of_decide_eq_true (List.all_eq_true.mp h.2 c hc)
  have h3 : ∀ c ∈ letters.cps.toList, c < 0x110000 := by decide +kernel
  unfold PyData.strOk
  rw [Array.all_eq_true']
  intro c hc
  exact decide_eq_true (h3 c (h2 c (Array.mem_toList_iff.mpr hc)))
theorem can_strs : ∀ {s : List Str}, (∀ n ∈ s, PyData.strOk n = true) → PyData.canLayAll0 (s.map .str) = true
  | [], _ => rfl
  | n :: r, h => by
    show (PyData.strOk n && PyData.canLayAll0 (r.map .str)) = true
    rw [h n List.mem_cons_self, can_strs fun m hm => h m (List.mem_cons_of_mem _ hm)]
    rfl
theorem depth_strs : ∀ s : List Str, PyData.depthAll (s.map .str) = 0
  | [] => rfl
  | n :: r => by
    show max 0 (PyData.depthAll (r.map .str)) = 0
    rw [depth_strs r]
    rfl
theorem shaped_dS {s : List Str} (h : ∀ n ∈ s, PyData.strOk n = true) : SeqAt.shaped (dS s) = true := by
  unfold SeqAt.shaped dS
  have e : PyData.depth (.tuple (s.map .str)) = 1 := by
    show PyData.depthAll (s.map .str) + 1 = 1
    rw [depth_strs]
  rw [e]
  show (PyData.canLayAll0 (s.map .str) && _) = true
  rw [can_strs h]
  rfl
theorem shaped_strs {s : List Str} (h : ∀ n ∈ s, PyData.strOk n = true) : SeqAt.shaped (.list (s.map .str)) = true := by
  unfold SeqAt.shaped
  have e : PyData.depth (.list (s.map .str)) = 1 := by
    show PyData.depthAll (s.map .str) + 1 = 1
    rw [depth_strs]
  rw [e]
  show (PyData.canLayAll0 (s.map .str) && _) = true
  rw [can_strs h]
  rfl
theorem can_list {α : Type} {f : α → PyData} : ∀ {l : List α}, (∀ x ∈ l, PyData.canLay0 (f x) = true) → PyData.canLayAll0 (l.map f) = true
  | [], _ => rfl
  | n :: r, h => by
    show (PyData.canLay0 (f n) && PyData.canLayAll0 (r.map f)) = true
    rw [h n List.mem_cons_self, can_list fun m hm => h m (List.mem_cons_of_mem _ hm)]
    rfl
theorem depth_list {α : Type} {f : α → PyData} {k : Nat} : ∀ {l : List α}, (∀ x ∈ l, PyData.depth (f x) ≤ k) → PyData.depthAll (l.map f) ≤ k
  | [], _ => Nat.zero_le _
  | n :: r, h => by
    show max (PyData.depth (f n)) (PyData.depthAll (r.map f)) ≤ k
    have h1 := h n List.mem_cons_self
    have h2 := depth_list (l := r) (k := k) fun m hm => h m (List.mem_cons_of_mem _ hm)
    omega
theorem shaped_list {α : Type} {f : α → PyData} {l : List α} (h : ∀ x ∈ l, SeqAt.shaped (f x) = true ∧ PyData.depth (f x) ≤ 10) : SeqAt.shaped (.list (l.map f)) = true := by
  unfold SeqAt.shaped
  have e : PyData.depth (.list (l.map f)) ≤ 11 := by
    show PyData.depthAll (l.map f) + 1 ≤ 11
    have := depth_list (f := f) (k := 10) fun x hx => (h x hx).2
    omega
  show (PyData.canLayAll0 (l.map f) && _) = true
  rw [can_list fun x hx => SeqAt.canLay_of_shaped (h x hx).1, Bool.true_and]
  exact decide_eq_true (by omega)
theorem depth_dS (s : List Str) : PyData.depth (dS s) = 1 := by
  show PyData.depthAll (s.map .str) + 1 = 1
  rw [depth_strs]
theorem depth_dQ (p : List Str × Int) : PyData.depth (dQ p) ≤ 10 := by
  show max (PyData.depth (dS p.1)) (max 0 0) + 1 ≤ 10
  rw [depth_dS]
  decide
theorem shaped_dQ {p : List Str × Int} (h : ∀ n ∈ p.1, PyData.strOk n = true) : SeqAt.shaped (dQ p) = true := by
  unfold SeqAt.shaped
  have := depth_dQ p
  show (PyData.canLay0 (dS p.1) && (true && true) && _) = true
  rw [SeqAt.canLay_of_shaped (shaped_dS h), Bool.true_and]
  exact decide_eq_true (by omega)
theorem eqvAll_strs : ∀ s t : List Str, PyData.eqvAll (s.map .str) (t.map .str) = decide (s = t)
  | [], [] => rfl
  | [], _ :: _ => rfl
  | _ :: _, [] => rfl
  | x :: r, y :: q => by
    show (x == y && PyData.eqvAll (r.map .str) (q.map .str)) = _
    rw [eqvAll_strs r q]
    by_cases e : x = y
    · subst e
      simp
    · rw [show (x == y) = false from beq_eq_false_iff_ne.mpr e]
      simp [e]
theorem eqv_dS (s t : List Str) : PyData.eqv (dS s) (dS t) = decide (s = t) := eqvAll_strs s t
theorem eqv_dQ (p q : List Str × Int) : PyData.eqv (dQ p) (dQ q) = decide (p = q) := by
  show (PyData.eqv (dS p.1) (dS q.1) && (p.2 == q.2 && true)) = _
  rw [eqv_dS, Bool.and_true]
  obtain ⟨a, b⟩ := p
  obtain ⟨x, y⟩ := q
  by_cases e : a = x
  · subst e
    by_cases f : b = y
    · subst f
      simp
    · simp [f]
  · simp [e]
theorem any_eqv' {α : Type} [DecidableEq α] {f : α → PyData} (h : ∀ x y, PyData.eqv (f x) (f y) = decide (x = y)) (x : α) : ∀ l : List α, ((l.map f).any fun z => PyData.eqv z (f x)) = decide (x ∈ l)
  | [] => by simp
  | y :: r => by
    rw [List.map_cons, List.any_cons, any_eqv' h x r, h]
    by_cases e : y = x
    · subst e
      simp
    · have e' : ¬ x = y := fun z => e z.symm
      simp [e, e']
theorem any_eqv {α : Type} [DecidableEq α] {f : α → PyData} (h : ∀ x y, PyData.eqv (f x) (f y) = decide (x = y)) (x : α) (l : List α) [d : Decidable (x ∈ l)] : ((l.map f).any fun z => PyData.eqv z (f x)) = @decide (x ∈ l) d :=
  (any_eqv' h x l).trans (decide_eq_decide.mpr Iff.rfl)
section
variable {K : PySem.W.Frag} {H : Hp}
theorem dp_strs : ∀ s : List Str, DpAll K H (s.map V.str) (s.map .str)
  | [] => .nil
  | n :: r => .cons (.str n) (dp_strs r)
theorem dp_all {α : Type} {R : V → α → Prop} {f : α → PyData} (h : ∀ v x, R v x → Dp K H v (f x)) : ∀ {vs : List V} {l : List α}, Paired R vs l → DpAll K H vs (l.map f)
  | _, _, .nil => .nil
  | _, _, .cons e t => .cons (h _ _ e) (dp_all h t)
theorem dp_S {v : V} {s : List Str} (h : rTupS H v s) : Dp K H v (dS s) := by
  obtain ⟨a, rfl, ha⟩ := h
  exact .tup (SqT.of ha) (dp_strs s)
theorem dp_L {v : V} {l : List (List Str)} (h : rLst rTupS H v l) : Dp K H v (.list (l.map dS)) := by
  obtain ⟨a, vs, rfl, ha, hp⟩ := h
  exact .lst (SqL.of ha) (dp_all (fun v x r => dp_S r) hp)
theorem dp_Q {v : V} {p : List Str × Int} (h : rTup2 rTupS rInt H v p) : Dp K H v (dQ p) := by
  obtain ⟨a, x, y, rfl, ha, h1, h2⟩ := h
  obtain rfl : y = .int p.2 := h2
  exact .tup (SqT.of ha) (.cons (dp_S h1) (.cons (.int _) .nil))
theorem i_inL {Q : VK} {x y : V} {s : List Str} {l : List (List Str)} (hx : rTupS H x s) (hy : rLst rTupS H y l) (o1 : ∀ n ∈ s, PyData.strOk n = true) (o2 : ∀ t ∈ l, ∀ n ∈ t, PyData.strOk n = true) (q : Q (.bl (decide (s ∈ l))) H) : rInD K x y H Q :=
  ⟨_, _, dp_S hx, dp_L hy, shaped_dS o1, shaped_list fun t ht => ⟨shaped_dS (o2 t ht), by rw [depth_dS]; decide⟩, by rw [any_eqv eqv_dS]; exact q⟩
theorem i_notInL {Q : VK} {x y : V} {s : List Str} {l : List (List Str)} (hx : rTupS H x s) (hy : rLst rTupS H y l) (o1 : ∀ n ∈ s, PyData.strOk n = true) (o2 : ∀ t ∈ l, ∀ n ∈ t, PyData.strOk n = true) (q : Q (.bl (!decide (s ∈ l))) H) : rNotInD K x y H Q :=
  ⟨_, _, dp_S hx, dp_L hy, shaped_dS o1, shaped_list fun t ht => ⟨shaped_dS (o2 t ht), by rw [depth_dS]; decide⟩, by rw [any_eqv eqv_dS]; exact q⟩
theorem i_inQ {Q : VK} {x y : V} {s : List Str × Int} {l : List (List Str × Int)} (hx : rTup2 rTupS rInt H x s) (hy : rLst (rTup2 rTupS rInt) H y l) (o1 : ∀ n ∈ s.1, PyData.strOk n = true) (o2 : ∀ t ∈ l, ∀ n ∈ t.1, PyData.strOk n = true) (q : Q (.bl (decide (s ∈ l))) H) : rInD K x y H Q := by
  obtain ⟨a, vs, rfl, ha, hp⟩ := hy
  exact ⟨_, _, dp_Q hx, .lst (SqL.of ha) (dp_all (fun v x r => dp_Q r) hp), shaped_dQ o1, shaped_list fun t ht => ⟨shaped_dQ (o2 t ht), depth_dQ t⟩, by rw [any_eqv eqv_dQ]; exact q⟩
theorem i_notInQ {Q : VK} {x y : V} {s : List Str × Int} {l : List (List Str × Int)} (hx : rTup2 rTupS rInt H x s) (hy : rLst (rTup2 rTupS rInt) H y l) (o1 : ∀ n ∈ s.1, PyData.strOk n = true) (o2 : ∀ t ∈ l, ∀ n ∈ t.1, PyData.strOk n = true) (q : Q (.bl (!decide (s ∈ l))) H) : rNotInD K x y H Q := by
  obtain ⟨a, vs, rfl, ha, hp⟩ := hy
  exact ⟨_, _, dp_Q hx, .lst (SqL.of ha) (dp_all (fun v x r => dp_Q r) hp), shaped_dQ o1, shaped_list fun t ht => ⟨shaped_dQ (o2 t ht), depth_dQ t⟩, by rw [any_eqv eqv_dQ]; exact q⟩
/-- a list of texts against the empty list -/
theorem eq_strs {x y : V} {s t : List Str} {Q : VK} (hx : rLstS H x s) (hy : rLstS H y t) (o1 : ∀ n ∈ s, PyData.strOk n = true) (o2 : ∀ n ∈ t, PyData.strOk n = true) (q : Q (.bl (decide (s = t))) H) : rEqD K x y H Q := by
  obtain ⟨a, rfl, ha⟩ := hx
  obtain ⟨b, rfl, hb⟩ := hy
  exact ⟨_, _, .lst (SqL.of ha) (dp_strs s), .lst (SqL.of hb) (dp_strs t), shaped_strs o1, shaped_strs o2, by
    show Q (.bl (PyData.eqvAll (s.map .str) (t.map .str))) H
    rw [eqvAll_strs]
    exact q⟩
theorem ne_strs {x y : V} {s t : List Str} {Q : VK} (hx : rLstS H x s) (hy : rLstS H y t) (o1 : ∀ n ∈ s, PyData.strOk n = true) (o2 : ∀ n ∈ t, PyData.strOk n = true) (q : Q (.bl (!decide (s = t))) H) : rNeD K x y H Q := by
  obtain ⟨a, rfl, ha⟩ := hx
  obtain ⟨b, rfl, hb⟩ := hy
  exact ⟨_, _, .lst (SqL.of ha) (dp_strs s), .lst (SqL.of hb) (dp_strs t), shaped_strs o1, shaped_strs o2, by
    show Q (.bl (!PyData.eqvAll (s.map .str) (t.map .str))) H
    rw [eqvAll_strs]
    exact q⟩
theorem ne_S {x y : V} {s t : List Str} {Q : VK} (hx : rTupS H x s) (hy : rTupS H y t) (o1 : ∀ n ∈ s, PyData.strOk n = true) (o2 : ∀ n ∈ t, PyData.strOk n = true) (q : Q (.bl (!decide (s = t))) H) : rNeD K x y H Q :=
  ⟨_, _, dp_S hx, dp_S hy, shaped_dS o1, shaped_dS o2, by rw [eqv_dS]; exact q⟩
end
theorem rOut_but {c : Cs} {a C dx : Addr} {fs : List (Str × V)} {H H' : Hp} {v : V} {o : Chg} (h : rOut c H v o) (e : SameBut a H H') (ha : H a = some (.ins C dx fs)) (hf : fs.lookup ("table" : Str) = none) : rOut c H' v o := by
  obtain ⟨b, db, x, rfl, hb, ⟨d, rfl, hd⟩, ok⟩ := h
  have n1 : b ≠ a := fun z => by
    rw [z, ha] at hb
    cases hb
    rw [fO_table] at hf
    cases hf
  have n2 : d ≠ a := fun z => by rw [z, ha] at hd; cases hd
  exact ⟨b, db, _, rfl, e _ _ n1 hb, ⟨d, rfl, e _ _ n2 hd⟩, ok⟩
theorem tupS_but {D : Addr} {zs : List V} {H H' : Hp} {v : V} {s : List Str} (h : rTupS H v s) (e : SameBut D H H') (hD : H D = some (.lst zs)) : rTupS H' v s := by
  obtain ⟨a, rfl, ha⟩ := h
  exact ⟨a, rfl, e _ _ (fun z => by rw [z, hD] at ha; cases ha) ha⟩
def rIdx : Rep Nat := fun _ v k => v = .int (k : Int)
instance : Mono rIdx := ⟨fun _ h => h⟩
theorem range_getD {α : Type} {l : List α} {d : α} : (List.range l.length).map (fun k => l.getD k d) = l := by
  apply List.ext_getElem
  · simp
  · intro i h1 h2
    simp [List.getD_eq_getElem?_getD, h2]
theorem yat_range {n : Nat} {H1 : Hp} : ∀ i H x H', i < n → YFn (fun i => .int ((0 : Int) + (i : Int))) i H x H' → H' = H ∧ ∃ y, (List.range n)[i]? = some y ∧ rIdx H1 x y := fun i H x H' hi ⟨e, h⟩ => ⟨e, i, by simp [hi], by rw [h]; show V.int ((0 : Int) + (i : Int)) = V.int (i : Int); rw [Int.zero_add]⟩
theorem pk_mono {α : Type} {R : Rep α} [Mono R] {H H' : Hp} (e : Same H H') {kvs : List (Key × V)} {l : List (Str × α)} (h : PK (R H) kvs l) : PK (R H') kvs l := pairedK_mono (.of e) h
theorem pk_monoE {α : Type} {R : Rep α} [Mono R] {H H' : Hp} (e : Ex H H') {kvs : List (Key × V)} {l : List (Str × α)} (h : PK (R H) kvs l) : PK (R H') kvs l := pairedK_mono e h
/-- {tk: tv for x in ..}, the keys texts -/
theorem dc_w {α : Type} {J : It} {n : Nat} {Gd : Hp → Prop} {Y : Nat → Hp → V → Hp → Prop} {j : Nat} {tk tv : TE} {vs : List Nat} {σ : L2.St} {H1 : Hp} {D : Addr} {Qd : Hp → Prop} (w : Walk J n Gd Y) (R : Rep α) (l : List (Str × α)) (hn : n = l.length) (hd : (l.map (·.1)).Nodup) (hl : l.length < 100000)
    (hG : ∀ H, Same H1 H → Gd H) (hY : ∀ i H x H', i < n → Y i H x H' → H' = H ∧ ∃ p, l[i]? = some p ∧ x = .str p.1) (nD : H1 D = none) (hw : ∀ x, wipe ((wipe σ vs).set j (some x)) vs = wipe σ vs)
    (he : ∀ p G, Same H1 G → p ∈ l → ∀ Q : V → V → Hp → Prop, (∀ v G2, Same G G2 → R H1 v p.2 → Q (.str p.1) v G2) → tk ((wipe σ vs).set j (some (.str p.1))) G fun y H4 => tv ((wipe σ vs).set j (some (.str p.1))) H4 fun z H5 => Q y z H5)
    (hq : ∀ H2 kvs, Same H1 H2 → H2 D = some (.dK kvs) → PK (R H1) kvs l → Qd H2) :
    ∃ W : Nat → Nat → Hp → Prop, (∃ m, W 0 m (upd H1 D (.dK []))) ∧ ∀ i m H, W i m H → (J.stop i H ∧ Qd H) ∨ (J.go i H ∧ ∃ Nx : Hp → Prop, (∀ H', Nx H' → ∃ m', m' < m ∧ W (i + 1) m' H') ∧
      ∀ x H', J.yld i H x H' → gName j x (wipe σ vs) H' fun σ2 H2 => wipe σ2 vs = wipe σ vs ∧ tYes σ2 H2 fun b H3 => if b = true then tk σ2 H3 fun y H4 => tv σ2 H4 fun z H5 => ∃ kvs k, y = kV k ∧ H5 D = some (.dK kvs) ∧ kvs.length < sizeLine ∧ Nx (upd H5 D (.dK (putK kvs k z))) else Nx H3) := by
  refine ⟨fun i m H => m = n - i ∧ i ≤ n ∧ Same H1 H ∧ ∃ kvs, H D = some (.dK kvs) ∧ PK (R H1) kvs (l.take i), ⟨n, by simp, Nat.zero_le _, same_new nD, [], upd_same, by rw [List.take_zero]; exact .nil⟩, ?_⟩
  rintro i m H ⟨rfl, hi, e, kvs, hD, hk⟩
  have q := hG H e
  by_cases hlt : i < n
  · refine .inr ⟨w.goes i H hlt q, fun H' => i + 1 ≤ n ∧ Same H1 H' ∧ ∃ kvs, H' D = some (.dK kvs) ∧ PK (R H1) kvs (l.take (i + 1)), fun H' p' => ⟨n - (i + 1), by omega, rfl, p'⟩, fun x H' y => ?_⟩
    obtain ⟨rfl, p, hp, rfl⟩ := hY i H x H' hlt (w.yields i H x H' hlt q y)
    have hm : p ∈ l := List.mem_of_getElem? hp
    refine ⟨hw _, tYes_i ?_⟩
    rw [if_pos rfl]
    refine he p H' e hm _ fun v G2 e2 r => ⟨kvs, Sum.inr p.1, rfl, e2 _ _ hD, big5' (by rw [pk_len hk, List.length_take]; omega), hlt, same_mut (e.trans e2) nD, ?_⟩
    have hnot : p.1 ∉ (l.take i).map (·.1) := by
      rw [List.map_take]
      exact nodup_take_not hd (by rw [List.getElem?_map, hp]; rfl)
    obtain ⟨h1, h2⟩ := pk_put (F := R H1) hk hnot r
    refine ⟨_, upd_same, ?_⟩
    rw [h1, take_more hp]
    exact h2
  · have hi' : i = n := by omega
    subst hi'
    rw [List.take_of_length_le (by omega)] at hk
    exact .inl ⟨w.stops H q, hq H kvs e hD hk⟩
/-- texts in a list or a tuple -/
def rSq : Rep (List Str) := fun H v l => ∃ a, v = .ref a ∧ (H a = some (.lst (l.map V.str)) ∨ H a = some (.tup (l.map V.str)))
instance : Mono rSq := ⟨fun e ⟨a, h1, h2⟩ => ⟨a, h1, h2.elim (fun h => .inl (e.o h)) fun h => .inr (e.o h)⟩⟩
abbrev ForB (J : It) (g : TG) (tb : TS) (nx : L2.St → Hp → Prop) (rt : VK) (σ : L2.St) (H : Hp) : Prop := ∃ W : Nat → Nat → L2.St → Hp → Prop, (∃ m, W 0 m σ H) ∧ ∀ i m σ H, W i m σ H →
      (J.stop i H ∧ nx σ H) ∨ (J.go i H ∧ ∃ N : L2.St → Hp → Prop, (∀ σ' H', N σ' H' → ∃ m', m' < m ∧ W (i + 1) m' σ' H') ∧ ∀ x H', J.yld i H x H' → g x σ H' fun σ2 H2 => tb ⟨N, rt, nx, N⟩ σ2 H2)
theorem for_seq {K : PySem.W.Frag} {g : TG} {tb : TS} {nx : L2.St → Hp → Prop} {rt : VK} {σ : L2.St} {H0 H : Hp} {v : V} {ns : List Str} (hv : rSq H0 v ns) (e : Same H0 H) (Pv : Nat → L2.St → Hp → Prop) (h0 : Pv 0 σ H) (hG : ∀ i σ H', Pv i σ H' → Same H0 H')
    (hs : ∀ i x σ H', ns[i]? = some x → Pv i σ H' → g (.str x) σ H' fun σ2 H2 => tb ⟨Pv (i + 1), rt, nx, Pv (i + 1)⟩ σ2 H2) (hd : ∀ σ H', Pv ns.length σ H' → nx σ H') :
    ∃ a xs, v = .ref a ∧ ((SqL K H a xs ∧ ForB (Itl K a) g tb nx rt σ H) ∨ (SqT K H a xs ∧ ForB (Itt K a) g tb nx rt σ H)) := by
  obtain ⟨a, rfl, h⟩ := hv
  have st : ∀ i x σ H' H2, i < (ns.map V.str).length → Pv i σ H' → YAt (ns.map V.str) i H' x H2 → g x σ H2 fun σ2 H2 => tb ⟨Pv (i + 1), rt, nx, Pv (i + 1)⟩ σ2 H2 := fun i x σ H' H2 hi hp ⟨e, hx⟩ => by
    subst e
    rw [List.getElem?_map] at hx
    cases hn : ns[i]? with
    | none => rw [hn] at hx; cases hx
    | some y =>
      rw [hn] at hx
      rw [← Option.some.inj hx]
      exact hs i y σ H2 hn hp
  rcases h with h | h
  · exact ⟨a, _, rfl, .inl ⟨SqL.of (e _ _ h), for_w (walk_list (xs := ns.map V.str)) Pv h0 (fun i σ H' _ hp => SqL.of (hG i σ H' hp _ _ h)) st (fun σ H' hp => hd σ H' (by rwa [List.length_map] at hp))⟩⟩
  · exact ⟨a, _, rfl, .inr ⟨SqT.of (e _ _ h), for_w (walk_tup (xs := ns.map V.str)) Pv h0 (fun i σ H' _ hp => SqT.of (hG i σ H' hp _ _ h)) st (fun σ H' hp => hd σ H' (by rwa [List.length_map] at hp))⟩⟩
theorem i_iseq {K : PySem.W.Frag} {tl : TE} {σ : L2.St} {H : Hp} {R : It → Hp → Prop} (q : tl σ H fun x H1 => ∃ a xs, x = .ref a ∧ ((SqL K H1 a xs ∧ R (Itl K a) H1) ∨ (SqT K H1 a xs ∧ R (Itt K a) H1))) : iSeq K tl σ H R := q
theorem flatten_take {α : Type} {l : List (List α)} {i : Nat} {x : List α} (h : l[i]? = some x) : (l.take (i + 1)).flatten = (l.take i).flatten ++ x := by
  rw [take_more h]
  simp
end Nos
/-! More reps. -/
namespace Nos
open PySem PySem.Spec PyProof.Rows L2
open C8 (Met Cal Mak Def fnScope fnArgs fnBody)
/-- what leans on tuples alone: a list may change -/
class TupR {α : Type} (R : Rep α) : Prop where
  but : ∀ {D : Addr} {zs : List V} {H H' : Hp} {v : V} {x : α}, R H v x → SameBut D H H' → H D = some (.lst zs) → R H' v x
instance : TupR rStr := ⟨fun h _ _ => h⟩
instance : TupR rInt := ⟨fun h _ _ => h⟩
instance : TupR rBool := ⟨fun h _ _ => h⟩
instance : TupR rTupS := ⟨tupS_but⟩
instance {α β : Type} {R : Rep α} {S : Rep β} [a : TupR R] [b : TupR S] : TupR (rTup2 R S) := ⟨fun {D zs H H' v x} ⟨p, x, y, h1, h2, h3, h4⟩ e hD => ⟨p, x, y, h1, e _ _ (fun z => by rw [z, hD] at h2; cases h2) h2, a.but h3 e hD, b.but h4 e hD⟩⟩
instance {α β γ : Type} {R : Rep α} {S : Rep β} {T : Rep γ} [a : TupR R] [b : TupR S] [c : TupR T] : TupR (rTup3 R S T) := ⟨fun {D zs H H' v x} ⟨p, x, y, z, h1, h2, h3, h4, h5⟩ e hD => ⟨p, x, y, z, h1, e _ _ (fun z => by rw [z, hD] at h2; cases h2) h2, a.but h3 e hD, b.but h4 e hD, c.but h5 e hD⟩⟩
instance {α : Type} {R : Rep α} [a : TupR R] : TupR (rOpt R) := ⟨fun {D zs H H' v x} h e hD => by cases x with
  | none => exact h
  | some x => exact a.but (R := R) h e hD⟩
theorem paired_but {α : Type} {R : Rep α} [a : TupR R] {D : Addr} {zs : List V} {H H' : Hp} (e : SameBut D H H') (hD : H D = some (.lst zs)) {vs : List V} {l : List α} (h : Paired (R H) vs l) : Paired (R H') vs l := paired_imp (fun _ _ r => a.but r e hD) h
instance : TupR rIdx := ⟨fun h _ _ => h⟩
theorem off_same {H : Hp} {D : Addr} : SameBut D H (off H D) := fun b o h e => by
  rw [off_ne h]
  exact e
instance {c : Cs} : TupR (rOut c) := ⟨fun {D zs H H' v o} ⟨b, db, x, h1, hb, ⟨d, h2, hd⟩, ok⟩ e hD => ⟨b, db, x, h1, e _ _ (fun z => by rw [z, hD] at hb; cases hb) hb, ⟨d, h2, e _ _ (fun z => by rw [z, hD] at hd; cases hd) hd⟩, ok⟩⟩
theorem rOut_off {c : Cs} {H : Hp} {D : Addr} {v : V} {o : Chg} {zs : List V} (h : rOut c H v o) (hD : H D = some (.lst zs)) : rOut c (off H D) v o := by
  obtain ⟨b, db, x, rfl, hb, ⟨d, rfl, hd⟩, ok⟩ := h
  exact ⟨b, db, _, rfl, off_same _ _ (fun z => by rw [z, hD] at hb; cases hb) hb, ⟨d, rfl, off_same _ _ (fun z => by rw [z, hD] at hd; cases hd) hd⟩, ok⟩
theorem i_rng1 {t : TA} {σ : L2.St} {H : Hp} {R : It → Hp → Prop} (q : t σ H fun vs H1 => ∃ j : Int, vs = [V.int j] ∧ -2 ^ 62 ≤ j ∧ j < 2 ^ 62 ∧ R (Itr 0 j.toNat) H1) : iRng1 t σ H R := q
end Nos
/-! Dict comprehensions with tuple keys. -/
namespace Nos
open PySem PySem.Spec PyProof.Rows L2
open C8 (Met Cal Mak Def fnScope fnArgs fnBody)
def tDcT (wi : TI) (g : TG) (tt : TT) (tk tv : TE) (vs : List Nat) (σ : L2.St) (H : Hp) (Q : VK) : Prop := wi σ H fun J H1 => ∀ D, H1 D = none → ∃ W : Nat → Nat → Hp → Prop, (∃ m, W 0 m (upd H1 D (.dT []))) ∧
  ∀ i m H, W i m H → (J.stop i H ∧ Q (.ref D) H) ∨ (J.go i H ∧ ∃ Nx : Hp → Prop, (∀ H', Nx H' → ∃ m', m' < m ∧ W (i + 1) m' H') ∧
    ∀ x H', J.yld i H x H' → g x (wipe σ vs) H' fun σ2 H2 => wipe σ2 vs = wipe σ vs ∧ tt σ2 H2 fun b H3 => if b = true then tk σ2 H3 fun y H4 => tv σ2 H4 fun z H5 => ∃ kvs k ka, y = .ref ka ∧ H5 ka = some (.tup (k.map kV)) ∧ H5 D = some (.dT kvs) ∧ kvs.length < sizeLine ∧ Nx (upd H5 D (.dT (putK kvs k z))) else Nx H3)
section
variable {X : Cx} {pins : List (Addr × Obj)} {σ : L2.St} {G : Hp} {s : Shared} {D b : Addr} {kvs : List (List Key × V)} {k : List Key} {v : V} {r : Value} {E : Value → Shared → Prop}
/-- an entry is put into a dict whose keys are tuples -/
theorem put_dT {Q : Unit → Shared → Prop} (hu : X.A.units + 1 < cLine) (I : Inv X pins σ G s) (hD : G D = some (.dT kvs)) (hb : G b = some (.tup (k.map kV))) (hl : kvs.length < sizeLine) (rv : RelV v r)
    (q : ∀ t, Inv X pins σ (upd G D (.dT (putK kvs k v))) t → Q () t) : wpAny (model X.prog X.w) X.A (dictSet D (.ref b) r) Q E s := by
  obtain ⟨_, hs, xs, rel, dd⟩ := dt_of I.hok hD
  have few : xs.length ≤ sizeLine := (Paired.length rel) ▸ Nat.le_of_lt hl
  have few' : (putK kvs k v).length ≤ sizeLine := Nat.le_trans (length_putK kvs k v) hl
  refine wpAny_dictSet_heap (hsz := few) (show X.A.units < cLine from Nat.lt_of_succ_lt hu) (key_of I.hok hb) dd fun g' ⟨o, es, ep, c1, c2, c3, c4, _, c5⟩ sb => q _ ?_
  refine d_write I (by rw [hD]; exact True.intro) sb ⟨o, c1⟩ ⟨few', hs, _, (rel.put k hb rv).keeps fun x ys e => ?_, o, es, ep, c1, c2, c3, c4, c5⟩
  exact (upd_ne (ne_of e hD fun z => nomatch z)).trans e
end
section
variable {X : Cx} {kx vx tg iter : Expr} {ifs : List Expr} {scope : Scope} {own : List (Str × Nat)} {pos spos py : Pos} {wi : TI} {g : TG} {tt : TT} {tk tv : TE} {i : Nat} {y : Str}
/-- in whatever frame the comprehension's own block runs -/
abbrev InBlk (X : Cx) (scope : Scope) (F : Cx → Prop) : Prop := ∀ (t : Shared) (G : Hp) (c : Addr) (cl : List (Str × Addr)) (fp : List Addr), F (X.blk t G scope (compEnvC scope cl c X.env) fp)
theorem dcT_core {pins : List (Addr × Obj)} {s : Shared} {σ : L2.St} {H : Hp} {Q : VK} {pos' : Pos} {use : Option (Value → Sem Unit)} {Qf : Value → Shared → Prop} (hu : X.A.units + 1 < cLine) (calm : X.calm = true) (hN : X.N.Nodup) (I : Inv X pins σ H s) (hi : PI X tg iter wi) (ok : BlkOk X.N X.env.scope scope own)
    (hg : InBlk X scope fun Y => PG Y tg g) (ht : InBlk X scope fun Y => PTs Y ifs tt) (hk : InBlk X scope fun Y => PE Y kx tk) (he : InBlk X scope fun Y => PE Y vx tv) (hs : ∀ x, foldedSetIterable iter X.env x = pure x) (h : tDcT wi g tt tk tv (own.map (·.2)) σ H Q)
    (done : ∀ D c t m G, Inv X pins σ G t → Q (.ref D) G → t.heap.Ns c m → FpOk X pins G c → compPost (model X.prog X.w) X.A X.xe use Qf (.ref D) c (.ok .next) t) :
    wpAny (model X.prog X.w) X.A (comprehension (.DictComp kx vx [⟨tg, iter, ifs, 0⟩] scope pos) scope X.env pos' newDict false (eval iter X.env) use) Qf X.xe s := by
  have free : ∀ n ∈ scope.names, n.2 = .free → ∃ c, X.env.cells.lookup n.1 = some c := fun n hn e => (ok.free n hn e).elim (fun z => I.ok.has _ (.inl z)) fun z => I.ok.has _ (.inr z)
  refine wpAny_comprehension_free (use := use) rfl hs (closure_ok free) ok.kind (fun n hn e => by rw [ok.uniq n hn, e]) (thn (hi.run pins s σ H _ I h) fun xv t1 z1 => thn z1 fun itv t2 z2 => ?_)
  obtain ⟨it, fp, tn, J, G2, rfl, I2, T, tn2, fp2, q⟩ := z2
  refine wpAny_newObj_type (newEnv_comp ?_)
  generalize eD : t2.heap.objs.size = D
  have nD : G2 D = none := I2.hok.fresh (Nat.le_of_eq eD)
  obtain ⟨W, ⟨m0, w0⟩, turn⟩ := q D nD
  generalize e3 : ({ t2 with heap := t2.heap.push { cls := .type "dict", data := .dict #[] } } : Shared) = t3
  have h3 : t3.heap = t2.heap.push { cls := .type "dict", data := .dict #[] } := by rw [← e3]
  generalize eG3 : upd G2 D (.dT []) = G3 at w0
  have I3 : Inv X pins σ G3 t3 := by
    rw [← e3, ← eG3]
    refine I2.laid (t' := t2.toks) (fun _ _ e => Heap.get?_push_of_some _ e) (Nat.le_of_eq eD) ?_
    rw [← eD]
    exact dt_empty t2.heap I2.big
  have fp3 : ∀ c ∈ fp, FpOk X pins G3 c ∧ c < t3.heap.objs.size := fun c hc => by
    obtain ⟨o, e, _⟩ := T.obj _ _ tn2 c hc
    have lt : c < t2.heap.objs.size := Heap.lt_size e
    have ne : c ≠ D := eD ▸ Nat.ne_of_lt lt
    refine ⟨⟨by rw [← eG3, upd_ne ne]; exact (fp2 c hc).1, (fp2 c hc).2⟩, ?_⟩
    rw [h3, Heap.size_push]
    exact Nat.lt_succ_of_lt lt
  have tn3 : tn 0 t3.heap := T.keep _ _ _ tn2 fun c _ o e => h3 ▸ Heap.get?_push_of_some _ e
  have I4 := block_start I3 ok hN fp3
  generalize ecl : cellsFrom (t3.heap.objs.size + 1) scope.names (cloFrom X.env.cells scope.names []) = cl at I4
  have pg := hg t3 G3 t3.heap.objs.size cl fp
  have pt := ht t3 G3 t3.heap.objs.size cl fp
  have pk := hk t3 G3 t3.heap.objs.size cl fp
  have pv := he t3 G3 t3.heap.objs.size cl fp
  show codeAny _ _ (.compStart (.DictComp kx vx [⟨tg, iter, ifs, 0⟩] scope pos) 0 (.ref it) (.ref D) (compEnvC scope cl t3.heap.objs.size X.env)) (compPost (model X.prog X.w) X.A X.xe use Qf (.ref D) t3.heap.objs.size) { t3 with heap := pushCells (t3.heap.push { cls := .type "dict", data := .dict #[] }) scope.names }
  generalize ece : compEnvC scope cl t3.heap.objs.size X.env = ce at I4 pg pt pk pv ⊢
  have loc : ce.locals = t3.heap.objs.size := ece ▸ rfl
  generalize e4 : ({ t3 with heap := pushCells (t3.heap.push { cls := .type "dict", data := .dict #[] }) scope.names } : Shared) = t4 at I4 ⊢
  have tn4 : tn 0 t4.heap := T.keep _ _ _ tn3 fun c _ o e => e4 ▸ pushCells_keeps _ _ _ _ (Heap.get?_push_of_some _ e)
  have fp4 : ∀ {τ : L2.St} {G : Hp} {t : Shared}, Inv (X.blk t3 G3 scope ce fp) [] τ G t → (∀ c ∈ fp, G c = none) → ∀ c ∈ fp, FpOk (X.blk t3 G3 scope ce fp) [] G c := fun {τ G t} J none c hc =>
    ⟨none c hc, (J.ok.exf c hc).1, J.ok.exfs c hc, .inl hc, fun x a e => (J.ok.exf c hc).2 x a e, fun p hp => by cases hp⟩
  have none3 : ∀ c ∈ fp, G3 c = none := fun c hc => (fp3 c hc).1.1
  have body : codeAny (model X.prog X.w) X.A (.compLoop (.DictComp kx vx [⟨tg, iter, ifs, 0⟩] scope pos) 0 (.ref it) (.ref D) ce) (compPost (model X.prog X.w) X.A X.xe use Qf (.ref D) t3.heap.objs.size) t4 := by
    refine compLoop_anyD (fun n t => ∃ i G, Inv (X.blk t3 G3 scope ce fp) [] (wipe σ (own.map (·.2))) G t ∧ tn i t.heap ∧ (∀ c ∈ fp, G c = none) ∧ W i n G) ?_ m0 ⟨0, G3, I4, tn4, none3, w0⟩
    rintro n t5 ⟨i, G5, I5, tn5, none5, w5⟩
    rcases turn i n G5 w5 with ⟨stop, qq⟩ | ⟨go, Nx, hNx, step⟩
    · refine thnF (T.done (X.blk t3 G3 scope ce fp) rfl rfl rfl calm i [] t5 _ G5 (fun _ _ => False) I5 (fp4 I5 none5) tn5 stop) fun r t6 ⟨er, I6⟩ => ?_
      subst er
      have I7 : Inv X pins σ G5 t6 := I3.call' (ch := fp) I6.os I6.base I6.hok I6.bare fun c hc =>
        have z := (fp3 c hc).1.2
        ⟨z.2.2.1, z.1, z.2.2.2.1, z.2.2.2.2⟩
      have nC : G5 t3.heap.objs.size = none := loc ▸ (show G5 ce.locals = none from I6.free)
      obtain ⟨m, hn, _⟩ := I6.loc
      exact done D t3.heap.objs.size t6 m G5 I7 qq (loc ▸ (show t6.heap.Ns ce.locals m from hn)) (I3.fpOk (Nat.le_refl _) nC)
    · refine thnF (T.item (X.blk t3 G3 scope ce fp) rfl rfl rfl calm i [] t5 _ G5 (fun _ _ => False) I5 (fp4 I5 none5) tn5 go) fun r t6 ⟨u, er, z6⟩ => ?_
      subst er
      refine thnF z6 fun _ t7 ⟨x, G7, I7, r7, y7, tn7, none7⟩ => ?_
      have J7 := I7.pinned (fp4 I7 none7) (T.obj _ _ tn7)
      refine thnF (pg.run _ t7 _ G7 x u _ J7 r7 (step x G7 y7)) fun _ t8 ⟨τ, G8, I8, wp8, q8⟩ => ?_
      have last : ∀ {t : Shared} {G : Hp}, Inv (X.blk t3 G3 scope ce fp) ([] ++ pinsAt fp t7.heap) τ G t → Nx G → ∃ m, m < n ∧ ∃ i G, Inv (X.blk t3 G3 scope ce fp) [] (wipe σ (own.map (·.2))) G t ∧ tn i t.heap ∧ (∀ c ∈ fp, G c = none) ∧ W i m G := fun {t G} J nx => by
        obtain ⟨m, hm, w⟩ := hNx G nx
        have at_ : ∀ c ∈ fp, ∀ o, t7.heap.get? c = some o → t.heap.get? c = some o ∧ G c = none := fun c hc o e =>
          have z := J.pin (c, o) (List.mem_append_right _ (List.mem_append_right _ (mem_pinsAt hc e)))
          ⟨z.1, z.2.1⟩
        have len : (wipe σ (own.map (·.2))).length = τ.length := by rw [← wp8, wipe_length]
        refine ⟨m, hm, i + 1, G, (J.unpinned (pins := [])).weak len (fun j v e => (wipe_some (wp8 ▸ e)).1), T.keep _ _ _ tn7 fun c hc o e => (at_ c hc o e).1, fun c hc => ?_, w⟩
        obtain ⟨o, e, _⟩ := T.obj _ _ tn7 c hc
        exact (at_ c hc o e).2
      refine thnF (pt.run _ t8 τ G8 _ I8 q8) fun b t9 ⟨G9, I9, q9⟩ => ?_
      cases b with
      | false => exact last I9 q9
      | true =>
        refine thnF (pk.run _ t9 τ G9 _ I9 q9) fun zk t10 ⟨yk, G10, I10, r10, q10⟩ => ?_
        refine thnF (pv.run _ t10 τ G10 _ I10 q10) fun zv t11 ⟨yv, G11, I11, r11, kvs, k, ka, ek, hka, hD11, few, nx⟩ => ?_
        subst ek
        obtain rfl : zk = Value.ref ka := r10
        exact put_dT (X := X.blk t3 G3 scope ce fp) hu I11 hD11 hka few r11 fun t J => last J nx
  exact codeAny_compStart_dict body (T.self X.A 0 _ _ _ tn4 body)
theorem ps_setDcT (hu : X.A.units + 1 < cLine) (hc : X.calm = true) (hN : X.N.Nodup) (hy : X.N[i]? = some y) (hyl : X.env.scope.names.lookup y = some .local)
    (hsw : swapsWith (.DictComp kx vx [⟨tg, iter, ifs, 0⟩] scope pos) (some (.Name y py)) spos.line X.env = pure true) (hi : PI X tg iter wi) (ok : BlkOk X.N X.env.scope scope own)
    (hg : InBlk X scope fun Y => PG Y tg g) (ht : InBlk X scope fun Y => PTs Y ifs tt) (hk : InBlk X scope fun Y => PE Y kx tk) (he : InBlk X scope fun Y => PE Y vx tv) (hs : ∀ x, foldedSetIterable iter X.env x = pure x := by intro _; rfl) :
    PS X (.Assign [.Name y py] (.DictComp kx vx [⟨tg, iter, ifs, 0⟩] scope pos) spos) (tAsg (tDcT wi g tt tk tv (own.map (·.2))) (gName i)) := by
  refine ⟨fun pins s σ H D I h => ?_⟩
  rw [exec_Assign_Name_used _ _ _ _ hsw]
  refine wpAny_bind (wpAny_standAt (wpAny_bind ?_))
  have h' : tDcT wi g tt tk tv (own.map (·.2)) σ H (fun v G => gName i v σ G D.nx) := h
  show wpAny _ X.A (do let _ ← comprehension (.DictComp kx vx [⟨tg, iter, ifs, 0⟩] scope pos) scope X.env (firstIterPos [⟨tg, iter, ifs, 0⟩] pos) newDict false (eval iter X.env) (some (assign (.Name y py) X.env))) _ _ s
  refine wpAny_bind (thn (dcT_core (Qf := fun _ t => SP X pins D .next t) hu hc hN I hi ok hg ht hk he hs h' fun L c t m G J q hn fo => ?_) fun _ _ z => wpAny_pure (wpAny_pure z))
  show wpAny _ _ (assign (.Name y py) X.env (.ref L)) _ _ _
  obtain ⟨f0, f1, f2, f3, f4, f5⟩ := fo
  refine wpAny_assign_Name (store_ok2 (v := V.ref L) J hN hy (.inl hyl) rfl (fun u J2 ⟨a, sb, ha⟩ => ?_) (.inr hyl))
  have ne : c ≠ a := ha.elim (fun z => z ▸ f1) fun z e => f4 y a z e.symm
  refine ⟨m, hn.sameBut sb ne, fun g' sg => ⟨_, G, ?_, q⟩⟩
  exact J2.turned (t' := u.toks) (fun x o hx e => (sg.2 x hx).trans e) f0 f1 f3 f4 f5
theorem swD_true {gs : List Comprehension} {l : Nat} {env : Env} (hk : env.scope.kind = .function) (hy : env.scope.names.lookup y = some .local) (hl : (py.line == pos.line) = true)
    (ha : (scope.names.any fun (n, k) => n == y && (k == .local || k == .cell)) = false) : swapsWith (.DictComp kx vx gs scope pos) (some (.Name y py)) l env = pure true := by
  have e1 : env.kindOf y = some .local := hy
  have e2 : env.blockKind = .function := by
    unfold Env.blockKind
    rw [hk]
    rfl
  unfold swapsWith
  simp only [e2, e1, ha, Expr.pos, hl]
  rfl
end
/-- {x: c for x in a list of states} -/
theorem dcT_states {K : PySem.W.Frag} {a : Addr} {xs : List V} {ys : List (List Str)} {cst : V} {j : Nat} {tk tv : TE} {vs : List Nat} {σ : L2.St} {H1 : Hp} {D : Addr} {Qd : Hp → Prop} (ha : H1 a = some (.lst xs)) (hp : Paired (rTupS H1) xs ys) (hnd : ys.Nodup) (hl : ys.length < 100000) (nD : H1 D = none)
    (hw : ∀ x, wipe ((wipe σ vs).set j (some x)) vs = wipe σ vs) (hk : ∀ x G (Q : VK), Q x G → tk ((wipe σ vs).set j (some x)) G Q) (hv : ∀ x G (Q : VK), Q cst G → tv ((wipe σ vs).set j (some x)) G Q)
    (hq : ∀ H2 kvs, Same H1 H2 → H2 D = some (.dT kvs) → kvs.map (·.1) = ys.map (fun s => s.map Sum.inr) → Qd H2) :
    ∃ W : Nat → Nat → Hp → Prop, (∃ m, W 0 m (upd H1 D (.dT []))) ∧ ∀ i m H, W i m H → ((Itl K a).stop i H ∧ Qd H) ∨ ((Itl K a).go i H ∧ ∃ Nx : Hp → Prop, (∀ H', Nx H' → ∃ m', m' < m ∧ W (i + 1) m' H') ∧
      ∀ x H', (Itl K a).yld i H x H' → gName j x (wipe σ vs) H' fun σ2 H2 => wipe σ2 vs = wipe σ vs ∧ tYes σ2 H2 fun b H3 => if b = true then tk σ2 H3 fun y H4 => tv σ2 H4 fun z H5 => ∃ kvs k ka, y = .ref ka ∧ H5 ka = some (.tup (k.map kV)) ∧ H5 D = some (.dT kvs) ∧ kvs.length < sizeLine ∧ Nx (upd H5 D (.dT (putK kvs k z))) else Nx H3) := by
  have w := walk_list (K := K) (a := a) (xs := xs)
  have hlen := paired_len hp
  refine ⟨fun i m H => m = xs.length - i ∧ i ≤ xs.length ∧ Same H1 H ∧ ∃ kvs, H D = some (.dT kvs) ∧ kvs.map (·.1) = (ys.take i).map (fun s => s.map Sum.inr), ⟨xs.length, by simp, Nat.zero_le _, same_new nD, [], upd_same, by simp⟩, ?_⟩
  rintro i m H ⟨rfl, hi, e, kvs, hD, hk'⟩
  have q : SqL K H a xs := SqL.of (e _ _ ha)
  by_cases hlt : i < xs.length
  · refine .inr ⟨w.goes i H hlt q, fun H' => i + 1 ≤ xs.length ∧ Same H1 H' ∧ ∃ kvs, H' D = some (.dT kvs) ∧ kvs.map (·.1) = (ys.take (i + 1)).map (fun s => s.map Sum.inr), fun H' p' => ⟨xs.length - (i + 1), by omega, rfl, p'⟩, fun x H' y => ?_⟩
    obtain ⟨rfl, hx⟩ := w.yields i H x H' hlt q y
    obtain ⟨s, hs, rx⟩ := paired_get hp hx
    obtain ⟨xa, rfl, hxa⟩ := mono rx e
    refine ⟨hw _, tYes_i ?_⟩
    rw [if_pos rfl]
    have e1 : (s.map Sum.inr).map kV = s.map V.str := by
      rw [List.map_map]
      rfl
    refine hk _ _ _ (hv _ _ _ ⟨kvs, s.map Sum.inr, xa, rfl, by rw [e1]; exact hxa, hD, big5' (by have := congrArg List.length hk'; rw [List.length_map, List.length_map, List.length_take] at this; omega), hlt, same_mut e nD, _, upd_same, ?_⟩)
    have hno : ¬ ((kvs.any fun kv => decide (kv.1 = s.map Sum.inr)) = true) := by
      intro hany
      obtain ⟨kv, hkv, he⟩ := List.any_eq_true.mp hany
      have hm : (s.map Sum.inr : List Key) ∈ (ys.take i).map (fun s => s.map Sum.inr) := by
        rw [← hk', ← of_decide_eq_true he]
        exact List.mem_map.mpr ⟨kv, hkv, rfl⟩
      obtain ⟨u, hu, hus⟩ := List.mem_map.mp hm
      have hus : u = s := List.map_inj_right (fun _ _ z => Sum.inr.inj z) |>.mp hus
      exact nodup_take_not hnd hs (hus ▸ hu)
    unfold putK
    rw [if_neg hno, List.map_append, hk', take_more hs, List.map_append]
    rfl
  · have hi' : i = xs.length := by omega
    subst hi'
    rw [List.take_of_length_le (by omega)] at hk'
    exact .inl ⟨w.stops H q, hq H kvs e hD hk'⟩
/-- the last of a list -/
theorem i_ixLm {K : PySem.W.Frag} {H : Hp} {Q : VK} {a : Addr} {xs : List V} {v : V} (h : SqL K H a (xs ++ [v])) (q : Q v H) : rIxL K (.ref a) (.int (-1)) H Q := by
  refine ⟨a, xs ++ [v], _, v, rfl, rfl, h, ?_, q⟩
  unfold atI ixN
  have hl : (((xs ++ [v]).length : Nat) : Int) = (xs.length : Int) + 1 := by simp
  rw [if_neg (by decide), hl, if_pos (by omega)]
  have h2 : (-1 + ((xs.length : Int) + 1)).toNat = xs.length := by omega
  show (xs ++ [v])[(-1 + ((xs.length : Int) + 1)).toNat]? = some v
  rw [h2, List.getElem?_append_right (Nat.le_refl _), Nat.sub_self]
  rfl
end Nos
/-! Sets of texts: made of a list, sorted. What is told of the members: that they come from the list. -/
namespace Nos
open PySem PySem.Spec PyProof.Rows L2
/-- an entry whose text is one of l -/
def TxtE (P : Program) (w : World) (l : List Str) (e : Int × Value) : Prop := ∃ x ∈ l, ∃ t, e.2 = Value.str x t ∧ e.1 = (PySem.strKind P w).hash x
/-- a set of at most n texts of l -/
def TxtSet (P : Program) (w : World) (h : Heap) (a : Addr) (l : List Str) (n : Nat) : Prop :=
  ∃ (o : Obj) (es : Array (Int × Value)) (ep : Nat) (t : SetTable), h.get? a = some o ∧ o.ExactSet ∧ o.data = .set es ep t ∧ (∀ e ∈ es.toList, TxtE P w l e) ∧ es.size ≤ n ∧ t.fits es.size = true ∧ Ris t.place.toList ∧ (w.params.followText "set-order" = true ∨ t.led = true)
section
variable {P : Program} {w : World} {A : Around} {E : Value → Shared → Prop} {s : Shared} {a : Addr} {l : List Str} {n : Nat}
theorem TxtSet.keep {h h' : Heap} (R : TxtSet P w h a l n) (k : ∀ o, h.get? a = some o → h'.get? a = some o) : TxtSet P w h' a l n :=
  let ⟨o, es, ep, t, ho, r⟩ := R
  ⟨o, es, ep, t, k o ho, r⟩
theorem TxtSet.there {h : Heap} (R : TxtSet P w h a l n) : ∃ o, h.get? a = some o := let ⟨o, _, _, _, ho, _⟩ := R; ⟨o, ho⟩
theorem txt_elems {es : List (Int × Value)} (g : ∀ e ∈ es, TxtE P w l e) : ElemsOf (PySem.strKind P w) es := fun e he => by
  obtain ⟨x, _, t, e1, e2⟩ := g e he
  refine ⟨⟨x, ?_, e2⟩, ?_⟩
  · rw [e1]
    exact strKind_is _ _ _ _
  · rw [e1]
    rfl
theorem txt_tail {g : Bool → Sem Unit} (hg : ∀ (b : Bool) (u : Shared) (R : Unit → Shared → Prop), R () u → wpAny (model P w) A (g b) R E u) {o : Obj} {es es1 : Array (Int × Value)} {ep : Nat} {t t1 : SetTable} (ho : s.heap.get? a = some o) (hx : o.ExactSet) (hd : o.data = .set es ep t)
    (h1 : ∀ e ∈ es1.toList, TxtE P w l e) (n1 : es1.size ≤ n) (nb : n < scanBound) (f1 : t1.fits es1.size = true) (r1 : Ris t1.place.toList) (l1 : w.params.followText "set-order" = true ∨ t1.led = true) {wd : Bool} {R : Option Bool → Shared → Prop} (q : ∀ h', Heap.SameBut a s.heap h' → TxtSet P w h' a l n → R (some true) { s with heap := h' }) :
    wpAny (model P w) A (do
        storeSet a es1 t1
        if (!wd && t1.tooFull) = true then do
            g (relayAll t1 es1 (SetTable.grown es1.size)).2.2
            storeSet a (relayAll t1 es1 (SetTable.grown es1.size)).1 (relayAll t1 es1 (SetTable.grown es1.size)).2.1
            pure (some true)
          else pure (some true)) R E s := by
  have b1 : es1.size < scanBound := Nat.lt_of_le_of_lt n1 nb
  refine wpAny_bind (wpAny_storeSet_of ho hd ?_ (fits_of_scanBound b1))
  have at1 := store_at (es' := es1) (t' := t1) ho hd
  have sb := Heap.SameBut.update s.heap a (Obj.putSet es1 t1)
  by_cases full : (!wd && t1.tooFull) = true
  · rw [if_pos full]
    have pm := relayAll_perm t1 es1 (SetTable.grown es1.size)
    have f2 := relayAll_fits t1 es1 (SetTable.grown es1.size)
    have r2 := relayAll_ris t1 es1 (SetTable.grown es1.size)
    have l2 := relayAll_led t1 es1 (SetTable.grown es1.size)
    generalize relayAll t1 es1 (SetTable.grown es1.size) = z at pm f2 r2 l2 ⊢
    obtain ⟨es2, t2, gave⟩ := z
    have sz : es2.size = es1.size := by
      have := pm.length_eq
      simpa using this
    refine wpAny_bind (hg _ _ _ (wpAny_bind (wpAny_storeSet_of at1 rfl ?_ (fits_of_scanBound (show es2.size < scanBound from sz ▸ b1)))))
    refine wpAny_pure (q _ (sb.trans (Heap.SameBut.update _ a _)) ⟨_, es2, _, t2, store_at (es' := es2) (t' := t2) at1 rfl, hx, rfl, fun e he => h1 e (pm.mem_iff.mp he), sz ▸ n1, f2, r2, ?_⟩)
    exact l1.imp id fun z => l2.trans z
  · rw [if_neg full]
    exact wpAny_pure (q _ sb ⟨_, es1, _, t1, at1, hx, rfl, h1, n1, f1, r1, l1⟩)
theorem txt_add {k : Str} {tk : Tok} {Q : Bool → Shared → Prop} (R : TxtSet P w s.heap a l n) (hk : k ∈ l) (nb : n + 1 < scanBound) (q : ∀ b h', Heap.SameBut a s.heap h' → TxtSet P w h' a l (n + 1) → Q b { s with heap := h' }) :
    wpAny (model P w) A (setAddHashed a (.str k tk) ((PySem.strKind P w).hash k)) Q E s := by
  obtain ⟨o, es, ep, t, ho, hx, hd, g, hn, hf, hr, hl⟩ := R
  have isk : (PySem.strKind P w).is k (.str k tk) = true := strKind_is _ _ _ _
  have scan : (Value.str k tk).scannable = true := rfl
  have el : ElemsOf (PySem.strKind P w) es.toList := txt_elems g
  have hb : es.size < scanBound := by omega
  unfold setAddHashed setAddHashedIn
  refine wpAny_holding (wpAny_bind (wpAny_setState_of ho hd hf ?_))
  dsimp only
  rw [byScan_of scan hb el]
  simp only [↓reduceIte]
  unfold setAddByScan
  refine wpAny_bind (wpAny_bind (wpAny_rule (wpAny_bind (wpAny_setScan_of isk ho hd hf el ?_))))
  cases hfi : List.findIdx? (fun e => (PySem.strKind P w).is k e.2) es.toList with
  | some j => exact wpAny_pure (wpAny_pure (q _ s.heap (Heap.SameBut.refl a s.heap) ⟨o, es, ep, t, ho, hx, hd, g, by omega, hf, hr, hl⟩))
  | none =>
    dsimp only
    have way : ∀ (b : Bool) {u : Shared} {R : Unit → Shared → Prop}, R () u → wpAny (model P w) A (match b with | true => rule "set.scan.the-table-gave-way" | false => pure ()) R E u := fun b u R z => by
      cases b
      · exact wpAny_pure z
      · exact wpAny_rule z
    have pm := layNew_perm t es ((PySem.strKind P w).hash k) (.str k tk)
    have f1 := layNew_fits t es ((PySem.strKind P w).hash k) (.str k tk)
    have r1 := layNew_ris t es ((PySem.strKind P w).hash k) (.str k tk) hr
    have l1 := layNew_led t es ((PySem.strKind P w).hash k) (.str k tk)
    generalize layNew t es ((PySem.strKind P w).hash k) (.str k tk) = z at pm f1 r1 l1 ⊢
    obtain ⟨es1, t1, wd, gave⟩ := z
    dsimp only at pm f1 r1 l1 ⊢
    rw [Array.toList_push] at pm
    have pc : es1.toList.Perm (((PySem.strKind P w).hash k, Value.str k tk) :: es.toList) := pm.trans (List.perm_append_singleton _ _)
    have g1 : ∀ e ∈ es1.toList, TxtE P w l e := fun e he => (List.mem_cons.mp (pc.mem_iff.mp he)).elim (fun z => by rw [z]; exact ⟨k, hk, tk, rfl, rfl⟩) (g e)
    have n1 : es1.size ≤ n + 1 := by
      have h := pc.length_eq
      simp at h
      omega
    have led : w.params.followText "set-order" = true ∨ t1.led = true := hl.imp id fun z => l1.trans z
    refine wpAny_bind (way _ ?_)
    have hway : ∀ (b : Bool) (u : Shared) (R : Unit → Shared → Prop), R () u → wpAny (model P w) A (match b with | true => rule "set.scan.the-table-gave-way" | false => pure ()) R E u := fun b u R z => way b z
    split
    · refine wpAny_bind ?_
      rw [hashByValue_scannable 8 scan]
      refine wpAny_pure (txt_tail ?_ ho hx hd g1 n1 nb ?_ ?_ ?_ fun h' sb z => ?_)
      · intro b u R z
        cases b <;> first | exact wpAny_pure z | exact wpAny_rule z
      · first | exact f1 | (split <;> first | exact f1 | exact SetTable.fits_plain_off f1)
      · first | exact r1 | (split <;> exact r1)
      · first | exact led | (split <;> exact led)
      · exact wpAny_pure (q _ h' sb z)
    · refine wpAny_bind (wpAny_pure ?_)
      simp only [↓reduceIte]
      refine txt_tail ?_ ho hx hd g1 n1 nb f1 r1 led fun h' sb z => wpAny_pure (q _ h' sb z)
      intro b u R z
      cases b <;> first | exact wpAny_pure z | exact wpAny_rule z
theorem txt_loop {I b : Addr} {fp wr : List Addr} {G : Array GenState → Array GenState → Prop} {m : Nat} {Pv : Nat → Value → Prop} {St : Nat → Shared → Prop} {R : Result → Shared → Prop} (W : WalksS P w A.in1 I fp wr G m Pv St) (hb : b ∉ fp) (few : m < 1000) (val : ∀ i v, Pv i v → ∃ x ∈ l, ∃ t, v = Value.str x t) :
    ∀ (k i : Nat) (s : Shared), m - i = k → i ≤ m → St i s → TxtSet P w s.heap b l i → (∀ u, Moved (b :: wr) G s u → TxtSet P w u.heap b l m → R (.ok (.ret .none)) u) → codeAny (model P w) A (.builtin "set.update.loop" ⟨[.ref b, .ref I], []⟩) R s := by
  have nw : b ∉ wr := fun h => hb (W.sub _ h)
  have sub : ∀ c ∈ wr, c ∈ b :: wr := fun c hc => List.mem_cons_of_mem _ hc
  intro k
  induction k with
  | zero =>
    intro i s hk hi st hS q
    obtain rfl : i = m := by omega
    refine codeAny_builtin PyProof.Rows.F.entry_set_update_loop ?_
    rw [Around.under_plainId PyProof.Rows.F.plain_set_update_loop _]
    show wpAny _ A.in1 (pyNext (.ref I) >>= _) _ _ s
    refine wpAny_bind (W.done s _ _ st fun u mv => ?_)
    show wpAny _ A.in1 (ret Value.none) _ _ u
    exact wpAny_pure (q u (mv.mono sub) (hS.keep (mv.heap b · nw)))
  | succ k ih =>
    intro i s hk hi st hS q
    have lt : i < m := by omega
    refine codeAny_builtin PyProof.Rows.F.entry_set_update_loop ?_
    rw [Around.under_plainId PyProof.Rows.F.plain_set_update_loop _]
    show wpAny _ A.in1 (pyNext (.ref I) >>= _) _ _ s
    refine wpAny_bind (W.item i s _ _ lt st fun v u hP st' mv => ?_)
    obtain ⟨x, hx, tk, rfl⟩ := val i v hP
    have hS' : TxtSet P w u.heap b l i := hS.keep (mv.heap b · nw)
    show wpAny _ A.in1 (holding [Value.str x tk] (setAdd b (.str x tk)) >>= _) _ _ u
    unfold setAdd
    refine wpAny_bind (wpAny_holding (wpAny_holding (wpAny_bind ((PySem.strKind P w).pyHash (k := x) (strKind_is _ _ _ _) ?_))))
    refine txt_add (s := { u with toks := u.toks + 1 }) hS' hx (by have : scanBound = 4096 := rfl; omega) fun _ g sb hS2 => ?_
    refine wpAny_pure ⟨plainId_quiet PyProof.Rows.F.plain_set_update_loop _, ih (i + 1) _ (by omega) lt (W.frame _ u _ _ st' (Nat.le_succ _) fun c hc o e => ?_) hS2 fun z mz hz => q z ?_ hz⟩
    · exact (sb.2 c fun e2 => hb (e2 ▸ hc)).trans e
    · refine Moved.trans W.gtrans ((mv.mono sub).then_heap (Nat.le_succ _) fun c o hc e => ?_) mz
      exact (sb.2 c fun e2 => hc (e2 ▸ List.mem_cons_self)).trans e
/-- the object that set() makes -/
abbrev setO0 (w : World) : Obj := { cls := .type "set", dict := Option.none, data := .set #[] 0 (.fresh 0 0 (!w.params.followText "set-order")) }
theorem txt_fresh {h : Heap} {b : Addr} (ho : h.get? b = some (setO0 w)) : TxtSet P w h b l 0 := by
  refine ⟨_, #[], 0, _, ho, ⟨rfl, rfl, rfl⟩, rfl, fun e he => by simp at he, Nat.le_refl _, rfl, List.Pairwise.nil, ?_⟩
  show _ ∨ (!w.params.followText "set-order") = true
  cases w.params.followText "set-order" <;> simp
/-- set(a list of texts) -/
theorem txt_set {la : Addr} {items : Array Value} {Q : Value → Shared → Prop} (hh : A.handled = none) (hl : s.heap.IsList la items) (few : items.size < 1000) (hi : ∀ v ∈ items.toList, ∃ x ∈ l, ∃ t, v = Value.str x t)
    (q : ∀ (g : Heap) (tk : Nat), TxtSet P w g s.heap.objs.size l items.size → (∀ c o, s.heap.get? c = some o → g.get? c = some o) → Q (.ref s.heap.objs.size) { s with heap := g, toks := tk }) :
    wpAny (model P w) A (call (.type "set") [.ref la]) Q E s := by
  obtain ⟨mc, mt, mro⟩ := PySem.F.called_set.mro
  have c1 := PySem.F.called_set.made
  have c2 := PySem.F.called_set.sub
  have c3 := PySem.F.called_set.notType
  have c4 := PySem.F.called_set.canCreate
  have c5 := PySem.F.typeCall_set_1 (.ref la)
  refine wpAny_call (codeAny_of_tree (show wpAny _ _ (callAny (.type "set") _) _ _ _ from ?_))
  refine wpAny_pure ⟨Code.quiet_builtin _ (by decide +kernel), codeAny_builtin PySem.F.entry_type_call ?_⟩
  rw [Around.under_plain (weight_type_call_type "set" [.ref la] []) rfl]
  repeat (any_goals (first | assumption | wp_step))
  refine codeAny_mono (code_set_led1 (.ref la) (E := E) (Q₁ := fun v u => v = .ref s.heap.objs.size ∧ u = { s with heap := s.heap.push (setO0 w) }) ⟨rfl, rfl⟩) fun r u hr => ?_
  cases r with
  | error e => exact hr
  | ok fl =>
    cases fl with
    | ret v =>
      obtain ⟨rfl, rfl⟩ := hr
      have at0 : (s.heap.push (setO0 w)).get? s.heap.objs.size = some (setO0 w) := Heap.get?_push_size _ rfl
      have ty0 : Shared.TypeIs { s with heap := s.heap.push (setO0 w) } (.ref s.heap.objs.size) "set" := ⟨_, at0, rfl⟩
      have d1 := PySem.F.called_set.init.lookup
      have d2 := PySem.F.called_set.init.bind (.ref s.heap.objs.size)
      repeat (any_goals (first | assumption | wp_step))
      refine codeAny_mono (codeAny_call_builtin (R := wants (fun r u => r = .none ∧ ∃ g tk, u = { s with heap := g, toks := tk } ∧ TxtSet P w g s.heap.objs.size l items.size ∧ ∀ c o, s.heap.get? c = some o → g.get? c = some o) E)
        PySem.F.called_set.init.plain PySem.F.entry_set_init (check_set_init_1 ty0 ?_)) fun r2 u2 hr2 => ?_
      · obtain ⟨⟨oc, od, ot, os⟩, hol, hcl, nl, hdl⟩ := hl
        simp only at hcl hdl
        subst hcl hdl
        have lo : (s.heap.push (setO0 w)).get? la = some { cls := .type "list", dict := od, data := .seq items nl, slots := os } := Heap.get?_push_of_some _ hol
        have li : (s.heap.push (setO0 w)).IsList la items := ⟨_, lo, rfl, nl, rfl⟩
        have e1 := PySem.F.sub_list_set
        have e2 := PySem.F.sub_list_frozenset
        have e3 : (Value.type "list" == Value.type "dict") = false := by decide
        unfold Builtin.«set.__init__» noKeywords Builtin.Frozenset.updateFrom
        generalize hp : pyIter = PI
        wp_walk
        subst hp
        refine wpAny_pyIter_list li (wpAny_bind (wpAny_runValue ?_))
        have lt : la < s.heap.objs.size := Heap.lt_size hol
        have sz : (s.heap.push (setO0 w)).objs.size = s.heap.objs.size + 1 := Heap.size_push ..
        have h3 : A.in1.in1.in1.handled = none := by simp [hh]
        have ne1 : la ≠ (s.heap.push (setO0 w)).objs.size := sz ▸ Nat.ne_of_lt (Nat.lt_succ_of_lt lt)
        have ne2 : s.heap.objs.size ∉ [(s.heap.push (setO0 w)).objs.size, la] := by
          simp only [List.mem_cons, List.not_mem_nil, or_false, not_or]
          exact ⟨sz ▸ Nat.ne_of_lt (Nat.lt_succ_self _), Nat.ne_of_gt lt⟩
        refine txt_loop (l := l) ((Walks.list h3 _ la ne1 items).toS) ne2 few (fun i v hv => hi v (Array.mem_toList_iff.mpr (Array.mem_of_getElem? hv))) (items.size - 0) 0 _ rfl (Nat.zero_le _) ⟨⟨_, Heap.get?_push_size _ rfl, rfl, rfl⟩, li.push _⟩ (txt_fresh (Heap.get?_push_of_some _ at0)) fun u mv hS => ?_
        obtain ⟨g, g2, d, tk, os2⟩ := u
        obtain rfl : g2 = s.gens := mv.gens
        obtain rfl : d = s.drawn := mv.drawn
        obtain rfl : os2 = s.os := mv.os
        refine wpAny_pure (show wpAny _ _ (ret Value.none) _ _ _ from wpAny_pure ⟨rfl, g, tk, rfl, hS, fun c o hc => ?_⟩)
        have ltc := Heap.lt_size hc
        refine mv.heap c o (fun hm => ?_) (Heap.get?_push_of_some _ (Heap.get?_push_of_some _ hc))
        simp only [List.mem_cons, List.not_mem_nil, or_false] at hm
        rcases hm with rfl | rfl
        · exact Nat.lt_irrefl _ ltc
        · exact Nat.lt_irrefl _ (Nat.lt_of_succ_lt (sz ▸ ltc))
      · cases r2 with
        | error e => exact hr2
        | ok f2 =>
          cases f2 with
          | ret v =>
            obtain ⟨rfl, g, tk, rfl, hS, hk⟩ := hr2
            repeat (any_goals (first | assumption | wp_step))
            exact q _ _ hS hk
          | _ => exact hr2.elim
    | _ => exact hr.elim
/-- sorted(a set of texts) -/
theorem txt_sorted {Q : Value → Shared → Prop} (R : TxtSet P w s.heap a l n) (hh : A.handled = none) (few : n < 1000)
    (q : ∀ (u : Shared) (p : Addr) (out : Array Value) (c : Nat) (ms : List Str), (∀ b o, s.heap.get? b = some o → u.heap.get? b = some o) → u.gens = s.gens → u.os = s.os → s.heap.objs.size ≤ p → u.heap.get? p = some (seqObj "list" out c) → StrsAre out.toList ms → (∀ m ∈ ms, m ∈ l) → ms.length ≤ n → Q (.ref p) u) :
    wpAny (model P w) A (call (.builtin "sorted") [.ref a]) Q E s := by
  obtain ⟨o, es, ep, t, ho, hx, hd, g, hn, hf, hr, hl⟩ := R
  have hb : es.size < scanBound := by
    have : scanBound = 4096 := rfl
    omega
  refine Calls.call_function_entry kind_sorted plain_sorted entry_sorted (args_sorted1 _) ?_
  unfold Builtin.«sorted»
  refine wpAny_bind (m := checkCount "sorted" 1 1 _) (wpAny_pure (wpAny_bind (collect_set (A := A.in1) hh ⟨o, ho, hx.1, hd⟩ hf hb hr hl fun u vs k1 hz g1 o1 pm => ?_)))
  have vl : vs.length ≤ n := by
    rw [pm.length_eq, List.length_map, Array.length_toList]
    exact hn
  have line : vs.length ≤ sizeLine := by
    rw [sizeLine_eq]
    omega
  have txts : ∀ vs : List Value, (∀ v ∈ vs, ∃ x ∈ l, ∃ t, v = Value.str x t) → ∃ ss, StrsAre vs ss ∧ (∀ m ∈ ss, m ∈ l) ∧ ss.length = vs.length := by
    intro vs
    induction vs with
    | nil => exact fun _ => ⟨[], .nil, (fun m hm => by cases hm), rfl⟩
    | cons v r ih =>
      intro hv
      obtain ⟨ss, h1, h2, h3⟩ := ih fun v h => hv v (List.mem_cons_of_mem _ h)
      obtain ⟨x, hx, t, rfl⟩ := hv v List.mem_cons_self
      exact ⟨x :: ss, .cons _ _ h1, fun m hm => (List.mem_cons.mp hm).elim (fun z => z ▸ hx) (h2 m), by simp [h3]⟩
  obtain ⟨ss, h1, h2, h3⟩ := txts vs fun v hv => by
    obtain ⟨e, he, rfl⟩ := List.mem_map.mp (pm.mem_iff.mp hv)
    obtain ⟨x, hx, t, e1, _⟩ := g e he
    exact ⟨x, hx, t, e1⟩
  refine wpAny_bind (wpAny_newList ?_ line)
  have at1 : (u.heap.push (seqObj "list" vs.toArray 0)).get? u.heap.objs.size = some (seqObj "list" vs.toArray 0) := Heap.get?_push_size _ rfl
  refine wpAny_bind (wpAny_holding (wpAny_call_entry slot_list_sort ⟨_, at1, rfl⟩ entry_list_sort (list_sort_treeKAny strKind_oneLt at1 h1.keysOf (fun x y r e => keyKind_strs (by rw [← e]; exact h1)) line fun st hp hs => ⟨_, rfl, ?_⟩) (args_list_sort _)))
  obtain ⟨ms, m1, m2, _⟩ := sorted_out_str h1 hp hs
  obtain ⟨c, hc⟩ := sortedHeap_at (vs := vs) (out := (arrOf st).map (·.2)) at1
  refine wpAny_pure ⟨_, rfl, q _ u.heap.objs.size _ c ms (fun b x e => ?_) g1 o1 hz hc m1 (fun m hm => h2 m (m2.mem_iff.mp hm)) (by rw [m2.length_eq, h3]; exact vl)⟩
  have at2 := k1 b x e
  have lt := Heap.lt_size at2
  exact (sortedHeap_old (Nat.ne_of_lt lt) (by rw [size_push']; exact Nat.lt_succ_of_lt lt)).trans (Heap.get?_push_of_some _ at2)
end
/-- the set of texts at a -/
def TxtO (P : Program) (w : World) (a : Addr) (l : List Str) (n : Nat) : HO := .ext fun h => TxtSet P w h a l n
def rSetX (P : Program) (w : World) (K : PySem.W.Frag) (xs : List V) (H : Hp) (Q : VK) : Prop := ∃ (b : Addr) (l : List Str), xs = [V.ref b] ∧ SqL K H b (l.map V.str) ∧ l.length < 1000 ∧ ∀ p, H p = none → Q (V.ref p) (upd H p (TxtO P w p l l.length))
def rSortX (P : Program) (w : World) (xs : List V) (H : Hp) (Q : VK) : Prop := ∃ (b : Addr) (l : List Str) (n : Nat), xs = [V.ref b] ∧ H b = some (TxtO P w b l n) ∧ n < 1000 ∧ ∀ (ms : List Str) (p : Addr), (∀ m ∈ ms, m ∈ l) → ms.length ≤ n → H p = none → Q (V.ref p) (upd H p (.lst (ms.map V.str)))
theorem strs_vals : ∀ {l : List Str} {us : List Value}, Vals (l.map V.str) us → ∀ v ∈ us, ∃ x ∈ l, ∃ t, v = Value.str x t
  | [], _, h => by
    cases h
    intro v hv
    cases hv
  | x :: r, _, h => by
    rw [List.map_cons] at h
    cases h with
    | cons h1 h2 =>
      obtain ⟨t, rfl⟩ := h1
      intro v hv
      rcases List.mem_cons.mp hv with rfl | hv
      · exact ⟨x, List.mem_cons_self, t, rfl⟩
      · obtain ⟨y, hy, z⟩ := strs_vals h2 v hv
        exact ⟨y, List.mem_cons_of_mem _ hy, z⟩
theorem vals_strs : ∀ {us : List Value} {l : List Str}, StrsAre us l → Vals (l.map V.str) us
  | _, _, .nil => .nil
  | _, _, .cons _ t r => .cons ⟨t, rfl⟩ (vals_strs r)
section
variable {X : Cx} (K : PySem.W.Frag) (hk : X.K = K)
theorem txtO_new {P : Program} {w : World} {H : Hp} {h : Heap} {a : Addr} {l : List Str} {n : Nat} (R : TxtSet P w h a l n) : ObjOk P w H h a (TxtO P w a l n) := ⟨R, R.there, fun _ _ p k => TxtSet.keep p k⟩
include hk in
theorem kSetX (hc : X.calm = true) : CallR X (.type "set") (rSetX X.prog X.w K) := by
  subst hk
  intro pins s σ H xs us Q I r h
  obtain ⟨b, l, rfl, hq, few, q⟩ := h
  rw [Vals.ref1 r]
  obtain ⟨its, rv, pl, _⟩ := I.list hq
  have il : s.heap.IsList b its.toArray := let ⟨o, m, e, c, d, z⟩ := pl; ⟨o, e, c, m, z⟩
  have sz : its.toArray.size = l.length := by
    have := rv.length
    rw [List.length_map] at this
    simp [this]
  refine txt_set (l := l) (I.ok.hd hc) il (by rw [sz]; exact few) (fun v hv => strs_vals rv v (by simpa using hv)) fun g tk hS k => ?_
  rw [sz] at hS
  exact ⟨.ref _, _, I.laid (t' := tk) (h' := g) k (Nat.le_refl _) (txtO_new hS), rfl, q _ (I.hok.fresh (Nat.le_refl _))⟩
theorem cr_sortX (hc : X.calm = true) : CallR X (.builtin "sorted") (rSortX X.prog X.w) := by
  intro pins s σ H xs us Q I r h
  obtain ⟨b, l, n, rfl, hb, few, q⟩ := h
  rw [Vals.ref1 r]
  have R : TxtSet X.prog X.w s.heap b l n := (I.hok b _ hb).1
  refine txt_sorted R (I.ok.hd hc) few fun u p out c ms k hg hos hp at1 m1 m2 m3 => ?_
  have line : (ms.map V.str).length ≤ sizeLine := by
    rw [List.length_map, sizeLine_eq]
    omega
  have np : H p = none := I.hok.fresh hp
  have e : u = { s with heap := u.heap, gens := u.gens, drawn := u.drawn, toks := u.toks } := by
    cases u
    cases s
    cases hos
    rfl
  have J : Inv X pins σ (upd H p (.lst (ms.map V.str))) { s with heap := u.heap, gens := u.gens, drawn := u.drawn, toks := u.toks } :=
    I.call (ch := []) (Un.laid k hp np) (I.hok.laid k hp ⟨line, out.toList, c, vals_strs m1, at1⟩) (hg ▸ I.bare) fun _ z => nomatch z
  rw [e]
  exact ⟨.ref p, _, J, rfl, q ms p m2 m3 np⟩
end
end Nos
/-! Defs that are called where no repr is under way (the list of guards is empty); the law's end for such. -/
namespace Nos
open PySem PySem.Spec PyProof.Rows L2
/-- as FnOk, where no guard stands -/
structure FnG (P : Program) (w : World) (K : PySem.W.Frag) (mg : Str → Option Value) (base : Heap) (k : Nat) (f : Addr) (fd : FuncData) (ps : List Str) (sp : Sp) : Prop where
  len : ∀ vs H Q E, sp vs H Q E → vs.length = ps.length
  run : ∀ (A : Around) (st : List Env) (s : Shared) (H : Hp) (args : Args) (us : List Value) (vs : List V) (Q : VK) (E : XK), A.guards = some [] → Room k A → Env0 P w K mg base A st s H → BindsTo s fd args (ps.zip us) → Vals vs us → sp vs H Q E → codeAny (model P w) A (.call (.ref f) args) (CR CX0 st P w H s Q E) s
section
variable {P : Program} {w : World} {K : PySem.W.Frag} {mg : Str → Option Value} {base : Heap} {k : Nat} {f : Addr} {fd : FuncData} {x qual : Str} {st : Stmt} {N ps : List Str} {sp : Sp}
abbrev BodyG (P : Program) (w : World) (K : PySem.W.Frag) (mg : Str → Option Value) (base : Heap) (N : List Str) (qual : Str) (st : Stmt) (k : Nat) (sp : Sp) : Prop :=
  ∀ (f : Addr) (cdv : Value) (A : Around) (outer : List Env) (s : Shared) (H : Hp) (vs : List V) (Q : VK) (E : XK), A.guards = some [] → Room k (A.deeper (envOfC qual (C8.fnScope st) s.heap.objs.size f cdv)) → sp vs H Q E →
      ∃ t, PSs (cxOf CX0 P w K mg base N qual (C8.fnScope st) f cdv A outer s H E).nox (C8.fnBody st) t ∧ t { nx := fun _ H' => Q .non H', rt := Q } (start N vs) H
theorem fnG_of (F : C8.Fun K x qual st f fd) (S : FnScope N ps (C8.fnScope st)) (len : ∀ vs H Q E, sp vs H Q E → vs.length = ps.length) (body : BodyG P w K mg base N qual st k sp) : FnG P w K mg base (k + 1) f fd ps sp := by
  obtain ⟨oc, od, dV, kV, doc, pm, an, cdv, ct, osl, rfl, lk, hcd⟩ := F.ex
  refine ⟨len, fun A outer s H args us vs Q E hg hr e0 hb rv h => ?_⟩
  have inK : K.In s.heap := e0.mod.kin.keeps fun b o e => (e0.bs b o e).1
  have nl : s.heap.NoLimit := e0.mod.nolimit.keeps fun b o e => (e0.bs b o e).1
  have lens := len _ _ _ _ h
  have kinds : ∀ y ∈ ps.zip us, (C8.fnScope st).names.lookup y.1 = some .local ∨ ((C8.fnScope st).names.lookup y.1 = some .cell ∧ ((cellsFrom (s.heap.objs.size + 1) (C8.fnScope st).names []).lookup y.1).isSome = true) := fun y hy =>
    (S.par y.1 (List.of_mem_zip (show (y.1, y.2) ∈ ps.zip us from hy)).1).elim .inl fun q => .inr ⟨q, PySem.W.cellsFrom_some _ _ _ (.inl q)⟩
  refine codeAny_call_function hr.depth (inK _ _ lk) rfl S.co S.gen rfl (PySem.W.codeRec_of inK hcd) (hb _ _ _ _ (wpAny_newFunctionEnv_cells S.kind kinds fun env he s1 y => ?_))
  subst he
  obtain ⟨t, ht, q⟩ := body f cdv A outer s H vs Q E hg (hr.deeper _) h
  refine ⟨nl.keeps y.toInCall.keep, codeAny_func (wpAny_mono (ht.nox.run [] s1 (start N vs) H _ (inv_start S hr.hd e0 lens rv y) q) (fun fl s' z => ?_) fun _ _ z => z)⟩
  cases fl with
  | ret u =>
    obtain ⟨v, τ, H', J, r, q⟩ := z
    exact ⟨v, H', J.os, J.bare, J.base, J.hok, r, q⟩
  | next =>
    obtain ⟨τ, H', J, q⟩ := z
    exact ⟨.non, H', J.os, J.bare, J.base, J.hok, rfl, q⟩
  | brk => exact z.elim fun _ z => z.elim fun _ z => z.2.elim
  | cont => exact z.elim fun _ z => z.elim fun _ z => z.2.elim
end
section
variable {X : Cx} {k j : Nat} {f : Addr} {fd : FuncData} {x : Str} {ps : List Str} {sp : Sp} {p pos : Pos} {e : Expr} {es : List Expr} {t : TA}
/-- f(e, ..), f such a def -/
theorem pe_callG (hg : X.A.guards = some []) (F : FnG X.prog X.w X.K X.mg X.base k f fd ps sp) (hr : Room j X.A) (hk : k ≤ j) (hx : Gl X x) (hm : X.mg x = some (.ref f)) (kp : PySem.W.keepIn X.K (.ref f) = true) (hb : Binds X.K fd ps []) (ha : PA X (e :: es) t)
    (hdb : (x == ("__debug__" : Str)) = false := by decide) (he : starEach (e :: es) X.env = (false, eval e X.env) :: starEach es X.env := by rfl) (hpl : (backTo pos (starEach es X.env)).any (·.1) = false := by rfl) :
    PE X (.Call (.Name x p) (e :: es) [] pos) (tCall sp [] E0 t) := by
  refine ⟨fun pins s σ H Q I h => wpAny_Call_Name_kw (ld_glob I hx hm ?_ hdb)⟩
  refine PySem.W.callWith_K (h₀ := X.base) I.ok.mod.kin kp (thn (ha.run pos pins s σ H _ I h) fun us s1 ⟨vs, H1, I1, r, q⟩ => ⟨I1.kIn, ?_⟩) he hpl
  have q' : sp vs H1 Q E0 := by
    have h : sp (vs ++ []) H1 Q E0 := q
    rwa [List.append_nil] at h
  have hl : us.length = ps.length := r.length.symm.trans (F.len _ _ _ _ q')
  have bb := hb s1 us I1.kIn (by rw [List.append_nil]; exact hl)
  rw [List.append_nil] at bb
  refine wpAny_call (codeAny_mono (F.run X.A X.stack s1 H1 ⟨us, []⟩ us vs Q E0 hg (hr.mono hk) I1.env0 bb r q') fun z s' hq => ?_)
  cases z with
  | error e => exact hq.elim
  | ok fl =>
    cases fl with
    | ret u => exact I1.after hq
    | next => exact hq.elim
    | brk => exact hq.elim
    | cont => exact hq.elim
/-- repr of a list of tuples of names -/
def rReprL (K : PySem.W.Frag) (xs : List V) (H : Hp) (Q : VK) : Prop := ∃ (v : V) (d : PyData), xs = [v] ∧ (∃ a, v = .ref a) ∧ Dp K H v d ∧ d.showable = true ∧ d.hasDict = false ∧ d.depth ≤ 60 ∧ d.shown.length ≤ sizeLine ∧ Q (.str d.shown) H
theorem kRepr (K : PySem.W.Frag) (hk : X.K = K) (hg : X.A.guards = some []) (hu : X.A.units + 65 < cLine) : CallR X (.builtin "repr") (rReprL K) := by
  subst hk
  intro pins s σ H xs us Q I r h
  obtain ⟨_, d, rfl, ⟨a, rfl⟩, hd, h1, h2, h3, h4, q⟩ := h
  rw [Vals.ref1 r]
  obtain ⟨as, rd⟩ := Dp.reads I d _ _ hd (show RelV (V.ref a) (Value.ref a) from rfl)
  refine repr_of_reads' rd h1 (PyData.noDict_hsm h2) hg (by omega) (fun _ _ e => e) (fun g u tk hk => ?_) h4
  exact ⟨.str d.shown, H, I.kept (t' := tk) (h' := g) hk, ⟨u, rfl⟩, q⟩
end
/-- the law's own call, its def such a one -/
theorem law_callG {P : Program} {w : World} {K : PySem.W.Frag} {mg mb : Str → Option Value} {k : Nat} {fa a : Addr} {fd : FuncData} {x : Str} {sp : Sp} {s0 : Shared} {vs : List Value} {ns : List Int}
    (inK : K.In s0.heap) (hns : s0.heap.Ns mainGlobals mg) (hb : s0.heap.Ns builtinsNs mb) (hbb : ∀ x : Str, x ≠ "__name__" → mb x = bootBuiltins x) (lim : s0.heap.NoLimit) (gens : s0.gens = #[]) (ha : s0.heap.get? a = some { cls := .type "list", data := .seq vs.toArray }) (hi : IntsAre vs ns) (hl : ns.length ≤ sizeLine) (hr : Room k callerA)
    (F : ∀ base : Heap, K.In base → base.Ns mainGlobals mg → FnG P w K mg base k fa fd [x] sp) (bind : ∀ (s : Shared) (u : Value), BindsTo s fd ⟨[u], []⟩ [(x, u)]) (hsp : ∀ H : Hp, Only H → SqL K H a (ns.map V.int) → sp [.ref a] H (fun v _ => v = .bl true) fun _ _ _ => False) :
    codeAny (model P w) callerA (.call (.ref fa) ⟨[.ref a], []⟩) (fun r s' => r = .ok (.ret (.bool true)) ∧ OldK s0.heap s'.heap ∧ s'.os = s0.os ∧ AllBare s'.gens) s0 := by
  have go : ∀ H : Hp, Only H → SqL K H a (ns.map V.int) → HOk P w H s0.heap → (∀ b, H b ≠ none → b = a ∧ K.lookup a = none) → codeAny (model P w) callerA (.call (.ref fa) ⟨[.ref a], []⟩) (fun r s' => r = .ok (.ret (.bool true)) ∧ OldK s0.heap s'.heap ∧ s'.os = s0.os ∧ AllBare s'.gens) s0 := by
    intro H only hS hok hA
    have keep : ∀ {b : Addr} {o : Obj}, s0.heap.get? b = some o → (b = a → o.cls ≠ .type "list" ∨ K.lookup a = some o) → (hidT s0.heap H).get? b = some o := fun {b o} e h => hidT_get e (by
      cases q : H b with
      | none => rfl
      | some u =>
        obtain ⟨rfl, k⟩ := hA b (by rw [q]; simp)
        rcases h rfl with h | h
        · rw [ha] at e
          exact absurd (congrArg Obj.cls (Option.some.inj e)).symm h
        · rw [k] at h
          cases h)
    have keepN : ∀ {b : Addr} {m : Str → Option Value}, s0.heap.Ns b m → (hidT s0.heap H).Ns b m := fun {b m} ⟨o, es, ep, e, d, r⟩ => ⟨o, es, ep, hidT_get e (by
      cases q : H b with
      | none => rfl
      | some u =>
        obtain ⟨rfl, _⟩ := hA b (by rw [q]; simp)
        rw [ha] at e
        have e := congrArg Obj.data (Option.some.inj e)
        rw [d] at e
        cases e), d, r⟩
    have inK2 : K.In (hidT s0.heap H) := fun b o e => keep (inK b o e) fun h => .inr (h ▸ e)
    have md : Mod K mg (hidT s0.heap H) := ⟨inK2, keepN hns, ⟨mb, keepN hb, hbb⟩, let ⟨mc, h1, h2⟩ := lim; ⟨mc, keepN h1, h2⟩⟩
    have env : Env0 P w K mg (hidT s0.heap H) callerA [] s0 H := ⟨rfl, md, fun b o e => of_hidT e, Nat.le_of_eq (hidT_size _ _), trivial, (fun b hb => by cases hb), hok, .of_eq gens⟩
    refine codeAny_mono ((F _ inK2 (keepN hns)).run callerA [] s0 H ⟨[.ref a], []⟩ [.ref a] [.ref a] _ _ rfl hr env (bind s0 (.ref a)) (.cons rfl .nil) (hsp H only hS)) fun r s' h => ?_
    cases r with
    | error e => exact h.elim
    | ok fl =>
      cases fl with
      | next => exact h.elim
      | brk => exact h.elim
      | cont => exact h.elim
      | ret u =>
        obtain ⟨v, H', os, bare, un, ok2, rv, q⟩ := h
        obtain rfl : v = .bl true := q
        obtain rfl : u = Value.bool true := rv
        refine ⟨rfl, OldK.of_keep fun b o e => ?_, os, bare⟩
        cases q : H b with
        | none => exact un.keep b o e q (fun z => by cases z) (fun z => by cases z)
        | some u =>
          rcases only b with z | ⟨ob, xs, z⟩
          · rw [q] at z
            cases z
          · have e1 := (hok b _ z).1
            have e2 := (ok2 b _ (un.frzs b ob _ z)).1
            rw [e] at e1
            rw [← Option.some.inj e1] at e2
            exact e2
  have rv := vals_ints hi
  cases hk : K.lookup a with
  | some o =>
    have e := inK a o hk
    rw [ha] at e
    cases e
    exact go (fun _ => none) (fun _ => .inl rfl) (.inr ⟨_, vs.toArray, _, hk, rfl, rfl, rfl, by rw [List.size_toArray, hi.length]; exact hl, by simpa using rv⟩) (fun b u z => by cases z) fun b z => absurd rfl z
  | none =>
    have at_ : ∀ {b : Addr} {u : HO}, (if b = a then some (HO.frz { cls := .type "list", data := .seq vs.toArray } (.lst (ns.map V.int))) else none) = some u → b = a ∧ u = .frz { cls := .type "list", data := .seq vs.toArray } (.lst (ns.map V.int)) := fun {b u} z => by
      by_cases hb : b = a
      · rw [if_pos hb] at z
        exact ⟨hb, (Option.some.inj z).symm⟩
      · rw [if_neg hb] at z
        cases z
    refine go (fun b => if b = a then some (.frz { cls := .type "list", data := .seq vs.toArray } (.lst (ns.map V.int))) else none) (fun b => ?_) (.inl (.inr ⟨{ cls := .type "list", data := .seq vs.toArray }, if_pos rfl⟩)) (fun b u z => ?_) fun b z => ?_
    · by_cases hb : b = a
      · exact .inr ⟨_, _, if_pos hb⟩
      · exact .inl (if_neg hb)
    · obtain ⟨rfl, rfl⟩ := at_ z
      exact ⟨ha, by rw [List.length_map]; exact hl, vs, _, rv, ha⟩
    · by_cases hb : b = a
      · exact ⟨hb, hk⟩
      · exact absurd (if_neg hb) z
theorem walk_ofG {l : PySem.W.OpenLaw} {n k : Nat} {q : Program} {loose : List Str} {XP : (Str → Option Value) → Heap → Prop} {YP : World → Heap → Prop} {d : DefRec} {K : Params → PySem.W.Frag} {sp : World → PySem.W.Frag → Sp} {x : Str} (hn : l.most = some n) (hz : n ≤ sizeLine) (hdf : d.params.defaults = []) (hr : Room k callerA) (hY : ∀ (w : World) (h : Heap), YP w h → (K w.params).In h)
    (F : ∀ (w : World) (mg : Str → Option Value) (fa : Addr) (h : Heap), (K w.params).In h → h.Ns mainGlobals mg → mg d.name = some (.ref fa) → ∃ fd : FuncData, (∀ (s : Shared) (u : Value), BindsTo s fd ⟨[u], []⟩ [(x, u)]) ∧ ∀ base : Heap, (K w.params).In base → base.Ns mainGlobals mg → FnG l.prog w (K w.params) mg base k fa fd [x] (sp w (K w.params)))
    (hsp : ∀ (w : World) (K : PySem.W.Frag) (H : Hp) (a : Addr) (ns : List Int), ns.length ≤ n → Only H → SqL K H a (ns.map V.int) → sp w K [.ref a] H (fun v _ => v = .bl true) fun _ _ _ => False) : PySem.W.WalkO q loose XP YP l.row.toRowW d [] (fun f vs => PySem.call f vs) := by
  refine Att.attach_call hn hdf fun w s0 s1 mg mb fa o pm cd doc a vs ns G Y ho hd hcd hmg hobj hints hlen hg => ?_
  obtain ⟨fd, hb, hF⟩ := F w mg fa _ (hY w _ Y) G.T.g hmg
  exact law_callG (hY w _ Y) G.T.g G.T.b G.T.builtins G.T.nolimit hg hobj hints (Nat.le_trans hlen hz) hr hF hb fun H hO hS => hsp w _ H a ns hlen hO hS
end Nos
/-! What the top has left, fact by fact. -/
namespace Nos
open PySem PySem.Spec PyProof.Rows L2
open C8 (Met Cal Mak Def fnScope fnArgs fnBody)
abbrev Bi (x qual : Str) (st : Stmt) (ps : List Str) : Prop := ∀ (kV doc pm : Value) (an : Option Addr) (cdv ct : Value) (us : List Value), us.length = ps.length → bindArgs (PySem.W.fnOf x qual (fnArgs st) (fnBody st) (fnScope st) .none kV doc pm an cdv ct) ⟨us, []⟩ = pure (ps.zip us)
section
variable {K : PySem.W.Frag} {h : Heap} {mg : Str → Option Value} {x m qual : Str} {st : Stmt} {ps : List Str} {f C p : Addr} {oc kV doc pm cdv ct : Value} {od an : Option Addr} {osl : Array (Option Value)}
theorem defT_mk (X : K.In h) (G : h.Ns mainGlobals mg) (hb : Bi x x st ps) (a : PySem.W.nsIn K mainGlobals x = some (some (.ref f))) (l : K.lookup f = some ⟨oc, od, .func (PySem.W.fnOf x x (fnArgs st) (fnBody st) (fnScope st) .none kV doc pm an cdv ct), osl⟩)
    (c : PySem.W.codeIn K cdv x = true) (k : PySem.W.keepIn K (.ref f) = true) : DefT K mg x st ps :=
  have F : C8.Fun K x x st f _ := ⟨oc, od, .none, kV, doc, pm, an, cdv, ct, osl, rfl, l, c⟩
  ⟨f, _, ⟨F, PySem.W.mg_of X G a, k⟩, F.binds rfl hb⟩
theorem metT_mk (cl : Cls K C) (hb : Bi m qual st ps) (a : PySem.W.findIn K (.ref C) m = some (some (.ref f))) (i : PySem.W.isFn K (.ref f) = true) (l : K.lookup f = some ⟨oc, od, .func (PySem.W.fnOf m qual (fnArgs st) (fnBody st) (fnScope st) .none kV doc pm an cdv ct), osl⟩)
    (c : PySem.W.codeIn K cdv qual = true) (k : PySem.W.keepIn K (.ref f) = true) : MetT K C m qual st ps :=
  have F : C8.Fun K m qual st f _ := ⟨oc, od, .none, kV, doc, pm, an, cdv, ct, osl, rfl, l, c⟩
  ⟨f, _, cl, ⟨a, i, k⟩, F, F.binds rfl hb⟩
theorem staT_mk {rest : List Value} (hb : Bi m qual st ps) (a : PySem.W.findCls K (.ref C) (.type "type") m = some (.get (.builtin "staticmethod.__get__") (.ref p) .none (.ref C))) (r : PySem.W.recIn K p "staticmethod" = some (.ref f :: rest)) (l : K.lookup f = some ⟨oc, od, .func (PySem.W.fnOf m qual (fnArgs st) (fnBody st) (fnScope st) .none kV doc pm an cdv ct), osl⟩)
    (c : PySem.W.codeIn K cdv qual = true) (k : PySem.W.keepIn K (.ref f) = true) : StaT K C (.type "type") m qual st ps :=
  have F : C8.Fun K m qual st f _ := ⟨oc, od, .none, kV, doc, pm, an, cdv, ct, osl, rfl, l, c⟩
  ⟨p, f, _, ⟨a, ⟨rest, r⟩, k⟩, F, F.binds rfl hb⟩
theorem makT_mk (g : mg x = some (.ref C)) (hb : Bi "__init__" qual st ps) (mk : PySem.W.makesIn K C = true) (a : PySem.W.findIn K (.ref C) "__init__" = some (some (.ref f))) (i : PySem.W.isFn K (.ref f) = true) (k : PySem.W.keepIn K (.ref C) = true)
    (l : K.lookup f = some ⟨oc, od, .func (PySem.W.fnOf "__init__" qual (fnArgs st) (fnBody st) (fnScope st) .none kV doc pm an cdv ct), osl⟩) (c : PySem.W.codeIn K cdv qual = true) : MakT K mg x C qual st ps :=
  have F : C8.Fun K "__init__" qual st f _ := ⟨oc, od, .none, kV, doc, pm, an, cdv, ct, osl, rfl, l, c⟩
  ⟨f, _, ⟨mk, a, i, k⟩, g, F, F.binds rfl hb⟩
theorem cls_mk (a : PySem.W.plainGet K C Str.empty = true) (b : PySem.W.hasDictIn K C = true) (c : PySem.W.plainOver K C = true) (d : PySem.W.findIn K (.ref C) "__setattr__" = some (some (.builtin "object.__setattr__"))) : Cls K C := ⟨a, b, c, d⟩
/-- the same of a def whose defaults stand in a tuple at p -/
abbrev BiD (x qual : Str) (st : Stmt) (ps : List Str) (n d j : Nat) : Prop := ∀ (T : Addr) (kV doc pm : Value) (an : Option Addr) (cdv ct : Value) (us its : List Value), us.length = n → its.length = d →
      ∃ k, bindArgs (PySem.W.fnOf x qual (fnArgs st) (fnBody st) (fnScope st) (.ref T) kV doc pm an cdv ct) ⟨us, []⟩ = seqItems? (.ref T) >>= k ∧ k (some its.toArray) = pure (ps.zip (us ++ its.drop j))
theorem makD_mk {ts : Nat} {oc2 : Value} {od2 : Option Addr} {osl2 : Array (Option Value)} {its ds : List Value} {dvs : List V} (n j : Nat) (g : mg x = some (.ref C)) (hb : BiD "__init__" qual st ps n its.length j) (mk : PySem.W.makesIn K C = true) (a : PySem.W.findIn K (.ref C) "__init__" = some (some (.ref f))) (i : PySem.W.isFn K (.ref f) = true) (k : PySem.W.keepIn K (.ref C) = true)
    (l : K.lookup f = some ⟨oc, od, .func (PySem.W.fnOf "__init__" qual (fnArgs st) (fnBody st) (fnScope st) (.ref p) kV doc pm an cdv ct), osl⟩) (c : PySem.W.codeIn K cdv qual = true) (lp : K.lookup p = some ⟨oc2, od2, .seq its.toArray ts, osl2⟩)
    (v : Vals dvs its) (hd : dvs ≠ []) (hn : n + (dvs.length - j) = ps.length) (hds : ds = its.drop j) : MakD K mg x C qual st ps ds := by
  have F : C8.Fun K "__init__" qual st f _ := ⟨oc, od, .ref p, kV, doc, pm, an, cdv, ct, osl, rfl, l, c⟩
  subst hds
  have hl : dvs.length = its.length := v.length
  refine ⟨f, _, ⟨mk, a, i, k⟩, g, F, fun s us X hlen => ?_⟩
  have l2 : us.length = n := by
    rw [List.length_append, List.length_drop] at hlen
    omega
  obtain ⟨kk, e1, e2⟩ := hb p kV doc pm an cdv ct us its l2 rfl
  refine BindsTo.of_looks fun M => ?_
  rw [e1]
  exact looks_items X lp rfl (by rw [e2]; exact PySem.W.Looks.of_pure rfl)
theorem MakD.t (M : MakD K mg x C qual st ps []) : MakT K mg x C qual st ps := ⟨M.ex⟩
theorem kwT_mk {b q : Addr} {n : Nat} {nm : Str} {oc2 : Value} {od2 : Option Addr} {osl2 : Array (Option Value)} (X : K.In h) (G : h.Ns mainGlobals mg)
    (hb : ∀ (D : Addr) (doc pm : Value) (an : Option Addr) (cdv ct : Value) (us ks : List Value), us.length = 1 → ks.length = 1 → KwChain D (([nm] : List Str).zip ks) (bindArgs (PySem.W.fnOf x x (fnArgs st) (fnBody st) (fnScope st) .none (.ref D) doc pm an cdv ct) ⟨us, []⟩) (ps.zip (us ++ ks)))
    (hn : 1 + 1 = ps.length) (a : PySem.W.nsIn K mainGlobals x = some (some (.ref f))) (l : K.lookup f = some ⟨oc, od, .func (PySem.W.fnOf x x (fnArgs st) (fnBody st) (fnScope st) .none (.ref q) doc pm an cdv ct), osl⟩)
    (c : PySem.W.codeIn K cdv x = true) (k : PySem.W.keepIn K (.ref f) = true) (d : PySem.W.nsIn K q nm = some (some (.ref b))) (lb : K.lookup b = some ⟨.type "tuple", od2, .seq #[] n, osl2⟩) : KwT K mg x st ps := by
  have F : C8.Fun K x x st f _ := ⟨oc, od, .none, .ref q, doc, pm, an, cdv, ct, osl, rfl, l, c⟩
  have FD : FunD K x x (fnArgs st) (fnBody st) (fnScope st) [] [(nm, V.ref b)] f (PySem.W.fnOf x x (fnArgs st) (fnBody st) (fnScope st) .none (.ref q) doc pm an cdv ct) := ⟨⟨oc, od, .none, .ref q, doc, pm, an, cdv, ct, osl, rfl, l, c, .inl ⟨rfl, rfl⟩, .inr ⟨q, rfl, fun r hr => by
    rw [List.mem_singleton.mp hr]
    exact ⟨.ref b, d, rfl⟩⟩⟩, k⟩
  obtain ⟨ds, hv, B⟩ := FD.binds0 (ps := ps) 1 (by simp) hn hb
  have e : ds = [.ref b] := by
    cases hv with
    | cons r t =>
      cases t
      exact congrArg (fun z => [z]) r
  subst e
  exact ⟨f, _, b, ⟨F, PySem.W.mg_of X G a, k⟩, B, _, n, lb, rfl, rfl⟩
end
end Nos
/-! The end: what the top has left is what the walk asks. -/
namespace Nos
open PySem PySem.Spec PyProof.Rows L2
open C8 (Met Cal Mak Def fnScope fnArgs fnBody)
/-! ### binding -/
theorem bi_Game_init : Bi "__init__" "Game.__init__" s_Game_init ["self", "task", "without"] := fun _ _ _ _ _ _ us hl => match us, hl with | [_, _, _], _ => rfl
theorem bi_Game_added_edges : Bi "added_edges" "Game.added_edges" s_Game_added_edges ["self", "world", "reached", "state", "action"] := fun _ _ _ _ _ _ us hl => match us, hl with | [_, _, _, _, _], _ => rfl
theorem bi_forced_action : Bi "forced_action" "forced_action" s_forced_action ["game", "good", "bad", "table", "state"] := fun _ _ _ _ _ _ us hl => match us, hl with | [_, _, _, _, _], _ => rfl
theorem bi_close_table : Bi "close_table" "close_table" s_close_table ["game", "good", "bad", "table"] := fun _ _ _ _ _ _ us hl => match us, hl with | [_, _, _, _], _ => rfl
theorem bi_falling_of : Bi "falling_of" "falling_of" s_falling_of ["game", "good", "bad", "counters", "counter", "table"] := fun _ _ _ _ _ _ us hl => match us, hl with | [_, _, _, _, _, _], _ => rfl
theorem bi_won_by : Bi "won_by" "won_by" s_won_by ["game", "good", "bad", "counters"] := fun _ _ _ _ _ _ us hl => match us, hl with | [_, _, _, _], _ => rfl
theorem bi_solve_game : Bi "solve_game" "solve_game" s_solve_game ["game"] := fun _ _ _ _ _ _ us hl => match us, hl with | [_], _ => rfl
theorem bi_is_name : Bi "is_name" "is_name" s_is_name ["text"] := fun _ _ _ _ _ _ us hl => match us, hl with | [_], _ => rfl
theorem bi_ascending : Bi "ascending" "ascending" s_ascending ["names"] := fun _ _ _ _ _ _ us hl => match us, hl with | [_], _ => rfl
theorem bi_Action_init : Bi "__init__" "Action.__init__" s_Action_init ["self", "need", "outcomes"] := fun _ _ _ _ _ _ us hl => match us, hl with | [_, _, _], _ => rfl
theorem bi_Action_outcome : Bi "outcome" "Action.outcome" s_Action_outcome ["self", "index"] := fun _ _ _ _ _ _ us hl => match us, hl with | [_, _], _ => rfl
theorem bi_Action_len : Bi "__len__" "Action.__len__" s_Action_len ["self"] := fun _ _ _ _ _ _ us hl => match us, hl with | [_], _ => rfl
theorem bi_check_lists : Bi "check_lists" "check_lists" s_check_lists ["lists"] := fun _ _ _ _ _ _ us hl => match us, hl with | [_], _ => rfl
theorem bi_copied_action : Bi "copied_action" "copied_action" s_copied_action ["action"] := fun _ _ _ _ _ _ us hl => match us, hl with | [_], _ => rfl
theorem bi_sub_tuples : Bi "sub_tuples" "sub_tuples" s_sub_tuples ["some"] := fun _ _ _ _ _ _ us hl => match us, hl with | [_], _ => rfl
theorem bi_same_world : Bi "same_world" "same_world" s_same_world ["world"] := fun _ _ _ _ _ _ us hl => match us, hl with | [_], _ => rfl
theorem bi_World_seen : Bi "seen" "World.seen" s_World_seen ["self"] := fun _ _ _ _ _ _ us hl => match us, hl with | [_], _ => rfl
theorem bi_World_counters : Bi "counters" "World.counters" s_World_counters ["self"] := fun _ _ _ _ _ _ us hl => match us, hl with | [_], _ => rfl
theorem bi_World_copy : Bi "copy" "World.copy" s_World_copy ["self"] := fun _ _ _ _ _ _ us hl => match us, hl with | [_], _ => rfl
theorem bi_World_check_change_of : Bi "check_change_of" "World.check_change_of" s_World_check_change_of ["self", "name", "change"] := fun _ _ _ _ _ _ us hl => match us, hl with | [_, _, _], _ => rfl
theorem bi_World_takes_reserve : Bi "takes_reserve" "World.takes_reserve" s_World_takes_reserve ["self", "outcome"] := fun _ _ _ _ _ _ us hl => match us, hl with | [_, _], _ => rfl
theorem bi_World_check_action : Bi "check_action" "World.check_action" s_World_check_action ["self", "name", "action"] := fun _ _ _ _ _ _ us hl => match us, hl with | [_, _, _], _ => rfl
theorem bi_World_states : Bi "states" "World.states" s_World_states ["self"] := fun _ _ _ _ _ _ us hl => match us, hl with | [_], _ => rfl
theorem bi_World_state_of : Bi "state_of" "World.state_of" s_World_state_of ["self", "names"] := fun _ _ _ _ _ _ us hl => match us, hl with | [_, _], _ => rfl
theorem bi_World_fits : Bi "fits" "World.fits" s_World_fits ["self", "state", "name"] := fun _ _ _ _ _ _ us hl => match us, hl with | [_, _, _], _ => rfl
theorem bi_World_possible : Bi "possible" "World.possible" s_World_possible ["self", "state"] := fun _ _ _ _ _ _ us hl => match us, hl with | [_, _], _ => rfl
theorem bi_World_checked : Bi "checked" "World.checked" s_World_checked ["self", "state", "action"] := fun _ _ _ _ _ _ us hl => match us, hl with | [_, _, _], _ => rfl
theorem bi_World_behind : Bi "behind" "World.behind" s_World_behind ["self", "state", "outcome", "gone"] := fun _ _ _ _ _ _ us hl => match us, hl with | [_, _, _, _], _ => rfl
theorem bi_World_results : Bi "results" "World.results" s_World_results ["self", "state", "action"] := fun _ _ _ _ _ _ us hl => match us, hl with | [_, _, _], _ => rfl
theorem bi_World_shifts : Bi "shifts" "World.shifts" s_World_shifts ["self", "state", "action", "index"] := fun _ _ _ _ _ _ us hl => match us, hl with | [_, _, _, _], _ => rfl
theorem bi_World_setitem : Bi "__setitem__" "World.__setitem__" s_World_setitem ["self", "name", "action"] := fun _ _ _ _ _ _ us hl => match us, hl with | [_, _, _], _ => rfl
theorem bi_tree_holds : Bi "tree_holds" "tree_holds" s_tree_holds ["tree", "names"] := fun _ _ _ _ _ _ us hl => match us, hl with | [_, _], _ => rfl
theorem bi_names_in : Bi "names_in" "names_in" s_names_in ["tree"] := fun _ _ _ _ _ _ us hl => match us, hl with | [_], _ => rfl
theorem bi_Condition_init : Bi "__init__" "Condition.__init__" s_Condition_init ["self", "tree"] := fun _ _ _ _ _ _ us hl => match us, hl with | [_, _], _ => rfl
theorem bi_Condition_of : Bi "of" "Condition.of" s_Condition_of ["name"] := fun _ _ _ _ _ _ us hl => match us, hl with | [_], _ => rfl
theorem bi_Condition_always : Bi "always" "Condition.always" s_Condition_always [] := fun _ _ _ _ _ _ us hl => match us, hl with | [], _ => rfl
theorem bi_Condition_never : Bi "never" "Condition.never" s_Condition_never [] := fun _ _ _ _ _ _ us hl => match us, hl with | [], _ => rfl
theorem bi_Condition_names : Bi "names" "Condition.names" s_Condition_names ["self"] := fun _ _ _ _ _ _ us hl => match us, hl with | [_], _ => rfl
theorem bi_Condition_call : Bi "__call__" "Condition.__call__" s_Condition_call ["self", "names"] := fun _ _ _ _ _ _ us hl => match us, hl with | [_, _], _ => rfl
theorem bi_Condition_and : Bi "__and__" "Condition.__and__" s_Condition_and ["self", "other"] := fun _ _ _ _ _ _ us hl => match us, hl with | [_, _], _ => rfl
theorem bi_Condition_or : Bi "__or__" "Condition.__or__" s_Condition_or ["self", "other"] := fun _ _ _ _ _ _ us hl => match us, hl with | [_, _], _ => rfl
theorem bi_Condition_invert : Bi "__invert__" "Condition.__invert__" s_Condition_invert ["self"] := fun _ _ _ _ _ _ us hl => match us, hl with | [_], _ => rfl
theorem bi_check_change : Bi "check_change" "check_change" s_check_change ["name", "change"] := fun _ _ _ _ _ _ us hl => match us, hl with | [_, _], _ => rfl
theorem bi_Outcome_names : Bi "names" "Outcome.names" s_Outcome_names ["self"] := fun _ _ _ _ _ _ us hl => match us, hl with | [_], _ => rfl
theorem bi_Outcome_copy : Bi "copy" "Outcome.copy" s_Outcome_copy ["self"] := fun _ _ _ _ _ _ us hl => match us, hl with | [_], _ => rfl
theorem bi_Outcome_getitem : Bi "__getitem__" "Outcome.__getitem__" s_Outcome_getitem ["self", "name"] := fun _ _ _ _ _ _ us hl => match us, hl with | [_, _], _ => rfl
theorem bi_check_condition : Bi "check_condition" "check_condition" s_check_condition ["world", "condition"] := fun _ _ _ _ _ _ us hl => match us, hl with | [_, _], _ => rfl
theorem bi_Task_init : Bi "__init__" "Task.__init__" s_Task_init ["self", "world", "start", "goal"] := fun _ _ _ _ _ _ us hl => match us, hl with | [_, _, _, _], _ => rfl
theorem bi_Task_base : Bi "base" "Task.base" s_Task_base ["self"] := fun _ _ _ _ _ _ us hl => match us, hl with | [_], _ => rfl
theorem bi_Task_goals : Bi "goals" "Task.goals" s_Task_goals ["self"] := fun _ _ _ _ _ _ us hl => match us, hl with | [_], _ => rfl
theorem bi_l_draw : Bi "_law_draw" "_law_draw" s_l_draw ["_law_stream", "_law_many"] := fun _ _ _ _ _ _ us hl => match us, hl with | [_, _], _ => rfl
theorem bi_l_pick : Bi "_law_pick" "_law_pick" s_l_pick ["_law_stream", "_law_some"] := fun _ _ _ _ _ _ us hl => match us, hl with | [_, _], _ => rfl
theorem bi_l_mixed : Bi "_law_mixed" "_law_mixed" s_l_mixed ["_law_stream", "_law_some"] := fun _ _ _ _ _ _ us hl => match us, hl with | [_, _], _ => rfl
theorem bi_l_same : Bi "_law_same" "_law_same" s_l_same ["_law_found", "_law_due"] := fun _ _ _ _ _ _ us hl => match us, hl with | [_, _], _ => rfl
theorem bi_l_name : Bi "_law_name" "_law_name" s_l_name ["_law_stream", "_law_taken"] := fun _ _ _ _ _ _ us hl => match us, hl with | [_, _], _ => rfl
theorem bi_l_names : Bi "_law_names" "_law_names" s_l_names ["_law_stream", "_law_many", "_law_taken"] := fun _ _ _ _ _ _ us hl => match us, hl with | [_, _, _], _ => rfl
theorem bi_l_condition : Bi "_law_condition" "_law_condition" s_l_condition ["_law_stream", "_law_names_here", "_law_deep"] := fun _ _ _ _ _ _ us hl => match us, hl with | [_, _, _], _ => rfl
theorem bi_l_holds : Bi "_law_holds" "_law_holds" s_l_holds ["_law_tree", "_law_names_here"] := fun _ _ _ _ _ _ us hl => match us, hl with | [_, _], _ => rfl
theorem bi_l_built : Bi "_law_built" "_law_built" s_l_built ["_law_tree"] := fun _ _ _ _ _ _ us hl => match us, hl with | [_], _ => rfl
theorem bi_l_seen : Bi "_law_seen" "_law_seen" s_l_seen ["_law_w"] := fun _ _ _ _ _ _ us hl => match us, hl with | [_], _ => rfl
theorem bi_l_counters : Bi "_law_counters" "_law_counters" s_l_counters ["_law_w"] := fun _ _ _ _ _ _ us hl => match us, hl with | [_], _ => rfl
theorem bi_l_changes : Bi "_law_changes" "_law_changes" s_l_changes ["_law_stream", "_law_w", "_law_free"] := fun _ _ _ _ _ _ us hl => match us, hl with | [_, _, _], _ => rfl
theorem bi_l_action : Bi "_law_action" "_law_action" s_l_action ["_law_stream", "_law_w", "_law_name_here", "_law_most"] := fun _ _ _ _ _ _ us hl => match us, hl with | [_, _, _, _], _ => rfl
theorem bi_l_lists : Bi "_law_lists" "_law_lists" s_l_lists ["_law_stream", "_law_facts", "_law_piles", "_law_reserves"] := fun _ _ _ _ _ _ us hl => match us, hl with | [_, _, _, _], _ => rfl
theorem bi_l_made : Bi "_law_made" "_law_made" s_l_made ["_law_w"] := fun _ _ _ _ _ _ us hl => match us, hl with | [_], _ => rfl
theorem bi_l_states : Bi "_law_states" "_law_states" s_l_states ["_law_w"] := fun _ _ _ _ _ _ us hl => match us, hl with | [_], _ => rfl
theorem bi_l_behind : Bi "_law_behind" "_law_behind" s_l_behind ["_law_w", "_law_state", "_law_changes_here", "_law_gone"] := fun _ _ _ _ _ _ us hl => match us, hl with | [_, _, _, _], _ => rfl
theorem bi_l_taking : Bi "_law_taking" "_law_taking" s_l_taking ["_law_w", "_law_changes_here"] := fun _ _ _ _ _ _ us hl => match us, hl with | [_, _], _ => rfl
theorem bi_l_fits : Bi "_law_fits" "_law_fits" s_l_fits ["_law_w", "_law_state", "_law_action_here"] := fun _ _ _ _ _ _ us hl => match us, hl with | [_, _, _], _ => rfl
theorem bi_l_possible : Bi "_law_possible" "_law_possible" s_l_possible ["_law_w", "_law_state"] := fun _ _ _ _ _ _ us hl => match us, hl with | [_, _], _ => rfl
theorem bi_l_set : Bi "_law_set" "_law_set" s_l_set ["_law_w"] := fun _ _ _ _ _ _ us hl => match us, hl with | [_], _ => rfl
theorem bi_l_where : Bi "_law_where" "_law_where" s_l_where ["_law_w", "_law_tree"] := fun _ _ _ _ _ _ us hl => match us, hl with | [_, _], _ => rfl
theorem bi_l_pairs : Bi "_law_pairs" "_law_pairs" s_l_pairs ["_law_w", "_law_most"] := fun _ _ _ _ _ _ us hl => match us, hl with | [_, _], _ => rfl
theorem bi_l_later : Bi "_law_later" "_law_later" s_l_later ["_law_w", "_law_most", "_law_pair", "_law_changes_here"] := fun _ _ _ _ _ _ us hl => match us, hl with | [_, _, _, _], _ => rfl
theorem bi_l_offers : Bi "_law_offers" "_law_offers" s_l_offers ["_law_w", "_law_most", "_law_pair"] := fun _ _ _ _ _ _ us hl => match us, hl with | [_, _, _], _ => rfl
theorem bi_law : Bi "law" "law" s_law ["_law_script"] := fun _ _ _ _ _ _ us hl => match us, hl with | [_], _ => rfl
theorem bi_World5 : BiD "__init__" "World.__init__" s_World_init ["self", "facts", "piles", "reserves", "table"] 5 4 4 := fun _ _ _ _ _ _ _ us its hu hi => match us, its, hu, hi with | [_, _, _, _, _], [_, _, _, _], _, _ => ⟨_, rfl, rfl⟩
theorem bi_World4 : BiD "__init__" "World.__init__" s_World_init ["self", "facts", "piles", "reserves", "table"] 4 4 3 := fun _ _ _ _ _ _ _ us its hu hi => match us, its, hu, hi with | [_, _, _, _], [_, _, _, _], _, _ => ⟨_, rfl, rfl⟩
theorem bi_Outcome : BiD "__init__" "Outcome.__init__" s_Outcome_init ["self", "changes"] 2 1 1 := fun _ _ _ _ _ _ _ us its hu hi => match us, its, hu, hi with | [_, _], [_], _, _ => ⟨_, rfl, rfl⟩
theorem bi_won : ∀ (D : Addr) (doc pm : Value) (an : Option Addr) (cdv ct : Value) (us ks : List Value), us.length = 1 → ks.length = 1 → KwChain D ((["without"] : List Str).zip ks) (bindArgs (PySem.W.fnOf "won_states" "won_states" (fnArgs s_won_states) (fnBody s_won_states) (fnScope s_won_states) .none (.ref D) doc pm an cdv ct) ⟨us, []⟩) ((["task", "without"] : List Str).zip (us ++ ks)) := fun _ _ _ _ _ _ us ks hu hk => match us, ks, hu, hk with | [_], [_], _, _ => ⟨_, _, _, _, _, _, rfl, rfl, rfl⟩
/-! ### what is looked at -/
def d_Game_init : He.DefD := ⟨("Game", some "__init__"), "__init__", "Game.__init__", fnArgs s_Game_init, fnBody s_Game_init, fnScope s_Game_init, [], []⟩
def d_Game_added_edges : He.DefD := ⟨("Game", some "added_edges"), "added_edges", "Game.added_edges", fnArgs s_Game_added_edges, fnBody s_Game_added_edges, fnScope s_Game_added_edges, [], []⟩
def d_forced_action : He.DefD := ⟨("forced_action", none), "forced_action", "forced_action", fnArgs s_forced_action, fnBody s_forced_action, fnScope s_forced_action, [], []⟩
def d_close_table : He.DefD := ⟨("close_table", none), "close_table", "close_table", fnArgs s_close_table, fnBody s_close_table, fnScope s_close_table, [], []⟩
def d_falling_of : He.DefD := ⟨("falling_of", none), "falling_of", "falling_of", fnArgs s_falling_of, fnBody s_falling_of, fnScope s_falling_of, [], []⟩
def d_won_by : He.DefD := ⟨("won_by", none), "won_by", "won_by", fnArgs s_won_by, fnBody s_won_by, fnScope s_won_by, [], []⟩
def d_solve_game : He.DefD := ⟨("solve_game", none), "solve_game", "solve_game", fnArgs s_solve_game, fnBody s_solve_game, fnScope s_solve_game, [], []⟩
def d_is_name : He.DefD := ⟨("is_name", none), "is_name", "is_name", fnArgs s_is_name, fnBody s_is_name, fnScope s_is_name, [], []⟩
def d_ascending : He.DefD := ⟨("ascending", none), "ascending", "ascending", fnArgs s_ascending, fnBody s_ascending, fnScope s_ascending, [], []⟩
def d_Action_init : He.DefD := ⟨("Action", some "__init__"), "__init__", "Action.__init__", fnArgs s_Action_init, fnBody s_Action_init, fnScope s_Action_init, [], []⟩
def d_Action_outcome : He.DefD := ⟨("Action", some "outcome"), "outcome", "Action.outcome", fnArgs s_Action_outcome, fnBody s_Action_outcome, fnScope s_Action_outcome, [], []⟩
def d_Action_len : He.DefD := ⟨("Action", some "__len__"), "__len__", "Action.__len__", fnArgs s_Action_len, fnBody s_Action_len, fnScope s_Action_len, [], []⟩
def d_check_lists : He.DefD := ⟨("check_lists", none), "check_lists", "check_lists", fnArgs s_check_lists, fnBody s_check_lists, fnScope s_check_lists, [], []⟩
def d_copied_action : He.DefD := ⟨("copied_action", none), "copied_action", "copied_action", fnArgs s_copied_action, fnBody s_copied_action, fnScope s_copied_action, [], []⟩
def d_sub_tuples : He.DefD := ⟨("sub_tuples", none), "sub_tuples", "sub_tuples", fnArgs s_sub_tuples, fnBody s_sub_tuples, fnScope s_sub_tuples, [], []⟩
def d_same_world : He.DefD := ⟨("same_world", none), "same_world", "same_world", fnArgs s_same_world, fnBody s_same_world, fnScope s_same_world, [], []⟩
def d_World_init : He.DefD := ⟨("World", some "__init__"), "__init__", "World.__init__", fnArgs s_World_init, fnBody s_World_init, fnScope s_World_init, [.adr fun _ => 359, .adr fun _ => 360, .adr fun _ => 361, .non], []⟩
def d_World_seen : He.DefD := ⟨("World", some "seen"), "seen", "World.seen", fnArgs s_World_seen, fnBody s_World_seen, fnScope s_World_seen, [], []⟩
def d_World_counters : He.DefD := ⟨("World", some "counters"), "counters", "World.counters", fnArgs s_World_counters, fnBody s_World_counters, fnScope s_World_counters, [], []⟩
def d_World_copy : He.DefD := ⟨("World", some "copy"), "copy", "World.copy", fnArgs s_World_copy, fnBody s_World_copy, fnScope s_World_copy, [], []⟩
def d_World_check_change_of : He.DefD := ⟨("World", some "check_change_of"), "check_change_of", "World.check_change_of", fnArgs s_World_check_change_of, fnBody s_World_check_change_of, fnScope s_World_check_change_of, [], []⟩
def d_World_takes_reserve : He.DefD := ⟨("World", some "takes_reserve"), "takes_reserve", "World.takes_reserve", fnArgs s_World_takes_reserve, fnBody s_World_takes_reserve, fnScope s_World_takes_reserve, [], []⟩
def d_World_check_action : He.DefD := ⟨("World", some "check_action"), "check_action", "World.check_action", fnArgs s_World_check_action, fnBody s_World_check_action, fnScope s_World_check_action, [], []⟩
def d_World_states : He.DefD := ⟨("World", some "states"), "states", "World.states", fnArgs s_World_states, fnBody s_World_states, fnScope s_World_states, [], []⟩
def d_World_state_of : He.DefD := ⟨("World", some "state_of"), "state_of", "World.state_of", fnArgs s_World_state_of, fnBody s_World_state_of, fnScope s_World_state_of, [], []⟩
def d_World_fits : He.DefD := ⟨("World", some "fits"), "fits", "World.fits", fnArgs s_World_fits, fnBody s_World_fits, fnScope s_World_fits, [], []⟩
def d_World_possible : He.DefD := ⟨("World", some "possible"), "possible", "World.possible", fnArgs s_World_possible, fnBody s_World_possible, fnScope s_World_possible, [], []⟩
def d_World_checked : He.DefD := ⟨("World", some "checked"), "checked", "World.checked", fnArgs s_World_checked, fnBody s_World_checked, fnScope s_World_checked, [], []⟩
def d_World_behind : He.DefD := ⟨("World", some "behind"), "behind", "World.behind", fnArgs s_World_behind, fnBody s_World_behind, fnScope s_World_behind, [], []⟩
def d_World_results : He.DefD := ⟨("World", some "results"), "results", "World.results", fnArgs s_World_results, fnBody s_World_results, fnScope s_World_results, [], []⟩
def d_World_shifts : He.DefD := ⟨("World", some "shifts"), "shifts", "World.shifts", fnArgs s_World_shifts, fnBody s_World_shifts, fnScope s_World_shifts, [], []⟩
def d_World_setitem : He.DefD := ⟨("World", some "__setitem__"), "__setitem__", "World.__setitem__", fnArgs s_World_setitem, fnBody s_World_setitem, fnScope s_World_setitem, [], []⟩
def d_won_states : He.DefD := ⟨("won_states", none), "won_states", "won_states", fnArgs s_won_states, fnBody s_won_states, fnScope s_won_states, [], [("without", .adr fun _ => 560)]⟩
def d_tree_holds : He.DefD := ⟨("tree_holds", none), "tree_holds", "tree_holds", fnArgs s_tree_holds, fnBody s_tree_holds, fnScope s_tree_holds, [], []⟩
def d_names_in : He.DefD := ⟨("names_in", none), "names_in", "names_in", fnArgs s_names_in, fnBody s_names_in, fnScope s_names_in, [], []⟩
def d_Condition_init : He.DefD := ⟨("Condition", some "__init__"), "__init__", "Condition.__init__", fnArgs s_Condition_init, fnBody s_Condition_init, fnScope s_Condition_init, [], []⟩
def d_Condition_names : He.DefD := ⟨("Condition", some "names"), "names", "Condition.names", fnArgs s_Condition_names, fnBody s_Condition_names, fnScope s_Condition_names, [], []⟩
def d_Condition_call : He.DefD := ⟨("Condition", some "__call__"), "__call__", "Condition.__call__", fnArgs s_Condition_call, fnBody s_Condition_call, fnScope s_Condition_call, [], []⟩
def d_Condition_and : He.DefD := ⟨("Condition", some "__and__"), "__and__", "Condition.__and__", fnArgs s_Condition_and, fnBody s_Condition_and, fnScope s_Condition_and, [], []⟩
def d_Condition_or : He.DefD := ⟨("Condition", some "__or__"), "__or__", "Condition.__or__", fnArgs s_Condition_or, fnBody s_Condition_or, fnScope s_Condition_or, [], []⟩
def d_Condition_invert : He.DefD := ⟨("Condition", some "__invert__"), "__invert__", "Condition.__invert__", fnArgs s_Condition_invert, fnBody s_Condition_invert, fnScope s_Condition_invert, [], []⟩
def d_check_change : He.DefD := ⟨("check_change", none), "check_change", "check_change", fnArgs s_check_change, fnBody s_check_change, fnScope s_check_change, [], []⟩
def d_Outcome_init : He.DefD := ⟨("Outcome", some "__init__"), "__init__", "Outcome.__init__", fnArgs s_Outcome_init, fnBody s_Outcome_init, fnScope s_Outcome_init, [.non], []⟩
def d_Outcome_names : He.DefD := ⟨("Outcome", some "names"), "names", "Outcome.names", fnArgs s_Outcome_names, fnBody s_Outcome_names, fnScope s_Outcome_names, [], []⟩
def d_Outcome_copy : He.DefD := ⟨("Outcome", some "copy"), "copy", "Outcome.copy", fnArgs s_Outcome_copy, fnBody s_Outcome_copy, fnScope s_Outcome_copy, [], []⟩
def d_Outcome_getitem : He.DefD := ⟨("Outcome", some "__getitem__"), "__getitem__", "Outcome.__getitem__", fnArgs s_Outcome_getitem, fnBody s_Outcome_getitem, fnScope s_Outcome_getitem, [], []⟩
def d_check_condition : He.DefD := ⟨("check_condition", none), "check_condition", "check_condition", fnArgs s_check_condition, fnBody s_check_condition, fnScope s_check_condition, [], []⟩
def d_Task_init : He.DefD := ⟨("Task", some "__init__"), "__init__", "Task.__init__", fnArgs s_Task_init, fnBody s_Task_init, fnScope s_Task_init, [], []⟩
def d_Task_base : He.DefD := ⟨("Task", some "base"), "base", "Task.base", fnArgs s_Task_base, fnBody s_Task_base, fnScope s_Task_base, [], []⟩
def d_Task_goals : He.DefD := ⟨("Task", some "goals"), "goals", "Task.goals", fnArgs s_Task_goals, fnBody s_Task_goals, fnScope s_Task_goals, [], []⟩
def d_l_draw : He.DefD := ⟨("_law_draw", none), "_law_draw", "_law_draw", fnArgs s_l_draw, fnBody s_l_draw, fnScope s_l_draw, [], []⟩
def d_l_pick : He.DefD := ⟨("_law_pick", none), "_law_pick", "_law_pick", fnArgs s_l_pick, fnBody s_l_pick, fnScope s_l_pick, [], []⟩
def d_l_mixed : He.DefD := ⟨("_law_mixed", none), "_law_mixed", "_law_mixed", fnArgs s_l_mixed, fnBody s_l_mixed, fnScope s_l_mixed, [], []⟩
def d_l_same : He.DefD := ⟨("_law_same", none), "_law_same", "_law_same", fnArgs s_l_same, fnBody s_l_same, fnScope s_l_same, [], []⟩
def d_l_name : He.DefD := ⟨("_law_name", none), "_law_name", "_law_name", fnArgs s_l_name, fnBody s_l_name, fnScope s_l_name, [], []⟩
def d_l_names : He.DefD := ⟨("_law_names", none), "_law_names", "_law_names", fnArgs s_l_names, fnBody s_l_names, fnScope s_l_names, [], []⟩
def d_l_condition : He.DefD := ⟨("_law_condition", none), "_law_condition", "_law_condition", fnArgs s_l_condition, fnBody s_l_condition, fnScope s_l_condition, [], []⟩
def d_l_holds : He.DefD := ⟨("_law_holds", none), "_law_holds", "_law_holds", fnArgs s_l_holds, fnBody s_l_holds, fnScope s_l_holds, [], []⟩
def d_l_built : He.DefD := ⟨("_law_built", none), "_law_built", "_law_built", fnArgs s_l_built, fnBody s_l_built, fnScope s_l_built, [], []⟩
def d_l_seen : He.DefD := ⟨("_law_seen", none), "_law_seen", "_law_seen", fnArgs s_l_seen, fnBody s_l_seen, fnScope s_l_seen, [], []⟩
def d_l_counters : He.DefD := ⟨("_law_counters", none), "_law_counters", "_law_counters", fnArgs s_l_counters, fnBody s_l_counters, fnScope s_l_counters, [], []⟩
def d_l_changes : He.DefD := ⟨("_law_changes", none), "_law_changes", "_law_changes", fnArgs s_l_changes, fnBody s_l_changes, fnScope s_l_changes, [], []⟩
def d_l_action : He.DefD := ⟨("_law_action", none), "_law_action", "_law_action", fnArgs s_l_action, fnBody s_l_action, fnScope s_l_action, [], []⟩
def d_l_lists : He.DefD := ⟨("_law_lists", none), "_law_lists", "_law_lists", fnArgs s_l_lists, fnBody s_l_lists, fnScope s_l_lists, [], []⟩
def d_l_made : He.DefD := ⟨("_law_made", none), "_law_made", "_law_made", fnArgs s_l_made, fnBody s_l_made, fnScope s_l_made, [], []⟩
def d_l_states : He.DefD := ⟨("_law_states", none), "_law_states", "_law_states", fnArgs s_l_states, fnBody s_l_states, fnScope s_l_states, [], []⟩
def d_l_behind : He.DefD := ⟨("_law_behind", none), "_law_behind", "_law_behind", fnArgs s_l_behind, fnBody s_l_behind, fnScope s_l_behind, [], []⟩
def d_l_taking : He.DefD := ⟨("_law_taking", none), "_law_taking", "_law_taking", fnArgs s_l_taking, fnBody s_l_taking, fnScope s_l_taking, [], []⟩
def d_l_fits : He.DefD := ⟨("_law_fits", none), "_law_fits", "_law_fits", fnArgs s_l_fits, fnBody s_l_fits, fnScope s_l_fits, [], []⟩
def d_l_possible : He.DefD := ⟨("_law_possible", none), "_law_possible", "_law_possible", fnArgs s_l_possible, fnBody s_l_possible, fnScope s_l_possible, [], []⟩
def d_l_set : He.DefD := ⟨("_law_set", none), "_law_set", "_law_set", fnArgs s_l_set, fnBody s_l_set, fnScope s_l_set, [], []⟩
def d_l_where : He.DefD := ⟨("_law_where", none), "_law_where", "_law_where", fnArgs s_l_where, fnBody s_l_where, fnScope s_l_where, [], []⟩
def d_l_pairs : He.DefD := ⟨("_law_pairs", none), "_law_pairs", "_law_pairs", fnArgs s_l_pairs, fnBody s_l_pairs, fnScope s_l_pairs, [], []⟩
def d_l_later : He.DefD := ⟨("_law_later", none), "_law_later", "_law_later", fnArgs s_l_later, fnBody s_l_later, fnScope s_l_later, [], []⟩
def d_l_offers : He.DefD := ⟨("_law_offers", none), "_law_offers", "_law_offers", fnArgs s_l_offers, fnBody s_l_offers, fnScope s_l_offers, [], []⟩
def d_law : He.DefD := ⟨("law", none), "law", "law", fnArgs s_law, fnBody s_law, fnScope s_law, [], []⟩
def fns0 : List He.DefD := [d_Game_init, d_Game_added_edges, d_forced_action, d_close_table, d_falling_of, d_won_by, d_solve_game, d_is_name, d_ascending, d_Action_init, d_Action_outcome, d_Action_len]
def fns1 : List He.DefD := [d_check_lists, d_copied_action, d_sub_tuples, d_same_world, d_World_init, d_World_seen, d_World_counters, d_World_copy, d_World_check_change_of, d_World_takes_reserve, d_World_check_action, d_World_states]
def fns2 : List He.DefD := [d_World_state_of, d_World_fits, d_World_possible, d_World_checked, d_World_behind, d_World_results, d_World_shifts, d_World_setitem, d_won_states, d_tree_holds, d_names_in, d_Condition_init]
def fns3 : List He.DefD := [d_Condition_names, d_Condition_call, d_Condition_and, d_Condition_or, d_Condition_invert, d_check_change, d_Outcome_init, d_Outcome_names, d_Outcome_copy, d_Outcome_getitem, d_check_condition, d_Task_init]
def fns4 : List He.DefD := [d_Task_base, d_Task_goals, d_l_draw, d_l_pick, d_l_mixed, d_l_same, d_l_name, d_l_names, d_l_condition, d_l_holds, d_l_built, d_l_seen]
def fns5 : List He.DefD := [d_l_counters, d_l_changes, d_l_action, d_l_lists, d_l_made, d_l_states, d_l_behind, d_l_taking, d_l_fits, d_l_possible, d_l_set, d_l_where]
def fns6 : List He.DefD := [d_l_pairs, d_l_later, d_l_offers, d_law]
def fns : List He.DefD := fns0 ++ fns1 ++ fns2 ++ fns3 ++ fns4 ++ fns5 ++ fns6
def fas0 : List He.Fa := [.free "len", .free "all", .free "any", .free "sorted", .free "set", .free "str", .free "list", .free "tuple", .free "dict", .free "range", .free "enumerate", .free "repr"]
def fas1 : List He.Fa := [.free "int", .free "isinstance", .free "NotImplemented", .cls "Game", .glo "Game", .noat "Game" "order", .noat "Game" "tallies", .noat "Game" "edges", .noat "Game" "choices", .cls "Action", .glo "Action", .noat "Action" "need"]
def fas2 : List He.Fa := [.noat "Action" "parts", .cls "World", .glo "World", .noat "World" "fact_names", .noat "World" "pile_names", .noat "World" "reserve_names", .noat "World" "table", .cls "Condition", .glo "Condition", .noat "Condition" "tree", .cls "Outcome", .glo "Outcome"]
def fas3 : List He.Fa := [.noat "Outcome" "table", .cls "Task", .glo "Task", .noat "Task" "inner", .noat "Task" "begin", .noat "Task" "aimed", .meth "Outcome" "__getitem__", .meth "Condition" "__call__", .mkr "Game", .meth "Game" "added_edges", .glo "forced_action", .glo "close_table"]
def fas4 : List He.Fa := [.glo "falling_of", .glo "won_by", .glo "solve_game", .glo "is_name", .glo "ascending", .mkr "Action", .meth "Action" "outcome", .meth "Action" "__len__", .glo "check_lists", .glo "copied_action", .glo "sub_tuples", .glo "same_world"]
def fas5 : List He.Fa := [.mkr "World", .meth "World" "seen", .meth "World" "counters", .meth "World" "copy", .meth "World" "check_change_of", .meth "World" "takes_reserve", .meth "World" "check_action", .meth "World" "states", .meth "World" "state_of", .meth "World" "fits", .meth "World" "possible", .meth "World" "checked"]
def fas6 : List He.Fa := [.meth "World" "behind", .meth "World" "results", .meth "World" "shifts", .meth "World" "__setitem__", .glo "won_states", .glo "tree_holds", .glo "names_in", .mkr "Condition", .meth "Condition" "names", .meth "Condition" "__and__", .meth "Condition" "__or__", .meth "Condition" "__invert__"]
def fas7 : List He.Fa := [.glo "check_change", .mkr "Outcome", .meth "Outcome" "names", .meth "Outcome" "copy", .glo "check_condition", .mkr "Task", .meth "Task" "base", .meth "Task" "goals", .glo "_law_draw", .glo "_law_pick", .glo "_law_mixed", .glo "_law_same"]
def fas8 : List He.Fa := [.glo "_law_name", .glo "_law_names", .glo "_law_condition", .glo "_law_holds", .glo "_law_built", .glo "_law_seen", .glo "_law_counters", .glo "_law_changes", .glo "_law_action", .glo "_law_lists", .glo "_law_made", .glo "_law_states"]
def fas9 : List He.Fa := [.glo "_law_behind", .glo "_law_taking", .glo "_law_fits", .glo "_law_possible", .glo "_law_set", .glo "_law_where", .glo "_law_pairs", .glo "_law_later", .glo "_law_offers", .glo "law", .glo "RESERVED", .str "LETTERS" "abcdefghijklmnopqrstuvwxyz"]
def fas : List He.Fa := fas0 ++ fas1 ++ fas2 ++ fas3 ++ fas4 ++ fas5 ++ fas6 ++ fas7 ++ fas8 ++ fas9
def ads0 : List Addr := [2, 3, 555, 723, 808, 885, 323, 43, 554, 722, 807, 884, 322, 42, 32, 33, 39, 40, 51, 52, 58, 59, 63, 64, 68, 69, 73, 74, 277, 281]
def ads1 : List Addr := [282, 286, 287, 298, 299, 305, 306, 312, 313, 333, 334, 338, 339, 343, 344, 350, 351, 362, 366, 367, 394, 395, 401, 402, 415, 416, 429, 430, 434, 435]
def ads2 : List Addr := [439, 440, 446, 447, 451, 452, 456, 457, 461, 462, 468, 469, 475, 476, 480, 481, 492, 493, 513, 514, 560, 561, 565, 566, 572, 573, 579, 580, 619, 620]
def ads3 : List Addr := [626, 627, 629, 636, 637, 639, 646, 647, 649, 656, 657, 663, 664, 677, 678, 684, 685, 691, 692, 733, 734, 742, 748, 749, 755, 756, 762, 763, 769, 770]
def ads4 : List Addr := [818, 819, 832, 833, 869, 870, 881, 882, 895, 896, 902, 903, 907, 908, 914, 915, 919, 920, 926, 927, 933, 934, 940, 941, 947, 948, 954, 955, 961, 962]
def ads5 : List Addr := [968, 969, 973, 974, 980, 981, 985, 986, 992, 993, 999, 1000, 1004, 1005, 1009, 1010, 1014, 1015, 1021, 1022, 1026, 1027, 1033, 1034, 1038, 1039, 1045, 1046, 1050, 1051]
def ads : List Addr := ads0 ++ ads1 ++ ads2 ++ ads3 ++ ads4 ++ ads5
theorem fn_at {K : PySem.W.Frag} {C f g : Addr} {m : Str} (a : PySem.W.findIn K (.ref C) m = some (some (.ref g))) (b : PySem.W.fnIn K g = true) (h : PySem.W.findIn K (.ref C) m = some (some (.ref f))) : PySem.W.fnIn K f = true := by
  rw [a] at h
  cases h
  exact b
/-! ### the static methods -/
/-- m of the class at C is a static method: its record at p, its def at g -/
def staB (K : PySem.W.Frag) (C p g : Addr) (m qual : Str) : Bool :=
  (match PySem.W.findCls K (.ref C) (.type "type") m with
    | some (.get (.builtin b) (.ref p') .none (.ref C')) => decide (b = "staticmethod.__get__") && (decide (p' = p) && decide (C' = C))
    | _ => false) &&
  ((match PySem.W.recIn K p "staticmethod" with
    | some (.ref g' :: _) => decide (g' = g)
    | _ => false) &&
  (PySem.W.keepIn K (.ref g) &&
  (match K.lookup g with
    | some ⟨_, _, .func fd, _⟩ => PySem.W.codeIn K fd.code qual && (match fd.defaults with
      | .none => true
      | _ => false)
    | _ => false)))
/-- what of a def is compared -/
def seenF (K : PySem.W.Frag) (g : Addr) : He.FnW :=
  match K.lookup g with
  | some ⟨_, _, .func fd, _⟩ =>
    some (fd.name, fd.qualname, fd.params, fd.body, fd.scope, fd.globals, fd.closure, fd.builtins)
  | _ => none
def askF (x qual : Str) (st : Stmt) : He.FnW :=
  some (x, qual, fnArgs st, .stmts (fnBody st), fnScope st, mainGlobals, [], builtinsNs)
theorem staT_of {K : PySem.W.Frag} {C p g : Addr} {m qual : Str} {st : Stmt} {ps : List Str} (h : staB K C p g m qual = true) (s : seenF K g = askF m qual st) (hb : Bi m qual st ps) : StaT K C (.type "type") m qual st ps := by
  obtain ⟨h1, h⟩ := He.ba h
  obtain ⟨h2, h⟩ := He.ba h
  obtain ⟨h3, h4⟩ := He.ba h
  have a : PySem.W.findCls K (.ref C) (.type "type") m = some (.get (.builtin "staticmethod.__get__") (.ref p) .none (.ref C)) := by
    split at h1
    · rename_i e
      obtain ⟨e1, e2⟩ := He.ba h1
      obtain ⟨e2, e3⟩ := He.ba e2
      rw [e, of_decide_eq_true e1, of_decide_eq_true e2, of_decide_eq_true e3]
    · cases h1
  obtain ⟨rest, r⟩ : ∃ rest, PySem.W.recIn K p "staticmethod" = some (.ref g :: rest) := by
    split at h2
    · rename_i e
      rw [e, of_decide_eq_true h2]
      exact ⟨_, rfl⟩
    · cases h2
  unfold seenF at s
  split at h4
  · rename_i oc od fd osl e
    rw [e] at s
    obtain ⟨k1, k2⟩ := He.ba h4
    obtain ⟨n1, n2, n3, n4, n5, n6, n7, n8, n9, n10, n11, n12, n13, n14, n15⟩ := fd
    have s : (some (n1, n2, n3, n4, n5, n6, n7, n15) : He.FnW) = some (m, qual, fnArgs st, .stmts (fnBody st), fnScope st, mainGlobals, [], builtinsNs) := s
    simp only [Option.some.injEq, Prod.mk.injEq] at s
    obtain ⟨q1, q2, q3, q4, q5, q6, q7, q8⟩ := s
    subst q1 q2 q3 q4 q5 q6 q7 q8
    have e8 : n8 = .none := by
      cases n8 with
      | none => rfl
      | _ => cases k2
    subst e8
    exact staT_mk hb a r e k1 h3
  · cases h4
/-! ### more -/
abbrev csOf (K : PySem.W.Frag) : Cs := ⟨He.ga K "World", He.ga K "Action", He.ga K "Outcome", He.ga K "Condition", He.ga K "Task", He.ga K "Game"⟩
structure Ext (K : PySem.W.Frag) : Prop where
  sf : PySem.W.selfFirst K (He.ga K "Condition") = true
  sq : PySem.W.noSeq K (He.ga K "World") = true
  fO : PySem.W.fnIn K (He.ma K (He.ga K "Outcome") "__getitem__") = true
  fC : PySem.W.fnIn K (He.ma K (He.ga K "Condition") "__call__") = true
  rd : PySem.W.readsIn K (He.ga K "Condition") (.type "type") = true
  ga : PySem.W.specialIn K (.ref (He.ga K "Condition")) "__getattribute__" = some (some (.builtin "type.__getattribute__"))
  i1 : PySem.W.findIn K (.ref (He.ga K "Condition")) "__class__" = some (some (.builtin "object.__class__"))
  i2 : PySem.W.specialIn K (.builtin "object.__class__") "__get__" = some (some (.builtin "getset_descriptor.__get__"))
  i3 : PySem.W.takesIn K (.builtin "object.__class__") = some true
  i4 : PySem.W.mroIn K (He.ga K "Condition") (.type "object") = some true
  re : He.tupB K "RESERVED" (reserved.map .str) = true
  tu : (match K.lookup 560 with
    | some ⟨.type t, _, .seq its _, _⟩ => decide (t = "tuple") && its.isEmpty
    | _ => false) = true
  st_of : staB K (He.ga K "Condition") 629 627 "of" "Condition.of" = true
  st_always : staB K (He.ga K "Condition") 639 637 "always" "Condition.always" = true
  st_never : staB K (He.ga K "Condition") 649 647 "never" "Condition.never" = true
def extB (K : PySem.W.Frag) : Bool :=
  PySem.W.selfFirst K (He.ga K "Condition") && (PySem.W.noSeq K (He.ga K "World") && (PySem.W.fnIn K (He.ma K (He.ga K "Outcome") "__getitem__") && (PySem.W.fnIn K (He.ma K (He.ga K "Condition") "__call__") && (PySem.W.readsIn K (He.ga K "Condition") (.type "type") &&
  (He.eqO (PySem.W.specialIn K (.ref (He.ga K "Condition")) "__getattribute__") (some (some (.builtin "type.__getattribute__"))) && (He.eqO (PySem.W.findIn K (.ref (He.ga K "Condition")) "__class__") (some (some (.builtin "object.__class__"))) &&
  (He.eqO (PySem.W.specialIn K (.builtin "object.__class__") "__get__") (some (some (.builtin "getset_descriptor.__get__"))) && (decide (PySem.W.takesIn K (.builtin "object.__class__") = some true) && (decide (PySem.W.mroIn K (He.ga K "Condition") (.type "object") = some true) &&
  (He.tupB K "RESERVED" (reserved.map .str) && ((match K.lookup 560 with
    | some ⟨.type t, _, .seq its _, _⟩ => decide (t = "tuple") && its.isEmpty
    | _ => false) && (staB K (He.ga K "Condition") 629 627 "of" "Condition.of" && (staB K (He.ga K "Condition") 639 637 "always" "Condition.always" && staB K (He.ga K "Condition") 649 647 "never" "Condition.never")))))))))))))
theorem ext_of {K : PySem.W.Frag} (h : extB K = true) : Ext K := by
  obtain ⟨h1, h⟩ := He.ba h
  obtain ⟨h2, h⟩ := He.ba h
  obtain ⟨h3, h⟩ := He.ba h
  obtain ⟨h4, h⟩ := He.ba h
  obtain ⟨h5, h⟩ := He.ba h
  obtain ⟨h6, h⟩ := He.ba h
  obtain ⟨h7, h⟩ := He.ba h
  obtain ⟨h8, h⟩ := He.ba h
  obtain ⟨h9, h⟩ := He.ba h
  obtain ⟨h10, h⟩ := He.ba h
  obtain ⟨h11, h⟩ := He.ba h
  obtain ⟨h12, h⟩ := He.ba h
  obtain ⟨h13, h⟩ := He.ba h
  obtain ⟨h14, h15⟩ := He.ba h
  exact ⟨h1, h2, h3, h4, h5, He.eqO_ok h6, He.eqO_ok h7, He.eqO_ok h8, of_decide_eq_true h9, of_decide_eq_true h10, h11, h12, h13, h14, h15⟩
/-! ### the Hook -/
/-- a part as it is, spelt out ahead of what looks at it -/
def fz {α : Type} : PySem.W.Frag → (PySem.W.Frag → α) → α
  | [], k => k []
  | (a, o) :: r, k => fz r fun t => k ((a, o) :: t)
theorem fz_eq {α : Type} : ∀ (l : PySem.W.Frag) (k : PySem.W.Frag → α), fz l k = k l
  | [], _ => rfl
  | (a, o) :: r, k => fz_eq r fun t => k ((a, o) :: t)
abbrev AlN : Type := He.AlD × Bool × List He.FnW
def stsOf (K : PySem.W.Frag) : List He.FnW := [seenF K 627, seenF K 637, seenF K 647]
def stsV : List He.FnW := [askF "of" "Condition.of" s_Condition_of, askF "always" "Condition.always" s_Condition_always, askF "never" "Condition.never" s_Condition_never]
def lookK (K : PySem.W.Frag) : AlN := (He.obsD fas fns K, extB K, stsOf K)
def valN : AlN := (He.valD fns, true, stsV)
structure SaysN (K : PySem.W.Frag) : Prop where
  d : He.SaysD fas fns K
  e : extB K = true
  s : stsOf K = stsV
theorem says_of {K : PySem.W.Frag} (h : lookK K = valN) : SaysN K := ⟨congrArg (fun z : AlN => z.1) h, congrArg (fun z : AlN => z.2.1) h, congrArg (fun z : AlN => z.2.2) h⟩
theorem sts_of {K : PySem.W.Frag} (z : SaysN K) : seenF K 627 = askF "of" "Condition.of" s_Condition_of := by
  have h := congrArg (fun l : List He.FnW => l[0]?) z.s
  exact Option.some.inj h
theorem sts_always {K : PySem.W.Frag} (z : SaysN K) : seenF K 637 = askF "always" "Condition.always" s_Condition_always := by
  have h := congrArg (fun l : List He.FnW => l[1]?) z.s
  exact Option.some.inj h
theorem sts_never {K : PySem.W.Frag} (z : SaysN K) : seenF K 647 = askF "never" "Condition.never" s_Condition_never := by
  have h := congrArg (fun l : List He.FnW => l[2]?) z.s
  exact Option.some.inj h
def obG (g : Addr → Option Obj) : AlN := fz (He.frG g ads) lookK
def hk : PySem.W.Hook where
  α := AlN
  obs := fun s => obG s.heap.get?
  val := fun _ => valN
  says := fun _ h => ∃ K : PySem.W.Frag, K.In h ∧ SaysN K
  of := fun _ _ e => ⟨_, He.frG_in, says_of (by rw [← e]; exact (fz_eq _ _).symm)⟩
  keeps := fun _ _ _ ⟨K, hK, c⟩ k => ⟨K, PySem.W.Frag.In.keeps hK k, c⟩
def obT (s : PySem.W.SharedT) : AlN := obG (HandSHeadRun.getT s)
theorem obT_eq (s : PySem.W.SharedT) : obT s = hk.obs s.abs := by
  have e : HandSHeadRun.getT s = s.abs.heap.get? := funext (HandSHeadRun.getT_eq s)
  unfold obT
  rw [e]
  rfl
/-! ### the text's facts -/
section
variable {K : PySem.W.Frag} {h : Heap} {mg : Str → Option Value} {x m qual : Str} {st : Stmt} {ps : List Str} {C : Addr} {dvs : List V} {kws : List (Str × V)} {f : Addr}
theorem fun_of {fd : FuncData} (F : FunD K x qual (fnArgs st) (fnBody st) (fnScope st) dvs kws f fd) : C8.Fun K x qual st f fd := by
  obtain ⟨oc, od, dV, kV, doc, pm, an, cdv, ct, osl, e, l, c, _, _⟩ := F.ex
  exact ⟨oc, od, dV, kV, doc, pm, an, cdv, ct, osl, e, l, c⟩
theorem defT_of (F : ∃ fd, FunD K x x (fnArgs st) (fnBody st) (fnScope st) [] [] (He.ga K x) fd) (g : mg x = some (.ref (He.ga K x))) (hb : Bi x x st ps) : DefT K mg x st ps := by
  obtain ⟨fd, F⟩ := F
  exact ⟨_, fd, ⟨fun_of F, g, F.kp⟩, F.bindsN hb⟩
theorem metT_of (F : ∃ fd, FunD K m qual (fnArgs st) (fnBody st) (fnScope st) [] [] (He.ma K C m) fd) (cl : Cls K C) (me : Meth K C m (He.ma K C m)) (hb : Bi m qual st ps) : MetT K C m qual st ps := by
  obtain ⟨fd, F⟩ := F
  exact ⟨_, fd, cl, me, fun_of F, F.bindsN hb⟩
theorem makT_of (F : ∃ fd, FunD K "__init__" qual (fnArgs st) (fnBody st) (fnScope st) [] [] (He.ma K C "__init__") fd) (mk : Mk K C (He.ma K C "__init__")) (g : mg x = some (.ref C)) (hb : Bi "__init__" qual st ps) : MakT K mg x C qual st ps := by
  obtain ⟨fd, F⟩ := F
  exact ⟨_, fd, mk, g, fun_of F, F.bindsN hb⟩
theorem makD_of {n j : Nat} {ds : List Value} {d : Nat} (F : ∃ fd, FunD K "__init__" qual (fnArgs st) (fnBody st) (fnScope st) dvs [] (He.ma K C "__init__") fd) (mk : Mk K C (He.ma K C "__init__")) (g : mg x = some (.ref C)) (hb : BiD "__init__" qual st ps n d j) (hd : dvs.length = d + 0) (hn : n + (dvs.length - j) = ps.length) (e : dvs.drop j = ds.map fun _ => .non) (hne : dvs ≠ []) (hds : ∀ u ∈ ds, u = .none) : MakD K mg x C qual st ps ds := by
  obtain ⟨fd, F⟩ := F
  obtain ⟨ds', hv, B⟩ := F.binds1 (ps := ps) n j hne hn fun T kV doc pm an cdv ct us its hu hi => hb T kV doc pm an cdv ct us its hu (hi.trans hd)
  rw [e] at hv
  have key : ∀ (ds ds' : List Value), (∀ u ∈ ds, u = .none) → Vals (ds.map fun _ => V.non) ds' → ds' = ds := by
    intro ds
    induction ds with
    | nil =>
      intro ds' _ hv
      cases hv
      rfl
    | cons u r ih =>
      intro ds' hu hv
      cases hv with
      | cons r1 r2 =>
        rw [ih _ (fun v hv => hu v (List.mem_cons_of_mem _ hv)) r2, hu u List.mem_cons_self]
        exact congrArg (· :: r) r1
  rw [key ds ds' hds hv] at B
  exact ⟨_, fd, mk, g, fun_of F, B⟩
theorem makT_ofD {n j : Nat} {d : Nat} (F : ∃ fd, FunD K "__init__" qual (fnArgs st) (fnBody st) (fnScope st) dvs [] (He.ma K C "__init__") fd) (mk : Mk K C (He.ma K C "__init__")) (g : mg x = some (.ref C)) (hb : BiD "__init__" qual st ps n d j) (hd : dvs.length = d + 0) (hn : n + (dvs.length - j) = ps.length) (e : dvs.drop j = []) (hne : dvs ≠ []) : MakT K mg x C qual st ps :=
  (makD_of (ds := []) F mk g hb hd hn e hne (fun u hu => by cases hu)).t
theorem kwT_of {b : Addr} {nm : Str} (F : ∃ fd, FunD K x x (fnArgs st) (fnBody st) (fnScope st) [] [(nm, V.ref b)] (He.ga K x) fd) (g : mg x = some (.ref (He.ga K x)))
    (hb : ∀ (D : Addr) (doc pm : Value) (an : Option Addr) (cdv ct : Value) (us ks : List Value), us.length = 1 → ks.length = 1 → KwChain D (([nm] : List Str).zip ks) (bindArgs (PySem.W.fnOf x x (fnArgs st) (fnBody st) (fnScope st) .none (.ref D) doc pm an cdv ct) ⟨us, []⟩) (ps.zip (us ++ ks)))
    (hn : 1 + 1 = ps.length) (tu : (match K.lookup b with
      | some ⟨.type t, _, .seq its _, _⟩ => decide (t = "tuple") && its.isEmpty
      | _ => false) = true) : KwT K mg x st ps := by
  obtain ⟨fd, F⟩ := F
  obtain ⟨ds, hv, B⟩ := F.binds0 (ps := ps) 1 (by simp) hn hb
  have e : ds = [.ref b] := by
    cases hv with
    | cons r t =>
      cases t
      exact congrArg (fun z => [z]) r
  subst e
  split at tu
  · rename_i t od its n osl e
    obtain ⟨t1, t2⟩ := He.ba tu
    exact ⟨_, fd, b, ⟨fun_of F, g, F.kp⟩, B, _, n, e, congrArg Value.type (of_decide_eq_true t1), by rw [Array.isEmpty_iff.mp t2]⟩
  · cases tu
theorem res_of (g : mg "RESERVED" = some (.ref (He.ga K "RESERVED"))) (t : He.tupB K "RESERVED" (reserved.map .str) = true) : ∃ a, mg "RESERVED" = some (.ref a) ∧ ∃ (ob : Obj) (its : Array Value) (n : Nat), K.lookup a = some ob ∧ ob.cls = .type "tuple" ∧ ob.data = .seq its n ∧ its.size ≤ sizeLine ∧ Vals (reserved.map V.str) its.toList := by
  rcases He.tupB_ok t (fun _ => none) with z | ⟨ob, its, n, h1, h2, h3, h4, h5⟩
  · rcases z with z | ⟨o, z⟩ <;> cases z
  · exact ⟨_, g, ob, its, n, h1, h2, h3, h4, h5⟩
end
theorem txt_of {K : PySem.W.Frag} {h : Heap} {mg : Str → Option Value} (X : K.In h) (G : h.Ns mainGlobals mg) (z : SaysN K) : Txt K mg (csOf K) :=
  have c := z.d
  have e := ext_of z.e
  { g_len := He.free_ok X G (c.fact 0 (f := .free "len") (by kernel_rfl)),
    g_all := He.free_ok X G (c.fact 1 (f := .free "all") (by kernel_rfl)),
    g_any := He.free_ok X G (c.fact 2 (f := .free "any") (by kernel_rfl)),
    g_sorted := He.free_ok X G (c.fact 3 (f := .free "sorted") (by kernel_rfl)),
    g_set := He.free_ok X G (c.fact 4 (f := .free "set") (by kernel_rfl)),
    g_str := He.free_ok X G (c.fact 5 (f := .free "str") (by kernel_rfl)),
    g_list := He.free_ok X G (c.fact 6 (f := .free "list") (by kernel_rfl)),
    g_tuple := He.free_ok X G (c.fact 7 (f := .free "tuple") (by kernel_rfl)),
    g_dict := He.free_ok X G (c.fact 8 (f := .free "dict") (by kernel_rfl)),
    g_range := He.free_ok X G (c.fact 9 (f := .free "range") (by kernel_rfl)),
    g_enumerate := He.free_ok X G (c.fact 10 (f := .free "enumerate") (by kernel_rfl)),
    g_repr := He.free_ok X G (c.fact 11 (f := .free "repr") (by kernel_rfl)),
    g_int := He.free_ok X G (c.fact 12 (f := .free "int") (by kernel_rfl)),
    g_isinstance := He.free_ok X G (c.fact 13 (f := .free "isinstance") (by kernel_rfl)),
    g_NotImplemented := He.free_ok X G (c.fact 14 (f := .free "NotImplemented") (by kernel_rfl)),
    cG := He.cls_ok (c.fact 15 (f := .cls "Game") (by kernel_rfl)),
    gcG := He.glo_ok X G (c.fact 16 (f := .glo "Game") (by kernel_rfl)),
    nG_order := He.noat_ok (c.fact 17 (f := .noat "Game" "order") (by kernel_rfl)),
    nG_tallies := He.noat_ok (c.fact 18 (f := .noat "Game" "tallies") (by kernel_rfl)),
    nG_edges := He.noat_ok (c.fact 19 (f := .noat "Game" "edges") (by kernel_rfl)),
    nG_choices := He.noat_ok (c.fact 20 (f := .noat "Game" "choices") (by kernel_rfl)),
    cA := He.cls_ok (c.fact 21 (f := .cls "Action") (by kernel_rfl)),
    gcA := He.glo_ok X G (c.fact 22 (f := .glo "Action") (by kernel_rfl)),
    nA_need := He.noat_ok (c.fact 23 (f := .noat "Action" "need") (by kernel_rfl)),
    nA_parts := He.noat_ok (c.fact 24 (f := .noat "Action" "parts") (by kernel_rfl)),
    cW := He.cls_ok (c.fact 25 (f := .cls "World") (by kernel_rfl)),
    gcW := He.glo_ok X G (c.fact 26 (f := .glo "World") (by kernel_rfl)),
    nW_fact_names := He.noat_ok (c.fact 27 (f := .noat "World" "fact_names") (by kernel_rfl)),
    nW_pile_names := He.noat_ok (c.fact 28 (f := .noat "World" "pile_names") (by kernel_rfl)),
    nW_reserve_names := He.noat_ok (c.fact 29 (f := .noat "World" "reserve_names") (by kernel_rfl)),
    nW_table := He.noat_ok (c.fact 30 (f := .noat "World" "table") (by kernel_rfl)),
    cC := He.cls_ok (c.fact 31 (f := .cls "Condition") (by kernel_rfl)),
    gcC := He.glo_ok X G (c.fact 32 (f := .glo "Condition") (by kernel_rfl)),
    nC_tree := He.noat_ok (c.fact 33 (f := .noat "Condition" "tree") (by kernel_rfl)),
    cO := He.cls_ok (c.fact 34 (f := .cls "Outcome") (by kernel_rfl)),
    gcO := He.glo_ok X G (c.fact 35 (f := .glo "Outcome") (by kernel_rfl)),
    nO_table := He.noat_ok (c.fact 36 (f := .noat "Outcome" "table") (by kernel_rfl)),
    cT := He.cls_ok (c.fact 37 (f := .cls "Task") (by kernel_rfl)),
    gcT := He.glo_ok X G (c.fact 38 (f := .glo "Task") (by kernel_rfl)),
    nT_inner := He.noat_ok (c.fact 39 (f := .noat "Task" "inner") (by kernel_rfl)),
    nT_begin := He.noat_ok (c.fact 40 (f := .noat "Task" "begin") (by kernel_rfl)),
    nT_aimed := He.noat_ok (c.fact 41 (f := .noat "Task" "aimed") (by kernel_rfl)),
    sfC := e.sf,
    sqW := e.sq,
    fiO := fun f h => fn_at (He.meth_ok (c.fact 42 (f := .meth "Outcome" "__getitem__") (by kernel_rfl))).at_ e.fO h,
    fiC := fun f h => fn_at (He.meth_ok (c.fact 43 (f := .meth "Condition" "__call__") (by kernel_rfl))).at_ e.fC h,
    rdC := ⟨e.rd, e.ga⟩,
    iC1 := e.i1,
    iC2 := e.i2,
    iC3 := e.i3,
    iC4 := e.i4,
    m_Game_init := makT_of (c.def_ 0 (d := d_Game_init) (by kernel_rfl)) (He.mkr_ok (c.fact 44 (f := .mkr "Game") (by kernel_rfl))) (He.glo_ok X G (c.fact 16 (f := .glo "Game") (by kernel_rfl))) bi_Game_init,
    m_Game_added_edges := metT_of (c.def_ 1 (d := d_Game_added_edges) (by kernel_rfl)) (He.cls_ok (c.fact 15 (f := .cls "Game") (by kernel_rfl))) (He.meth_ok (c.fact 45 (f := .meth "Game" "added_edges") (by kernel_rfl))) bi_Game_added_edges,
    d_forced_action := defT_of (c.def_ 2 (d := d_forced_action) (by kernel_rfl)) (He.glo_ok X G (c.fact 46 (f := .glo "forced_action") (by kernel_rfl))) bi_forced_action,
    d_close_table := defT_of (c.def_ 3 (d := d_close_table) (by kernel_rfl)) (He.glo_ok X G (c.fact 47 (f := .glo "close_table") (by kernel_rfl))) bi_close_table,
    d_falling_of := defT_of (c.def_ 4 (d := d_falling_of) (by kernel_rfl)) (He.glo_ok X G (c.fact 48 (f := .glo "falling_of") (by kernel_rfl))) bi_falling_of,
    d_won_by := defT_of (c.def_ 5 (d := d_won_by) (by kernel_rfl)) (He.glo_ok X G (c.fact 49 (f := .glo "won_by") (by kernel_rfl))) bi_won_by,
    d_solve_game := defT_of (c.def_ 6 (d := d_solve_game) (by kernel_rfl)) (He.glo_ok X G (c.fact 50 (f := .glo "solve_game") (by kernel_rfl))) bi_solve_game,
    d_is_name := defT_of (c.def_ 7 (d := d_is_name) (by kernel_rfl)) (He.glo_ok X G (c.fact 51 (f := .glo "is_name") (by kernel_rfl))) bi_is_name,
    d_ascending := defT_of (c.def_ 8 (d := d_ascending) (by kernel_rfl)) (He.glo_ok X G (c.fact 52 (f := .glo "ascending") (by kernel_rfl))) bi_ascending,
    m_Action_init := makT_of (c.def_ 9 (d := d_Action_init) (by kernel_rfl)) (He.mkr_ok (c.fact 53 (f := .mkr "Action") (by kernel_rfl))) (He.glo_ok X G (c.fact 22 (f := .glo "Action") (by kernel_rfl))) bi_Action_init,
    m_Action_outcome := metT_of (c.def_ 10 (d := d_Action_outcome) (by kernel_rfl)) (He.cls_ok (c.fact 21 (f := .cls "Action") (by kernel_rfl))) (He.meth_ok (c.fact 54 (f := .meth "Action" "outcome") (by kernel_rfl))) bi_Action_outcome,
    m_Action_len := metT_of (c.def_ 11 (d := d_Action_len) (by kernel_rfl)) (He.cls_ok (c.fact 21 (f := .cls "Action") (by kernel_rfl))) (He.meth_ok (c.fact 55 (f := .meth "Action" "__len__") (by kernel_rfl))) bi_Action_len,
    d_check_lists := defT_of (c.def_ 12 (d := d_check_lists) (by kernel_rfl)) (He.glo_ok X G (c.fact 56 (f := .glo "check_lists") (by kernel_rfl))) bi_check_lists,
    d_copied_action := defT_of (c.def_ 13 (d := d_copied_action) (by kernel_rfl)) (He.glo_ok X G (c.fact 57 (f := .glo "copied_action") (by kernel_rfl))) bi_copied_action,
    d_sub_tuples := defT_of (c.def_ 14 (d := d_sub_tuples) (by kernel_rfl)) (He.glo_ok X G (c.fact 58 (f := .glo "sub_tuples") (by kernel_rfl))) bi_sub_tuples,
    d_same_world := defT_of (c.def_ 15 (d := d_same_world) (by kernel_rfl)) (He.glo_ok X G (c.fact 59 (f := .glo "same_world") (by kernel_rfl))) bi_same_world,
    m_World_init := makT_ofD (c.def_ 16 (d := d_World_init) (by kernel_rfl)) (He.mkr_ok (c.fact 60 (f := .mkr "World") (by kernel_rfl))) (He.glo_ok X G (c.fact 26 (f := .glo "World") (by kernel_rfl))) (n := 5) (j := 4) bi_World5 rfl rfl rfl (List.cons_ne_nil _ _),
    b_World := makD_of (c.def_ 16 (d := d_World_init) (by kernel_rfl)) (He.mkr_ok (c.fact 60 (f := .mkr "World") (by kernel_rfl))) (He.glo_ok X G (c.fact 26 (f := .glo "World") (by kernel_rfl))) (n := 4) (j := 3) bi_World4 rfl rfl rfl (List.cons_ne_nil _ _) (fun u hu => List.mem_singleton.mp hu),
    m_World_seen := metT_of (c.def_ 17 (d := d_World_seen) (by kernel_rfl)) (He.cls_ok (c.fact 25 (f := .cls "World") (by kernel_rfl))) (He.meth_ok (c.fact 61 (f := .meth "World" "seen") (by kernel_rfl))) bi_World_seen,
    m_World_counters := metT_of (c.def_ 18 (d := d_World_counters) (by kernel_rfl)) (He.cls_ok (c.fact 25 (f := .cls "World") (by kernel_rfl))) (He.meth_ok (c.fact 62 (f := .meth "World" "counters") (by kernel_rfl))) bi_World_counters,
    m_World_copy := metT_of (c.def_ 19 (d := d_World_copy) (by kernel_rfl)) (He.cls_ok (c.fact 25 (f := .cls "World") (by kernel_rfl))) (He.meth_ok (c.fact 63 (f := .meth "World" "copy") (by kernel_rfl))) bi_World_copy,
    m_World_check_change_of := metT_of (c.def_ 20 (d := d_World_check_change_of) (by kernel_rfl)) (He.cls_ok (c.fact 25 (f := .cls "World") (by kernel_rfl))) (He.meth_ok (c.fact 64 (f := .meth "World" "check_change_of") (by kernel_rfl))) bi_World_check_change_of,
    m_World_takes_reserve := metT_of (c.def_ 21 (d := d_World_takes_reserve) (by kernel_rfl)) (He.cls_ok (c.fact 25 (f := .cls "World") (by kernel_rfl))) (He.meth_ok (c.fact 65 (f := .meth "World" "takes_reserve") (by kernel_rfl))) bi_World_takes_reserve,
    m_World_check_action := metT_of (c.def_ 22 (d := d_World_check_action) (by kernel_rfl)) (He.cls_ok (c.fact 25 (f := .cls "World") (by kernel_rfl))) (He.meth_ok (c.fact 66 (f := .meth "World" "check_action") (by kernel_rfl))) bi_World_check_action,
    m_World_states := metT_of (c.def_ 23 (d := d_World_states) (by kernel_rfl)) (He.cls_ok (c.fact 25 (f := .cls "World") (by kernel_rfl))) (He.meth_ok (c.fact 67 (f := .meth "World" "states") (by kernel_rfl))) bi_World_states,
    m_World_state_of := metT_of (c.def_ 24 (d := d_World_state_of) (by kernel_rfl)) (He.cls_ok (c.fact 25 (f := .cls "World") (by kernel_rfl))) (He.meth_ok (c.fact 68 (f := .meth "World" "state_of") (by kernel_rfl))) bi_World_state_of,
    m_World_fits := metT_of (c.def_ 25 (d := d_World_fits) (by kernel_rfl)) (He.cls_ok (c.fact 25 (f := .cls "World") (by kernel_rfl))) (He.meth_ok (c.fact 69 (f := .meth "World" "fits") (by kernel_rfl))) bi_World_fits,
    m_World_possible := metT_of (c.def_ 26 (d := d_World_possible) (by kernel_rfl)) (He.cls_ok (c.fact 25 (f := .cls "World") (by kernel_rfl))) (He.meth_ok (c.fact 70 (f := .meth "World" "possible") (by kernel_rfl))) bi_World_possible,
    m_World_checked := metT_of (c.def_ 27 (d := d_World_checked) (by kernel_rfl)) (He.cls_ok (c.fact 25 (f := .cls "World") (by kernel_rfl))) (He.meth_ok (c.fact 71 (f := .meth "World" "checked") (by kernel_rfl))) bi_World_checked,
    m_World_behind := metT_of (c.def_ 28 (d := d_World_behind) (by kernel_rfl)) (He.cls_ok (c.fact 25 (f := .cls "World") (by kernel_rfl))) (He.meth_ok (c.fact 72 (f := .meth "World" "behind") (by kernel_rfl))) bi_World_behind,
    m_World_results := metT_of (c.def_ 29 (d := d_World_results) (by kernel_rfl)) (He.cls_ok (c.fact 25 (f := .cls "World") (by kernel_rfl))) (He.meth_ok (c.fact 73 (f := .meth "World" "results") (by kernel_rfl))) bi_World_results,
    m_World_shifts := metT_of (c.def_ 30 (d := d_World_shifts) (by kernel_rfl)) (He.cls_ok (c.fact 25 (f := .cls "World") (by kernel_rfl))) (He.meth_ok (c.fact 74 (f := .meth "World" "shifts") (by kernel_rfl))) bi_World_shifts,
    m_World_setitem := metT_of (c.def_ 31 (d := d_World_setitem) (by kernel_rfl)) (He.cls_ok (c.fact 25 (f := .cls "World") (by kernel_rfl))) (He.meth_ok (c.fact 75 (f := .meth "World" "__setitem__") (by kernel_rfl))) bi_World_setitem,
    d_won_states := kwT_of (c.def_ 32 (d := d_won_states) (by kernel_rfl)) (He.glo_ok X G (c.fact 76 (f := .glo "won_states") (by kernel_rfl))) bi_won rfl e.tu,
    d_tree_holds := defT_of (c.def_ 33 (d := d_tree_holds) (by kernel_rfl)) (He.glo_ok X G (c.fact 77 (f := .glo "tree_holds") (by kernel_rfl))) bi_tree_holds,
    d_names_in := defT_of (c.def_ 34 (d := d_names_in) (by kernel_rfl)) (He.glo_ok X G (c.fact 78 (f := .glo "names_in") (by kernel_rfl))) bi_names_in,
    m_Condition_init := makT_of (c.def_ 35 (d := d_Condition_init) (by kernel_rfl)) (He.mkr_ok (c.fact 79 (f := .mkr "Condition") (by kernel_rfl))) (He.glo_ok X G (c.fact 32 (f := .glo "Condition") (by kernel_rfl))) bi_Condition_init,
    m_Condition_of := staT_of (e.st_of) (sts_of z) bi_Condition_of,
    m_Condition_always := staT_of (e.st_always) (sts_always z) bi_Condition_always,
    m_Condition_never := staT_of (e.st_never) (sts_never z) bi_Condition_never,
    m_Condition_names := metT_of (c.def_ 36 (d := d_Condition_names) (by kernel_rfl)) (He.cls_ok (c.fact 31 (f := .cls "Condition") (by kernel_rfl))) (He.meth_ok (c.fact 80 (f := .meth "Condition" "names") (by kernel_rfl))) bi_Condition_names,
    m_Condition_call := metT_of (c.def_ 37 (d := d_Condition_call) (by kernel_rfl)) (He.cls_ok (c.fact 31 (f := .cls "Condition") (by kernel_rfl))) (He.meth_ok (c.fact 43 (f := .meth "Condition" "__call__") (by kernel_rfl))) bi_Condition_call,
    m_Condition_and := metT_of (c.def_ 38 (d := d_Condition_and) (by kernel_rfl)) (He.cls_ok (c.fact 31 (f := .cls "Condition") (by kernel_rfl))) (He.meth_ok (c.fact 81 (f := .meth "Condition" "__and__") (by kernel_rfl))) bi_Condition_and,
    m_Condition_or := metT_of (c.def_ 39 (d := d_Condition_or) (by kernel_rfl)) (He.cls_ok (c.fact 31 (f := .cls "Condition") (by kernel_rfl))) (He.meth_ok (c.fact 82 (f := .meth "Condition" "__or__") (by kernel_rfl))) bi_Condition_or,
    m_Condition_invert := metT_of (c.def_ 40 (d := d_Condition_invert) (by kernel_rfl)) (He.cls_ok (c.fact 31 (f := .cls "Condition") (by kernel_rfl))) (He.meth_ok (c.fact 83 (f := .meth "Condition" "__invert__") (by kernel_rfl))) bi_Condition_invert,
    d_check_change := defT_of (c.def_ 41 (d := d_check_change) (by kernel_rfl)) (He.glo_ok X G (c.fact 84 (f := .glo "check_change") (by kernel_rfl))) bi_check_change,
    m_Outcome_init := makT_ofD (c.def_ 42 (d := d_Outcome_init) (by kernel_rfl)) (He.mkr_ok (c.fact 85 (f := .mkr "Outcome") (by kernel_rfl))) (He.glo_ok X G (c.fact 35 (f := .glo "Outcome") (by kernel_rfl))) (n := 2) (j := 1) bi_Outcome rfl rfl rfl (List.cons_ne_nil _ _),
    m_Outcome_names := metT_of (c.def_ 43 (d := d_Outcome_names) (by kernel_rfl)) (He.cls_ok (c.fact 34 (f := .cls "Outcome") (by kernel_rfl))) (He.meth_ok (c.fact 86 (f := .meth "Outcome" "names") (by kernel_rfl))) bi_Outcome_names,
    m_Outcome_copy := metT_of (c.def_ 44 (d := d_Outcome_copy) (by kernel_rfl)) (He.cls_ok (c.fact 34 (f := .cls "Outcome") (by kernel_rfl))) (He.meth_ok (c.fact 87 (f := .meth "Outcome" "copy") (by kernel_rfl))) bi_Outcome_copy,
    m_Outcome_getitem := metT_of (c.def_ 45 (d := d_Outcome_getitem) (by kernel_rfl)) (He.cls_ok (c.fact 34 (f := .cls "Outcome") (by kernel_rfl))) (He.meth_ok (c.fact 42 (f := .meth "Outcome" "__getitem__") (by kernel_rfl))) bi_Outcome_getitem,
    d_check_condition := defT_of (c.def_ 46 (d := d_check_condition) (by kernel_rfl)) (He.glo_ok X G (c.fact 88 (f := .glo "check_condition") (by kernel_rfl))) bi_check_condition,
    m_Task_init := makT_of (c.def_ 47 (d := d_Task_init) (by kernel_rfl)) (He.mkr_ok (c.fact 89 (f := .mkr "Task") (by kernel_rfl))) (He.glo_ok X G (c.fact 38 (f := .glo "Task") (by kernel_rfl))) bi_Task_init,
    m_Task_base := metT_of (c.def_ 48 (d := d_Task_base) (by kernel_rfl)) (He.cls_ok (c.fact 37 (f := .cls "Task") (by kernel_rfl))) (He.meth_ok (c.fact 90 (f := .meth "Task" "base") (by kernel_rfl))) bi_Task_base,
    m_Task_goals := metT_of (c.def_ 49 (d := d_Task_goals) (by kernel_rfl)) (He.cls_ok (c.fact 37 (f := .cls "Task") (by kernel_rfl))) (He.meth_ok (c.fact 91 (f := .meth "Task" "goals") (by kernel_rfl))) bi_Task_goals,
    d_l_draw := defT_of (c.def_ 50 (d := d_l_draw) (by kernel_rfl)) (He.glo_ok X G (c.fact 92 (f := .glo "_law_draw") (by kernel_rfl))) bi_l_draw,
    d_l_pick := defT_of (c.def_ 51 (d := d_l_pick) (by kernel_rfl)) (He.glo_ok X G (c.fact 93 (f := .glo "_law_pick") (by kernel_rfl))) bi_l_pick,
    d_l_mixed := defT_of (c.def_ 52 (d := d_l_mixed) (by kernel_rfl)) (He.glo_ok X G (c.fact 94 (f := .glo "_law_mixed") (by kernel_rfl))) bi_l_mixed,
    d_l_same := defT_of (c.def_ 53 (d := d_l_same) (by kernel_rfl)) (He.glo_ok X G (c.fact 95 (f := .glo "_law_same") (by kernel_rfl))) bi_l_same,
    d_l_name := defT_of (c.def_ 54 (d := d_l_name) (by kernel_rfl)) (He.glo_ok X G (c.fact 96 (f := .glo "_law_name") (by kernel_rfl))) bi_l_name,
    d_l_names := defT_of (c.def_ 55 (d := d_l_names) (by kernel_rfl)) (He.glo_ok X G (c.fact 97 (f := .glo "_law_names") (by kernel_rfl))) bi_l_names,
    d_l_condition := defT_of (c.def_ 56 (d := d_l_condition) (by kernel_rfl)) (He.glo_ok X G (c.fact 98 (f := .glo "_law_condition") (by kernel_rfl))) bi_l_condition,
    d_l_holds := defT_of (c.def_ 57 (d := d_l_holds) (by kernel_rfl)) (He.glo_ok X G (c.fact 99 (f := .glo "_law_holds") (by kernel_rfl))) bi_l_holds,
    d_l_built := defT_of (c.def_ 58 (d := d_l_built) (by kernel_rfl)) (He.glo_ok X G (c.fact 100 (f := .glo "_law_built") (by kernel_rfl))) bi_l_built,
    d_l_seen := defT_of (c.def_ 59 (d := d_l_seen) (by kernel_rfl)) (He.glo_ok X G (c.fact 101 (f := .glo "_law_seen") (by kernel_rfl))) bi_l_seen,
    d_l_counters := defT_of (c.def_ 60 (d := d_l_counters) (by kernel_rfl)) (He.glo_ok X G (c.fact 102 (f := .glo "_law_counters") (by kernel_rfl))) bi_l_counters,
    d_l_changes := defT_of (c.def_ 61 (d := d_l_changes) (by kernel_rfl)) (He.glo_ok X G (c.fact 103 (f := .glo "_law_changes") (by kernel_rfl))) bi_l_changes,
    d_l_action := defT_of (c.def_ 62 (d := d_l_action) (by kernel_rfl)) (He.glo_ok X G (c.fact 104 (f := .glo "_law_action") (by kernel_rfl))) bi_l_action,
    d_l_lists := defT_of (c.def_ 63 (d := d_l_lists) (by kernel_rfl)) (He.glo_ok X G (c.fact 105 (f := .glo "_law_lists") (by kernel_rfl))) bi_l_lists,
    d_l_made := defT_of (c.def_ 64 (d := d_l_made) (by kernel_rfl)) (He.glo_ok X G (c.fact 106 (f := .glo "_law_made") (by kernel_rfl))) bi_l_made,
    d_l_states := defT_of (c.def_ 65 (d := d_l_states) (by kernel_rfl)) (He.glo_ok X G (c.fact 107 (f := .glo "_law_states") (by kernel_rfl))) bi_l_states,
    d_l_behind := defT_of (c.def_ 66 (d := d_l_behind) (by kernel_rfl)) (He.glo_ok X G (c.fact 108 (f := .glo "_law_behind") (by kernel_rfl))) bi_l_behind,
    d_l_taking := defT_of (c.def_ 67 (d := d_l_taking) (by kernel_rfl)) (He.glo_ok X G (c.fact 109 (f := .glo "_law_taking") (by kernel_rfl))) bi_l_taking,
    d_l_fits := defT_of (c.def_ 68 (d := d_l_fits) (by kernel_rfl)) (He.glo_ok X G (c.fact 110 (f := .glo "_law_fits") (by kernel_rfl))) bi_l_fits,
    d_l_possible := defT_of (c.def_ 69 (d := d_l_possible) (by kernel_rfl)) (He.glo_ok X G (c.fact 111 (f := .glo "_law_possible") (by kernel_rfl))) bi_l_possible,
    d_l_set := defT_of (c.def_ 70 (d := d_l_set) (by kernel_rfl)) (He.glo_ok X G (c.fact 112 (f := .glo "_law_set") (by kernel_rfl))) bi_l_set,
    d_l_where := defT_of (c.def_ 71 (d := d_l_where) (by kernel_rfl)) (He.glo_ok X G (c.fact 113 (f := .glo "_law_where") (by kernel_rfl))) bi_l_where,
    d_l_pairs := defT_of (c.def_ 72 (d := d_l_pairs) (by kernel_rfl)) (He.glo_ok X G (c.fact 114 (f := .glo "_law_pairs") (by kernel_rfl))) bi_l_pairs,
    d_l_later := defT_of (c.def_ 73 (d := d_l_later) (by kernel_rfl)) (He.glo_ok X G (c.fact 115 (f := .glo "_law_later") (by kernel_rfl))) bi_l_later,
    d_l_offers := defT_of (c.def_ 74 (d := d_l_offers) (by kernel_rfl)) (He.glo_ok X G (c.fact 116 (f := .glo "_law_offers") (by kernel_rfl))) bi_l_offers,
    d_law := defT_of (c.def_ 75 (d := d_law) (by kernel_rfl)) (He.glo_ok X G (c.fact 117 (f := .glo "law") (by kernel_rfl))) bi_law,
    kRES := res_of (He.glo_ok X G (c.fact 118 (f := .glo "RESERVED") (by kernel_rfl))) e.re,
    kLET := He.str_ok X G (c.fact 119 (f := .str "LETTERS" "abcdefghijklmnopqrstuvwxyz") (by kernel_rfl)) }
/-! ### the law -/
def spLaw (K : PySem.W.Frag) : Sp := fun vs H Q _ => ∃ (a : Addr) (ns : List Int), vs = [.ref a] ∧ SqL K H a (ns.map V.int) ∧ ns.length ≤ 63 ∧ ∀ H', Q (.bl true) H'
/-- the law's body keeps its promise -/
abbrev LawB : Prop := ∀ {P : Program} {w : World} {K : PySem.W.Frag} {mg : Str → Option Value} {base : Heap} {c : Cs}, Txt K mg c → BodyG P w K mg base N_law "law" s_law 14 (spLaw K)
theorem fin {P : Program} {w : World} {h : Heap} {mg : Str → Option Value} {fa : Addr} (Y : ∃ K : PySem.W.Frag, K.In h ∧ SaysN K) (G : h.Ns mainGlobals mg) (hfa : mg "law" = some (.ref fa)) (B : LawB) :
    ∃ (K : PySem.W.Frag) (fd : FuncData), K.In h ∧ (∀ (s : Shared) (u : Value), BindsTo s fd ⟨[u], []⟩ [("_law_script", u)]) ∧ ∀ base : Heap, K.In base → base.Ns mainGlobals mg → FnG P w K mg base 15 fa fd ["_law_script"] (spLaw K) := by
  obtain ⟨K, X, z⟩ := Y
  have c := z.d
  obtain ⟨fd, F⟩ := c.def_ 75 (d := d_law) (by kernel_rfl)
  have e := hfa.symm.trans (He.glo_ok X G (c.fact 117 (f := .glo "law") (by kernel_rfl)))
  cases e
  refine ⟨K, fd, X, fun s u => F.bindsA (ps := ["_law_script"]) bi_law s [u] rfl, fun base _ _ => fnG_of (fun_of F) sc_law (fun vs H Q E h => ?_) (B (txt_of X G z))⟩
  obtain ⟨a, ns, e, _⟩ := h
  subst e
  rfl
theorem walk {l : PySem.W.OpenLaw} {q : Program} {loose : List Str} {XP : (Str → Option Value) → Heap → Prop} {YP : World → Heap → Prop} {d : DefRec} (hn : l.most = some 63) (hdf : d.params.defaults = [])
    (F : ∀ (w : World) (mg : Str → Option Value) (fa : Addr) (h : Heap), YP w h → h.Ns mainGlobals mg → mg d.name = some (.ref fa) →
      ∃ (K : PySem.W.Frag) (fd : FuncData), K.In h ∧ (∀ (s : Shared) (u : Value), BindsTo s fd ⟨[u], []⟩ [("_law_script", u)]) ∧ ∀ base : Heap, K.In base → base.Ns mainGlobals mg → FnG l.prog w K mg base 15 fa fd ["_law_script"] (spLaw K)) :
    PySem.W.WalkO q loose XP YP l.row.toRowW d [] (fun f vs => PySem.call f vs) := by
  refine Att.attach_call hn hdf fun w s0 s1 mg mb fa o pm cd doc a vs ns G Y ho hd hcd hmg hobj hints hlen hg => ?_
  obtain ⟨K, fd, X, hb, hF⟩ := F w mg fa _ Y G.T.g hmg
  exact law_callG X G.T.g G.T.b G.T.builtins G.T.nolimit hg hobj hints (Nat.le_trans hlen (by decide)) (k := 15) ⟨rfl, by decide, by decide⟩ hF hb fun H hO hS => ⟨a, ns, rfl, hS, hlen, fun _ => rfl⟩
end Nos
/-! The head: the top's run. -/
namespace Nos
open PySem PySem.W PySem.Calls PyProof.Rows
abbrev Rw : OpenRow := OpenLaw.row PySem.Challenge.rw_noneorsome_k53_whole_one_counter_by_numb
abbrev qv : Program := view Rw.prog [74]
def lo0 : List PySem.Str := ["_wall", "Game", "forced_action", "close_table", "falling_of", "won_by", "solve_game", "PlanError", "BadName", "NameInUse", "UnknownName", "BadChange"]
def lo1 : List PySem.Str := ["NoOutcome", "NoFreeOutcome", "UnknownAction", "NotPossible", "NoState", "RESERVED", "LETTERS", "is_name", "ascending", "Action", "check_lists", "copied_action"]
def lo2 : List PySem.Str := ["sub_tuples", "same_world", "World", "won_states", "tree_holds", "names_in", "sublists", "implies", "tree_text", "operand_text", "Condition", "check_change"]
def lo3 : List PySem.Str := ["Outcome", "check_condition", "Task", "_law_draw", "_law_pick", "_law_mixed", "_law_same", "_law_name", "_law_names", "_law_condition", "_law_holds", "_law_built"]
def lo4 : List PySem.Str := ["_law_seen", "_law_counters", "_law_changes", "_law_action", "_law_lists", "_law_made", "_law_states", "_law_behind", "_law_taking", "_law_fits", "_law_possible", "_law_set"]
def lo5 : List PySem.Str := ["_law_where", "_law_pairs", "_law_later", "_law_offers"]
def lo : List PySem.Str := lo0 ++ lo1 ++ lo2 ++ lo3 ++ lo4 ++ lo5
set_option maxHeartbeats 0 in
theorem run (w : World) : HandSHeadRun.RunEq Rw qv hk obT 8000 lo w := by
  intro os
  kernel_rfl
theorem topName : (HandSHeadRun.topDef Rw.prog 74).name = ("law" : PySem.Str) := by kernel_rfl
set_option maxHeartbeats 0 in
theorem held_of (B : LawB) : PySem.Challenge.rw_noneorsome_k53_whole_one_counter_by_numb.Holds := by
  w_on; o_law
  refine HandSHeadRun.head_any (r := Rw) (q := qv) (H := hk) (ob := obT) (M := 8000) (loose := lo) (d := HandSHeadRun.topDef Rw.prog 74) (kwd := []) obT_eq
    (by kernel_rfl) (fun s => by kernel_rfl) run (by kernel_rfl) (by kernel_rfl) (by kernel_rfl) (by rfl) (by first | assumption | decide +kernel) (by decide +kernel) ⟨rfl, rfl, rfl, rfl, rfl, by decide +kernel⟩ ?hw ?hc
  case hw => w_witness2
  case hc =>
    refine walk (l := PySem.Challenge.rw_noneorsome_k53_whole_one_counter_by_numb) rfl (by kernel_rfl) (fun w mg fa h Y G hmg0 => ?_)
    have hmg : mg ("law" : PySem.Str) = some (.ref fa) := by
      rw [← topName]
      exact hmg0
    exact fin Y G hmg B
end Nos
namespace Nos
open PySem PySem.Spec PyProof.Rows L2
open C8 (Met Cal Mak Def fnScope fnArgs fnBody)
local macro_rules | `(tactic| walk_at "same") => `(tactic| first | exact Same.refl _ | assumption | exact same_new (by assumption) | (refine Same.trans ?_ (by assumption); walk_at "same") | (refine Same.trans ?_ (same_new (by assumption)); walk_at "same"))
local macro_rules | `(tactic| walk_at "len") => `(tactic| (intro vs H Q E h; first | (obtain ⟨e, _⟩ := h; subst e; rfl) | (obtain ⟨_, e, _⟩ := h; subst e; rfl) | (obtain ⟨_, _, e, _⟩ := h; subst e; rfl) | (obtain ⟨_, _, _, e, _⟩ := h; subst e; rfl) | (obtain ⟨_, _, _, _, e, _⟩ := h; subst e; rfl) | (obtain ⟨_, _, _, _, _, e, _⟩ := h; subst e; rfl) | (obtain ⟨_, _, _, _, _, _, e, _⟩ := h; subst e; rfl) | (obtain ⟨_, _, _, _, _, _, _, e, _⟩ := h; subst e; rfl) | (obtain ⟨_, _, _, _, _, _, _, _, e, _⟩ := h; subst e; rfl) | (obtain ⟨_, _, _, _, _, _, _, _, _, e, _⟩ := h; subst e; rfl) | (obtain ⟨_, _, _, _, _, _, _, _, _, _, e, _⟩ := h; subst e; rfl) | (obtain ⟨_, _, _, _, _, _, _, _, _, _, _, e, _⟩ := h; subst e; rfl) | (obtain ⟨_, _, _, _, _, _, _, _, _, _, _, _, e, _⟩ := h; subst e; rfl) | (obtain ⟨_, _, _, _, _, _, _, _, _, _, _, _, _, e, _⟩ := h; subst e; rfl) | (obtain ⟨_, _, _, _, _, _, _, _, _, _, _, _, _, _, e, _⟩ := h; subst e; rfl) | (obtain ⟨_, _, _, _, _, _, _, _, _, _, _, _, _, _, _, e, _⟩ := h; subst e; rfl) | (obtain ⟨_, _, _, _, _, _, _, _, _, _, _, _, _, _, _, _, e, _⟩ := h; subst e; rfl) | (obtain ⟨_, _, _, _, _, _, _, _, _, _, _, _, _, _, _, _, _, e, _⟩ := h; subst e; rfl) | (obtain ⟨_, _, _, _, _, _, _, _, _, _, _, _, _, _, _, _, _, _, e, _⟩ := h; subst e; rfl) | (obtain ⟨_, _, _, _, _, _, _, _, _, _, _, _, _, _, _, _, _, _, _, e, _⟩ := h; subst e; rfl) | (obtain ⟨_, _, _, _, _, _, _, _, _, _, _, _, _, _, _, _, _, _, _, _, e, _⟩ := h; subst e; rfl) | (obtain ⟨_, _, _, _, _, _, _, _, _, _, _, _, _, _, _, _, _, _, _, _, _, e, _⟩ := h; subst e; rfl) | (obtain ⟨_, _, _, _, _, _, _, _, _, _, _, _, _, _, _, _, _, _, _, _, _, _, e, _⟩ := h; subst e; rfl) | (obtain ⟨_, _, _, _, _, _, _, _, _, _, _, _, _, _, _, _, _, _, _, _, _, _, _, e, _⟩ := h; subst e; rfl) | (obtain ⟨_, _, _, _, _, _, _, _, _, _, _, _, _, _, _, _, _, _, _, _, _, _, _, _, e, _⟩ := h; subst e; rfl) | (obtain ⟨_, _, _, _, _, _, _, _, _, _, _, _, _, _, _, _, _, _, _, _, _, _, _, _, _, e, _⟩ := h; subst e; rfl)))
local macro_rules | `(tactic| walk_at "rd") => `(tactic| first
  | ((with_reducible refine i_seq ?_); walk_at "rd") | ((with_reducible refine i_if ?_); walk_at "rd") | ((with_reducible refine i_ret ?_); walk_at "rd") | ((with_reducible refine i_retN ?_); walk_at "rd") | ((with_reducible refine i_asg ?_); walk_at "rd") | ((with_reducible refine i_asgG ?_); walk_at "rd") | ((with_reducible refine i_drop ?_); walk_at "rd") | ((with_reducible refine i_next ?_); walk_at "rd") | ((with_reducible refine i_break ?_); walk_at "rd") | ((with_reducible refine i_par ?_); walk_at "rd")
  | ((with_reducible refine i_op ?_); walk_at "rd") | ((with_reducible refine i_un ?_); walk_at "rd") | ((with_reducible refine i_c ?_); walk_at "rd") | ((with_reducible refine i_nil ?_); walk_at "rd") | ((with_reducible refine i_cons ?_); walk_at "rd") | ((with_reducible refine i_call ?_); walk_at "rd") | ((with_reducible refine i_CB ?_); walk_at "rd")
  | ((with_reducible refine i_fld ?_); walk_at "rd") | ((with_reducible refine i_meth ?_); walk_at "rd") | ((with_reducible refine i_tup ?_); walk_at "rd") | ((with_reducible refine i_lst ?_); walk_at "rd") | ((with_reducible refine i_test ?_); walk_at "rd") | ((with_reducible refine i_B ?_); walk_at "rd") | ((with_reducible refine i_not ?_); walk_at "rd") | ((with_reducible refine i_and ?_); walk_at "rd") | ((with_reducible refine i_or ?_); walk_at "rd")
  | ((with_reducible refine i_andV ?_); walk_at "rd") | ((with_reducible refine i_orV ?_); walk_at "rd") | ((with_reducible refine i_notV ?_); walk_at "rd") | ((with_reducible refine i_ifE ?_); walk_at "rd") | ((with_reducible refine i_setF ?_); walk_at "rd") | ((with_reducible refine i_list ?_); walk_at "rd") | ((with_reducible refine i_tupI ?_); walk_at "rd") | ((with_reducible refine i_for ?_); walk_at "rd")
  | ((with_reducible refine (show tVar _ _ _ _ from ?_)); refine i_var rfl ?_; walk_at "rd") | ((with_reducible refine i_eq rfl ?_); walk_at "rd") | ((with_reducible refine i_ne rfl ?_); walk_at "rd") 
  | ((with_reducible refine (show rIxT _ _ (V.int 0) _ _ from ?_)); refine i_ixT0 (by first | assumption | exact SqT.of (by assumption)) (by rfl) ?_; walk_at "rd") | ((with_reducible refine (show rIxT _ _ (V.int 1) _ _ from ?_)); refine i_ixT1 (by first | assumption | exact SqT.of (by assumption)) (by rfl) ?_; walk_at "rd") | ((with_reducible refine (show rIxT _ _ (V.int 2) _ _ from ?_)); refine i_ixT2 (by first | assumption | exact SqT.of (by assumption)) (by rfl) ?_; walk_at "rd") | ((with_reducible refine (show rIxT _ _ (V.int 3) _ _ from ?_)); refine i_ixT3 (by first | assumption | exact SqT.of (by assumption)) (by rfl) ?_; walk_at "rd")
  | ((with_reducible refine (show rIxL _ _ (V.int 0) _ _ from ?_)); refine i_ixL0 (by first | assumption | exact SqL.of (by assumption)) (by rfl) ?_; walk_at "rd") | ((with_reducible refine (show rIxL _ _ (V.int 1) _ _ from ?_)); refine i_ixL1 (by first | assumption | exact SqL.of (by assumption)) (by rfl) ?_; walk_at "rd") | ((with_reducible refine (show rIxL _ _ (V.int 2) _ _ from ?_)); refine i_ixL2 (by first | assumption | exact SqL.of (by assumption)) (by rfl) ?_; walk_at "rd") | ((with_reducible refine (show rIxL _ _ (V.int 3) _ _ from ?_)); refine i_ixL3 (by first | assumption | exact SqL.of (by assumption)) (by rfl) ?_; walk_at "rd")
  | ((with_reducible refine i_dget ?_); walk_at "rd") | ((with_reducible refine i_din ?_); walk_at "rd") | ((with_reducible refine i_dnotin ?_); walk_at "rd") | ((with_reducible refine i_dput ?_); walk_at "rd") | ((with_reducible refine i_dget1 ?_); walk_at "rd")
  | ((with_reducible refine i_rng1 ?_); walk_at "rd") | ((with_reducible refine i_iseq ?_); walk_at "rd") | ((with_reducible refine i_make ?_); walk_at "rd") | ((with_reducible refine i_gname ?_); walk_at "rd") | ((with_reducible refine i_bm ?_); walk_at "rd") | ((with_reducible refine i_sl ?_); walk_at "rd") | ((with_reducible refine i_part ?_); walk_at "rd") | ((with_reducible refine i_nopart ?_); walk_at "rd") | ((with_reducible refine i_exI ?_); walk_at "rd")
  | ((with_reducible refine i_if1 ?_); walk_at "rd") | ((with_reducible refine i_if0 ?_); walk_at "rd") | ((with_reducible refine i_ex ?_); walk_at "rd") | ((with_reducible refine i_ifEq ?_); walk_at "rd") | ((with_reducible refine (show @ite _ _ _ _ _ from ?_)); refine ifF (by decide +kernel) ?_; walk_at "rd") | ((with_reducible refine (show @ite _ _ _ _ _ from ?_)); refine ifT (by decide +kernel) ?_; walk_at "rd") | skip)
section
variable {P : Program} {w : World} {K : PySem.W.Frag} {mg : Str → Option Value} {base : Heap} {c : Cs}
/-! ### trees -/
def spHolds (n : Nat) : Sp := fun vs H Q _ => ∃ x y t ns, vs = [x, y] ∧ rTree H x t ∧ rTupS H y ns ∧ t.depth < n ∧ ∀ H', Same H H' → Q (.bl (t.holds ns)) H'
theorem c_tree_holds (T : Txt K mg c) : ∀ n, Cal P w K mg base (n + 1) "tree_holds" (spHolds n) [] := by
  intro n
  induction n with
  | zero =>
    refine cal_of T.d_tree_holds sc_tree_holds (by walk_at "len") (fun f cdv A outer sh H vs Q E hr h => ?_)
    obtain ⟨x, y, t, ns, rfl, ht, hy, hn, q⟩ := h
    exact absurd hn (Nat.not_lt_zero _)
  | succ n ih =>
    refine cal_of T.d_tree_holds sc_tree_holds (by walk_at "len") (fun f cdv A outer sh H vs Q E hr h => ?_)
    obtain ⟨x, y, t, ns, rfl, ht, ⟨b, rfl, hb⟩, hn, q⟩ := h
    have nd := sc_tree_holds.nd
    have hb' : SqT K H b (ns.map V.str) ∨ SqL K H b (ns.map V.str) := .inl (SqT.of hb)
    refine ⟨_, (pss_cons (ps_set (i := 2) nd rfl (.inl rfl) (pe_ix (kIxT K rfl) (pv 0) pe_int (fun _ _ => rfl)))
        (pss_cons (ps_if (pt_cmpR op_eq (pv 2) pe_str (nomark _)) (pss_one (ps_ret (pe_cmpR (kInS K rfl) (pe_ix (kIxT K rfl) (pv 0) pe_int (fun _ _ => rfl)) (pv 1) (by rfl)))) pss_nil)
        (pss_cons (ps_if (pt_cmpR op_eq (pv 2) pe_str (nomark _)) (pss_one (ps_ret (pe_not (C8.pe_c ih hr (by first | decide | exact Nat.le_refl _ | omega) rfl (pa_cons (pe_ix (kIxT K rfl) (pv 0) pe_int (fun _ _ => rfl)) (pa_cons (pv 1) pa_nil)))))) pss_nil)
        (pss_cons (ps_if (pt_cmpR op_eq (pv 2) pe_str (nomark _)) (pss_one (ps_ret (pe_and (C8.pe_c ih hr (by first | decide | exact Nat.le_refl _ | omega) rfl (pa_cons (pe_ix (kIxT K rfl) (pv 0) pe_int (fun _ _ => rfl)) (pa_cons (pv 1) pa_nil))) (pe_one (C8.pe_c ih hr (by first | decide | exact Nat.le_refl _ | omega) rfl (pa_cons (pe_ix (kIxT K rfl) (pv 0) pe_int (fun _ _ => rfl)) (pa_cons (pv 1) pa_nil))))))) pss_nil)
        (pss_cons (ps_if (pt_cmpR op_eq (pv 2) pe_str (nomark _)) (pss_one (ps_ret (pe_or (C8.pe_c ih hr (by first | decide | exact Nat.le_refl _ | omega) rfl (pa_cons (pe_ix (kIxT K rfl) (pv 0) pe_int (fun _ _ => rfl)) (pa_cons (pv 1) pa_nil))) (pe_one (C8.pe_c ih hr (by first | decide | exact Nat.le_refl _ | omega) rfl (pa_cons (pe_ix (kIxT K rfl) (pv 0) pe_int (fun _ _ => rfl)) (pa_cons (pv 1) pa_nil))))))) pss_nil)
        (pss_one (ps_ret (pe_cmpR op_eq (pv 2) pe_str (nomark _))))))))), ?_⟩
    cases t with
    | is s =>
      obtain ⟨a, rfl, ha⟩ := ht
      have ha := SqT.of (K := K) ha
      walk_at "rd"
      exact i_inT hb' (q _ (Same.refl _))
    | not t =>
      obtain ⟨a, p, rfl, ha, h1⟩ := ht
      have ha := SqT.of (K := K) ha
      walk_at "rd"
      refine ⟨_, _, _, _, rfl, h1, ⟨b, rfl, hb⟩, Nat.lt_of_succ_lt_succ hn, fun H' e => ?_⟩
      exact ⟨_, rfl, q _ e⟩
    | and t u =>
      obtain ⟨a, p, r, rfl, ha, h1, h2⟩ := ht
      have ha' := SqT.of (K := K) ha
      have hn : max t.depth u.depth + 1 < n + 1 := hn
      walk_at "rd"
      refine ⟨_, _, _, _, rfl, h1, ⟨b, rfl, hb⟩, by omega, fun H' e => ⟨_, rfl, ?_⟩⟩
      have q' : ∀ H', Same H H' → Q (.bl (t.holds ns && u.holds ns)) H' := q
      cases h : t.holds ns with
      | false =>
        walk_at "rd"
        rw [h] at q'
        exact q' _ e
      | true =>
        have ha'' := SqT.of (K := K) (e _ _ ha)
        walk_at "rd"
        rw [h] at q'
        exact ⟨_, _, _, _, rfl, mono h2 e, ⟨b, rfl, e _ _ hb⟩, by omega, fun H'' e' => q' _ (e.trans e')⟩
    | or t u =>
      obtain ⟨a, p, r, rfl, ha, h1, h2⟩ := ht
      have ha' := SqT.of (K := K) ha
      have hn : max t.depth u.depth + 1 < n + 1 := hn
      walk_at "rd"
      refine ⟨_, _, _, _, rfl, h1, ⟨b, rfl, hb⟩, by omega, fun H' e => ⟨_, rfl, ?_⟩⟩
      have q' : ∀ H', Same H H' → Q (.bl (t.holds ns || u.holds ns)) H' := q
      cases h : t.holds ns with
      | true =>
        walk_at "rd"
        rw [h] at q'
        exact q' _ e
      | false =>
        have ha'' := SqT.of (K := K) (e _ _ ha)
        walk_at "rd"
        rw [h] at q'
        exact ⟨_, _, _, _, rfl, mono h2 e, ⟨b, rfl, e _ _ hb⟩, by omega, fun H'' e' => q' _ (e.trans e')⟩
    | always =>
      obtain ⟨a, rfl, ha⟩ := ht
      have ha := SqT.of (K := K) ha
      walk_at "rd"
      exact q _ (Same.refl _)
    | never =>
      obtain ⟨a, rfl, ha⟩ := ht
      have ha := SqT.of (K := K) ha
      walk_at "rd"
      have e : decide (V.str "never" = V.str "always") = false := by decide +kernel
      rw [e]
      exact q _ (Same.refl _)
def spLHolds (n : Nat) : Sp := fun vs H Q _ => ∃ x y t ns, vs = [x, y] ∧ rTree H x t ∧ rTupS H y ns ∧ t.depth < n ∧ ∀ H', Same H H' → Q (.bl (t.holds ns)) H'
theorem c_l_holds (T : Txt K mg c) : ∀ n, Cal P w K mg base (n + 1) "_law_holds" (spLHolds n) [] := by
  intro n
  induction n with
  | zero =>
    refine cal_of T.d_l_holds sc_l_holds (by walk_at "len") (fun f cdv A outer sh H vs Q E hr h => ?_)
    obtain ⟨x, y, t, ns, rfl, ht, hy, hn, q⟩ := h
    exact absurd hn (Nat.not_lt_zero _)
  | succ n ih =>
    refine cal_of T.d_l_holds sc_l_holds (by walk_at "len") (fun f cdv A outer sh H vs Q E hr h => ?_)
    obtain ⟨x, y, t, ns, rfl, ht, ⟨b, rfl, hb⟩, hn, q⟩ := h
    have nd := sc_l_holds.nd
    have hb' : SqT K H b (ns.map V.str) ∨ SqL K H b (ns.map V.str) := .inl (SqT.of hb)
    refine ⟨_, (pss_cons (ps_if (pt_cmpR op_eq (pe_ix (kIxT K rfl) (pv 0) pe_int (fun _ _ => rfl)) pe_str (nomark _)) (pss_one (ps_ret (pe_cmpR (kInS K rfl) (pe_ix (kIxT K rfl) (pv 0) pe_int (fun _ _ => rfl)) (pv 1) (by rfl)))) pss_nil)
        (pss_cons (ps_if (pt_cmpR op_eq (pe_ix (kIxT K rfl) (pv 0) pe_int (fun _ _ => rfl)) pe_str (nomark _)) (pss_one (ps_ret (pe_not (C8.pe_c ih hr (by first | decide | exact Nat.le_refl _ | omega) rfl (pa_cons (pe_ix (kIxT K rfl) (pv 0) pe_int (fun _ _ => rfl)) (pa_cons (pv 1) pa_nil)))))) pss_nil)
        (pss_cons (ps_if (pt_cmpR op_eq (pe_ix (kIxT K rfl) (pv 0) pe_int (fun _ _ => rfl)) pe_str (nomark _)) (pss_one (ps_ret (pe_and (C8.pe_c ih hr (by first | decide | exact Nat.le_refl _ | omega) rfl (pa_cons (pe_ix (kIxT K rfl) (pv 0) pe_int (fun _ _ => rfl)) (pa_cons (pv 1) pa_nil))) (pe_one (C8.pe_c ih hr (by first | decide | exact Nat.le_refl _ | omega) rfl (pa_cons (pe_ix (kIxT K rfl) (pv 0) pe_int (fun _ _ => rfl)) (pa_cons (pv 1) pa_nil))))))) pss_nil)
        (pss_cons (ps_if (pt_cmpR op_eq (pe_ix (kIxT K rfl) (pv 0) pe_int (fun _ _ => rfl)) pe_str (nomark _)) (pss_one (ps_ret (pe_or (C8.pe_c ih hr (by first | decide | exact Nat.le_refl _ | omega) rfl (pa_cons (pe_ix (kIxT K rfl) (pv 0) pe_int (fun _ _ => rfl)) (pa_cons (pv 1) pa_nil))) (pe_one (C8.pe_c ih hr (by first | decide | exact Nat.le_refl _ | omega) rfl (pa_cons (pe_ix (kIxT K rfl) (pv 0) pe_int (fun _ _ => rfl)) (pa_cons (pv 1) pa_nil))))))) pss_nil)
        (pss_one (ps_ret (pe_cmpR op_eq (pe_ix (kIxT K rfl) (pv 0) pe_int (fun _ _ => rfl)) pe_str (nomark _)))))))), ?_⟩
    cases t with
    | is s =>
      obtain ⟨a, rfl, ha⟩ := ht
      have ha := SqT.of (K := K) ha
      walk_at "rd"
      exact i_inT hb' (q _ (Same.refl _))
    | not t =>
      obtain ⟨a, p, rfl, ha, h1⟩ := ht
      have ha := SqT.of (K := K) ha
      walk_at "rd"
      refine ⟨_, _, _, _, rfl, h1, ⟨b, rfl, hb⟩, Nat.lt_of_succ_lt_succ hn, fun H' e => ?_⟩
      exact ⟨_, rfl, q _ e⟩
    | and t u =>
      obtain ⟨a, p, r, rfl, ha, h1, h2⟩ := ht
      have ha' := SqT.of (K := K) ha
      have hn : max t.depth u.depth + 1 < n + 1 := hn
      walk_at "rd"
      refine ⟨_, _, _, _, rfl, h1, ⟨b, rfl, hb⟩, by omega, fun H' e => ⟨_, rfl, ?_⟩⟩
      have q' : ∀ H', Same H H' → Q (.bl (t.holds ns && u.holds ns)) H' := q
      cases h : t.holds ns with
      | false =>
        walk_at "rd"
        rw [h] at q'
        exact q' _ e
      | true =>
        have ha'' := SqT.of (K := K) (e _ _ ha)
        walk_at "rd"
        rw [h] at q'
        exact ⟨_, _, _, _, rfl, mono h2 e, ⟨b, rfl, e _ _ hb⟩, by omega, fun H'' e' => q' _ (e.trans e')⟩
    | or t u =>
      obtain ⟨a, p, r, rfl, ha, h1, h2⟩ := ht
      have ha' := SqT.of (K := K) ha
      have hn : max t.depth u.depth + 1 < n + 1 := hn
      walk_at "rd"
      refine ⟨_, _, _, _, rfl, h1, ⟨b, rfl, hb⟩, by omega, fun H' e => ⟨_, rfl, ?_⟩⟩
      have q' : ∀ H', Same H H' → Q (.bl (t.holds ns || u.holds ns)) H' := q
      cases h : t.holds ns with
      | true =>
        walk_at "rd"
        rw [h] at q'
        exact q' _ e
      | false =>
        have ha'' := SqT.of (K := K) (e _ _ ha)
        walk_at "rd"
        rw [h] at q'
        exact ⟨_, _, _, _, rfl, mono h2 e, ⟨b, rfl, e _ _ hb⟩, by omega, fun H'' e' => q' _ (e.trans e')⟩
    | always =>
      obtain ⟨a, rfl, ha⟩ := ht
      have ha := SqT.of (K := K) ha
      walk_at "rd"
      exact q _ (Same.refl _)
    | never =>
      obtain ⟨a, rfl, ha⟩ := ht
      have ha := SqT.of (K := K) ha
      walk_at "rd"
      have e : decide (V.str "never" = V.str "always") = false := by decide +kernel
      rw [e]
      exact q _ (Same.refl _)
def rCp : Rep Nat := fun _ v x => v = .str ⟨#[x]⟩
instance : Mono rCp := ⟨fun _ h => h⟩
def spIsName : Sp := fun vs H Q _ => ∃ s, vs = [.str s] ∧ isName s = true ∧ ∀ H', Same H H' → Q (.bl true) H'
theorem c_is_name (T : Txt K mg c) : Cal P w K mg base 1 "is_name" (spIsName) [] := by
    refine cal_of T.d_is_name sc_is_name (by walk_at "len") (fun f cdv A outer sh H vs Q E hr h => ?_)
    have nd := sc_is_name.nd
    obtain ⟨s, rfl, hs, q⟩ := h
    obtain ⟨aR, gRES, hRES⟩ := T.kRES
    obtain ⟨tL, gLET⟩ := T.kLET
    refine ⟨_, (pss_cons (ps_if (PW.pt (pw_or (pt_not (pt_chain op_le op_le pe_int (pe_callB call_len_str (by rfl) T.g_len PySem.boot_len (pa_cons (pv 0) pa_nil)) pe_int)) (pw_or1 (pt_cmpR (kInS K rfl) (pv 0) (pe_glob (v := V.ref aR) (by rfl) gRES rfl) (by rfl))))) (pss_one (ps_ret pe_bl)) pss_nil)
        (pss_one (ps_ret (pe_callB (kAll K rfl rfl) (by rfl) T.g_all (by decide +kernel) (pa_cons (pe_lc (own := [("letter", 1)]) (g := gName 1) rfl nd (pi_str (pv 0)) (blkOk_by (own := [("letter", 1)]) (N := N_is_name) (sc := fnScope s_is_name) (by decide +kernel)) (fun _ _ _ _ _ => (pg_name (i := 1) nd rfl (.inl rfl))) (fun _ _ _ _ _ => pts_nil) (fun _ _ _ _ _ => pe_hide (pe_cmpR op_in_sign (pv 1) (pe_glob (v := V.str letters) (by rfl) gLET ⟨_, rfl⟩) (by rfl)))) pa_nil))))), ?_⟩
    have hs' := hs
    unfold isName at hs'
    simp only [Bool.and_eq_true, decide_eq_true_eq, Bool.not_eq_true', decide_eq_false_iff_not] at hs'
    obtain ⟨⟨⟨h1, h8⟩, hr'⟩, hl⟩ := hs'
    have e : decide (s ∈ reserved) = false := decide_eq_false hr'
    walk_at "rd"
    refine ⟨_, rfl, s, rfl, big5 (by omega), 1, _, rfl, rfl, _, rfl, ifT (decide_eq_true (by omega)) ⟨_, 8, rfl, rfl, _, rfl, ?_⟩⟩
    rw [show decide ((s.length : Int) ≤ 8) = true from decide_eq_true (by omega)]
    walk_at "rd"
    refine i_inT (ns := reserved) (.inl (.inr hRES)) ⟨_, rfl, ifF e ?_⟩
    walk_at "rd"
    refine ⟨_, rfl, s, rfl, fun D nD => ?_⟩
    have hlen : s.cps.toList.length = s.length := Array.length_toList
    refine lc_wm walk_str rCp rBool (ys := s.cps.toList) (fun c => decide (c ∈ letters.cps.toList)) (by simp) (fun _ _ => trivial) (fun i H x H' hi ⟨e, c, hc, hx⟩ => ⟨e, c, by simpa using hc, hx⟩) (by omega) nD (fun x => rfl) (fun x y G sm hx hy Q hQ => ?_) (fun H2 zs sm hz hp => ?_)
    · obtain rfl : x = .str ⟨#[y]⟩ := hx
      walk_at "rd"
      exact ⟨_, _, rfl, rfl, hQ _ _ (Same.refl _) rfl⟩
    · exact i_all hz hp (by rw [hl]; exact q _ sm)

/-! ### names in a tree -/
def spNamesIn (n : Nat) : Sp := fun vs H Q _ => ∃ x t, vs = [x] ∧ rTree H x t ∧ t.names.length ≤ 1000 ∧ t.depth < n ∧ ∀ v H', Same H H' → rLstS H' v t.names → Q v H'
theorem c_names_in (T : Txt K mg c) : ∀ n, Cal P w K mg base (n + 1) "names_in" (spNamesIn n) [] := by
  intro n
  induction n with
  | zero =>
    refine cal_of T.d_names_in sc_names_in (by walk_at "len") (fun f cdv A outer sh H vs Q E hr h => ?_)
    obtain ⟨x, t, rfl, ht, hk, hn, q⟩ := h
    exact absurd hn (Nat.not_lt_zero _)
  | succ n ih =>
    refine cal_of T.d_names_in sc_names_in (by walk_at "len") (fun f cdv A outer sh H vs Q E hr h => ?_)
    obtain ⟨x, t, rfl, ht, hk, hn, q⟩ := h
    have nd := sc_names_in.nd
    refine ⟨_, (pss_cons (ps_if (pt_cmpR op_eq (pe_ix (kIxT K rfl) (pv 0) pe_int (fun _ _ => rfl)) pe_str (nomark _)) (pss_one (ps_ret (pe_lst (pa_cons (pe_ix (kIxT K rfl) (pv 0) pe_int (fun _ _ => rfl)) pa_nil)))) pss_nil)
        (pss_cons (ps_set (i := 1) nd rfl (.inl rfl) (pe_lst pa_nil))
        (pss_cons (ps_for PassesOwn.never rfl (pi_tupK K rfl (pe_slice (kSlA K rfl) (pv 0) (po_some pe_int) po_none)) (pg_name (i := 2) nd rfl (.inl rfl)) (pss_one (ps_expr (pe_bmK K rfl PySem.F.plainAttrs_list PySem.F.slot_list_extend PySem.F.type_list_extend mt_extend (pv 1) (pa_cons (C8.pe_c ih hr (by first | decide | exact Nat.le_refl _ | omega) rfl (pa_cons (pv 2) pa_nil)) pa_nil)))))
        (pss_one (ps_ret (pv 1)))))), ?_⟩
    rcases tree_shape ht with ⟨s, rfl⟩ | ⟨a, wd, parts, rfl, ha, hw, hp, hnm, hd⟩
    · obtain ⟨a, rfl, ha⟩ := ht
      have ha := SqT.of (K := K) ha
      walk_at "rd"
      exact ⟨big5 (by simp), fun p hp => q _ _ (same_new hp) ⟨p, rfl, upd_same⟩⟩
    · have ha' := SqT.of (K := K) ha
      have hdec : decide (V.str wd = V.str "is") = false := decide_eq_false fun z => hw (V.str.inj z)
      walk_at "rd"
      refine ifF hdec ?_
      walk_at "rd"
      refine ⟨Nat.zero_le _, fun D nD => ?_⟩
      walk_at "rd"
      refine i_sl1 (SqT.of (same_new nD _ _ ha)) fun p np => ?_
      obtain ⟨npH, npD⟩ := none_of_upd np
      refine ⟨_, rfl, ⟨_, SqT.of upd_same⟩, ?_⟩
      refine for_w (walk_tup (xs := parts)) (fun i σ H' => ∃ v2, Same H H' ∧ H' p = some (.tup parts) ∧ H' D = some (.lst (((t.parts.take i).flatMap Tree.names).map V.str)) ∧ σ = [some (.ref a), some (.ref D), v2]) ?_ ?_ ?_ ?_
      · exact ⟨none, (same_new nD).trans (same_new np), upd_same, by rw [upd_ne (Ne.symm npD)]; exact upd_same, rfl⟩
      · rintro i σ H' _ ⟨_, _, h, _, _⟩
        exact SqT.of h
      · rintro i x σ H' H2 hi ⟨v2, e, h1, h2, rfl⟩ ⟨rfl, hx⟩
        obtain ⟨u, hu, ru⟩ := paired_get hp hx
        have hm : u ∈ t.parts := List.mem_of_getElem? hu
        have hlt := flat_lt (f := Tree.names) hu
        rw [← hnm] at hlt
        walk_at "rd"
        refine ⟨.inl ⟨rfl, _, SqL.of h2⟩, ?_⟩
        walk_at "rd"
        refine ⟨_, u, rfl, mono ru e, by omega, by have := hd u hm; omega, fun v H3 e3 ⟨b, hv, hb⟩ => ?_⟩
        subst hv
        walk_at "rd"
        refine i_extend (e3 _ _ h2) hb (by rw [List.length_map, List.length_map]; omega) ⟨_, same_mut (e.trans e3) nD, by rw [upd_ne npD]; exact e3 _ _ h1, ?_, rfl⟩
        rw [upd_same, flat_take hu, List.map_append]
      · rintro σ H' ⟨v2, e, h1, h2, rfl⟩
        walk_at "rd"
        refine q _ _ e ⟨D, rfl, ?_⟩
        rw [h2, List.take_of_length_le (Nat.le_of_eq (paired_len hp).symm), hnm]
def spAscending : Sp := fun vs H Q _ => ∃ x ns, vs = [x] ∧ rLstS H x ns ∧ ns.length ≤ 60 ∧ ∀ v H' ms, Same H H' → rLstS H' v ms → (∀ m ∈ ms, m ∈ ns) → ms.length ≤ ns.length → Q v H'
theorem c_ascending (T : Txt K mg c) : Cal P w K mg base 1 "ascending" (spAscending) [] := by
    refine cal_of T.d_ascending sc_ascending (by walk_at "len") (fun f cdv A outer sh H vs Q E hr h => ?_)
    have nd := sc_ascending.nd
    obtain ⟨_, ns, rfl, ⟨a, rfl, ha⟩, hl, q⟩ := h
    refine ⟨_, (pss_one (ps_ret (pe_callB (cr_sortX rfl) (by rfl) T.g_sorted (by decide +kernel) (pa_cons (pe_callTy (kSetX K rfl rfl) (by rfl) T.g_set (by decide +kernel) (pa_cons (pe_lc (own := [("name", 1)]) (g := gName 1) rfl nd (pi_listK K rfl (pv 0)) (blkOk_by (own := [("name", 1)]) (N := N_ascending) (sc := fnScope s_ascending) (by decide +kernel)) (fun _ _ _ _ _ => (pg_name (i := 1) nd rfl (.inl rfl))) (fun _ _ _ _ _ => pts_nil) (fun _ _ _ _ _ => pe_hide (pe_callTy SkE.call_str_str (by rfl) T.g_str (by decide +kernel) (pa_cons (pv 1) pa_nil)))) pa_nil)) pa_nil)))), ?_⟩
    refine ⟨_, rfl, a, rfl, ⟨_, SqL.of ha⟩, fun D nD => ?_⟩
    refine lc_wm (walk_list (xs := ns.map V.str)) rStr rStr (ys := ns) id (by simp) (fun H' s => SqL.of (s _ _ ha)) (yat_of rStr strs_paired) (by omega) nD (fun x => rfl) (fun x n G sm hx hm Q hQ => ?_) (fun H2 zs sm hz hp => ?_)
    · obtain rfl : x = .str n := hx
      walk_at "rd"
      exact ⟨_, rfl, hQ _ _ (Same.refl _) rfl⟩
    · rw [List.map_id] at hp
      rw [paired_strs hp] at hz
      walk_at "rd"
      refine ⟨D, ns, rfl, SqL.of hz, by omega, fun p np => ?_⟩
      walk_at "rd"
      refine ⟨p, ns, ns.length, rfl, upd_same, by omega, fun ms p2 m1 m2 np2 => ?_⟩
      exact q _ _ ms ((sm.trans (same_new np)).trans (same_new np2)) ⟨p2, rfl, upd_same⟩ m1 m2
/-! ### conditions -/
def spCInit (c : Cs) : Sp := fun vs H Q _ => ∃ a dx x, vs = [.ref a, x] ∧ H a = some (.ins c.C dx []) ∧ Q .non (upd H a (.ins c.C dx (fC x)))
theorem k_Condition (T : Txt K mg c) : Mak P w K mg base 1 "Condition" c.C (spCInit c) [] := by
    refine mak_of T.m_Condition_init sc_Condition_init (by walk_at "len") (fun f cdv A outer sh H vs Q E hr h => ?_)
    have nd := sc_Condition_init.nd
    obtain ⟨a, dx, x, rfl, ha, q⟩ := h
    refine ⟨_, (pss_one (ps_fldK K rfl (pv 0) (pv 1) rfl)), ?_⟩
    walk_at "rd"
    refine ⟨a, _, _, _, rfl, ha, T.cC, T.nC_tree, by decide, ?_⟩
    walk_at "rd"
    exact q
theorem i_mkC {H : Hp} {y : V} {t : Tree} {E : XK} {Q : VK} (h : rTree H y t) (d : t.depth ≤ 2) (q : ∀ v H', Same H H' → rCond c H' v t → Q v H') (x dx : Addr) (nx : H x = none) (nd : H dx = none) (ne : dx ≠ x) :
    spCInit c (.ref x :: ([y] ++ [])) (upd (upd H dx (.own x)) x (.ins c.C dx [])) (fun v H2 => v = .non ∧ Q (.ref x) H2) E := by
  have s : Same H (upd (upd (upd H dx (.own x)) x (.ins c.C dx [])) x (.ins c.C dx (fC y))) := same_mut (same_made nx nd (Same.refl _)) nx
  exact ⟨x, dx, y, rfl, upd_same, rfl, q _ _ s ⟨x, dx, y, rfl, upd_same, mono h s, d⟩⟩
def spCOf (c : Cs) : Sp := fun vs H Q _ => ∃ s, vs = [.str s] ∧ isName s = true ∧ ∀ v H', Same H H' → rCond c H' v (.is s) → Q v H'
theorem st_Condition_of (T : Txt K mg c) : Sta P w K mg base 3 c.C (.type "type") "of" (spCOf c) := by
    refine sta_of T.m_Condition_of sc_Condition_of (by walk_at "len") (fun f cdv A outer sh H vs Q E hr h => ?_)
    have nd := sc_Condition_of.nd
    obtain ⟨s, rfl, hs, q⟩ := h
    refine ⟨_, (pss_cons (ps_if (pt_not (pt_val (C8.pe_c (c_is_name T) hr (by first | decide | exact Nat.le_refl _ | omega) rfl (pa_cons (pv 0) pa_nil)))) (pss_one ps_never) pss_nil)
        (pss_one (ps_ret (C8.pe_mk (k_Condition T) hr (by first | decide | exact Nat.le_refl _ | omega) rfl (pa_cons (pe_tup (pa_cons pe_str (pa_cons (pv 0) pa_nil))) pa_nil))))), ?_⟩
    walk_at "rd"
    refine ⟨s, rfl, hs, fun H' e => ?_⟩
    walk_at "rd"
    refine ⟨big5 (by simp), fun p np => ?_⟩
    walk_at "rd"
    exact i_mkC (t := .is s) ⟨p, rfl, upd_same⟩ (Nat.zero_le _) fun v H2 e2 r => q v H2 ((e.trans (same_new np)).trans e2) r
def spCAlways (c : Cs) : Sp := fun vs H Q _ => vs = [] ∧ ∀ v H', Same H H' → rCond c H' v .always → Q v H'
theorem st_Condition_always (T : Txt K mg c) : Sta P w K mg base 3 c.C (.type "type") "always" (spCAlways c) := by
    refine sta_of T.m_Condition_always sc_Condition_always (by walk_at "len") (fun f cdv A outer sh H vs Q E hr h => ?_)
    have nd := sc_Condition_always.nd
    obtain ⟨rfl, q⟩ := h
    refine ⟨_, (pss_one (ps_ret (C8.pe_mk (k_Condition T) hr (by first | decide | exact Nat.le_refl _ | omega) rfl (pa_cons (pe_tup (pa_cons pe_str pa_nil)) pa_nil)))), ?_⟩
    walk_at "rd"
    refine ⟨big5 (by simp), fun p np => ?_⟩
    walk_at "rd"
    exact i_mkC (t := .always) ⟨p, rfl, upd_same⟩ (Nat.zero_le _) fun v H2 e2 r => q v H2 ((same_new np).trans e2) r
def spCNever (c : Cs) : Sp := fun vs H Q _ => vs = [] ∧ ∀ v H', Same H H' → rCond c H' v .never → Q v H'
theorem st_Condition_never (T : Txt K mg c) : Sta P w K mg base 3 c.C (.type "type") "never" (spCNever c) := by
    refine sta_of T.m_Condition_never sc_Condition_never (by walk_at "len") (fun f cdv A outer sh H vs Q E hr h => ?_)
    have nd := sc_Condition_never.nd
    obtain ⟨rfl, q⟩ := h
    refine ⟨_, (pss_one (ps_ret (C8.pe_mk (k_Condition T) hr (by first | decide | exact Nat.le_refl _ | omega) rfl (pa_cons (pe_tup (pa_cons pe_str pa_nil)) pa_nil)))), ?_⟩
    walk_at "rd"
    refine ⟨big5 (by simp), fun p np => ?_⟩
    walk_at "rd"
    exact i_mkC (t := .never) ⟨p, rfl, upd_same⟩ (Nat.zero_le _) fun v H2 e2 r => q v H2 ((same_new np).trans e2) r
def spCNames (c : Cs) : Sp := fun vs H Q _ => ∃ x t, vs = [x] ∧ rCond c H x t ∧ t.names.length ≤ 60 ∧ ∀ v H' ms, Same H H' → rLstS H' v ms → (∀ m ∈ ms, m ∈ t.names) → ms.length ≤ 60 → Q v H'
theorem m_Condition_names (T : Txt K mg c) : Met P w K mg base 5 c.C "names" (spCNames c) [] := by
    refine met_of T.m_Condition_names sc_Condition_names (by walk_at "len") (fun f cdv A outer sh H vs Q E hr h => ?_)
    have nd := sc_Condition_names.nd
    obtain ⟨_, t, rfl, ⟨a, dx, x, rfl, ha, ht, hd⟩, hl, q⟩ := h
    refine ⟨_, (pss_one (ps_ret (C8.pe_c (c_ascending T) hr (by first | decide | exact Nat.le_refl _ | omega) rfl (pa_cons (C8.pe_c (c_names_in T 3) hr (by first | decide | exact Nat.le_refl _ | omega) rfl (pa_cons (pe_fldK K rfl (pv 0) rfl) pa_nil)) pa_nil)))), ?_⟩
    walk_at "rd"
    refine ⟨a, _, _, _, _, rfl, ha, T.cC, T.nC_tree, fC_tree, ?_⟩
    walk_at "rd"
    refine ⟨_, t, rfl, ht, by omega, by omega, fun v H' e r => ?_⟩
    walk_at "rd"
    exact ⟨_, _, rfl, r, hl, fun v H2 ms e2 r2 h1 h2 => q v H2 ms (e.trans e2) r2 h1 (by omega)⟩
def spCCall (c : Cs) : Sp := fun vs H Q _ => ∃ x y t ns, vs = [x, y] ∧ rCond c H x t ∧ rTupS H y ns ∧ ∀ H', Same H H' → Q (.bl (t.holds ns)) H'
theorem m_Condition_call (T : Txt K mg c) : Met P w K mg base 5 c.C "__call__" (spCCall c) [] := by
    refine met_of T.m_Condition_call sc_Condition_call (by walk_at "len") (fun f cdv A outer sh H vs Q E hr h => ?_)
    have nd := sc_Condition_call.nd
    obtain ⟨_, y, t, ns, rfl, ⟨a, dx, x, rfl, ha, ht, hd⟩, hy, q⟩ := h
    refine ⟨_, (pss_one (ps_ret (C8.pe_c (c_tree_holds T 3) hr (by first | decide | exact Nat.le_refl _ | omega) rfl (pa_cons (pe_fldK K rfl (pv 0) rfl) (pa_cons (pv 1) pa_nil))))), ?_⟩
    walk_at "rd"
    refine ⟨a, _, _, _, _, rfl, ha, T.cC, T.nC_tree, fC_tree, ?_⟩
    walk_at "rd"
    exact ⟨_, _, t, ns, rfl, ht, hy, by omega, q⟩
theorem i_isC {H : Hp} {Q : VK} {a dx : Addr} {fs : List (Str × V)} (T : Txt K mg c) (h : H a = some (.ins c.C dx fs)) (q : Q (.bl true) H) : rIsi K [.ref a, .ref c.C] H Q :=
  ⟨_, _, _, _, true, rfl, .own _, .base (.ins h T.cC T.iC1 T.iC2 T.iC3 T.iC4), if_pos (by simp), q⟩
def spCAnd (c : Cs) : Sp := fun vs H Q _ => ∃ a b dx dy x y t u, vs = [.ref a, .ref b] ∧ H a = some (.ins c.C dx (fC x)) ∧ rTree H x t ∧ H b = some (.ins c.C dy (fC y)) ∧ rTree H y u ∧ t.depth ≤ 1 ∧ u.depth ≤ 1 ∧ ∀ v H', Same H H' → rCond c H' v (.and t u) → Q v H'
theorem m_Condition_and (T : Txt K mg c) : Met P w K mg base 3 c.C "__and__" (spCAnd c) [] := by
    refine met_of T.m_Condition_and sc_Condition_and (by walk_at "len") (fun f cdv A outer sh H vs Q E hr h => ?_)
    have nd := sc_Condition_and.nd
    obtain ⟨a, b, dx, dy, x, y, t, u, rfl, ha, ht, hb, hu, dt, du, q⟩ := h
    refine ⟨_, (pss_cons (ps_if (pt_not (pt_val (pe_callB (kIsi K rfl) (by rfl) T.g_isinstance (by decide +kernel) (pa_cons (pv 1) (pa_cons (pe_glob (v := V.ref c.C) (by rfl) T.gcC rfl) pa_nil))))) (pss_one ps_never) pss_nil)
        (pss_one (ps_ret (C8.pe_mk (k_Condition T) hr (by first | decide | exact Nat.le_refl _ | omega) rfl (pa_cons (pe_tup (pa_cons pe_str (pa_cons (pe_fldK K rfl (pv 0) rfl) (pa_cons (pe_fldK K rfl (pv 1) rfl) pa_nil)))) pa_nil))))), ?_⟩
    walk_at "rd"
    refine i_isC T hb ⟨_, rfl, ?_⟩
    walk_at "rd"
    refine ⟨a, _, _, _, _, rfl, ha, T.cC, T.nC_tree, fC_tree, ?_⟩
    walk_at "rd"
    refine ⟨b, _, _, _, _, rfl, hb, T.cC, T.nC_tree, fC_tree, ?_⟩
    walk_at "rd"
    refine ⟨big5 (by simp), fun p np => ?_⟩
    walk_at "rd"
    exact i_mkC (t := .and t u) ⟨p, _, _, rfl, upd_same, mono ht (same_new np), mono hu (same_new np)⟩ (by show max t.depth u.depth + 1 ≤ 2; omega) fun v H2 e2 r => q v H2 ((same_new np).trans e2) r
def spCOr (c : Cs) : Sp := fun vs H Q _ => ∃ a b dx dy x y t u, vs = [.ref a, .ref b] ∧ H a = some (.ins c.C dx (fC x)) ∧ rTree H x t ∧ H b = some (.ins c.C dy (fC y)) ∧ rTree H y u ∧ t.depth ≤ 1 ∧ u.depth ≤ 1 ∧ ∀ v H', Same H H' → rCond c H' v (.or t u) → Q v H'
theorem m_Condition_or (T : Txt K mg c) : Met P w K mg base 3 c.C "__or__" (spCOr c) [] := by
    refine met_of T.m_Condition_or sc_Condition_or (by walk_at "len") (fun f cdv A outer sh H vs Q E hr h => ?_)
    have nd := sc_Condition_or.nd
    obtain ⟨a, b, dx, dy, x, y, t, u, rfl, ha, ht, hb, hu, dt, du, q⟩ := h
    refine ⟨_, (pss_cons (ps_if (pt_not (pt_val (pe_callB (kIsi K rfl) (by rfl) T.g_isinstance (by decide +kernel) (pa_cons (pv 1) (pa_cons (pe_glob (v := V.ref c.C) (by rfl) T.gcC rfl) pa_nil))))) (pss_one ps_never) pss_nil)
        (pss_one (ps_ret (C8.pe_mk (k_Condition T) hr (by first | decide | exact Nat.le_refl _ | omega) rfl (pa_cons (pe_tup (pa_cons pe_str (pa_cons (pe_fldK K rfl (pv 0) rfl) (pa_cons (pe_fldK K rfl (pv 1) rfl) pa_nil)))) pa_nil))))), ?_⟩
    walk_at "rd"
    refine i_isC T hb ⟨_, rfl, ?_⟩
    walk_at "rd"
    refine ⟨a, _, _, _, _, rfl, ha, T.cC, T.nC_tree, fC_tree, ?_⟩
    walk_at "rd"
    refine ⟨b, _, _, _, _, rfl, hb, T.cC, T.nC_tree, fC_tree, ?_⟩
    walk_at "rd"
    refine ⟨big5 (by simp), fun p np => ?_⟩
    walk_at "rd"
    exact i_mkC (t := .or t u) ⟨p, _, _, rfl, upd_same, mono ht (same_new np), mono hu (same_new np)⟩ (by show max t.depth u.depth + 1 ≤ 2; omega) fun v H2 e2 r => q v H2 ((same_new np).trans e2) r
def spCInv (c : Cs) : Sp := fun vs H Q _ => ∃ a dx x t, vs = [.ref a] ∧ H a = some (.ins c.C dx (fC x)) ∧ rTree H x t ∧ t.depth ≤ 1 ∧ ∀ v H', Same H H' → rCond c H' v (.not t) → Q v H'
theorem m_Condition_invert (T : Txt K mg c) : Met P w K mg base 3 c.C "__invert__" (spCInv c) [] := by
    refine met_of T.m_Condition_invert sc_Condition_invert (by walk_at "len") (fun f cdv A outer sh H vs Q E hr h => ?_)
    have nd := sc_Condition_invert.nd
    obtain ⟨a, dx, x, t, rfl, ha, ht, dt, q⟩ := h
    refine ⟨_, (pss_one (ps_ret (C8.pe_mk (k_Condition T) hr (by first | decide | exact Nat.le_refl _ | omega) rfl (pa_cons (pe_tup (pa_cons pe_str (pa_cons (pe_fldK K rfl (pv 0) rfl) pa_nil))) pa_nil)))), ?_⟩
    walk_at "rd"
    refine ⟨a, _, _, _, _, rfl, ha, T.cC, T.nC_tree, fC_tree, ?_⟩
    walk_at "rd"
    refine ⟨big5 (by simp), fun p np => ?_⟩
    walk_at "rd"
    exact i_mkC (t := .not t) ⟨p, _, rfl, upd_same, mono ht (same_new np)⟩ (by show t.depth + 1 ≤ 2; omega) fun v H2 e2 r => q v H2 ((same_new np).trans e2) r
/-! ### outcomes -/
def spCheckChange : Sp := fun vs H Q _ => ∃ s x, vs = [.str s, x] ∧ isName s = true ∧ (∃ y : Ch, x = y.v) ∧ ∀ H', Same H H' → Q .non H'
theorem c_check_change (T : Txt K mg c) : Cal P w K mg base 2 "check_change" (spCheckChange) [] := by
    refine cal_of T.d_check_change sc_check_change (by walk_at "len") (fun f cdv A outer sh H vs Q E hr h => ?_)
    have nd := sc_check_change.nd
    obtain ⟨s, _, rfl, hs, ⟨y, rfl⟩, q⟩ := h
    refine ⟨_, (pss_cons (ps_if (pt_not (pt_val (C8.pe_c (c_is_name T) hr (by first | decide | exact Nat.le_refl _ | omega) rfl (pa_cons (pv 0) pa_nil)))) (pss_one ps_never) pss_nil)
        (pss_one (ps_if (PW.pt (pw_and (pt_cmpR op_isNotT (pv 1) pe_bl (nomark _)) (pw_and (pt_cmpR op_isNotT (pv 1) pe_bl (nomark _)) (pw_and1 (pt_cmpR (kNotInS K rfl) (pv 1) (pe_tup (pa_cons pe_str (pa_cons pe_str (pa_cons pe_str pa_nil)))) (by rfl)))))) (pss_one ps_never) pss_nil))), ?_⟩
    walk_at "rd"
    refine ⟨s, rfl, hs, fun H' e => ⟨_, rfl, ?_⟩⟩
    walk_at "rd"
    refine i_isNT (chV y) ?_
    cases y with
    | yes =>
      walk_at "rd"
      exact q _ e
    | no =>
      walk_at "rd"
      refine i_isNT (chV .no) ?_
      walk_at "rd"
      exact q _ e
    | add =>
      walk_at "rd"
      refine i_isNT (chV .add) ?_
      walk_at "rd"
      refine ⟨big5 (by simp), fun p np => ?_⟩
      walk_at "rd"
      refine i_notInT (s := "add") (ns := ["add", "take", "empty"]) (.inl (SqT.of upd_same)) ?_
      walk_at "rd"
      exact q _ (e.trans (same_new np))
    | take =>
      walk_at "rd"
      refine i_isNT (chV .take) ?_
      walk_at "rd"
      refine ⟨big5 (by simp), fun p np => ?_⟩
      walk_at "rd"
      refine i_notInT (s := "take") (ns := ["add", "take", "empty"]) (.inl (SqT.of upd_same)) ?_
      walk_at "rd"
      exact q _ (e.trans (same_new np))
    | empty =>
      walk_at "rd"
      refine i_isNT (chV .empty) ?_
      walk_at "rd"
      refine ⟨big5 (by simp), fun p np => ?_⟩
      walk_at "rd"
      refine i_notInT (s := "empty") (ns := ["add", "take", "empty"]) (.inl (SqT.of upd_same)) ?_
      walk_at "rd"
      exact q _ (e.trans (same_new np))
def spOInit (c : Cs) : Sp := fun vs H Q _ => ∃ a dx d o, vs = [.ref a, .ref d] ∧ H a = some (.ins c.O dx []) ∧ H d = some (.dK (chK o)) ∧ ChgOk o ∧ ∀ H2 t, SameBut a H H2 → H2 a = some (.ins c.O dx (fO (.ref t))) → H2 t = some (.dK (chK o)) → Q .non H2
theorem k_Outcome (T : Txt K mg c) : Mak P w K mg base 3 "Outcome" c.O (spOInit c) [] := by
    refine mak_of T.m_Outcome_init sc_Outcome_init (by walk_at "len") (fun f cdv A outer sh H vs Q E hr h => ?_)
    have nd := sc_Outcome_init.nd
    obtain ⟨a, dx, d, o, rfl, ha, hd, ho, q⟩ := h
    refine ⟨_, (pss_cons (ps_fldK K rfl (pv 0) pe_dnewK rfl)
        (pss_one (ps_if (pt_cmpR op_notN (pv 1) pe_non (nomark _)) (pss_one (ps_lock (ps_for PassesOwn.never rfl (pi_keys (pv 1)) (pg_name (i := 2) nd rfl (.inl rfl)) (pss_cons (ps_expr (C8.pe_c (c_check_change T) hr (by first | decide | exact Nat.le_refl _ | omega) rfl (pa_cons (pv 2) (pa_cons (pe_dget (by exact hu_of hr) (pv 1) (pv 2) (fun _ _ => rfl)) pa_nil))))
        (pss_one (ps_dput (by exact hu_of hr) (pe_fldK K rfl (pv 0) rfl) (pv 2) (pe_dget (by exact hu_of hr) (pv 1) (pv 2) (fun _ _ => rfl)) rfl)))))) pss_nil))), ?_⟩
    walk_at "rd"
    intro t nt
    walk_at "rd"
    have ne : a ≠ t := ne_of_none ha nt
    have nd' : d ≠ t := ne_of_none hd nt
    have nad : d ≠ a := fun z => by rw [z, ha] at hd; cases hd
    refine ⟨a, _, _, _, rfl, (upd_ne ne).trans ha, T.cO, T.nO_table, by decide, ?_⟩
    walk_at "rd"
    refine ⟨rfl, ?_⟩
    walk_at "rd"
    have hd' : upd (upd H t (.dK [])) a (.ins c.O dx (fO (.ref t))) d = some (.dK (chK o)) := by rw [upd_ne nad, upd_ne nd', hd]
    have nta : t ≠ a := Ne.symm ne
    refine ⟨d, _, hd', trivial, fun od => ?_⟩
    walk_at "rd"
    refine ⟨_, rfl, d, od, rfl, .inl ⟨chK o, upd_same, ?_⟩⟩
    refine for_w (walk_keys (kvs := chK o)) (fun i σ H' => ∃ v2, (∀ b x, b ≠ a → b ≠ d → H b = some x → H' b = some x) ∧ H' a = some (.ins c.O dx (fO (.ref t))) ∧ H' t = some (.dK (chK (o.take i))) ∧ H' d = some (.frz od (.dK (chK o))) ∧ σ = [some (.ref a), some (.ref d), v2]) ?_ ?_ ?_ ?_
    · refine ⟨none, fun b x h1 h2 h => ?_, ?_, ?_, upd_same, rfl⟩
      · rw [upd_ne h2, upd_ne h1, upd_ne (ne_of_none h nt)]
        exact h
      · rw [upd_ne (Ne.symm nad), upd_same]
        rfl
      · rw [upd_ne (Ne.symm nd'), upd_ne nta, upd_same]
        rfl
    · rintro i σ H' _ ⟨_, _, _, _, h, _⟩
      exact h
    · rintro i x σ H' H2 hi ⟨v2, e, h1, h2, h3, rfl⟩ ⟨rfl, k, v, hk, hx⟩
      obtain ⟨n, y, hp, rfl, rfl⟩ : ∃ n y, o[i]? = some (n, y) ∧ k = Sum.inr n ∧ v = y.v := by
        unfold chK at hk
        rw [List.getElem?_map] at hk
        cases h : o[i]? with
        | none => rw [h] at hk; cases hk
        | some p =>
          rw [h] at hk
          have hk := Option.some.inj hk
          exact ⟨p.1, p.2, rfl, (congrArg Prod.fst hk).symm, (congrArg Prod.snd hk).symm⟩
      obtain rfl : x = .str n := hx
      have hg : valV (chK o) (Sum.inr n) = some y.v := by
        rw [ch_get, show chg o n = some y from gt_at ho.nd hp]
        rfl
      walk_at "rd"
      refine ⟨d, _, rfl, dgK (.inr ⟨od, h3⟩) hg, ?_⟩
      walk_at "rd"
      refine ⟨n, _, rfl, ho.nm _ (List.mem_of_getElem? hp), ⟨y, rfl⟩, fun H3 e3 => ?_⟩
      walk_at "rd"
      refine ⟨d, _, rfl, dgK (.inr ⟨od, e3 _ _ h3⟩) hg, ?_⟩
      walk_at "rd"
      refine ⟨a, _, _, _, _, rfl, e3 _ _ h1, T.cO, T.nO_table, fO_table, ?_⟩
      walk_at "rd"
      refine ⟨t, _, rfl, dpK (e3 _ _ h2) (by have := ho.len; simp [chK]; omega), ?_⟩
      refine ⟨_, fun b x q1 q2 q3 => ?_, ?_, ?_, ?_, rfl⟩
      · rw [upd_ne (ne_of_none q3 nt)]
        exact e3 _ _ (e b x q1 q2 q3)
      · rw [upd_ne ne]
        exact e3 _ _ h1
      · rw [upd_same, take_more hp, ch_put]
        rw [List.map_take]
        exact nodup_take_not ho.nd (by rw [List.getElem?_map, hp]; rfl)
      · rw [upd_ne nd']
        exact e3 _ _ h3
    · rintro σ H' ⟨v2, e, h1, h2, h3, rfl⟩
      refine ⟨h3, q _ t (fun b x q1 q2 => ?_) ?_ ?_⟩
      · by_cases z : b = d
        · subst z
          rw [hd] at q2
          rw [upd_same]
          exact q2
        · rw [upd_ne z]
          exact e b x q1 z q2
      · rw [upd_ne (Ne.symm nad)]
        exact h1
      · rw [upd_ne (Ne.symm nd'), h2, show (chK o).length = o.length from List.length_map .., List.take_length]
theorem i_mkO {H : Hp} {d : Addr} {o : Chg} {E : XK} {Q : VK} (h : H d = some (.dK (chK o))) (ho : ChgOk o) (q : ∀ v H', Same H H' → rOut c H' v o → Q v H') (x dx : Addr) (nx : H x = none) (nd : H dx = none) (ne : dx ≠ x) :
    spOInit c (.ref x :: ([.ref d] ++ [])) (upd (upd H dx (.own x)) x (.ins c.O dx [])) (fun v H2 => v = .non ∧ Q (.ref x) H2) E := by
  refine ⟨x, dx, d, o, rfl, upd_same, ?_, ho, fun H2 t sb h1 h2 => ⟨rfl, q _ _ ?_ ⟨x, dx, _, rfl, h1, ⟨t, rfl, h2⟩, ho⟩⟩⟩
  · rw [upd_ne (ne_of_none h nx), upd_ne (ne_of_none h nd)]
    exact h
  · intro b y hb
    refine sb b y (ne_of_none hb nx) ?_
    rw [upd_ne (ne_of_none hb nx), upd_ne (ne_of_none hb nd)]
    exact hb
def spONames (c : Cs) : Sp := fun vs H Q _ => ∃ x o, vs = [x] ∧ rOut c H x o ∧ ∀ v H' ms, Same H H' → rLstS H' v ms → (∀ m ∈ ms, m ∈ o.map (·.1)) → ms.length ≤ 60 → Q v H'
theorem m_Outcome_names (T : Txt K mg c) : Met P w K mg base 2 c.O "names" (spONames c) [] := by
    refine met_of T.m_Outcome_names sc_Outcome_names (by walk_at "len") (fun f cdv A outer sh H vs Q E hr h => ?_)
    have nd := sc_Outcome_names.nd
    obtain ⟨_, o, rfl, ⟨a, dx, x, rfl, ha, ⟨d, rfl, hd⟩, ho⟩, q⟩ := h
    refine ⟨_, (pss_one (ps_ret (C8.pe_c (c_ascending T) hr (by first | decide | exact Nat.le_refl _ | omega) rfl (pa_cons (pe_callTy (call_listD rfl) (by rfl) T.g_list (by decide +kernel) (pa_cons (pe_fldK K rfl (pv 0) rfl) pa_nil)) pa_nil)))), ?_⟩
    walk_at "rd"
    refine ⟨a, _, _, _, _, rfl, ha, T.cO, T.nO_table, fO_table, ?_⟩
    walk_at "rd"
    refine ⟨d, _, rfl, .inl hd, fun p np => ?_⟩
    walk_at "rd"
    have e : (chK o).map (fun kv => kV kv.1) = (o.map (·.1)).map V.str := by
      unfold chK
      rw [List.map_map, List.map_map]
      rfl
    have hl := ho.len
    exact ⟨_, o.map (·.1), rfl, ⟨p, rfl, by rw [upd_same, e]⟩, by rw [List.length_map]; omega, fun v H' ms e2 r h1 h2 => q v H' ms ((same_new np).trans e2) r h1 (by rw [List.length_map] at h2; omega)⟩
def spOCopy (c : Cs) : Sp := fun vs H Q _ => ∃ x o, vs = [x] ∧ rOut c H x o ∧ ∀ v H', Same H H' → rOut c H' v o → Q v H'
theorem m_Outcome_copy (T : Txt K mg c) : Met P w K mg base 5 c.O "copy" (spOCopy c) [] := by
    refine met_of T.m_Outcome_copy sc_Outcome_copy (by walk_at "len") (fun f cdv A outer sh H vs Q E hr h => ?_)
    have nd := sc_Outcome_copy.nd
    obtain ⟨_, o, rfl, ⟨a, dx, x, rfl, ha, ⟨d, rfl, hd⟩, ho⟩, q⟩ := h
    refine ⟨_, (pss_one (ps_ret (C8.pe_mk (k_Outcome T) hr (by first | decide | exact Nat.le_refl _ | omega) rfl (pa_cons (pe_fldK K rfl (pv 0) rfl) pa_nil)))), ?_⟩
    walk_at "rd"
    refine ⟨a, _, _, _, _, rfl, ha, T.cO, T.nO_table, fO_table, ?_⟩
    walk_at "rd"
    exact i_mkO hd ho q
/-- what an outcome does to a name -/
def ocV (o : Chg) (n : Str) : V := ((chg o n).map Ch.v).getD .non
def spOGet (c : Cs) : Sp := fun vs H Q _ => ∃ x o n, vs = [x, .str n] ∧ rOut c H x o ∧ ∀ H', Same H H' → Q (ocV o n) H'
theorem m_Outcome_getitem (T : Txt K mg c) : Met P w K mg base 1 c.O "__getitem__" (spOGet c) [] := by
    refine met_of T.m_Outcome_getitem sc_Outcome_getitem (by walk_at "len") (fun f cdv A outer sh H vs Q E hr h => ?_)
    have nd := sc_Outcome_getitem.nd
    obtain ⟨_, o, n, rfl, ⟨a, dx, x, rfl, ha, ⟨d, rfl, hd⟩, ho⟩, q⟩ := h
    refine ⟨_, (pss_one (ps_ret (pe_dget1 (by exact hu_of hr) (pe_fldK K rfl (pv 0) rfl) (pv 1) ⟨rfl, rfl, rfl, rfl⟩))), ?_⟩
    walk_at "rd"
    refine ⟨a, _, _, _, _, rfl, ha, T.cO, T.nO_table, fO_table, d, rfl, .inl ⟨_, .inl hd⟩, ?_⟩
    walk_at "rd"
    exact ⟨_, .inl ⟨_, Sum.inr n, .inl hd, rfl, rfl⟩, by rw [ch_get]; exact q _ (Same.refl _)⟩
/-! ### actions -/
def spAInit (c : Cs) : Sp := fun vs H Q _ => ∃ a dx n l t outs G, vs = [.ref a, n, l] ∧ Same G H ∧ G a = none ∧ H a = some (.ins c.A dx []) ∧ rCond c G n t ∧ rLst (rOut c) G l outs ∧ outs ≠ [] ∧ outs.length ≤ 2 ∧ ∀ H2 p, Same G H2 → H2 a = some (.ins c.A dx (fA n p)) → rLst (rOut c) H2 p outs → Q .non H2
theorem k_Action (T : Txt K mg c) : Mak P w K mg base 6 "Action" c.A (spAInit c) [] := by
    refine mak_of T.m_Action_init sc_Action_init (by walk_at "len") (fun f cdv A outer sh H vs Q E hr h => ?_)
    have nd := sc_Action_init.nd
    obtain ⟨a, dx, n, _, t, outs, G, rfl, e, na, ha, hn, ⟨l, xs, rfl, hl, hp⟩, hne, h2, q⟩ := h
    refine ⟨_, (pss_cons (ps_if (pt_cmpR op_eq (pe_callB (kLen K rfl) (by rfl) T.g_len PySem.boot_len (pa_cons (pv 2) pa_nil)) pe_int (nomark _)) (pss_one ps_never) pss_nil)
        (pss_cons (ps_fldK K rfl (pv 0) (pv 1) rfl)
        (pss_one (ps_fldK K rfl (pv 0) (pe_lc (own := [("one", 3)]) (g := gName 3) rfl nd (pi_listK K rfl (pv 2)) (blkOk_by (own := [("one", 3)]) (N := N_Action_init) (sc := fnScope s_Action_init) (by decide +kernel)) (fun _ _ _ _ _ => (pg_name (i := 3) nd rfl (.inl rfl))) (fun _ _ _ _ _ => pts_nil) (fun _ _ _ _ _ => pe_hide (C8.pe_mt0 (m_Outcome_copy T) hr (by first | decide | exact Nat.le_refl _ | omega) (pv 3)))) rfl)))), ?_⟩
    walk_at "rd"
    have hl' := e _ _ hl
    refine ⟨l, xs, rfl, .inl (SqL.of hl'), ?_⟩
    walk_at "rd"
    have hlen := paired_len hp
    have hpos : outs.length ≠ 0 := fun z => hne (List.length_eq_zero_iff.mp z)
    refine ifF (decide_eq_false fun z => hpos ?_) ?_
    · have z := V.int.inj z
      omega
    walk_at "rd"
    refine ⟨a, _, _, _, rfl, ha, T.cA, T.nA_need, by decide, ?_⟩
    walk_at "rd"
    have eb : Same G (upd H a (.ins c.A dx (putF "need" n []))) := same_mut e na
    refine ⟨_, rfl, l, rfl, ⟨xs, SqL.of (eb _ _ hl)⟩, fun D nD => ?_⟩
    have nDa : D ≠ a := fun z => by rw [z, upd_same] at nD; cases nD
    refine lc_wm (walk_list (xs := xs)) (rOut c) (rOut c) (ys := outs) id hlen (fun H' s => SqL.of (s _ _ (eb _ _ hl))) (yat_of (rOut c) (paired_mono eb hp)) (by omega) nD (fun x => rfl) (fun x y G sm hx hy Q hQ => ?_) (fun H2 zs sm hz hp => ?_)
    · obtain ⟨b, db, xb, rfl, hb, r⟩ := id hx
      walk_at "rd"
      refine ⟨b, db, _, rfl, hb, fO_no_copy, ?_⟩
      walk_at "rd"
      exact ⟨_, y, rfl, hx, fun v H' s r => hQ v H' s r⟩
    · rw [List.map_id] at hp
      have eG : Same G H2 := eb.trans sm
      walk_at "rd"
      refine ⟨a, _, _, _, rfl, sm _ _ upd_same, T.cA, T.nA_parts, by rw [fA_put0]; exact (by decide : 1 < 1000), ?_⟩
      refine q _ (.ref D) (same_mut eG na) ?_ ⟨D, zs, rfl, ?_, ?_⟩
      · rw [upd_same, show putF "need" n ([] : List (Str × V)) = [(("need" : Str), n)] from fA_put0, fA_put1]
        rfl
      · rw [upd_ne nDa]
        exact hz
      · exact paired_imp (fun v x r => rOut_but r (SameBut.of (Same.refl _)).put (sm _ _ upd_same) (by rw [fA_put0]; exact (lk_past (by decide +kernel)).trans rfl)) hp
def spAOut (c : Cs) : Sp := fun vs H Q _ => ∃ x A k o, vs = [x, .int ((k : Nat) : Int)] ∧ rAct c H x A ∧ A.outs[k]? = some o ∧ ∀ v H', Same H H' → rOut c H' v o → Q v H'
theorem m_Action_outcome (T : Txt K mg c) : Met P w K mg base 7 c.A "outcome" (spAOut c) [] := by
    refine met_of T.m_Action_outcome sc_Action_outcome (by walk_at "len") (fun f cdv A outer sh H vs Q E hr h => ?_)
    have nd := sc_Action_outcome.nd
    obtain ⟨_, A', k, o, rfl, ⟨a, dx, n, _, rfl, ha, hn, ⟨l, xs, rfl, hl, hp⟩, hne, h2⟩, ho, q⟩ := h
    refine ⟨_, (pss_cons (ps_if (pt_not (pt_chain op_le op_lt pe_int (pv 1) (pe_callB (kLen K rfl) (by rfl) T.g_len PySem.boot_len (pa_cons (pe_fldK K rfl (pv 0) rfl) pa_nil)))) (pss_one ps_never) pss_nil)
        (pss_one (ps_ret (C8.pe_mt0 (m_Outcome_copy T) hr (by first | decide | exact Nat.le_refl _ | omega) (pe_ix (kIxL K rfl) (pe_fldK K rfl (pv 0) rfl) (pv 1) (fun _ _ => rfl)))))), ?_⟩
    have hlen := paired_len hp
    have hk : k < A'.outs.length := (List.getElem?_eq_some_iff.mp ho).1
    obtain ⟨x, hx, rx⟩ := paired_at hp ho
    walk_at "rd"
    refine ⟨_, rfl, 0, _, rfl, rfl, _, rfl, ifT (decide_eq_true (by omega)) ?_⟩
    walk_at "rd"
    refine ⟨a, _, _, _, _, rfl, ha, T.cA, T.nA_parts, fA_parts, l, xs, rfl, .inl (SqL.of hl), _, _, rfl, rfl, _, rfl, ?_⟩
    rw [show decide (((k : Nat) : Int) < (xs.length : Int)) = true from decide_eq_true (by omega)]
    walk_at "rd"
    refine ⟨a, _, _, _, _, rfl, ha, T.cA, T.nA_parts, fA_parts, ?_⟩
    walk_at "rd"
    refine i_ixL (SqL.of hl) hx ?_
    obtain ⟨b, db, xb, rfl, hb, r⟩ := id rx
    refine ⟨b, db, _, rfl, hb, fO_no_copy, ?_⟩
    walk_at "rd"
    exact ⟨_, o, rfl, rx, q⟩
def spALen (c : Cs) : Sp := fun vs H Q _ => ∃ x A, vs = [x] ∧ rAct c H x A ∧ ∀ H', Same H H' → Q (.int (A.outs.length : Int)) H'
theorem m_Action_len (T : Txt K mg c) : Met P w K mg base 1 c.A "__len__" (spALen c) [] := by
    refine met_of T.m_Action_len sc_Action_len (by walk_at "len") (fun f cdv A outer sh H vs Q E hr h => ?_)
    have nd := sc_Action_len.nd
    obtain ⟨_, A', rfl, ⟨a, dx, n, _, rfl, ha, hn, ⟨l, xs, rfl, hl, hp⟩, hne, h2⟩, q⟩ := h
    refine ⟨_, (pss_one (ps_ret (pe_callB (kLen K rfl) (by rfl) T.g_len PySem.boot_len (pa_cons (pe_fldK K rfl (pv 0) rfl) pa_nil)))), ?_⟩
    walk_at "rd"
    refine ⟨a, _, _, _, _, rfl, ha, T.cA, T.nA_parts, fA_parts, ?_⟩
    walk_at "rd"
    refine ⟨l, xs, rfl, .inl (SqL.of hl), ?_⟩
    rw [paired_len hp]
    exact q _ (Same.refl _)
theorem i_mkA {H : Hp} {n l : V} {t : Tree} {outs : List Chg} {E : XK} {Q : VK} (hn : rCond c H n t) (hl : rLst (rOut c) H l outs) (hne : outs ≠ []) (h2 : outs.length ≤ 2) (q : ∀ v H', Same H H' → rAct c H' v ⟨t, outs⟩ → Q v H') (x dx : Addr) (nx : H x = none) (nd : H dx = none) (ne : dx ≠ x) :
    spAInit c (.ref x :: ([n, l] ++ [])) (upd (upd H dx (.own x)) x (.ins c.A dx [])) (fun v H2 => v = .non ∧ Q (.ref x) H2) E :=
  ⟨x, dx, n, l, t, outs, H, rfl, same_made nx nd (Same.refl _), nx, upd_same, hn, hl, hne, h2, fun H2 p e h1 h3 => ⟨rfl, q _ _ e ⟨x, dx, n, p, rfl, h1, mono hn e, h3, hne, h2⟩⟩⟩
def spCopied (c : Cs) : Sp := fun vs H Q _ => ∃ x A, vs = [x] ∧ rAct c H x A ∧ ∀ v H', Same H H' → rAct c H' v A → Q v H'
theorem c_copied_action (T : Txt K mg c) : Cal P w K mg base 8 "copied_action" (spCopied c) [] := by
    refine cal_of T.d_copied_action sc_copied_action (by walk_at "len") (fun f cdv A outer sh H vs Q E hr h => ?_)
    have nd := sc_copied_action.nd
    obtain ⟨_, A', rfl, hA, q⟩ := h
    refine ⟨_, (pss_one (ps_ret (C8.pe_mk (k_Action T) hr (by first | decide | exact Nat.le_refl _ | omega) rfl (pa_cons (pe_fldK K rfl (pv 0) rfl) (pa_cons (pe_lc (own := [("k", 1)]) (g := gName 1) rfl nd (pi_range1 (by rfl) T.g_range (pa_cons (pe_callB (cr_ownLen (m_Action_len T) hr (by first | decide | exact Nat.le_refl _ | omega)) (by rfl) T.g_len PySem.boot_len (pa_cons (pv 0) pa_nil)) pa_nil)) (blkOk_by (own := [("k", 1)]) (N := N_copied_action) (sc := fnScope s_copied_action) (by decide +kernel)) (fun _ _ _ _ _ => (pg_name (i := 1) nd rfl (.inl rfl))) (fun _ _ _ _ _ => pts_nil) (fun _ _ _ _ _ => pe_hide (C8.pe_mt (m_Action_outcome T) hr (by first | decide | exact Nat.le_refl _ | omega) (pv 0) (pa_cons (pv 1) pa_nil)))) pa_nil))))), ?_⟩
    obtain ⟨a, dx, n, l, rfl, ha, hn, hl, hne, h2⟩ := id hA
    walk_at "rd"
    refine ⟨a, _, _, _, _, rfl, ha, T.cA, T.nA_need, fA_need, ?_⟩
    walk_at "rd"
    refine ⟨_, rfl, a, _, _, rfl, ha, _, A', rfl, hA, fun H1 e1 => ⟨_, rfl, by omega, ?_⟩⟩
    walk_at "rd"
    refine ⟨_, rfl, by omega, by omega, fun D nD => ?_⟩
    have hn1 := mono hn e1
    refine lc_wm walk_range rIdx (rOut c) (ys := List.range A'.outs.length) (fun k => A'.outs.getD k []) (by simp) (fun _ _ => trivial) (by simpa using yat_range) (by simp; omega) nD (fun x => rfl) (fun x y G sm hx hy Q hQ => ?_) (fun H2 zs sm hz hp => ?_)
    · obtain rfl : x = .int (y : Int) := hx
      have hy' : y < A'.outs.length := List.mem_range.mp hy
      have hA' := mono hA (e1.trans sm)
      walk_at "rd"
      refine ⟨a, dx, _, rfl, (e1.trans sm) _ _ ha, fA_no_outcome, ?_⟩
      walk_at "rd"
      exact ⟨_, A', y, _, rfl, hA', List.getElem?_eq_getElem hy', fun v H' s r => hQ v H' s (by simpa [List.getD_eq_getElem?_getD, hy'] using r)⟩
    · rw [range_getD] at hp
      walk_at "rd"
      exact i_mkA (mono hn1 sm) ⟨D, zs, rfl, hz, hp⟩ hne h2 fun v H3 e3 r => q v H3 ((e1.trans sm).trans e3) r
/-! ### lists of names -/
def spCheckLists : Sp := fun vs H Q _ => ∃ x lls, vs = [x] ∧ rLst rSq H x lls ∧ (∀ ns ∈ lls, ∀ n ∈ ns, isName n = true) ∧ lls.flatten.Nodup ∧ lls.flatten.length ≤ 1000 ∧ lls.length ≤ 1000 ∧ ∀ H', Same H H' → Q .non H'
theorem c_check_lists (T : Txt K mg c) : Cal P w K mg base 2 "check_lists" (spCheckLists) [] := by
    refine cal_of T.d_check_lists sc_check_lists (by walk_at "len") (fun f cdv A outer sh H vs Q E hr h => ?_)
    have nd := sc_check_lists.nd
    obtain ⟨_, lls, rfl, ⟨L, xs, rfl, hL, hp⟩, hok, hnd, hlen, hlen2, q⟩ := h
    refine ⟨_, (pss_cons (ps_set (i := 1) nd rfl (.inl rfl) (pe_lst pa_nil))
        (pss_cons (ps_for PassesOwn.never rfl (pi_listK K rfl (pv 0)) (pg_name (i := 2) nd rfl (.inl rfl)) (pss_one (ps_for PassesOwn.never rfl (pi_seqK K rfl (pv 2)) (pg_name (i := 3) nd rfl (.inl rfl)) (pss_one (ps_if (pt_not (pt_val (C8.pe_c (c_is_name T) hr (by first | decide | exact Nat.le_refl _ | omega) rfl (pa_cons (pv 3) pa_nil)))) (pss_one ps_never) pss_nil)))))
        (pss_one (ps_for PassesOwn.never rfl (pi_listK K rfl (pv 0)) (pg_name (i := 2) nd rfl (.inl rfl)) (pss_one (ps_for PassesOwn.never rfl (pi_seqK K rfl (pv 2)) (pg_name (i := 3) nd rfl (.inl rfl)) (pss_cons (ps_if (pt_cmpR (kInS K rfl) (pv 3) (pv 1) (by rfl)) (pss_one ps_never) pss_nil)
        (pss_one (ps_expr (pe_bmK K rfl PySem.F.plainAttrs_list PySem.F.slot_list_append PySem.F.type_list_append mt_append (pv 1) (pa_cons (pv 3) pa_nil))))))))))), ?_⟩
    walk_at "rd"
    refine ⟨Nat.zero_le _, fun D nD => ?_⟩
    walk_at "rd"
    have e0 : Same H (upd H D (.lst [])) := same_new nD
    refine ⟨L, rfl, ⟨xs, SqL.of (e0 _ _ hL)⟩, ?_⟩
    refine for_w (walk_list (xs := xs)) (fun i σ H' => ∃ v2 v3, Same H H' ∧ H' D = some (.lst []) ∧ σ = [some (.ref L), some (.ref D), v2, v3]) ?_ ?_ ?_ ?_
    · exact ⟨none, none, e0, upd_same, rfl⟩
    · rintro i σ H' _ ⟨_, _, e, _, _⟩
      exact SqL.of (e _ _ hL)
    · rintro i x σ H' H2 hi ⟨v2, v3, e, hD, rfl⟩ ⟨rfl, hx⟩
      obtain ⟨ns, hn, rx⟩ := paired_get hp hx
      have hm : ns ∈ lls := List.mem_of_getElem? hn
      walk_at "rd"
      refine for_seq rx e (fun j σ H' => ∃ v3, Same H H' ∧ H' D = some (.lst []) ∧ σ = [some (.ref L), some (.ref D), some x, v3]) ⟨v3, e, hD, rfl⟩ (fun _ _ _ ⟨_, h, _⟩ => h) ?_ ?_
      · rintro j n σ H' hn ⟨v3, e, hD, rfl⟩
        walk_at "rd"
        refine ⟨n, rfl, hok ns hm n (List.mem_of_getElem? hn), fun H3 e3 => ⟨_, rfl, ?_⟩⟩
        walk_at "rd"
        exact ⟨_, e.trans e3, e3 _ _ hD, rfl⟩
      · rintro σ H' ⟨v3, e, hD, rfl⟩
        exact ⟨_, _, e, hD, rfl⟩
    · rintro σ H' ⟨v2, v3, e, hD, rfl⟩
      walk_at "rd"
      refine ⟨L, rfl, ⟨xs, SqL.of (e _ _ hL)⟩, ?_⟩
      refine for_w (walk_list (xs := xs)) (fun i σ H' => ∃ v2 v3, Same H H' ∧ H' D = some (.lst ((lls.take i).flatten.map V.str)) ∧ σ = [some (.ref L), some (.ref D), v2, v3]) ⟨v2, v3, e, hD, rfl⟩ ?_ ?_ ?_
      · rintro i σ H' _ ⟨_, _, e, _, _⟩
        exact SqL.of (e _ _ hL)
      · rintro i x σ H' H2 hi ⟨v2, v3, e, hD, rfl⟩ ⟨rfl, hx⟩
        obtain ⟨ns, hn, rx⟩ := paired_get hp hx
        have hm : ns ∈ lls := List.mem_of_getElem? hn
        have hft := flatten_take hn
        have hpre : lls.flatten = ((lls.take i).flatten ++ ns) ++ (lls.drop (i + 1)).flatten := by
          rw [← hft, ← List.flatten_append, List.take_append_drop]
        have hnd1 : ((lls.take i).flatten ++ ns).Nodup := by
          rw [hpre] at hnd
          exact (List.nodup_append.mp hnd).1
        have hl1 : (lls.take i).flatten.length + ns.length ≤ 1000 := by
          rw [hpre, List.length_append, List.length_append] at hlen
          omega
        walk_at "rd"
        refine for_seq rx e (fun j σ H' => ∃ v3, Same H H' ∧ H' D = some (.lst (((lls.take i).flatten ++ ns.take j).map V.str)) ∧ σ = [some (.ref L), some (.ref D), some x, v3]) ⟨v3, e, by rw [hD]; simp, rfl⟩ (fun _ _ _ ⟨_, h, _⟩ => h) ?_ ?_
        · rintro j n σ H' hj ⟨v3, e, hD, rfl⟩
          have hjl : j < ns.length := (List.getElem?_eq_some_iff.mp hj).1
          have hnot : n ∉ (lls.take i).flatten ++ ns.take j := by
            have e1 : ((lls.take i).flatten ++ ns)[(lls.take i).flatten.length + j]? = some n := by
              rw [List.getElem?_append_right (by omega), Nat.add_sub_cancel_left]
              exact hj
            have := nodup_take_not hnd1 e1
            rwa [List.take_append, List.take_of_length_le (Nat.le_add_right _ _), Nat.add_sub_cancel_left] at this
          walk_at "rd"
          refine i_inT (.inr (SqL.of hD)) ⟨_, rfl, ifF (decide_eq_false hnot) ?_⟩
          walk_at "rd"
          refine ⟨.inl ⟨rfl, _, SqL.of hD⟩, ?_⟩
          walk_at "rd"
          refine i_append hD (by rw [List.length_map, List.length_append, List.length_take]; omega) ?_
          refine ⟨_, same_mut e nD, ?_, rfl⟩
          rw [upd_same, take_more hj]
          simp
        · rintro σ H' ⟨v3, e, hD, rfl⟩
          rw [List.take_length, ← hft] at hD
          exact ⟨_, _, e, hD, rfl⟩
      · rintro σ H' ⟨v2, v3, e, hD, rfl⟩
        exact q _ e
/-! ### sub_tuples -/
def subs : List Str → List (List Str)
  | [] => [[]]
  | x :: r => ([[]] ++ (subs r).map fun o => x :: o) ++ (subs r).filter fun o => !decide (o = [])
def spSubs (n : Nat) : Sp := fun vs H Q _ => ∃ x ns, vs = [x] ∧ rLstS H x ns ∧ (∀ m ∈ ns, PyData.strOk m = true) ∧ ns.length < n ∧ ns.length ≤ 5 ∧ ∀ v H', Same H H' → rLst rTupS H' v (subs ns) → Q v H'
theorem subs_len : ∀ ns : List Str, (subs ns).length + 1 ≤ 2 ^ (ns.length + 1)
  | [] => by decide
  | x :: r => by
    have h := subs_len r
    have h2 := List.length_filter_le (fun o => !decide (o = ([] : List Str))) (subs r)
    simp only [subs, List.length_append, List.length_map, List.length_cons, List.length_nil]
    rw [Nat.pow_succ]
    omega
theorem subs_mem : ∀ (ns : List Str) (o : List Str), o ∈ subs ns → ∀ m ∈ o, m ∈ ns
  | [], o, h, m, hm => by
    rw [List.mem_singleton.mp h] at hm
    exact hm
  | x :: r, o, h, m, hm => by
    simp only [subs, List.mem_append, List.mem_map, List.mem_singleton, List.mem_filter] at h
    rcases h with (rfl | ⟨o, ho, rfl⟩) | ⟨ho, _⟩
    · cases hm
    · rcases List.mem_cons.mp hm with rfl | hm
      · exact List.mem_cons_self
      · exact List.mem_cons_of_mem _ (subs_mem r o ho m hm)
    · exact List.mem_cons_of_mem _ (subs_mem r o ho m hm)
theorem subs_mlen : ∀ (ns : List Str) (o : List Str), o ∈ subs ns → o.length ≤ ns.length
  | [], o, h => by
    rw [List.mem_singleton.mp h]
    exact Nat.le_refl _
  | x :: r, o, h => by
    simp only [subs, List.mem_append, List.mem_map, List.mem_singleton, List.mem_filter] at h
    rcases h with (rfl | ⟨o, ho, rfl⟩) | ⟨ho, _⟩
    · exact Nat.zero_le _
    · have := subs_mlen r o ho
      simp only [List.length_cons]
      omega
    · have := subs_mlen r o ho
      simp only [List.length_cons]
      omega
theorem c_sub_tuples (T : Txt K mg c) : ∀ n, Cal P w K mg base (n + 1) "sub_tuples" (spSubs n) [] := by
  intro n
  induction n with
  | zero =>
    refine cal_of T.d_sub_tuples sc_sub_tuples (by walk_at "len") (fun f cdv A outer sh H vs Q E hr h => ?_)
    obtain ⟨x, ns, rfl, hx, ho, hn, h5, q⟩ := h
    exact absurd hn (Nat.not_lt_zero _)
  | succ n ih =>
    refine cal_of T.d_sub_tuples sc_sub_tuples (by walk_at "len") (fun f cdv A outer sh H vs Q E hr h => ?_)
    obtain ⟨x, ns, rfl, hx, ho, hn, h5, q⟩ := h
    have nd := sc_sub_tuples.nd
    refine ⟨_, (pss_cons (ps_if (pt_cmpR (kEqD K rfl (by exact hr.units)) (pv 0) (pe_lst pa_nil) (nomark _)) (pss_one (ps_ret (pe_lst (pa_cons (pe_tup pa_nil) pa_nil)))) pss_nil)
        (pss_cons (ps_set (i := 1) nd rfl (.inl rfl) (C8.pe_c ih hr (by first | decide | exact Nat.le_refl _ | omega) rfl (pa_cons (pe_slice (kSlL K rfl) (pv 0) (po_some pe_int) po_none) pa_nil)))
        (pss_one (ps_ret (pe_op op_cat (pe_op op_cat (pe_lst (pa_cons (pe_tup pa_nil) pa_nil)) (pe_lc (own := [("one", 2)]) (g := gName 2) rfl nd (pi_listK K rfl (pv 1)) (blkOk_by (own := [("one", 2)]) (N := N_sub_tuples) (sc := fnScope s_sub_tuples) (by decide +kernel)) (fun _ _ _ _ _ => (pg_name (i := 2) nd rfl (.inl rfl))) (fun _ _ _ _ _ => pts_nil) (fun _ _ _ _ _ => pe_hide (pe_op (kCatA K rfl) (pe_tup (pa_cons (pe_ix (kIxL K rfl) (pv 0) pe_int (fun _ _ => rfl)) pa_nil)) (pv 2))))) (pe_lc (own := [("one", 2)]) (g := gName 2) rfl nd (pi_listK K rfl (pv 1)) (blkOk_by (own := [("one", 2)]) (N := N_sub_tuples) (sc := fnScope s_sub_tuples) (by decide +kernel)) (fun _ _ _ _ _ => (pg_name (i := 2) nd rfl (.inl rfl))) (fun _ _ _ _ _ => pts_one (pt_hide (pt_cmpR (kNeD K rfl (by exact hr.units)) (pv 2) (pe_tup pa_nil) (nomark _)))) (fun _ _ _ _ _ => pe_hide (pv 2)))))))), ?_⟩
    obtain ⟨a, rfl, ha⟩ := id hx
    walk_at "rd"
    refine ⟨Nat.zero_le _, fun p np => ?_⟩
    walk_at "rd"
    have e1 : Same H (upd H p (.lst [])) := same_new np
    refine eq_strs (s := ns) (t := []) (mono hx e1) ⟨p, rfl, upd_same⟩ ho (fun _ z => by cases z) ?_
    cases ns with
    | nil =>
      walk_at "rd"
      refine ⟨Nat.zero_le _, fun p2 np2 => ?_⟩
      walk_at "rd"
      refine ⟨big5 (by simp), fun p3 np3 => ?_⟩
      have e2 := e1.trans (same_new (o := .tup []) np2)
      exact q _ _ (e2.trans (same_new np3)) ⟨p3, _, rfl, upd_same, .cons ⟨p2, rfl, same_new np3 _ _ upd_same⟩ .nil⟩
    | cons x r =>
      refine ⟨_, rfl, ifF (decide_eq_false (List.cons_ne_nil _ _)) ?_⟩
      walk_at "rd"
      refine i_slL1 (SqL.of (e1 _ _ ha)) fun p2 np2 => ?_
      have e2 := e1.trans (same_new (o := .lst (r.map V.str)) np2)
      walk_at "rd"
      have h5' : r.length + 1 ≤ 5 := h5
      have hn' : r.length + 1 < n + 1 := hn
      refine ⟨_, r, rfl, ⟨p2, rfl, upd_same⟩, fun m hm => ho m (List.mem_cons_of_mem _ hm), by omega, by omega, fun v H3 e3 ⟨b, zs, hv, hb, hz⟩ => ?_⟩
      subst hv
      have e3' := e2.trans e3
      have hlen := subs_len r
      have hpow : 2 ^ (r.length + 1) ≤ 2 ^ 5 := Nat.pow_le_pow_right (by decide) (by omega)
      have hlz := paired_len hz
      walk_at "rd"
      refine ⟨Nat.zero_le _, fun p4 np4 => ?_⟩
      walk_at "rd"
      refine ⟨big5 (by simp), fun p5 np5 => ?_⟩
      walk_at "rd"
      generalize hH5 : upd (upd H3 p4 (.tup [])) p5 (.lst [.ref p4]) = H5
      have e5 : Same H3 H5 := by
        rw [← hH5]
        exact (same_new np4).trans (same_new np5)
      have e5' := e3'.trans e5
      have hb5 := e5 _ _ hb
      have hp5 : H5 p5 = some (.lst [.ref p4]) := by
        rw [← hH5]
        exact upd_same
      have hp4 : rTupS H5 (.ref p4) [] := ⟨p4, rfl, by
        rw [← hH5]
        exact same_new np5 _ _ upd_same⟩
      have hz5 := paired_mono e5 hz
      refine ⟨_, rfl, b, rfl, ⟨zs, SqL.of hb5⟩, fun D nD => ?_⟩
      refine lc_wm (walk_list (xs := zs)) rTupS rTupS (ys := subs r) (fun o => x :: o) hlz (fun H' s => SqL.of (s _ _ hb5)) (yat_of rTupS hz5) (by omega) nD (fun x => rfl) (fun y o G sm hy hm Q hQ => ?_) (fun H6 ws sm hD hp => ?_)
      · obtain ⟨d, rfl, hd⟩ := id hy
        have ha' := (e5'.trans sm) _ _ ha
        walk_at "rd"
        refine ⟨big5 (by simp), fun p6 np6 => ?_⟩
        walk_at "rd"
        have hol : o.length ≤ 5 := Nat.le_trans (subs_mlen r o hm) (by omega)
        refine ⟨p6, d, _, _, rfl, rfl, SqT.of upd_same, SqT.of (same_new np6 _ _ hd), big5 (by simp; omega), (fun z => absurd z (List.cons_ne_nil _ _)), (fun _ z => ?_), (fun _ _ p7 np7 => ?_)⟩
        · have : o = [] := List.map_eq_nil_iff.mp z
          subst this
          exact hQ _ _ (same_new np6) ⟨p6, rfl, upd_same⟩
        · exact hQ _ _ ((same_new np6).trans (same_new np7)) ⟨p7, rfl, upd_same⟩
      · have e6 := e5'.trans sm
        walk_at "rd"
        refine i_cat (sm _ _ hp5) hD (by have := paired_len hp; simp at this ⊢; omega) fun p6 np6 => ?_
        walk_at "rd"
        generalize hH7 : upd H6 p6 (.lst ([.ref p4] ++ ws)) = H7
        have e7 : Same H6 H7 := by
          rw [← hH7]
          exact same_new np6
        have hz7 := paired_mono (sm.trans e7) hz5
        have hb7 := (sm.trans e7) _ _ hb5
        refine ⟨_, rfl, b, rfl, ⟨zs, SqL.of hb7⟩, fun D2 nD2 => ?_⟩
        refine lc_w (walk_list (xs := zs)) rTupS rTupS (ys := subs r) (fun o => !decide (o = [])) id hlz (fun H' s => SqL.of (s _ _ hb7)) (yat_of rTupS hz7) (by omega) nD2 (fun x => rfl) (fun y o G sm hy hm Q hQ => ?_) (fun y o G sm hy hm hk Q hQ => ?_) (fun H8 us sm8 hD2 hp2 => ?_)
        · walk_at "rd"
          refine ⟨Nat.zero_le _, fun p7 np7 => ?_⟩
          walk_at "rd"
          refine ne_S (t := []) (mono hy (same_new np7)) ⟨p7, rfl, upd_same⟩ (fun m hmm => ho m (List.mem_cons_of_mem _ (subs_mem r o hm m hmm))) (fun _ z => by cases z) ?_
          exact ⟨_, rfl, hQ _ (same_new np7)⟩
        · walk_at "rd"
          exact hQ _ _ (Same.refl _) hy
        · rw [List.map_id] at hp2
          walk_at "rd"
          have h6 : H8 p6 = some (.lst ([.ref p4] ++ ws)) := sm8 _ _ (by rw [← hH7]; exact upd_same)
          have h8l := paired_len hp2
          have h6l := paired_len hp
          have h2 := List.length_filter_le (fun o => !decide (o = ([] : List Str))) (subs r)
          refine i_cat h6 hD2 (by simp at h6l ⊢; omega) fun p8 np8 => ?_
          refine q _ _ (((e6.trans e7).trans sm8).trans (same_new np8)) ⟨p8, _, rfl, upd_same, ?_⟩
          refine paired_mono (same_new np8) (paired_append (paired_append ?_ ?_) hp2)
          · exact .cons (mono hp4 ((sm.trans e7).trans sm8)) .nil
          · exact paired_mono (e7.trans sm8) hp
/-! ### a world's lists -/
def rWl (c : Cs) : Rep Wd := fun H v w => ∃ a dx f p r t, v = .ref a ∧ WdAt c H a dx f p r t w
instance {c : Cs} : Mono (rWl c) := ⟨fun e ⟨a, dx, f, p, r, t, h1, h2⟩ => ⟨a, dx, f, p, r, t, h1, h2.mono e⟩⟩
theorem rWl_of {c : Cs} {H : Hp} {v : V} {w : Wd} (h : rWd c H v w) : rWl c H v w := by
  obtain ⟨a, dx, f, p, r, t, e, W, _⟩ := h
  exact ⟨a, dx, f, p, r, t, e, W⟩
def Wd.seen (w : Wd) : List Str := w.facts ++ w.piles
def Wd.counters (w : Wd) : List Str := w.piles ++ w.reserves
def spSeen (c : Cs) : Sp := fun vs H Q _ => ∃ x wd, vs = [x] ∧ rWl c H x wd ∧ LsOk wd ∧ ∀ v H', Same H H' → rLstS H' v wd.seen → Q v H'
theorem m_World_seen (T : Txt K mg c) : Met P w K mg base 1 c.W "seen" (spSeen c) [] := by
    refine met_of T.m_World_seen sc_World_seen (by walk_at "len") (fun f cdv A outer sh H vs Q E hr h => ?_)
    have nd := sc_World_seen.nd
    obtain ⟨_, wd, rfl, ⟨a, dx, f', p, r, t, rfl, W⟩, ok, q⟩ := h
    refine ⟨_, (pss_one (ps_ret (pe_op op_cat (pe_fldK K rfl (pv 0) rfl) (pe_fldK K rfl (pv 0) rfl)))), ?_⟩
    have h1 := ok.nf
    have h2 := ok.np
    walk_at "rd"
    refine ⟨a, _, _, _, _, rfl, W.ob, T.cW, T.nW_fact_names, fW_fact_names, ?_⟩
    walk_at "rd"
    refine ⟨a, _, _, _, _, rfl, W.ob, T.cW, T.nW_pile_names, fW_pile_names, ?_⟩
    refine i_cat W.fa W.pi (by simp; omega) fun b nb => q _ _ (same_new nb) ⟨b, rfl, by rw [upd_same]; simp [Wd.seen]⟩
def spCounters (c : Cs) : Sp := fun vs H Q _ => ∃ x wd, vs = [x] ∧ rWl c H x wd ∧ LsOk wd ∧ ∀ v H', Same H H' → rLstS H' v wd.counters → Q v H'
theorem m_World_counters (T : Txt K mg c) : Met P w K mg base 1 c.W "counters" (spCounters c) [] := by
    refine met_of T.m_World_counters sc_World_counters (by walk_at "len") (fun f cdv A outer sh H vs Q E hr h => ?_)
    have nd := sc_World_counters.nd
    obtain ⟨_, wd, rfl, ⟨a, dx, f', p, r, t, rfl, W⟩, ok, q⟩ := h
    refine ⟨_, (pss_one (ps_ret (pe_op op_cat (pe_fldK K rfl (pv 0) rfl) (pe_fldK K rfl (pv 0) rfl)))), ?_⟩
    have h1 := ok.nr
    have h2 := ok.np
    walk_at "rd"
    refine ⟨a, _, _, _, _, rfl, W.ob, T.cW, T.nW_pile_names, fW_pile_names, ?_⟩
    walk_at "rd"
    refine ⟨a, _, _, _, _, rfl, W.ob, T.cW, T.nW_reserve_names, fW_reserve_names, ?_⟩
    refine i_cat W.pi W.re (by simp; omega) fun b nb => q _ _ (same_new nb) ⟨b, rfl, by rw [upd_same]; simp [Wd.counters]⟩
theorem none_bk {G H : Hp} {a : Addr} (e : Same G H) (n : H a = none) : G a = none := by
  cases h : G a with
  | none => rfl
  | some o =>
    have := e _ _ h
    rw [n] at this
    cases this
/-! ### a new world -/
/-- G: the heap without the new instance -/
def spWInit (c : Cs) : Sp := fun vs H Q _ => ∃ a dx x y z tb wd G, vs = [.ref a, x, y, z, tb] ∧ Same G H ∧ G a = none ∧ H a = some (.ins c.W dx []) ∧ rSq G x wd.facts ∧ rSq G y wd.piles ∧ rSq G z wd.reserves ∧ LsOk wd ∧ wd.acts.length ≤ 3 ∧ (wd.acts.map (·.1)).Nodup ∧
  ((tb = .non ∧ wd.acts = []) ∨ ∃ d kvs, tb = .ref d ∧ G d = some (.dK kvs) ∧ wd.acts ≠ [] ∧ PK (rAct c G) kvs wd.acts) ∧
  ∀ H2 f p r t kvs, G t = none → Same G H2 → WdAt c H2 a dx f p r t wd → H2 t = some (.dK kvs) → PK (rAct c H2) kvs wd.acts → Q .non H2
theorem rSq_list {H : Hp} {v : V} {ns : List Str} {Q : VK} (h : rSq H v ns) (q : ∀ b, H b = none → Q (.ref b) (upd H b (.lst (ns.map V.str)))) : qList K [v] H Q := by
  obtain ⟨a, rfl, h⟩ := h
  exact ⟨a, _, rfl, h.elim (fun h => .inl (SqL.of h)) (fun h => .inr (SqT.of h)), q⟩
theorem paired_getK {α β : Type} {F : α → β → Prop} : ∀ {vs : List α} {l : List β} {i : Nat} {x : α}, Paired F vs l → vs[i]? = some x → ∃ y, l[i]? = some y ∧ F x y
  | _, _, _, _, .nil, e => by simp at e
  | _, _, 0, _, .cons h _, e => by
    simp at e
    subst e
    exact ⟨_, rfl, h⟩
  | _, _, i + 1, x, .cons _ t, e => by
    obtain ⟨y, h1, h2⟩ := paired_getK (i := i) (x := x) t (by simpa using e)
    exact ⟨y, by simpa using h1, h2⟩
theorem gt_of_mem {α : Type} {l : List (Str × α)} {p : Str × α} (d : (l.map (·.1)).Nodup) (h : p ∈ l) : gt l p.1 = some p.2 := by
  obtain ⟨i, hi, e⟩ := List.getElem_of_mem h
  exact gt_at (i := i) d (by rw [List.getElem?_eq_getElem hi, e])
theorem fW_put3' {x0 x1 x2 x3 x4 : V} : putF "table" x4 (fW x0 x1 x2 x3) = fW x0 x1 x2 x4 := by
  unfold fW
  rw [put_past (by decide +kernel), put_past (by decide +kernel), put_past (by decide +kernel)]
  exact congrArg _ (congrArg _ (congrArg _ (if_pos rfl)))
theorem b_World_init (T : Txt K mg c) : Body P w K mg base N_World_init "World.__init__" s_World_init 2 (spWInit c) := by
    intro f cdv A outer sh H vs Q E hr h
    have nd := sc_World_init.nd
    obtain ⟨a, dx, x, y, z, tb, wd, G, rfl, e, na, ha, hx, hy, hz, ok, hl, hnd, htb, q⟩ := h
    refine ⟨_, (pss_cons (ps_expr (C8.pe_c (c_check_lists T) hr (by first | decide | exact Nat.le_refl _ | omega) rfl (pa_cons (pe_lst (pa_cons (pv 1) (pa_cons (pv 2) (pa_cons (pv 3) pa_nil)))) pa_nil)))
        (pss_cons (ps_fldK K rfl (pv 0) (pe_callTy (kList K rfl) (by rfl) T.g_list (by decide +kernel) (pa_cons (pv 1) pa_nil)) rfl)
        (pss_cons (ps_fldK K rfl (pv 0) (pe_callTy (kList K rfl) (by rfl) T.g_list (by decide +kernel) (pa_cons (pv 2) pa_nil)) rfl)
        (pss_cons (ps_fldK K rfl (pv 0) (pe_callTy (kList K rfl) (by rfl) T.g_list (by decide +kernel) (pa_cons (pv 3) pa_nil)) rfl)
        (pss_cons (ps_fldK K rfl (pv 0) pe_dnewK rfl)
        (pss_one (ps_if (pt_cmpR op_notN (pv 4) pe_non (nomark _)) (pss_one (ps_fldK K rfl (pv 0) (pe_lock (pe_dc (own := [("name", 5)]) (g := gName 5) rfl nd (pi_keys (pv 4)) (blkOk_by (own := [("name", 5)]) (N := N_World_init) (sc := fnScope s_World_init) (by decide +kernel)) (fun _ _ _ _ _ => (pg_name (i := 5) nd rfl (.inl rfl))) (fun _ _ _ _ _ => pts_nil) (fun _ _ _ _ _ => (pv 5)) (fun _ _ _ _ _ => (pe_dget (by exact hu_of hr) (pv 4) (pv 5) (fun _ _ => rfl))))) rfl)) pss_nil))))))), ?_⟩
    have nf := ok.nf
    have np := ok.np
    have nr := ok.nr
    walk_at "rd"
    refine ⟨big5 (by simp), fun pp npp => ?_⟩
    walk_at "rd"
    have e1 : Same G (upd H pp (.lst [x, y, z])) := e.trans (same_new npp)
    refine ⟨_, [wd.facts, wd.piles, wd.reserves], rfl, ⟨pp, _, rfl, upd_same, .cons (mono hx e1) (.cons (mono hy e1) (.cons (mono hz e1) .nil))⟩, ?_, ?_, ?_, by simp, fun H1 e1' => ?_⟩
    · intro ns hns n hn
      refine ok.nm n ?_
      simp only [List.mem_cons, List.not_mem_nil, or_false] at hns
      rcases hns with rfl | rfl | rfl <;> simp [hn]
    · have h := ok.nd
      simpa using h
    · simp
      omega
    have g1 : Same G H1 := e1.trans e1'
    have a1 : H1 a = some (.ins c.W dx []) := e1' _ _ (by rw [upd_ne (ne_of_none ha npp)]; exact ha)
    walk_at "rd"
    refine rSq_list (mono hx g1) fun bf nbf => ?_
    walk_at "rd"
    have n1 : a ≠ bf := ne_of_none a1 nbf
    refine ⟨a, _, _, _, rfl, by rw [upd_ne n1]; exact a1, T.cW, T.nW_fact_names, by decide, ?_⟩
    rw [fW_put0]
    generalize hH2 : upd (upd H1 bf (.lst (wd.facts.map V.str))) a (.ins c.W dx [(("fact_names" : Str), .ref bf)]) = H2
    have g2 : Same G H2 := by
      rw [← hH2]
      exact same_mut (g1.trans (same_new nbf)) na
    have a2 : H2 a = some (.ins c.W dx [(("fact_names" : Str), .ref bf)]) := by
      rw [← hH2]
      exact upd_same
    have f2 : H2 bf = some (.lst (wd.facts.map V.str)) := by
      rw [← hH2, upd_ne (Ne.symm n1)]
      exact upd_same
    walk_at "rd"
    refine rSq_list (mono hy g2) fun bp nbp => ?_
    walk_at "rd"
    have n2 : a ≠ bp := ne_of_none a2 nbp
    refine ⟨a, _, _, _, rfl, by rw [upd_ne n2]; exact a2, T.cW, T.nW_pile_names, by simp, ?_⟩
    rw [fW_put1]
    generalize hH3 : upd (upd H2 bp (.lst (wd.piles.map V.str))) a (.ins c.W dx [(("fact_names" : Str), .ref bf), (("pile_names" : Str), .ref bp)]) = H3
    have g3 : Same G H3 := by
      rw [← hH3]
      exact same_mut (g2.trans (same_new nbp)) na
    have a3 : H3 a = some (.ins c.W dx [(("fact_names" : Str), .ref bf), (("pile_names" : Str), .ref bp)]) := by
      rw [← hH3]
      exact upd_same
    have f3 : H3 bf = some (.lst (wd.facts.map V.str)) := by
      rw [← hH3, upd_ne (Ne.symm n1)]
      exact same_new nbp _ _ f2
    have p3 : H3 bp = some (.lst (wd.piles.map V.str)) := by
      rw [← hH3, upd_ne (Ne.symm n2)]
      exact upd_same
    walk_at "rd"
    refine rSq_list (mono hz g3) fun br nbr => ?_
    walk_at "rd"
    have n3 : a ≠ br := ne_of_none a3 nbr
    refine ⟨a, _, _, _, rfl, by rw [upd_ne n3]; exact a3, T.cW, T.nW_reserve_names, by simp, ?_⟩
    rw [fW_put2]
    generalize hH4 : upd (upd H3 br (.lst (wd.reserves.map V.str))) a (.ins c.W dx [(("fact_names" : Str), .ref bf), (("pile_names" : Str), .ref bp), (("reserve_names" : Str), .ref br)]) = H4
    have g4 : Same G H4 := by
      rw [← hH4]
      exact same_mut (g3.trans (same_new nbr)) na
    have a4 : H4 a = some (.ins c.W dx [(("fact_names" : Str), .ref bf), (("pile_names" : Str), .ref bp), (("reserve_names" : Str), .ref br)]) := by
      rw [← hH4]
      exact upd_same
    have f4 : H4 bf = some (.lst (wd.facts.map V.str)) := by
      rw [← hH4, upd_ne (Ne.symm n1)]
      exact same_new nbr _ _ f3
    have p4 : H4 bp = some (.lst (wd.piles.map V.str)) := by
      rw [← hH4, upd_ne (Ne.symm n2)]
      exact same_new nbr _ _ p3
    have r4 : H4 br = some (.lst (wd.reserves.map V.str)) := by
      rw [← hH4, upd_ne (Ne.symm n3)]
      exact upd_same
    walk_at "rd"
    intro bt nbt
    walk_at "rd"
    have n4 : a ≠ bt := ne_of_none a4 nbt
    refine ⟨a, _, _, _, rfl, by rw [upd_ne n4]; exact a4, T.cW, T.nW_table, by simp, ?_⟩
    rw [fW_put3]
    generalize hH5 : upd (upd H4 bt (.dK [])) a (.ins c.W dx [(("fact_names" : Str), .ref bf), (("pile_names" : Str), .ref bp), (("reserve_names" : Str), .ref br), (("table" : Str), .ref bt)]) = H5
    have g5 : Same G H5 := by
      rw [← hH5]
      exact same_mut (g4.trans (same_new nbt)) na
    have a5 : H5 a = some (.ins c.W dx (fW (.ref bf) (.ref bp) (.ref br) (.ref bt))) := by
      rw [← hH5]
      exact upd_same
    have f5 : H5 bf = some (.lst (wd.facts.map V.str)) := by
      rw [← hH5, upd_ne (Ne.symm n1)]
      exact same_new nbt _ _ f4
    have p5 : H5 bp = some (.lst (wd.piles.map V.str)) := by
      rw [← hH5, upd_ne (Ne.symm n2)]
      exact same_new nbt _ _ p4
    have r5 : H5 br = some (.lst (wd.reserves.map V.str)) := by
      rw [← hH5, upd_ne (Ne.symm n3)]
      exact same_new nbt _ _ r4
    have t5 : H5 bt = some (.dK []) := by
      rw [← hH5, upd_ne (Ne.symm n4)]
      exact upd_same
    walk_at "rd"
    rcases htb with ⟨rfl, hac⟩ | ⟨d, kvs, rfl, hd, hne, hkv⟩
    · refine ⟨rfl, ?_⟩
      walk_at "rd"
      exact q _ bf bp br bt [] (none_bk g4 nbt) g5 ⟨a5, f5, p5, r5⟩ t5 (by rw [hac]; exact .nil)
    · refine ⟨rfl, ?_⟩
      walk_at "rd"
      have d5 := g5 _ _ hd
      refine ⟨d, _, d5, trivial, fun od => ?_⟩
      have nda : d ≠ a := ne_of_none hd na
      generalize hH6 : upd H5 d (.frz od (.dK kvs)) = H6
      have d6 : H6 d = some (.frz od (.dK kvs)) := by
        rw [← hH6]
        exact upd_same
      refine ⟨_, rfl, d, od, rfl, .inl ⟨kvs, d6, fun D nD => ?_⟩⟩
      refine dc_w (walk_keys (kvs := kvs)) (fun _ v x => rAct c G v x) wd.acts (pk_len hkv) hnd (by omega) (fun H s => s _ _ d6) (fun i H x H' hi ⟨e, k, v, hk, hx⟩ => ?_) nD (fun x => rfl) (fun p G6 s6 hm Q' hQ' => ?_) (fun H7 kvs7 s7 hD hk7 => ?_)
      · obtain ⟨p, hp, h1, _⟩ := paired_getK hkv hk
        exact ⟨e, p, hp, by rw [hx, show k = Sum.inr p.1 from h1]; rfl⟩
      · obtain ⟨v, hv1, hv2⟩ := pk_some hkv (show gt wd.acts p.1 = some p.2 from gt_of_mem hnd hm)
        walk_at "rd"
        exact ⟨d, _, rfl, dgK (.inr ⟨od, s6 _ _ d6⟩) hv1, hQ' v G6 (Same.refl _) hv2⟩
      · have e7 : Same (upd H5 d (.frz od (.dK kvs))) H7 := by
          rw [hH6]
          exact s7
        have e8 : Same H5 (upd H7 d (.dK kvs)) := same_unlock d5 e7
        have nDd : D ≠ d := fun z => by rw [z, d6] at nD; cases nD
        have nDa : a ≠ D := ne_of_none (show H6 a = some _ from by rw [← hH6, upd_ne (Ne.symm nda)]; exact a5) nD
        have gD : G D = none := by
          cases h : G D with
          | none => rfl
          | some o =>
            have h5 := g5 _ _ h
            rw [← hH6, upd_ne nDd, h5] at nD
            cases nD
        refine ⟨s7 _ _ d6, ?_⟩
        walk_at "rd"
        refine ⟨a, _, _, _, rfl, e8 _ _ a5, T.cW, T.nW_table, by simp [fW], ?_⟩
        have g8 : Same G (upd (upd H7 d (.dK kvs)) a (.ins c.W dx (putF "table" (.ref D) (fW (.ref bf) (.ref bp) (.ref br) (.ref bt))))) := same_mut (g5.trans e8) na
        refine q _ bf bp br D kvs7 gD g8 ⟨?_, ?_, ?_, ?_⟩ ?_ (pk_mono g8 hk7)
        · rw [upd_same, fW_put3']
        · rw [upd_ne (fun z => by rw [z, a5] at f5; cases f5)]
          exact e8 _ _ f5
        · rw [upd_ne (fun z => by rw [z, a5] at p5; cases p5)]
          exact e8 _ _ p5
        · rw [upd_ne (fun z => by rw [z, a5] at r5; cases r5)]
          exact e8 _ _ r5
        · rw [upd_ne (Ne.symm nDa), upd_ne nDd]
          exact hD
theorem k_World3 (T : Txt K mg c) : Mak P w K mg base 3 "World" c.W (spWInit c) [.non] := makd_of (.cons rfl .nil) T.b_World sc_World_init (by walk_at "len") (b_World_init T)
theorem k_World (T : Txt K mg c) : Mak P w K mg base 3 "World" c.W (spWInit c) [] := mak_of T.m_World_init sc_World_init (by walk_at "len") (b_World_init T)
/-- a world whose table is not locked -/
def rWo (c : Cs) : Rep Wd := fun H v w => ∃ a dx f p r t kvs, v = .ref a ∧ WdAt c H a dx f p r t w ∧ H t = some (.dK kvs) ∧ PK (rAct c H) kvs w.acts ∧ WdOk w
theorem rWo_same {c : Cs} {H H' : Hp} {v : V} {w : Wd} (h : rWo c H v w) (e : Same H H') : rWo c H' v w := by
  obtain ⟨a, dx, f, p, r, t, kvs, rfl, W, ht, hk, ok⟩ := h
  exact ⟨a, dx, f, p, r, t, kvs, rfl, W.mono (.of e), e _ _ ht, pk_mono e hk, ok⟩
theorem rWo_d {c : Cs} {H : Hp} {v : V} {w : Wd} (h : rWo c H v w) : rWd c H v w := by
  obtain ⟨a, dx, f, p, r, t, kvs, rfl, W, ht, hk, ok⟩ := h
  exact ⟨a, dx, f, p, r, t, rfl, W, ⟨t, kvs, rfl, .inl ht, hk⟩, ok⟩
def spSameW (c : Cs) : Sp := fun vs H Q _ => ∃ x wd, vs = [x] ∧ rWo c H x wd ∧ wd.acts ≠ [] ∧ ∀ v H', Same H H' → rWo c H' v wd → Q v H'
theorem c_same_world (T : Txt K mg c) : Cal P w K mg base 5 "same_world" (spSameW c) [] := by
    refine cal_of T.d_same_world sc_same_world (by walk_at "len") (fun f cdv A outer sh H vs Q E hr h => ?_)
    have nd := sc_same_world.nd
    obtain ⟨_, wd, rfl, ⟨a, dx, f', p, r, t, kvs, rfl, W, ht, hk, ok⟩, hne, q⟩ := h
    refine ⟨_, (pss_one (ps_ret (C8.pe_mk (k_World T) hr (by first | decide | exact Nat.le_refl _ | omega) rfl (pa_cons (pe_fldK K rfl (pv 0) rfl) (pa_cons (pe_fldK K rfl (pv 0) rfl) (pa_cons (pe_fldK K rfl (pv 0) rfl) (pa_cons (pe_fldK K rfl (pv 0) rfl) pa_nil))))))), ?_⟩
    walk_at "rd"
    refine ⟨a, _, _, _, _, rfl, W.ob, T.cW, T.nW_fact_names, fW_fact_names, ?_⟩
    walk_at "rd"
    refine ⟨a, _, _, _, _, rfl, W.ob, T.cW, T.nW_pile_names, fW_pile_names, ?_⟩
    walk_at "rd"
    refine ⟨a, _, _, _, _, rfl, W.ob, T.cW, T.nW_reserve_names, fW_reserve_names, ?_⟩
    walk_at "rd"
    refine ⟨a, _, _, _, _, rfl, W.ob, T.cW, T.nW_table, fW_table, ?_⟩
    walk_at "rd"
    intro x dx2 nx ndx ne
    refine ⟨x, dx2, _, _, _, _, wd, H, rfl, same_made nx ndx (Same.refl _), nx, upd_same, ⟨f', rfl, .inl W.fa⟩, ⟨p, rfl, .inl W.pi⟩, ⟨r, rfl, .inl W.re⟩, ok.toLsOk, ok.na, ok.nda, .inr ⟨t, kvs, rfl, ht, hne, hk⟩, ?_⟩
    intro H2 f2 p2 r2 t2 kvs2 _ e2 W2 ht2 hk2
    exact ⟨rfl, q _ _ e2 ⟨x, dx2, f2, p2, r2, t2, kvs2, rfl, W2, ht2, hk2, ok⟩⟩
theorem m_World_copy (T : Txt K mg c) : Met P w K mg base 6 c.W "copy" (spSameW c) [] := by
    refine met_of T.m_World_copy sc_World_copy (by walk_at "len") (fun f cdv A outer sh H vs Q E hr h => ?_)
    have nd := sc_World_copy.nd
    obtain ⟨_, wd, rfl, hw, hne, q⟩ := h
    refine ⟨_, (pss_one (ps_ret (C8.pe_c (c_same_world T) hr (by first | decide | exact Nat.le_refl _ | omega) rfl (pa_cons (pv 0) pa_nil)))), ?_⟩
    walk_at "rd"
    exact ⟨_, wd, rfl, hw, hne, q⟩
/-! ### the checks of an action -/
theorem oc_take {o : Chg} {n : Str} : decide (ocV o n = .str "take") = decide (chg o n = some .take) := by
  unfold ocV
  rcases chg o n with _ | x
  · rfl
  · cases x <;> decide +kernel
theorem oc_scal {o : Chg} {n s : Str} : scal (ocV o n) (.str s) = true := by
  unfold ocV
  rcases chg o n with _ | x
  · rfl
  · cases x <;> rfl
def takesR (w : Wd) (o : Chg) : Bool := w.reserves.any fun n => decide (chg o n = some .take)
def spTakesR (c : Cs) : Sp := fun vs H Q _ => ∃ x y wd o, vs = [x, y] ∧ rWl c H x wd ∧ LsOk wd ∧ rOut c H y o ∧ ∀ H', Same H H' → Q (.bl (takesR wd o)) H'
theorem m_World_takes_reserve (T : Txt K mg c) : Met P w K mg base 3 c.W "takes_reserve" (spTakesR c) [] := by
    refine met_of T.m_World_takes_reserve sc_World_takes_reserve (by walk_at "len") (fun f cdv A outer sh H vs Q E hr h => ?_)
    have nd := sc_World_takes_reserve.nd
    obtain ⟨_, y, wd, o, rfl, ⟨a, dx, f', p, r, t, rfl, W⟩, ok, hy, q⟩ := h
    refine ⟨_, (pss_one (ps_ret (pe_callB (kAny K rfl rfl) (by rfl) T.g_any (by decide +kernel) (pa_cons (pe_lc (own := [("name", 2)]) (g := gName 2) rfl nd (pi_listK K rfl (pe_fldK K rfl (pv 0) rfl)) (blkOk_by (own := [("name", 2)]) (N := N_World_takes_reserve) (sc := fnScope s_World_takes_reserve) (by decide +kernel)) (fun _ _ _ _ _ => (pg_name (i := 2) nd rfl (.inl rfl))) (fun _ _ _ _ _ => pts_nil) (fun _ _ _ _ _ => pe_hide (pe_cmpR op_eq (pe_ownIx (m_Outcome_getitem T) hr (by first | decide | exact Nat.le_refl _ | omega) T.fiO (pv 1) (pv 2)) pe_str (nomark _)))) pa_nil)))), ?_⟩
    have h1 := ok.nr
    walk_at "rd"
    refine ⟨_, rfl, a, _, _, _, _, rfl, W.ob, T.cW, T.nW_reserve_names, fW_reserve_names, r, rfl, ⟨_, SqL.of W.re⟩, fun D nD => ?_⟩
    refine lc_wm (walk_list (xs := wd.reserves.map V.str)) rStr rBool (ys := wd.reserves) (fun n => decide (chg o n = some .take)) (by simp) (fun H' s => SqL.of (s _ _ W.re)) (yat_of rStr strs_paired) (by omega) nD (fun x => rfl) (fun x n G sm hx hm Q hQ => ?_) (fun H2 zs sm hz hp => ?_)
    · obtain rfl : x = .str n := hx
      have hy' := mono hy sm
      obtain ⟨b, db, xb, rfl, hb, r⟩ := id hy'
      walk_at "rd"
      refine ⟨b, db, _, rfl, hb, _, o, n, rfl, hy', fun H' s => ?_⟩
      walk_at "rd"
      refine i_eq oc_scal ?_
      exact hQ _ _ s (by rw [oc_take]; rfl)
    · exact i_any hz hp (q _ sm)
def spCCOf (c : Cs) : Sp := fun vs H Q _ => ∃ x wd n y, vs = [x, .str n, y] ∧ rWl c H x wd ∧ LsOk wd ∧ (∃ z : Ch, y = z.v ∧ Fits wd (n, z)) ∧ ∀ H', Same H H' → Q .non H'
theorem fit_cases {wd : Wd} {n : Str} {z : Ch} (h : Fits wd (n, z)) (ok : LsOk wd) : (n ∈ wd.facts ∧ (z = .yes ∨ z = .no)) ∨ (n ∉ wd.facts ∧ n ∈ wd.piles ∧ (z = .add ∨ z = .take ∨ z = .empty)) ∨ (n ∉ wd.facts ∧ n ∉ wd.piles ∧ n ∈ wd.reserves ∧ (z = .add ∨ z = .take)) := by
  have hd := ok.nd
  rw [List.append_assoc, List.nodup_append, List.nodup_append] at hd
  obtain ⟨_, ⟨_, _, h2⟩, h3⟩ := hd
  rcases h with ⟨h, z⟩ | ⟨h, z⟩ | ⟨h, z⟩
  · exact .inl ⟨h, z⟩
  · exact .inr (.inl ⟨fun m => h3 n m n (List.mem_append_left _ h) rfl, h, z⟩)
  · exact .inr (.inr ⟨fun m => h3 n m n (List.mem_append_right _ h) rfl, fun m => h2 n m n h rfl, h, z⟩)
theorem m_World_check_change_of (T : Txt K mg c) : Met P w K mg base 1 c.W "check_change_of" (spCCOf c) [] := by
    refine met_of T.m_World_check_change_of sc_World_check_change_of (by walk_at "len") (fun f cdv A outer sh H vs Q E hr h => ?_)
    have nd := sc_World_check_change_of.nd
    obtain ⟨_, wd, n, _, rfl, ⟨a, dx, f', p, r, t, rfl, W⟩, ok, ⟨z, rfl, hz⟩, q⟩ := h
    refine ⟨_, (pss_one (ps_if (pt_cmpR (kInS K rfl) (pv 1) (pe_fldK K rfl (pv 0) rfl) (by rfl)) (pss_one (ps_if (PW.pt (pw_and (pt_cmpR op_isNotT (pv 2) pe_bl (nomark _)) (pw_and1 (pt_cmpR op_isNotT (pv 2) pe_bl (nomark _))))) (pss_one ps_never) pss_nil)) (pss_one (ps_if (pt_cmpR (kInS K rfl) (pv 1) (pe_fldK K rfl (pv 0) rfl) (by rfl)) (pss_one (ps_if (pt_cmpR (kNotInS K rfl) (pv 2) (pe_tup (pa_cons pe_str (pa_cons pe_str (pa_cons pe_str pa_nil)))) (by rfl)) (pss_one ps_never) pss_nil)) (pss_one (ps_if (pt_cmpR (kInS K rfl) (pv 1) (pe_fldK K rfl (pv 0) rfl) (by rfl)) (pss_one (ps_if (pt_cmpR (kNotInS K rfl) (pv 2) (pe_tup (pa_cons pe_str (pa_cons pe_str pa_nil))) (by rfl)) (pss_one ps_never) pss_nil)) (pss_one ps_never))))))), ?_⟩
    walk_at "rd"
    refine ⟨a, _, _, _, _, rfl, W.ob, T.cW, T.nW_fact_names, fW_fact_names, ?_⟩
    walk_at "rd"
    refine i_inT (.inr (SqL.of W.fa)) ⟨_, rfl, ?_⟩
    rcases fit_cases hz ok with ⟨h1, h2⟩ | ⟨h1, h2, h3⟩ | ⟨h1, h2, h3, h4⟩
    · refine ifT (decide_eq_true h1) ?_
      walk_at "rd"
      refine i_isNT (chV z) ?_
      rcases h2 with rfl | rfl
      · walk_at "rd"
        exact q _ (Same.refl _)
      · walk_at "rd"
        refine i_isNT (chV .no) ?_
        walk_at "rd"
        exact q _ (Same.refl _)
    · refine ifF (decide_eq_false h1) ?_
      walk_at "rd"
      refine ⟨a, _, _, _, _, rfl, W.ob, T.cW, T.nW_pile_names, fW_pile_names, ?_⟩
      walk_at "rd"
      refine i_inT (.inr (SqL.of W.pi)) ⟨_, rfl, ifT (decide_eq_true h2) ?_⟩
      walk_at "rd"
      refine ⟨big5 (by simp), fun b nb => ?_⟩
      walk_at "rd"
      obtain ⟨s, hs, hm⟩ : ∃ s, z.v = .str s ∧ s ∈ (["add", "take", "empty"] : List Str) := by
        rcases h3 with rfl | rfl | rfl
        · exact ⟨"add", rfl, by decide +kernel⟩
        · exact ⟨"take", rfl, by decide +kernel⟩
        · exact ⟨"empty", rfl, by decide +kernel⟩
      rw [hs]
      refine i_notInT (s := s) (ns := ["add", "take", "empty"]) (.inl (SqT.of upd_same)) ⟨_, rfl, ?_⟩
      rw [decide_eq_true hm]
      walk_at "rd"
      exact q _ (same_new nb)
    · refine ifF (decide_eq_false h1) ?_
      walk_at "rd"
      refine ⟨a, _, _, _, _, rfl, W.ob, T.cW, T.nW_pile_names, fW_pile_names, ?_⟩
      walk_at "rd"
      refine i_inT (.inr (SqL.of W.pi)) ⟨_, rfl, ifF (decide_eq_false h2) ?_⟩
      walk_at "rd"
      refine ⟨a, _, _, _, _, rfl, W.ob, T.cW, T.nW_reserve_names, fW_reserve_names, ?_⟩
      walk_at "rd"
      refine i_inT (.inr (SqL.of W.re)) ⟨_, rfl, ifT (decide_eq_true h3) ?_⟩
      walk_at "rd"
      refine ⟨big5 (by simp), fun b nb => ?_⟩
      walk_at "rd"
      obtain ⟨s, hs, hm⟩ : ∃ s, z.v = .str s ∧ s ∈ (["add", "take"] : List Str) := by
        rcases h4 with rfl | rfl
        · exact ⟨"add", rfl, by decide +kernel⟩
        · exact ⟨"take", rfl, by decide +kernel⟩
      rw [hs]
      refine i_notInT (s := s) (ns := ["add", "take"]) (.inl (SqT.of upd_same)) ⟨_, rfl, ?_⟩
      rw [decide_eq_true hm]
      walk_at "rd"
      exact q _ (same_new nb)
theorem names_len : ∀ t : Tree, t.names.length ≤ 2 ^ t.depth
  | .is _ => Nat.le_refl _
  | .not t => by
    have := names_len t
    simp only [Tree.names, Tree.depth, Nat.pow_succ]
    omega
  | .and t u => by
    have h1 := names_len t
    have h2 := names_len u
    have h3 : 2 ^ t.depth ≤ 2 ^ max t.depth u.depth := Nat.pow_le_pow_right (by decide) (Nat.le_max_left _ _)
    have h4 : 2 ^ u.depth ≤ 2 ^ max t.depth u.depth := Nat.pow_le_pow_right (by decide) (Nat.le_max_right _ _)
    simp only [Tree.names, Tree.depth, List.length_append, Nat.pow_succ]
    omega
  | .or t u => by
    have h1 := names_len t
    have h2 := names_len u
    have h3 : 2 ^ t.depth ≤ 2 ^ max t.depth u.depth := Nat.pow_le_pow_right (by decide) (Nat.le_max_left _ _)
    have h4 : 2 ^ u.depth ≤ 2 ^ max t.depth u.depth := Nat.pow_le_pow_right (by decide) (Nat.le_max_right _ _)
    simp only [Tree.names, Tree.depth, List.length_append, Nat.pow_succ]
    omega
  | .always => Nat.zero_le _
  | .never => Nat.zero_le _
theorem names_few {t : Tree} (h : t.depth ≤ 2) : t.names.length ≤ 4 := Nat.le_trans (names_len t) (Nat.pow_le_pow_right (by decide) h)
def spCAct (c : Cs) : Sp := fun vs H Q _ => ∃ x wd n y A, vs = [x, .str n, y] ∧ rWl c H x wd ∧ LsOk wd ∧ isName n = true ∧ rAct c H y A ∧ ActOk wd A ∧ ∀ H', Same H H' → Q .non H'
theorem m_World_check_action (T : Txt K mg c) : Met P w K mg base 8 c.W "check_action" (spCAct c) [] := by
    refine met_of T.m_World_check_action sc_World_check_action (by walk_at "len") (fun f cdv A outer sh H vs Q E hr h => ?_)
    have nd := sc_World_check_action.nd
    obtain ⟨_, wd, n, y, A', rfl, ⟨a, dx, f', p, r, t, rfl, W⟩, ok, hn, hy, ha, q⟩ := h
    refine ⟨_, (pss_cons (ps_if (pt_not (pt_val (C8.pe_c (c_is_name T) hr (by first | decide | exact Nat.le_refl _ | omega) rfl (pa_cons (pv 1) pa_nil)))) (pss_one ps_never) pss_nil)
        (pss_cons (ps_for PassesOwn.never rfl (pi_listK K rfl (C8.pe_mt0 (m_Condition_names T) hr (by first | decide | exact Nat.le_refl _ | omega) (pe_fldK K rfl (pv 2) rfl))) (pg_name (i := 3) nd rfl (.inl rfl)) (pss_one (ps_if (PW.pt (pw_and (pt_cmpR (kNotInS K rfl) (pv 3) (pe_fldK K rfl (pv 0) rfl) (by rfl)) (pw_and1 (pt_cmpR (kNotInS K rfl) (pv 3) (pe_fldK K rfl (pv 0) rfl) (by rfl))))) (pss_one ps_never) pss_nil)))
        (pss_cons (ps_setLc (i := 4) (own := [("k", 6)]) (g := gName 6) (by rfl) nd rfl rfl (sw_true rfl rfl rfl (by decide +kernel)) (pi_range1 (by rfl) T.g_range (pa_cons (pe_callB (cr_ownLen (m_Action_len T) hr (by first | decide | exact Nat.le_refl _ | omega)) (by rfl) T.g_len PySem.boot_len (pa_cons (pv 2) pa_nil)) pa_nil)) (blkOk_by (own := [("k", 6)]) (N := N_World_check_action) (sc := fnScope s_World_check_action) (by decide +kernel)) (fun _ _ _ _ _ => (pg_name (i := 6) nd rfl (.inl rfl))) (fun _ _ _ _ _ => pts_nil) (fun _ _ _ _ _ => pe_hide (C8.pe_mt (m_Action_outcome T) hr (by first | decide | exact Nat.le_refl _ | omega) (pv 2) (pa_cons (pv 6) pa_nil))))
        (pss_cons (ps_for PassesOwn.never rfl (pi_listK K rfl (pv 4)) (pg_name (i := 5) nd rfl (.inl rfl)) (pss_one (ps_for PassesOwn.never rfl (pi_listK K rfl (C8.pe_mt0 (m_Outcome_names T) hr (by first | decide | exact Nat.le_refl _ | omega) (pv 5))) (pg_name (i := 3) nd rfl (.inl rfl)) (pss_one (ps_expr (C8.pe_mt (m_World_check_change_of T) hr (by first | decide | exact Nat.le_refl _ | omega) (pv 0) (pa_cons (pv 3) (pa_cons (pe_ownIx (m_Outcome_getitem T) hr (by first | decide | exact Nat.le_refl _ | omega) T.fiO (pv 5) (pv 3)) pa_nil))))))))
        (pss_one (ps_if (pt_val (pe_callB (kAll K rfl rfl) (by rfl) T.g_all (by decide +kernel) (pa_cons (pe_lc (own := [("outcome", 5)]) (g := gName 5) rfl nd (pi_listK K rfl (pv 4)) (blkOk_by (own := [("outcome", 5)]) (N := N_World_check_action) (sc := fnScope s_World_check_action) (by decide +kernel)) (fun _ _ _ _ _ => (pg_name (i := 5) nd rfl (.inl rfl))) (fun _ _ _ _ _ => pts_nil) (fun _ _ _ _ _ => pe_hide (C8.pe_mt (m_World_takes_reserve T) hr (by first | decide | exact Nat.le_refl _ | omega) (pv 0) (pa_cons (pv 5) pa_nil)))) pa_nil))) (pss_one ps_never) pss_nil)))))), ?_⟩
    walk_at "rd"
    refine ⟨n, rfl, hn, fun H1 e1 => ⟨_, rfl, ?_⟩⟩
    have hy1 := mono hy e1
    obtain ⟨b, db, nb, lb, rfl, hb, hnb, hlb, _, _⟩ := id hy1
    obtain ⟨bc, dbc, xc, rfl, hbc, hxc⟩ := id hnb
    walk_at "rd"
    refine ⟨b, _, _, _, _, rfl, hb, T.cA, T.nA_need, fA_need, bc, _, _, rfl, hbc, fC_no_names, ?_⟩
    walk_at "rd"
    have hfew := names_few ha.dep
    refine ⟨_, A'.need, rfl, hnb, by omega, fun v H2 ms e2 ⟨l, hv, hl⟩ hms hml => ?_⟩
    subst hv
    have e12 := e1.trans e2
    refine ⟨l, rfl, ⟨_, SqL.of hl⟩, ?_⟩
    refine for_w (walk_list (xs := ms.map V.str)) (fun i σ H' => ∃ v3 v4 v5 v6, Same H H' ∧ H' l = some (.lst (ms.map V.str)) ∧ σ = [some (.ref a), some (.str n), some (.ref b), v3, v4, v5, v6]) ⟨_, _, _, _, e12, hl, rfl⟩ (fun i σ H' _ ⟨_, _, _, _, _, h, _⟩ => SqL.of h) ?_ ?_
    · rintro i x σ H3 H4 hi ⟨v3, v4, v5, v6, e3, h3, rfl⟩ ⟨rfl, hx⟩
      obtain ⟨m, hm, rx⟩ := paired_get (F := rStr H4) strs_paired hx
      obtain rfl : x = .str m := rx
      have hin : m ∈ wd.facts ++ wd.piles := ha.need m (hms m (List.mem_of_getElem? hm))
      have W3 := W.mono (.of e3)
      walk_at "rd"
      refine ⟨a, _, _, _, _, rfl, W3.ob, T.cW, T.nW_fact_names, fW_fact_names, ?_⟩
      walk_at "rd"
      refine i_notInT (.inr (SqL.of W3.fa)) ⟨_, rfl, ?_⟩
      by_cases hf : m ∈ wd.facts
      · rw [decide_eq_true hf]
        walk_at "rd"
        exact ⟨_, _, _, _, e3, h3, rfl⟩
      · rw [decide_eq_false hf]
        have hp : m ∈ wd.piles := (List.mem_append.mp hin).resolve_left hf
        walk_at "rd"
        refine ⟨a, _, _, _, _, rfl, W3.ob, T.cW, T.nW_pile_names, fW_pile_names, ?_⟩
        walk_at "rd"
        refine i_notInT (.inr (SqL.of W3.pi)) ⟨_, rfl, ?_⟩
        rw [decide_eq_true hp]
        walk_at "rd"
        exact ⟨_, _, _, _, e3, h3, rfl⟩
    · rintro σ H3 ⟨v3, v4, v5, v6, e3, h3, rfl⟩
      have hy3 := mono hy e3
      obtain ⟨_, _, _, _, hq, hb3, _, _, hne, h2⟩ := id hy3
      cases hq
      walk_at "rd"
      refine ⟨_, rfl, b, _, _, rfl, hb3, _, A', rfl, hy3, fun H4 e4 => ⟨_, rfl, by omega, ?_⟩⟩
      walk_at "rd"
      refine ⟨_, rfl, by omega, by omega, fun D nD => ?_⟩
      have hy4 := mono hy3 e4
      refine lc_wm walk_range rIdx (rOut c) (ys := List.range A'.outs.length) (fun k => A'.outs.getD k []) (by simp) (fun _ _ => trivial) (by simpa using yat_range) (by simp; omega) nD (fun x => rfl) (fun x k G sm hx hk Q hQ => ?_) (fun H5 zs sm hz hp => ?_)
      · obtain rfl : x = .int (k : Int) := hx
        have hk' : k < A'.outs.length := List.mem_range.mp hk
        walk_at "rd"
        refine ⟨b, _, _, rfl, (e4.trans sm) _ _ hb3, fA_no_outcome, ?_⟩
        walk_at "rd"
        exact ⟨_, A', k, _, rfl, mono hy4 sm, List.getElem?_eq_getElem hk', fun v H' s r => hQ v H' s (by simpa [List.getD_eq_getElem?_getD, hk'] using r)⟩
      · rw [range_getD] at hp
        have hlz := paired_len hp
        have e5 := (e3.trans e4).trans sm
        walk_at "rd"
        refine ⟨D, rfl, ⟨_, SqL.of hz⟩, ?_⟩
        refine for_w (walk_list (xs := zs)) (fun i σ H' => ∃ v3 v5 v6, Same H5 H' ∧ σ = [some (.ref a), some (.str n), some (.ref b), v3, some (.ref D), v5, v6]) ⟨_, _, _, Same.refl _, rfl⟩ (fun i σ H' _ ⟨_, _, _, s, _⟩ => SqL.of (s _ _ hz)) ?_ ?_
        · rintro i x σ H6 H7 hi ⟨v3, v5, v6, e6, rfl⟩ ⟨rfl, hx⟩
          obtain ⟨o, ho, rx⟩ := paired_get hp hx
          have hom : o ∈ A'.outs := List.mem_of_getElem? ho
          have rx7 := mono rx e6
          obtain ⟨bo, dbo, xo, rfl, hbo, _, oko⟩ := id rx7
          walk_at "rd"
          refine ⟨bo, _, _, rfl, hbo, fO_no_names, ?_⟩
          walk_at "rd"
          refine ⟨_, o, rfl, rx7, fun v H8 ms2 e8 ⟨l2, hv, hl2⟩ hms2 hml2 => ?_⟩
          subst hv
          refine ⟨l2, rfl, ⟨_, SqL.of hl2⟩, ?_⟩
          refine for_w (walk_list (xs := ms2.map V.str)) (fun j σ H' => ∃ v3 v6, Same H8 H' ∧ σ = [some (.ref a), some (.str n), some (.ref b), v3, some (.ref D), some (.ref bo), v6]) ⟨_, _, Same.refl _, rfl⟩ (fun i σ H' _ ⟨_, _, s, _⟩ => SqL.of (s _ _ hl2)) ?_ ?_
          · rintro j x σ H9 H10 hj ⟨v3, v6, e9, rfl⟩ ⟨rfl, hx⟩
            obtain ⟨m, hm, rx⟩ := paired_get (F := rStr H10) strs_paired hx
            obtain rfl : x = .str m := rx
            have hmm : m ∈ o.map (·.1) := hms2 m (List.mem_of_getElem? hm)
            obtain ⟨⟨m', y⟩, hmy, rfl⟩ := List.mem_map.mp hmm
            have hg : chg o m' = some y := gt_of_mem oko.nd hmy
            have e59 := (e6.trans e8).trans e9
            have W9 := W.mono (.of (e5.trans e59))
            have rx9 := mono rx7 (e8.trans e9)
            walk_at "rd"
            refine ⟨a, _, _, rfl, W9.ob, fW_no_check_change_of, ?_⟩
            walk_at "rd"
            refine ⟨bo, _, _, rfl, (e8.trans e9) _ _ hbo, _, o, m', rfl, rx9, fun H11 e11 => ?_⟩
            walk_at "rd"
            refine ⟨_, wd, m', _, rfl, ⟨a, dx, f', p, r, t, rfl, W9.mono (.of e11)⟩, ok, ⟨y, by unfold ocV; rw [hg]; rfl, ha.fit o hom _ hmy⟩, fun H12 e12 => ?_⟩
            exact ⟨_, _, (e9.trans e11).trans e12, rfl⟩
          · rintro σ H9 ⟨v3, v6, e9, rfl⟩
            exact ⟨_, _, _, (e6.trans e8).trans e9, rfl⟩
        · rintro σ H6 ⟨v3, v5, v6, e6, rfl⟩
          have hz6 := e6 _ _ hz
          have hp6 := paired_mono e6 hp
          walk_at "rd"
          refine ⟨_, rfl, D, rfl, ⟨zs, SqL.of hz6⟩, fun D2 nD2 => ?_⟩
          refine lc_wm (walk_list (xs := zs)) (rOut c) rBool (ys := A'.outs) (fun o => takesR wd o) hlz (fun H' s => SqL.of (s _ _ hz6)) (yat_of (rOut c) hp6) (by omega) nD2 (fun x => rfl) (fun x o G sm hx hm Q hQ => ?_) (fun H7 us sm7 hD2 hp7 => ?_)
          · have W7 := W.mono (.of ((e5.trans e6).trans sm))
            walk_at "rd"
            refine ⟨a, _, _, rfl, W7.ob, fW_no_takes_reserve, ?_⟩
            walk_at "rd"
            exact ⟨_, x, wd, o, rfl, ⟨a, dx, f', p, r, t, rfl, W7⟩, ok, hx, fun H' s => hQ _ _ s rfl⟩
          · walk_at "rd"
            refine i_all hD2 hp7 ?_
            refine ⟨_, rfl, ?_⟩
            have hfr : A'.outs.all (fun o => takesR wd o) = false := by
              obtain ⟨o, ho, hno⟩ := ha.free
              rw [List.all_eq_false]
              refine ⟨o, ho, ?_⟩
              unfold takesR
              rw [Bool.not_eq_true, List.any_eq_false]
              intro r hr
              simpa using hno r hr
            rw [hfr]
            walk_at "rd"
            exact q _ ((e5.trans e6).trans sm7)
def spSetItem (c : Cs) : Sp := fun vs H Q _ => ∃ a dx f p r t kvs wd n y A G, vs = [.ref a, .str n, y] ∧ H = upd G t (.dK kvs) ∧ G t = none ∧ WdAt c G a dx f p r t wd ∧ LsOk wd ∧ isName n = true ∧ rAct c G y A ∧ ActOk wd A ∧ valV kvs (Sum.inr n) = none ∧ kvs.length ≤ 10 ∧
  ∀ G2 v, Same G G2 → G2 t = none → rAct c G2 v A → Q .non (upd G2 t (.dK (kvs ++ [(Sum.inr n, v)])))
theorem m_World_setitem (T : Txt K mg c) : Met P w K mg base 9 c.W "__setitem__" (spSetItem c) [] := by
    refine met_of T.m_World_setitem sc_World_setitem (by walk_at "len") (fun f cdv A outer sh H vs Q E hr h => ?_)
    have nd := sc_World_setitem.nd
    obtain ⟨a, dx, f', p, r, t, kvs, wd, n, y, A', G, rfl, rfl, nt, W, ok, hn, hy, ha, hv, hl, q⟩ := h
    refine ⟨_, (pss_cons (ps_expr (C8.pe_mt (m_World_check_action T) hr (by first | decide | exact Nat.le_refl _ | omega) (pv 0) (pa_cons (pv 1) (pa_cons (pv 2) pa_nil))))
        (pss_one (ps_dput (by exact hu_of hr) (pe_fldK K rfl (pv 0) rfl) (pv 1) (pe_hide (C8.pe_c (c_copied_action T) hr (by first | decide | exact Nat.le_refl _) rfl (pa_cons (pv 2) pa_nil))) rfl))), ?_⟩
    have e0 : Same G (upd G t (.dK kvs)) := same_new nt
    have W0 := W.mono (.of e0)
    walk_at "rd"
    refine ⟨a, _, _, rfl, W0.ob, fW_no_check_action, ?_⟩
    walk_at "rd"
    refine ⟨_, wd, n, y, A', rfl, ⟨a, dx, f', p, r, t, rfl, W0⟩, ok, hn, mono hy e0, ha, fun H1 e1 => ?_⟩
    walk_at "rd"
    have t1 : H1 t = some (.dK kvs) := e1 _ _ upd_same
    have g1 : Same G (off H1 t) := same_off nt e1
    refine ⟨off H1 t, t, .dK kvs, off_self t1, off_at, trivial, ?_⟩
    walk_at "rd"
    refine ⟨_, A', rfl, mono hy g1, fun v G2 e2 r2 => ⟨trivial, fun n2 => ?_⟩⟩
    have W2 := W.mono (.of ((g1.trans e2).trans (same_new (o := .dK kvs) n2)))
    walk_at "rd"
    refine ⟨a, _, _, _, _, rfl, W2.ob, T.cW, T.nW_table, fW_table, ?_⟩
    walk_at "rd"
    refine ⟨t, _, rfl, dpK upd_same (by omega), ?_⟩
    have e : putK kvs (Sum.inr n) v = kvs ++ [(Sum.inr n, v)] := by
      unfold putK
      rw [if_neg]
      rw [valV_any, hv]
      exact Bool.false_ne_true
    rw [e, upd_upd]
    exact q _ _ (g1.trans e2) n2 r2
/-! ### states -/
def statesOf (ns : List Str) : List (List Str) := ns.foldl (fun l n => l.flatMap fun s => [s, s ++ [n]]) [[]]
theorem states_len (ns : List Str) : (statesOf ns).length = 2 ^ ns.length := by
  have key : ∀ (ns : List Str) (l : List (List Str)), (ns.foldl (fun l n => l.flatMap fun s => [s, s ++ [n]]) l).length = l.length * 2 ^ ns.length := by
    intro ns
    induction ns with
    | nil => intro l; simp
    | cons n r ih =>
      intro l
      rw [List.foldl_cons, ih]
      have : (l.flatMap fun s => [s, s ++ [n]]).length = l.length * 2 := by
        rw [List.length_flatMap]
        induction l with
        | nil => rfl
        | cons x t iht =>
          rw [List.map_cons, List.sum_cons, iht]
          simp
          omega
      rw [this, List.length_cons, Nat.pow_succ, Nat.mul_assoc, Nat.mul_comm 2]
  rw [statesOf, key]
  simp
theorem states_sub {ns : List Str} {s : List Str} (h : s ∈ statesOf ns) : s.Sublist ns := by
  have key : ∀ (ns p : List Str) (l : List (List Str)), (∀ s ∈ l, s.Sublist p) → ∀ s ∈ ns.foldl (fun l n => l.flatMap fun s => [s, s ++ [n]]) l, s.Sublist (p ++ ns) := by
    intro ns
    induction ns with
    | nil => intro p l hl s hs; rw [List.append_nil]; exact hl s hs
    | cons n r ih =>
      intro p l hl s hs
      rw [List.foldl_cons] at hs
      have := ih (p ++ [n]) (l.flatMap fun s => [s, s ++ [n]]) (fun s hs => by
        obtain ⟨u, hu, hs⟩ := List.mem_flatMap.mp hs
        simp only [List.mem_cons, List.not_mem_nil, or_false] at hs
        rcases hs with rfl | rfl
        · exact (hl _ hu).trans (List.sublist_append_left _ _)
        · exact (hl u hu).append (List.Sublist.refl _)) s hs
      simpa using this
  have := key ns [] [[]] (fun s hs => by
    rw [List.mem_singleton.mp hs]
    exact List.Sublist.refl _) s h
  simpa using this
def spStates (c : Cs) : Sp := fun vs H Q _ => ∃ x wd, vs = [x] ∧ rWl c H x wd ∧ LsOk wd ∧ ∀ v H', Same H H' → rLst rTupS H' v (statesOf wd.seen) → Q v H'
theorem m_World_states (T : Txt K mg c) : Met P w K mg base 2 c.W "states" (spStates c) [] := by
    refine met_of T.m_World_states sc_World_states (by walk_at "len") (fun f cdv A outer sh H vs Q E hr h => ?_)
    have nd := sc_World_states.nd
    obtain ⟨_, wd, rfl, ⟨a, dx, f', p, r, t, rfl, W⟩, ok, q⟩ := h
    refine ⟨_, (pss_cons (ps_set (i := 1) nd rfl (.inl rfl) (pe_lst (pa_cons (pe_tup pa_nil) pa_nil)))
        (pss_cons (ps_for PassesOwn.never rfl (pi_listK K rfl (C8.pe_mt0 (m_World_seen T) hr (by first | decide | exact Nat.le_refl _ | omega) (pv 0))) (pg_name (i := 2) nd rfl (.inl rfl)) (pss_cons (ps_set (i := 3) nd rfl (.inl rfl) (pe_lst pa_nil))
        (pss_cons (ps_for PassesOwn.never rfl (pi_listK K rfl (pv 1)) (pg_name (i := 4) nd rfl (.inl rfl)) (pss_one (ps_expr (pe_bmK K rfl PySem.F.plainAttrs_list PySem.F.slot_list_extend PySem.F.type_list_extend mt_extend (pv 3) (pa_cons (pe_lst (pa_cons (pv 4) (pa_cons (pe_op (kCatA K rfl) (pv 4) (pe_tup (pa_cons (pv 2) pa_nil))) pa_nil))) pa_nil)))))
        (pss_one (ps_set (i := 1) nd rfl (.inl rfl) (pv 3))))))
        (pss_one (ps_ret (pv 1))))), ?_⟩
    have h1 := ok.nf
    have h2 := ok.np
    walk_at "rd"
    refine ⟨Nat.zero_le _, fun p0 np0 => ?_⟩
    walk_at "rd"
    refine ⟨big5 (by simp), fun p1 np1 => ?_⟩
    walk_at "rd"
    generalize hH1 : upd (upd H p0 (.tup [])) p1 (.lst [.ref p0]) = H1
    have e1 : Same H H1 := by
      rw [← hH1]
      exact (same_new np0).trans (same_new np1)
    have r1 : rLst rTupS H1 (.ref p1) [[]] := ⟨p1, _, rfl, by rw [← hH1]; exact upd_same, .cons ⟨p0, rfl, by rw [← hH1]; exact same_new np1 _ _ upd_same⟩ .nil⟩
    have W1 := W.mono (.of e1)
    refine ⟨a, _, _, rfl, W1.ob, fW_no_seen, ?_⟩
    walk_at "rd"
    refine ⟨_, wd, rfl, ⟨a, dx, f', p, r, t, rfl, W1⟩, ok, fun v H2 e2 ⟨l, hv, hl⟩ => ?_⟩
    subst hv
    refine ⟨l, rfl, ⟨_, SqL.of hl⟩, ?_⟩
    refine for_w (walk_list (xs := wd.seen.map V.str)) (fun i σ H' => ∃ v2 v3 x v5, Same H2 H' ∧ rLst rTupS H' x (statesOf (wd.seen.take i)) ∧ σ = [some (.ref a), some x, v2, v3, v5]) ⟨none, none, _, none, Same.refl _, mono r1 e2, rfl⟩ (fun i σ H' _ ⟨_, _, _, _, s, _⟩ => SqL.of (s _ _ hl)) ?_ ?_
    · rintro i x σ H3 H4 hi ⟨v2, v3, x3, v5, e3, ⟨b, zs, rfl, hb, hz⟩, rfl⟩ ⟨rfl, hx⟩
      obtain ⟨n, hn, rx⟩ := paired_get (F := rStr H4) strs_paired hx
      obtain rfl : x = .str n := rx
      have hilen : i < wd.seen.length := (List.getElem?_eq_some_iff.mp hn).1
      have hsl : wd.seen.length ≤ 3 := by
        unfold Wd.seen
        simp
        omega
      have hstl : (statesOf (wd.seen.take i)).length ≤ 8 := by
        rw [states_len, List.length_take]
        exact Nat.le_trans (Nat.pow_le_pow_right (by decide) (show min i wd.seen.length ≤ 3 by omega)) (by decide)
      have hzl := paired_len hz
      walk_at "rd"
      refine ⟨Nat.zero_le _, fun D nD => ?_⟩
      walk_at "rd"
      have nbD : b ≠ D := ne_of_none hb nD
      refine ⟨b, rfl, ⟨_, SqL.of (same_new nD _ _ hb)⟩, ?_⟩
      refine for_w (walk_list (xs := zs)) (fun j σ H' => ∃ v5 ws, Same H4 H' ∧ H' D = some (.lst ws) ∧ Paired (rTupS H') ws (((statesOf (wd.seen.take i)).take j).flatMap fun s => [s, s ++ [n]]) ∧ σ = [some (.ref a), some (.ref b), some (.str n), some (.ref D), v5]) ⟨v5, [], same_new nD, upd_same, .nil, rfl⟩ (fun j σ H' _ ⟨_, _, s, _⟩ => SqL.of (s _ _ hb)) ?_ ?_
      · rintro j x σ H5 H6 hj ⟨v5, ws, e5, hD, hw, rfl⟩ ⟨rfl, hx⟩
        obtain ⟨s, hs, rx⟩ := paired_get hz hx
        have hws := paired_len hw
        have hfl : (((statesOf (wd.seen.take i)).take j).flatMap fun s => [s, s ++ [n]]).length + 2 ≤ ((statesOf (wd.seen.take i)).flatMap fun s => [s, s ++ [n]]).length := flat_lt (f := fun s => [s, s ++ [n]]) hs
        have hf2 : ((statesOf (wd.seen.take i)).flatMap fun s => [s, s ++ [n]]).length = (statesOf (wd.seen.take i)).length * 2 := by
          generalize statesOf (wd.seen.take i) = l
          induction l with
          | nil => rfl
          | cons x t ih =>
            simp only [List.flatMap_cons, List.length_append, List.length_cons, List.length_nil, ih]
            omega
        have hsn : s.length ≤ 3 := by
          have := (states_sub (List.mem_of_getElem? hs)).length_le
          rw [List.length_take] at this
          omega
        obtain ⟨d, rfl, hd⟩ := mono rx e5
        walk_at "rd"
        refine ⟨.inl ⟨rfl, _, SqL.of hD⟩, ?_⟩
        walk_at "rd"
        refine ⟨big5 (by simp), fun p2 np2 => ?_⟩
        walk_at "rd"
        have npD2 : D ≠ p2 := ne_of_none hD np2
        have key : ∀ v H7, Same H6 H7 → rTupS H7 v (s ++ [n]) → ∀ p3, H7 p3 = none → rExtend (.ref D) [.ref p3] (upd H7 p3 (.lst [.ref d, v])) fun _ H1 => ∃ v5 ws, Same H4 H1 ∧ H1 D = some (.lst ws) ∧ Paired (rTupS H1) ws (((statesOf (wd.seen.take i)).take (j + 1)).flatMap fun s => [s, s ++ [n]]) ∧ ([some (.ref a), some (.ref b), some (.str n), some (.ref D), some (.ref d)] : L2.St) = [some (.ref a), some (.ref b), some (.str n), some (.ref D), v5] := by
          intro v H7 e7 rv p3 np3
          have hD7 := e7 _ _ hD
          have e8 : Same H7 (upd H7 p3 (.lst [.ref d, v])) := same_new np3
          have nDp : D ≠ p3 := ne_of_none hD7 np3
          refine i_extend (by rw [upd_ne nDp]; exact hD7) upd_same (by show ws.length + 2 ≤ 100000; omega) ?_
          have sb : SameBut D H6 (upd (upd H7 p3 (.lst [.ref d, v])) D (.lst (ws ++ [.ref d, v]))) := (SameBut.of (e7.trans e8)).put
          have sb7 : SameBut D H7 (upd (upd H7 p3 (.lst [.ref d, v])) D (.lst (ws ++ [.ref d, v]))) := (SameBut.of e8).put
          refine ⟨_, _, same_mut ((e5.trans e7).trans e8) nD, upd_same, ?_, rfl⟩
          rw [flat_take hs]
          refine paired_append (paired_imp (fun v s r => tupS_but r sb hD) hw) (.cons (tupS_but ⟨d, rfl, hd⟩ sb hD) (.cons (tupS_but rv sb7 hD7) .nil))
        refine ⟨d, p2, _, _, rfl, rfl, SqT.of (same_new np2 _ _ hd), SqT.of upd_same, big5 (by simp; omega), (fun z => ?_), (fun _ z => absurd z (List.cons_ne_nil _ _)), fun _ _ p3 np3 => ?_⟩
        · have : s = [] := List.map_eq_nil_iff.mp z
          subst this
          walk_at "rd"
          refine ⟨big5 (by simp), fun p4 np4 => ?_⟩
          walk_at "rd"
          exact key _ _ (same_new np2) ⟨p2, rfl, upd_same⟩ p4 np4
        · walk_at "rd"
          refine ⟨big5 (by simp), fun p4 np4 => ?_⟩
          walk_at "rd"
          refine key _ _ ((same_new np2).trans (same_new np3)) ⟨p3, rfl, ?_⟩ p4 np4
          rw [upd_same]
          simp
      · rintro σ H5 ⟨v5, ws, e5, hD, hw, rfl⟩
        walk_at "rd"
        rw [hzl, List.take_length] at hw
        refine ⟨_, _, _, _, e3.trans e5, ⟨D, ws, rfl, hD, ?_⟩, rfl⟩
        have : statesOf (wd.seen.take (i + 1)) = (statesOf (wd.seen.take i)).flatMap fun s => [s, s ++ [n]] := by
          unfold statesOf
          rw [take_more hn, List.foldl_append]
          rfl
        rw [this]
        exact hw
    · rintro σ H3 ⟨v2, v3, x3, v5, e3, h3, rfl⟩
      rw [List.length_map, List.take_length] at h3
      walk_at "rd"
      exact q _ _ ((e1.trans e2).trans e3) h3
theorem count_one {l : List Str} {n : Str} (d : l.Nodup) (h : n ∈ l) : l.count n = 1 := by
  have h1 := List.nodup_iff_count.mp d n
  have h2 := List.count_pos_iff.mpr h
  omega
theorem sub_filter {s l : List Str} (h : s.Sublist l) (d : l.Nodup) : l.filter (fun n => decide (n ∈ s)) = s := by
  induction h with
  | slnil => rfl
  | @cons s l a h ih =>
    obtain ⟨d1, d2⟩ := List.nodup_cons.mp d
    rw [List.filter_cons, if_neg (by
      simp only [decide_eq_true_eq]
      exact fun m => d1 (h.subset m))]
    exact ih d2
  | @cons_cons s l a h ih =>
    obtain ⟨d1, d2⟩ := List.nodup_cons.mp d
    rw [List.filter_cons, if_pos (by simp)]
    congr 1
    conv => rhs; rw [← ih d2]
    refine List.filter_congr fun x hx => ?_
    have : x ≠ a := fun z => d1 (z ▸ hx)
    simp [this]
theorem LsOk.seenNd {wd : Wd} (ok : LsOk wd) : wd.seen.Nodup := (List.nodup_append.mp ok.nd).1
theorem LsOk.seenLen {wd : Wd} (ok : LsOk wd) : wd.seen.length ≤ 3 := by
  have h1 := ok.nf
  have h2 := ok.np
  unfold Wd.seen
  rw [List.length_append]
  omega
theorem LsOk.cntLen {wd : Wd} (ok : LsOk wd) : wd.counters.length ≤ 2 := by
  have h1 := ok.nr
  have h2 := ok.np
  unfold Wd.counters
  rw [List.length_append]
  omega
/-- a state's names are fit -/
theorem LsOk.okS {wd : Wd} (ok : LsOk wd) {s : List Str} (h : s ∈ statesOf wd.seen) : ∀ n ∈ s, PyData.strOk n = true := fun n hn =>
  name_ok (ok.nm n (List.mem_append_left _ ((states_sub h).subset hn)))
def spStateOf (c : Cs) : Sp := fun vs H Q _ => ∃ x y wd s, vs = [x, y] ∧ rWl c H x wd ∧ LsOk wd ∧ rTupS H y s ∧ s ∈ statesOf wd.seen ∧ ∀ v H', Same H H' → rTupS H' v s → Q v H'
theorem m_World_state_of (T : Txt K mg c) : Met P w K mg base 2 c.W "state_of" (spStateOf c) [] := by
    refine met_of T.m_World_state_of sc_World_state_of (by walk_at "len") (fun f cdv A outer sh H vs Q E hr h => ?_)
    have nd := sc_World_state_of.nd
    obtain ⟨_, _, wd, s, rfl, ⟨a, dx, f', p, r, t, rfl, W⟩, ok, ⟨b, rfl, hb⟩, hs, q⟩ := h
    refine ⟨_, (pss_cons (ps_set (i := 2) nd rfl (.inl rfl) (C8.pe_mt0 (m_World_seen T) hr (by first | decide | exact Nat.le_refl _ | omega) (pv 0)))
        (pss_cons (ps_for PassesOwn.never rfl (pi_tupK K rfl (pv 1)) (pg_name (i := 3) nd rfl (.inl rfl)) (pss_one (ps_if (PW.pt (pw_or (pt_cmpR (kNotInS K rfl) (pv 3) (pv 2) (by rfl)) (pw_or1 (pt_cmpR op_gt (pe_bmK K rfl PySem.F.plainAttrs_list PySem.F.slot_list_count PySem.F.type_list_count (kCount K rfl) (pe_callTy (kList K rfl) (by rfl) T.g_list (by decide +kernel) (pa_cons (pv 1) pa_nil)) (pa_cons (pv 3) pa_nil)) pe_int (nomark _))))) (pss_one ps_never) pss_nil)))
        (pss_one (ps_ret (pe_callTy (kTup K rfl) (by rfl) T.g_tuple (by decide +kernel) (pa_cons (pe_lc (own := [("name", 3)]) (g := gName 3) rfl nd (pi_listK K rfl (pv 2)) (blkOk_by (own := [("name", 3)]) (N := N_World_state_of) (sc := fnScope s_World_state_of) (by decide +kernel)) (fun _ _ _ _ _ => (pg_name (i := 3) nd rfl (.inl rfl))) (fun _ _ _ _ _ => pts_one (pt_hide (pt_cmpR (kInS K rfl) (pv 3) (pv 1) (by rfl)))) (fun _ _ _ _ _ => pe_hide (pv 3))) pa_nil)))))), ?_⟩
    have hsub := states_sub hs
    have hnd := hsub.nodup ok.seenNd
    have hl := ok.seenLen
    have hsl := hsub.length_le
    walk_at "rd"
    refine ⟨a, _, _, rfl, W.ob, fW_no_seen, ?_⟩
    walk_at "rd"
    refine ⟨_, wd, rfl, ⟨a, dx, f', p, r, t, rfl, W⟩, ok, fun v H1 e1 ⟨l, hv, hl'⟩ => ?_⟩
    subst hv
    walk_at "rd"
    have hb1 := e1 _ _ hb
    refine ⟨b, rfl, ⟨_, SqT.of hb1⟩, ?_⟩
    refine for_w (walk_tup (xs := s.map V.str)) (fun i σ H' => ∃ v3, Same H1 H' ∧ σ = [some (.ref a), some (.ref b), some (.ref l), v3]) ⟨_, Same.refl _, rfl⟩ (fun i σ H' _ ⟨_, e, _⟩ => SqT.of (e _ _ hb1)) ?_ ?_
    · rintro i x σ H2 H3 hi ⟨v3, e2, rfl⟩ ⟨rfl, hx⟩
      obtain ⟨n, hn, rx⟩ := paired_get (F := rStr H3) strs_paired hx
      obtain rfl : x = .str n := rx
      have hm : n ∈ s := List.mem_of_getElem? hn
      walk_at "rd"
      refine i_notInT (.inr (SqL.of (e2 _ _ hl'))) ⟨_, rfl, ?_⟩
      rw [decide_eq_true (hsub.subset hm)]
      walk_at "rd"
      refine ⟨b, _, rfl, .inr (SqT.of (e2 _ _ hb1)), fun p2 np2 => ?_⟩
      walk_at "rd"
      refine ⟨.inl ⟨rfl, _, SqL.of upd_same⟩, ?_⟩
      walk_at "rd"
      refine ⟨p2, s, n, rfl, rfl, SqL.of upd_same, ?_⟩
      have hc : s.count n = 1 := count_one hnd hm
      walk_at "rd"
      refine ⟨_, _, rfl, rfl, ⟨_, rfl, ifF ?_ ?_⟩⟩
      · rw [hc]
        decide
      · walk_at "rd"
        exact ⟨_, e2.trans (same_new np2), rfl⟩
    · rintro σ H2 ⟨v3, e2, rfl⟩
      have hl2 := e2 _ _ hl'
      have hb2 := e2 _ _ hb1
      walk_at "rd"
      refine ⟨_, rfl, l, rfl, ⟨_, SqL.of hl2⟩, fun D nD => ?_⟩
      refine lc_w (walk_list (xs := wd.seen.map V.str)) rStr rStr (ys := wd.seen) (fun n => decide (n ∈ s)) id (by simp) (fun H' s => SqL.of (s _ _ hl2)) (yat_of rStr strs_paired) (by omega) nD (fun x => rfl) (fun x n G sm hx hm Q hQ => ?_) (fun x n G sm hx hm hk Q hQ => ?_) (fun H3 zs sm hz hp => ?_)
      · obtain rfl : x = .str n := hx
        walk_at "rd"
        exact i_inT (.inl (SqT.of (sm _ _ hb2))) ⟨_, rfl, hQ _ (Same.refl _)⟩
      · walk_at "rd"
        exact hQ _ _ (Same.refl _) hx
      · rw [List.map_id, sub_filter hsub ok.seenNd] at hp
        refine ⟨D, zs, rfl, .inl ⟨SqL.of hz, fun p3 np3 => ?_⟩⟩
        exact q _ _ (((e1.trans e2).trans sm).trans (same_new np3)) ⟨p3, rfl, by rw [upd_same, paired_strs hp]⟩
def fitsA (w : Wd) (s : List Str) (A : Act) : Bool := A.need.holds s && A.outs.all fun o => !w.piles.any fun p => decide (chg o p = some .take) && !decide (p ∈ s)
def spFits (c : Cs) : Sp := fun vs H Q _ => ∃ x y wd s n A, vs = [x, y, .str n] ∧ rWd c H x wd ∧ rTupS H y s ∧ gt wd.acts n = some A ∧ ∀ H', Same H H' → Q (.bl (fitsA wd s A)) H'
theorem m_World_fits (T : Txt K mg c) : Met P w K mg base 8 c.W "fits" (spFits c) [] := by
    refine met_of T.m_World_fits sc_World_fits (by walk_at "len") (fun f cdv A outer sh H vs Q E hr h => ?_)
    have nd := sc_World_fits.nd
    obtain ⟨_, _, wd, s, n, A', rfl, ⟨a, dx, f', p, r, t, rfl, W, ⟨_, kvs, ht0, ht, hk⟩, ok⟩, ⟨b, rfl, hb⟩, hA, q⟩ := h
    refine ⟨_, (pss_cons (ps_set (i := 3) nd rfl (.inl rfl) (pe_dget (by exact hu_of hr) (pe_fldK K rfl (pv 0) rfl) (pv 2) (fun _ _ => rfl)))
        (pss_cons (ps_if (pt_not (pt_val (pe_attCall T.cA T.nA_need (m_Condition_call T) T.fiC hr (by first | decide | exact Nat.le_refl _ | omega) (pv 3) (pa_cons (pv 1) pa_nil)))) (pss_one (ps_ret pe_bl)) pss_nil)
        (pss_cons (ps_for PassesOwn.never rfl (pi_range1 (by rfl) T.g_range (pa_cons (pe_callB (cr_ownLen (m_Action_len T) hr (by first | decide | exact Nat.le_refl _ | omega)) (by rfl) T.g_len PySem.boot_len (pa_cons (pv 3) pa_nil)) pa_nil)) (pg_name (i := 4) nd rfl (.inl rfl)) (pss_cons (ps_set (i := 5) nd rfl (.inr rfl) (C8.pe_mt (m_Action_outcome T) hr (by first | decide | exact Nat.le_refl _ | omega) (pv 3) (pa_cons (pv 4) pa_nil)))
        (pss_one (ps_if (pt_val (pe_callB (kAny K rfl rfl) (by rfl) T.g_any (by decide +kernel) (pa_cons (pe_lc (own := [("pile", 6)]) (g := gName 6) rfl nd (pi_listK K rfl (pe_fldK K rfl (pv 0) rfl)) (blkOk_by (own := [("pile", 6)]) (N := N_World_fits) (sc := fnScope s_World_fits) (by decide +kernel)) (fun _ _ _ _ _ => (pg_name (i := 6) nd rfl (.inl rfl))) (fun _ _ _ _ _ => pts_nil) (fun _ _ _ _ _ => pe_hide (pe_and (pe_cmpR op_eq (pe_ownIx (m_Outcome_getitem T) hr (by first | decide | exact Nat.le_refl _ | omega) T.fiO (pv 5) (pv 6)) pe_str (nomark _)) (pe_one (pe_cmpR (kNotInS K rfl) (pv 6) (pv 1) (by rfl)))))) pa_nil))) (pss_one (ps_ret pe_bl)) pss_nil))))
        (pss_one (ps_ret pe_bl))))), ?_⟩
    cases ht0
    obtain ⟨va, hva, ra⟩ := pk_some hk hA
    walk_at "rd"
    refine ⟨a, _, _, _, _, rfl, W.ob, T.cW, T.nW_table, fW_table, ?_⟩
    walk_at "rd"
    refine ⟨t, _, rfl, dgK ht hva, ?_⟩
    obtain ⟨ba, da, nb, lb, rfl, hba, hnb, hlb, _, _⟩ := id ra
    obtain ⟨bc, dbc, xc, rfl, hbc, hxc⟩ := id hnb
    walk_at "rd"
    refine ⟨_, rfl, ba, _, _, bc, rfl, hba, fA_need, ?_⟩
    walk_at "rd"
    refine ⟨⟨dbc, _, hbc⟩, _, _, A'.need, s, rfl, hnb, ⟨b, rfl, hb⟩, fun H1 e1 => ⟨_, rfl, ?_⟩⟩
    cases hnh : A'.need.holds s with
    | false =>
      have hf : fitsA wd s A' = false := by
        unfold fitsA
        rw [hnh]
        rfl
      rw [hf] at q
      walk_at "rd"
      exact q _ e1
    | true =>
      have ra1 := mono ra e1
      have hlen : A'.outs.length ≤ 2 := by
        obtain ⟨_, _, _, _, _, _, _, _, _, h⟩ := ra
        exact h
      walk_at "rd"
      refine ⟨ba, _, _, rfl, e1 _ _ hba, _, A', rfl, ra1, fun H2 e2 => ⟨_, rfl, by omega, ?_⟩⟩
      refine ⟨_, rfl, by omega, by omega, ?_⟩
      refine for_w walk_range (fun i σ H' => ∃ v4 v5 v6, Same H H' ∧ ((A'.outs.take i).all fun o => !wd.piles.any fun p => decide (chg o p = some .take) && !decide (p ∈ s)) = true ∧ σ = [some (.ref a), some (.ref b), some (.str n), some (.ref ba), v4, v5, v6]) ⟨_, _, _, e1.trans e2, rfl, rfl⟩ (fun _ _ _ _ _ => trivial) ?_ ?_
      · rintro i x σ H3 H4 hi ⟨v4, v5, v6, e3, hall, rfl⟩ ⟨rfl, hx⟩
        have hi' : i < A'.outs.length := by simpa using hi
        have hx : x = .int (i : Int) := by
          rw [hx]
          show V.int ((0 : Int) + (i : Int)) = V.int (i : Int)
          rw [Int.zero_add]
        subst hx
        have ra3 := mono ra e3
        walk_at "rd"
        refine ⟨ba, _, _, rfl, e3 _ _ hba, fA_no_outcome, ?_⟩
        walk_at "rd"
        refine ⟨_, A', i, A'.outs[i], rfl, ra3, List.getElem?_eq_getElem hi', fun v H5 e5 ro => ?_⟩
        walk_at "rd"
        have W5 := W.mono (.of (e3.trans e5))
        refine ⟨_, rfl, a, _, _, _, _, rfl, W5.ob, T.cW, T.nW_pile_names, fW_pile_names, p, rfl, ⟨_, SqL.of W5.pi⟩, fun D nD => ?_⟩
        have hp1 := ok.np
        refine lc_wm (walk_list (xs := wd.piles.map V.str)) rStr rBool (ys := wd.piles) (fun p => decide (chg A'.outs[i] p = some .take) && !decide (p ∈ s)) (by simp) (fun H' s => SqL.of (s _ _ W5.pi)) (yat_of rStr strs_paired) (by omega) nD (fun x => rfl) (fun x m G sm hx hm Q hQ => ?_) (fun H6 zs sm hz hp => ?_)
        · obtain rfl : x = .str m := hx
          have ro6 := mono ro sm
          obtain ⟨bo, dbo, xo, rfl, hbo, _⟩ := id ro6
          walk_at "rd"
          refine ⟨bo, dbo, _, rfl, hbo, _, _, m, rfl, ro6, fun H' s' => ?_⟩
          walk_at "rd"
          refine i_eq oc_scal ⟨_, rfl, ?_⟩
          rw [oc_take]
          cases hc : decide (chg A'.outs[i] m = some .take) with
          | false =>
            walk_at "rd"
            exact hQ _ _ s' (by show V.bl _ = V.bl _; rw [hc]; rfl)
          | true =>
            walk_at "rd"
            exact i_notInT (.inl (SqT.of ((((e3.trans e5).trans sm).trans s') _ _ hb))) (hQ _ _ s' (by show V.bl _ = V.bl _; rw [hc]; rfl))
        · walk_at "rd"
          refine i_any hz hp ?_
          refine ⟨_, rfl, ?_⟩
          have e6 := (e3.trans e5).trans sm
          cases hany : wd.piles.any (fun p => decide (chg A'.outs[i] p = some .take) && !decide (p ∈ s)) with
          | true =>
            have hf : fitsA wd s A' = false := by
              unfold fitsA
              rw [hnh, Bool.true_and, List.all_eq_false]
              exact ⟨_, List.getElem_mem hi', by rw [hany]; decide⟩
            rw [hf] at q
            walk_at "rd"
            exact q _ e6
          | false =>
            walk_at "rd"
            refine ⟨_, _, _, e6, ?_, rfl⟩
            rw [take_more (List.getElem?_eq_getElem hi'), List.all_append, hall, Bool.true_and, List.all_cons, List.all_nil, hany]
            rfl
      · rintro σ H3 ⟨v4, v5, v6, e3, hall, rfl⟩
        walk_at "rd"
        have hf : fitsA wd s A' = true := by
          unfold fitsA
          rw [hnh, Bool.true_and]
          rw [List.take_of_length_le (by simp)] at hall
          exact hall
        rw [hf] at q
        exact q _ e3
theorem pk_ref {c : Cs} {H : Hp} : ∀ {kvs : List (Key × V)} {l : List (Str × Act)}, PK (rAct c H) kvs l → l ≠ [] → ∃ p ∈ kvs, ∃ a, p.2 = V.ref a
  | _, _, .nil, ne => absurd rfl ne
  | _, _, .cons (a := p) ⟨_, b, _, _, _, hb, _⟩ _, _ => ⟨p, List.mem_cons_self, b, hb⟩
def rKey {α : Type} : Rep (Str × α) := fun _ v p => v = .str p.1
instance {α : Type} : Mono (rKey (α := α)) := ⟨fun _ h => h⟩
def possible (w : Wd) (s : List Str) : List (Str × Act) := w.acts.filter fun p => fitsA w s p.2
def spPossible (c : Cs) : Sp := fun vs H Q _ => ∃ x y wd s, vs = [x, y] ∧ rWo c H x wd ∧ wd.acts ≠ [] ∧ rTupS H y s ∧ s ∈ statesOf wd.seen ∧ ∀ v H', Same H H' → rLstS H' v ((possible wd s).map (·.1)) → Q v H'
theorem m_World_possible (T : Txt K mg c) : Met P w K mg base 9 c.W "possible" (spPossible c) [] := by
    refine met_of T.m_World_possible sc_World_possible (by walk_at "len") (fun f cdv A outer sh H vs Q E hr h => ?_)
    have nd := sc_World_possible.nd
    obtain ⟨_, y, wd, s, rfl, ⟨a, dx, f', p, r, t, kvs, rfl, W, ht, hk, ok⟩, hne, hy, hs, q⟩ := h
    refine ⟨_, (pss_cons (ps_set (i := 1) nd rfl (.inr rfl) (C8.pe_mt (m_World_state_of T) hr (by first | decide | exact Nat.le_refl _ | omega) (pv 0) (pa_cons (pv 1) pa_nil)))
        (pss_one (ps_ret (pe_lock (pe_lc (own := [("name", 2)]) (g := gName 2) rfl nd (pi_keys (pe_fldK K rfl (pv 0) rfl)) (blkOk_by (own := [("name", 2)]) (N := N_World_possible) (sc := fnScope s_World_possible) (by decide +kernel)) (fun _ _ _ _ _ => (pg_name (i := 2) nd rfl (.inl rfl))) (fun _ _ _ _ _ => pts_one (pt_hide (pt_val (C8.pe_mt (m_World_fits T) hr (by first | decide | exact Nat.le_refl _ | omega) (pv 0) (pa_cons (pv 1) (pa_cons (pv 2) pa_nil)))))) (fun _ _ _ _ _ => pe_hide (pv 2))))))), ?_⟩
    walk_at "rd"
    refine ⟨a, _, _, rfl, W.ob, fW_no_state_of, ?_⟩
    walk_at "rd"
    refine ⟨_, y, wd, s, rfl, ⟨a, dx, f', p, r, t, rfl, W⟩, ok.toLsOk, hy, hs, fun v H1 e1 hv => ?_⟩
    walk_at "rd"
    have ht1 := e1 _ _ ht
    refine ⟨t, _, ht1, trivial, fun od => ?_⟩
    have hex : Ex H1 (upd H1 t (.frz od (.dK kvs))) := Ex.lock ht1 (pk_ref hk hne)
    have hw1 : rWd c H1 (.ref a) wd := rWo_d (rWo_same ⟨a, dx, f', p, r, t, kvs, rfl, W, ht, hk, ok⟩ e1)
    have hwf := monoE hw1 hex
    have hvf := monoE hv hex
    generalize hHf : upd H1 t (.frz od (.dK kvs)) = Hf at hwf hvf
    have W1 := W.mono (.of e1)
    have Wf : WdAt c Hf a dx f' p r t wd := by
      rw [← hHf]
      exact W1.mono hex
    have htf : Hf t = some (.frz od (.dK kvs)) := by
      rw [← hHf]
      exact upd_same
    have hna := ok.na
    have hlk := pk_len hk
    refine ⟨_, rfl, a, _, _, _, _, rfl, Wf.ob, T.cW, T.nW_table, fW_table, t, od, rfl, .inl ⟨kvs, htf, fun D nD => ?_⟩⟩
    refine lc_w (walk_keys (kvs := kvs)) rKey rStr (ys := wd.acts) (fun p => fitsA wd s p.2) (fun p => p.1) hlk (fun H' s => s _ _ htf) (fun i H x H' hi ⟨e, k, v, hkv, hx⟩ => ?_) (by omega) nD (fun x => rfl) (fun x q' G sm hx hm Q hQ => ?_) (fun x q' G sm hx hm hkp Q hQ => ?_) (fun H2 zs sm hz hp => ?_)
    · obtain ⟨q', hq', h1, _⟩ := paired_getK hk hkv
      exact ⟨e, q', hq', by rw [hx, show k = Sum.inr q'.1 from h1]; rfl⟩
    · obtain rfl : x = .str q'.1 := hx
      walk_at "rd"
      refine ⟨a, _, _, rfl, (Wf.mono (.of sm)).ob, fW_no_fits, ?_⟩
      walk_at "rd"
      exact ⟨_, v, wd, s, q'.1, q'.2, rfl, mono hwf sm, mono hvf sm, gt_of_mem ok.nda hm, fun H' s' => ⟨_, rfl, hQ _ s'⟩⟩
    · walk_at "rd"
      exact hQ _ _ (Same.refl _) hx
    · refine ⟨sm _ _ htf, ?_⟩
      have e2 : Same H1 (upd H2 t (.dK kvs)) := same_unlock ht1 (by rw [hHf]; exact sm)
      have nDt : D ≠ t := fun z => by rw [z, htf] at nD; cases nD
      exact q _ _ (e1.trans e2) ⟨D, rfl, by rw [upd_ne nDt, hz, paired_strs hp]; rfl⟩
def spChecked (c : Cs) : Sp := fun vs H Q _ => ∃ x y wd s n A, vs = [x, y, .str n] ∧ rWd c H x wd ∧ rTupS H y s ∧ s ∈ statesOf wd.seen ∧ gt wd.acts n = some A ∧ fitsA wd s A = true ∧ ∀ v H', Same H H' → rTupS H' v s → Q v H'
theorem m_World_checked (T : Txt K mg c) : Met P w K mg base 9 c.W "checked" (spChecked c) [] := by
    refine met_of T.m_World_checked sc_World_checked (by walk_at "len") (fun f cdv A outer sh H vs Q E hr h => ?_)
    have nd := sc_World_checked.nd
    obtain ⟨_, y, wd, s, n, A', rfl, hw, hy, hs, hA, hf, q⟩ := h
    refine ⟨_, (pss_cons (ps_set (i := 1) nd rfl (.inl rfl) (C8.pe_mt (m_World_state_of T) hr (by first | decide | exact Nat.le_refl _ | omega) (pv 0) (pa_cons (pv 1) pa_nil)))
        (pss_cons (ps_if (pt_cmp (pc_dnotin (by exact hu_of hr) (pv 2) (pe_fldK K rfl (pv 0) rfl))) (pss_one ps_never) pss_nil)
        (pss_cons (ps_if (pt_not (pt_val (C8.pe_mt (m_World_fits T) hr (by first | decide | exact Nat.le_refl _ | omega) (pv 0) (pa_cons (pv 1) (pa_cons (pv 2) pa_nil))))) (pss_one ps_never) pss_nil)
        (pss_one (ps_ret (pv 1)))))), ?_⟩
    obtain ⟨a, dx, f', p, r, t, rfl, W, ⟨_, kvs, ht0, ht, hk⟩, ok⟩ := id hw
    cases ht0
    obtain ⟨va, hva, ra⟩ := pk_some hk hA
    walk_at "rd"
    refine ⟨a, _, _, rfl, W.ob, fW_no_state_of, ?_⟩
    walk_at "rd"
    refine ⟨_, y, wd, s, rfl, ⟨a, dx, f', p, r, t, rfl, W⟩, ok.toLsOk, hy, hs, fun v H1 e1 hv => ?_⟩
    have W1 := W.mono (.of e1)
    walk_at "rd"
    refine ⟨a, _, _, _, _, rfl, W1.ob, T.cW, T.nW_table, fW_table, ?_⟩
    walk_at "rd"
    refine ⟨t, some va, rfl, dgK ((Ex.of e1).rd ht) hva, ?_⟩
    walk_at "rd"
    refine ⟨_, rfl, ?_⟩
    walk_at "rd"
    refine ⟨a, _, _, rfl, W1.ob, fW_no_fits, ?_⟩
    walk_at "rd"
    refine ⟨_, v, wd, s, n, A', rfl, mono hw e1, hv, hA, fun H2 e2 => ⟨_, rfl, ?_⟩⟩
    rw [hf]
    walk_at "rd"
    exact q _ _ (e1.trans e2) (mono hv e2)
def heldA (s : List Str) (o : Chg) (gone : List Str) (n : Str) : Bool := match chg o n with
  | some .take => !decide (n ∈ gone)
  | some .add => true
  | some .yes => true
  | some _ => false
  | none => decide (n ∈ s)
def behind (w : Wd) (s : List Str) (o : Chg) (gone : List Str) : List Str := w.seen.filter (heldA s o gone)
def spBehind (c : Cs) : Sp := fun vs H Q _ => ∃ x y z u wd s o g, vs = [x, y, z, u] ∧ rWl c H x wd ∧ LsOk wd ∧ rTupS H y s ∧ rOut c H z o ∧ rTupS H u g ∧ ∀ v H', Same H H' → rTupS H' v (behind wd s o g) → Q v H'
theorem m_World_behind (T : Txt K mg c) : Met P w K mg base 3 c.W "behind" (spBehind c) [] := by
    refine met_of T.m_World_behind sc_World_behind (by walk_at "len") (fun f cdv A outer sh H vs Q E hr h => ?_)
    have nd := sc_World_behind.nd
    obtain ⟨_, _, z, _, wd, s, o, g, rfl, ⟨a, dx, f', p, r, t, rfl, W⟩, ok, ⟨b, rfl, hb⟩, hz, ⟨d, rfl, hd⟩, q⟩ := h
    refine ⟨_, (pss_cons (ps_set (i := 4) nd rfl (.inl rfl) (pe_lst pa_nil))
        (pss_cons (ps_for PassesOwn.never rfl (pi_listK K rfl (C8.pe_mt0 (m_World_seen T) hr (by first | decide | exact Nat.le_refl _ | omega) (pv 0))) (pg_name (i := 5) nd rfl (.inl rfl)) (pss_cons (ps_set (i := 6) nd rfl (.inl rfl) (pe_ownIx (m_Outcome_getitem T) hr (by first | decide | exact Nat.le_refl _ | omega) T.fiO (pv 2) (pv 5)))
        (pss_cons (ps_set (i := 7) nd rfl (.inl rfl) (pe_cmpR (kInS K rfl) (pv 5) (pv 1) (by rfl)))
        (pss_cons (ps_if (pt_cmpR op_eq (pv 6) pe_str (nomark _)) (pss_one (ps_set (i := 7) nd rfl (.inl rfl) (pe_cmpR (kNotInS K rfl) (pv 5) (pv 3) (by rfl)))) (pss_one (ps_if (pt_cmpR op_notN (pv 6) pe_non (nomark _)) (pss_one (ps_set (i := 7) nd rfl (.inl rfl) (pe_or (pe_cmpR op_isT (pv 6) pe_bl (nomark _)) (pe_one (pe_cmpR op_eq (pv 6) pe_str (nomark _)))))) pss_nil)))
        (pss_one (ps_if (pt_val (pv 7)) (pss_one (ps_expr (pe_bmK K rfl PySem.F.plainAttrs_list PySem.F.slot_list_append PySem.F.type_list_append mt_append (pv 4) (pa_cons (pv 5) pa_nil)))) pss_nil))))))
        (pss_one (ps_ret (pe_callTy (kTup K rfl) (by rfl) T.g_tuple (by decide +kernel) (pa_cons (pv 4) pa_nil)))))), ?_⟩
    have hl := ok.seenLen
    walk_at "rd"
    refine ⟨Nat.zero_le _, fun D nD => ?_⟩
    have e0 : Same H (upd H D (.lst [])) := same_new nD
    have W0 := W.mono (.of e0)
    walk_at "rd"
    refine ⟨a, _, _, rfl, W0.ob, fW_no_seen, ?_⟩
    walk_at "rd"
    refine ⟨_, wd, rfl, ⟨a, dx, f', p, r, t, rfl, W0⟩, ok, fun v H1 e1 ⟨l, hv, hl'⟩ => ?_⟩
    subst hv
    refine ⟨l, rfl, ⟨_, SqL.of hl'⟩, ?_⟩
    have nlD : l ≠ D := fun z => by
      rw [z, e1 _ _ upd_same] at hl'
      have h := HO.lst.inj (Option.some.inj hl')
      exact ok.sn (List.map_eq_nil_iff.mp h.symm)
    refine for_w (walk_list (xs := wd.seen.map V.str)) (fun i σ H' => ∃ v5 v6 v7, Same H H' ∧ H' l = some (.lst (wd.seen.map V.str)) ∧ H' D = some (.lst (((wd.seen.take i).filter (heldA s o g)).map V.str)) ∧ σ = [some (.ref a), some (.ref b), some z, some (.ref d), some (.ref D), v5, v6, v7]) ⟨_, _, _, e0.trans e1, hl', e1 _ _ upd_same, rfl⟩ (fun i σ H' _ ⟨_, _, _, _, h, _⟩ => SqL.of h) ?_ ?_
    · rintro i x σ H2 H3 hi ⟨v5, v6, v7, e2, h2, hD, rfl⟩ ⟨rfl, hx⟩
      obtain ⟨n, hn, rx⟩ := paired_get (F := rStr H3) strs_paired hx
      obtain rfl : x = .str n := rx
      have hz3 := mono hz e2
      obtain ⟨bo, dbo, xo, rfl, hbo, _⟩ := id hz3
      walk_at "rd"
      refine ⟨bo, _, _, rfl, hbo, _, o, n, rfl, hz3, fun H4 e4 => ?_⟩
      walk_at "rd"
      refine i_inT (.inl (SqT.of (e4 _ _ (e2 _ _ hb)))) ?_
      have hD4 := e4 _ _ hD
      have h4 := e4 _ _ h2
      have hlen : ((wd.seen.take i).filter (heldA s o g)).length ≤ 100 := Nat.le_trans (List.length_filter_le _ _) (by rw [List.length_take]; omega)
      have hT : heldA s o g n = true → Same H (upd H4 D (.lst (((wd.seen.take i).filter (heldA s o g)).map V.str ++ [.str n]))) ∧ upd H4 D (.lst (((wd.seen.take i).filter (heldA s o g)).map V.str ++ [.str n])) l = some (.lst (wd.seen.map V.str)) ∧ upd H4 D (.lst (((wd.seen.take i).filter (heldA s o g)).map V.str ++ [.str n])) D = some (.lst (((wd.seen.take (i + 1)).filter (heldA s o g)).map V.str)) := fun h => by
        refine ⟨same_mut (e2.trans e4) nD, by rw [upd_ne nlD]; exact h4, ?_⟩
        rw [upd_same, take_more hn, List.filter_append, filter_one, if_pos h]
        simp
      have hF : heldA s o g n = false → H4 D = some (.lst (((wd.seen.take (i + 1)).filter (heldA s o g)).map V.str)) := fun h => by
        rw [take_more hn, List.filter_append, filter_one, if_neg (by rw [h]; exact Bool.false_ne_true), List.append_nil]
        exact hD4
      have hg := e4 _ _ (e2 _ _ hd)
      walk_at "rd"
      cases hc : chg o n with
      | none =>
        have ho : ocV o n = .non := by
          unfold ocV
          rw [hc]
          rfl
        rw [ho]
        walk_at "rd"
        refine ⟨rfl, ?_⟩
        walk_at "rd"
        cases hm : decide (n ∈ s) with
        | true =>
          walk_at "rd"
          refine ⟨.inl ⟨rfl, _, SqL.of hD4⟩, ?_⟩
          walk_at "rd"
          exact i_append hD4 (by rw [List.length_map]; omega) ⟨_, _, _, (hT (by simp [heldA, hc]; simpa using hm)).1, (hT (by simp [heldA, hc]; simpa using hm)).2.1, (hT (by simp [heldA, hc]; simpa using hm)).2.2, rfl⟩
        | false =>
          walk_at "rd"
          exact ⟨_, _, _, e2.trans e4, h4, hF (by simp [heldA, hc]; simpa using hm), rfl⟩
      | some x =>
        have ho : ocV o n = x.v := by
          unfold ocV
          rw [hc]
          rfl
        rw [ho]
        cases x with
        | take =>
          walk_at "rd"
          refine i_notInT (.inl (SqT.of hg)) ?_
          walk_at "rd"
          cases hm : decide (n ∈ g) with
          | true =>
            walk_at "rd"
            exact ⟨_, _, _, e2.trans e4, h4, hF (by simp [heldA, hc]; simpa using hm), rfl⟩
          | false =>
            walk_at "rd"
            refine ⟨.inl ⟨rfl, _, SqL.of hD4⟩, ?_⟩
            walk_at "rd"
            exact i_append hD4 (by rw [List.length_map]; omega) ⟨_, _, _, (hT (by simp [heldA, hc]; simpa using hm)).1, (hT (by simp [heldA, hc]; simpa using hm)).2.1, (hT (by simp [heldA, hc]; simpa using hm)).2.2, rfl⟩
        | yes =>
          walk_at "rd"
          refine ⟨rfl, ?_⟩
          walk_at "rd"
          refine i_isYT (chV .yes) ⟨_, rfl, ifT (by decide +kernel) ?_⟩
          walk_at "rd"
          refine ⟨.inl ⟨rfl, _, SqL.of hD4⟩, ?_⟩
          walk_at "rd"
          exact i_append hD4 (by rw [List.length_map]; omega) ⟨_, _, _, (hT (by simp [heldA, hc])).1, (hT (by simp [heldA, hc])).2.1, (hT (by simp [heldA, hc])).2.2, rfl⟩
        | no =>
          walk_at "rd"
          refine ⟨rfl, ?_⟩
          walk_at "rd"
          refine i_isYT (chV .no) ⟨_, rfl, ifF (by decide +kernel) ?_⟩
          walk_at "rd"
          exact ⟨_, _, _, e2.trans e4, h4, hF (by simp [heldA, hc]), rfl⟩
        | add =>
          walk_at "rd"
          refine ⟨rfl, ?_⟩
          walk_at "rd"
          refine i_isYT (chV .add) ⟨_, rfl, ifF (by decide +kernel) ?_⟩
          walk_at "rd"
          refine ⟨.inl ⟨rfl, _, SqL.of hD4⟩, ?_⟩
          walk_at "rd"
          exact i_append hD4 (by rw [List.length_map]; omega) ⟨_, _, _, (hT (by simp [heldA, hc])).1, (hT (by simp [heldA, hc])).2.1, (hT (by simp [heldA, hc])).2.2, rfl⟩
        | empty =>
          walk_at "rd"
          refine ⟨rfl, ?_⟩
          walk_at "rd"
          refine i_isYT (chV .empty) ⟨_, rfl, ifF (by decide +kernel) ?_⟩
          walk_at "rd"
          exact ⟨_, _, _, e2.trans e4, h4, hF (by simp [heldA, hc]), rfl⟩
    · rintro σ H2 ⟨v5, v6, v7, e2, h2, hD, rfl⟩
      rw [List.length_map, List.take_length] at hD
      walk_at "rd"
      exact ⟨D, _, rfl, .inl ⟨SqL.of hD, fun p3 np3 => q _ _ (e2.trans (same_new np3)) ⟨p3, rfl, upd_same⟩⟩⟩
def results (w : Wd) (s : List Str) (A : Act) : List (Nat × List Str × List Str) := (List.range A.outs.length).flatMap fun i => (subs (w.piles.filter fun p => decide (chg (A.outs.getD i []) p = some .take))).map fun g => (i, g, behind w s (A.outs.getD i []) g)
def spResults (c : Cs) : Sp := fun vs H Q _ => ∃ x y wd s n A, vs = [x, y, .str n] ∧ rWd c H x wd ∧ rTupS H y s ∧ s ∈ statesOf wd.seen ∧ gt wd.acts n = some A ∧ fitsA wd s A = true ∧ ∀ v H', Same H H' → rLst (rTup3 rIdx rTupS rTupS) H' v (results wd s A) → Q v H'
theorem m_World_results (T : Txt K mg c) : Met P w K mg base 10 c.W "results" (spResults c) [] := by
    refine met_of T.m_World_results sc_World_results (by walk_at "len") (fun f cdv A outer sh H vs Q E hr h => ?_)
    have nd := sc_World_results.nd
    obtain ⟨_, y, wd, s, n, A', rfl, hw, hy, hs, hA, hf, q⟩ := h
    refine ⟨_, (pss_cons (ps_set (i := 1) nd rfl (.inl rfl) (C8.pe_mt (m_World_checked T) hr (by first | decide | exact Nat.le_refl _ | omega) (pv 0) (pa_cons (pv 1) (pa_cons (pv 2) pa_nil))))
        (pss_cons (ps_set (i := 3) nd rfl (.inl rfl) (pe_lst pa_nil))
        (pss_cons (ps_for PassesOwn.never rfl (pi_range1 (by rfl) T.g_range (pa_cons (pe_callB (cr_ownLen (m_Action_len T) hr (by first | decide | exact Nat.le_refl _ | omega)) (by rfl) T.g_len PySem.boot_len (pa_cons (pe_dget (by exact hu_of hr) (pe_fldK K rfl (pv 0) rfl) (pv 2) (fun _ _ => rfl)) pa_nil)) pa_nil)) (pg_name (i := 4) nd rfl (.inl rfl)) (pss_cons (ps_set (i := 5) nd rfl (.inr rfl) (C8.pe_mt (m_Action_outcome T) hr (by first | decide | exact Nat.le_refl _ | omega) (pe_dget (by exact hu_of hr) (pe_fldK K rfl (pv 0) rfl) (pv 2) (fun _ _ => rfl)) (pa_cons (pv 4) pa_nil)))
        (pss_one (ps_for PassesOwn.never rfl (pi_listK K rfl (pe_hide (C8.pe_c (c_sub_tuples T 2) hr (by first | decide | exact Nat.le_refl _ | omega) rfl (pa_cons (pe_lc (own := [("pile", 7)]) (g := gName 7) rfl nd (pi_listK K rfl (pe_fldK K rfl (pv 0) rfl)) (blkOk_by (own := [("pile", 7)]) (N := N_World_results) (sc := fnScope s_World_results) (by decide +kernel)) (fun _ _ _ _ _ => (pg_name (i := 7) nd rfl (.inl rfl))) (fun _ _ _ _ _ => pts_one (pt_hide (pt_cmpR op_eq (pe_ownIx (m_Outcome_getitem T) hr (by first | decide | exact Nat.le_refl _ | omega) T.fiO (pv 5) (pv 7)) pe_str (nomark _)))) (fun _ _ _ _ _ => pe_hide (pv 7))) pa_nil)))) (pg_name (i := 6) nd rfl (.inl rfl)) (pss_one (ps_expr (pe_bmK K rfl PySem.F.plainAttrs_list PySem.F.slot_list_append PySem.F.type_list_append mt_append (pv 3) (pa_cons (pe_tup (pa_cons (pv 4) (pa_cons (pv 6) (pa_cons (C8.pe_mt (m_World_behind T) hr (by first | decide | exact Nat.le_refl _ | omega) (pv 0) (pa_cons (pv 1) (pa_cons (pv 5) (pa_cons (pv 6) pa_nil)))) pa_nil)))) pa_nil))))))))
        (pss_one (ps_ret (pv 3)))))), ?_⟩
    obtain ⟨a, dx, f', p, r, t, rfl, W, ⟨_, kvs, ht0, ht, hk⟩, ok⟩ := id hw
    cases ht0
    obtain ⟨va, hva, ra⟩ := pk_some hk hA
    walk_at "rd"
    refine ⟨a, _, _, rfl, W.ob, fW_no_checked, ?_⟩
    walk_at "rd"
    refine ⟨_, y, wd, s, n, A', rfl, hw, hy, hs, hA, hf, fun v H1 e1 hv => ?_⟩
    walk_at "rd"
    refine ⟨Nat.zero_le _, fun D nD => ?_⟩
    walk_at "rd"
    have e2 : Same H1 (upd H1 D (.lst [])) := same_new nD
    have e12 := e1.trans e2
    have W2 := W.mono (.of e12)
    refine ⟨a, _, _, _, _, rfl, W2.ob, T.cW, T.nW_table, fW_table, ?_⟩
    walk_at "rd"
    refine ⟨t, _, rfl, dgK ((Ex.of e12).rd ht) hva, ?_⟩
    obtain ⟨ba, da, nb, lb, rfl, hba, _, _, _, hlen⟩ := id ra
    walk_at "rd"
    refine ⟨ba, _, _, rfl, e12 _ _ hba, _, A', rfl, mono ra e12, fun H3 e3 => ⟨_, rfl, by omega, ?_⟩⟩
    refine ⟨_, rfl, by omega, by omega, ?_⟩
    have e13 := e1.trans (e2.trans e3)
    generalize hres : (fun i => (subs (wd.piles.filter fun p => decide (chg (A'.outs.getD i []) p = some .take))).map fun g => (i, g, behind wd s (A'.outs.getD i []) g)) = res
    have hres' : results wd s A' = (List.range A'.outs.length).flatMap res := by
      rw [← hres]
      rfl
    have hreslen : ∀ i, (res i).length ≤ 3 := fun i => by
      rw [← hres]
      show ((subs _).map _).length ≤ 3
      rw [List.length_map]
      have h1 := subs_len (wd.piles.filter fun p => decide (chg (A'.outs.getD i []) p = some .take))
      have h2 := List.length_filter_le (fun p => decide (chg (A'.outs.getD i []) p = some .take)) wd.piles
      have h3 := ok.np
      have h4 : 2 ^ ((wd.piles.filter fun p => decide (chg (A'.outs.getD i []) p = some .take)).length + 1) ≤ 2 ^ 2 := Nat.pow_le_pow_right (by decide) (by omega)
      omega
    have hpre : ∀ i, i ≤ A'.outs.length → (((List.range A'.outs.length).take i).flatMap res).length ≤ 3 * i := by
      intro i
      induction i with
      | zero => intro _; simp
      | succ i ih =>
        intro hi
        have hi' : i < A'.outs.length := hi
        rw [flat_take (show (List.range A'.outs.length)[i]? = some i by simp [hi']), List.length_append]
        have := ih (by omega)
        have := hreslen i
        omega
    refine for_w walk_range (fun i σ H' => ∃ v4 v5 v6 v7 ws, Same H1 H' ∧ H' D = some (.lst ws) ∧ Paired (rTup3 rIdx rTupS rTupS H') ws (((List.range A'.outs.length).take i).flatMap res) ∧ σ = [some (.ref a), some v, some (.str n), some (.ref D), v4, v5, v6, v7]) ⟨_, _, _, _, [], e2.trans e3, e3 _ _ upd_same, .nil, rfl⟩ (fun _ _ _ _ _ => trivial) ?_ ?_
    · rintro i x σ H4 H5 hi ⟨v4, v5, v6, v7, ws, e4, hD, hw4, rfl⟩ ⟨rfl, hx⟩
      have hi' : i < A'.outs.length := by simpa using hi
      have hx : x = .int (i : Int) := by
        rw [hx]
        show V.int ((0 : Int) + (i : Int)) = V.int (i : Int)
        rw [Int.zero_add]
      subst hx
      have e14 := e1.trans e4
      have W4 := W.mono (.of e14)
      walk_at "rd"
      refine ⟨a, _, _, _, _, rfl, W4.ob, T.cW, T.nW_table, fW_table, ?_⟩
      walk_at "rd"
      refine ⟨t, _, rfl, dgK ((Ex.of e14).rd ht) hva, ?_⟩
      refine ⟨ba, _, _, rfl, e14 _ _ hba, fA_no_outcome, ?_⟩
      walk_at "rd"
      refine ⟨_, A', i, A'.outs[i], rfl, mono ra e14, List.getElem?_eq_getElem hi', fun vo H6 e6 ro => ?_⟩
      walk_at "rd"
      have hD6 := e6 _ _ hD
      have hw6 := paired_mono e6 hw4
      have e16 := e4.trans e6
      have g6 : Same H1 (off H6 D) := fun b x h => by
        rw [off_ne (ne_of_none h nD)]
        exact e16 _ _ h
      have ro' : rOut c (off H6 D) vo A'.outs[i] := rOut_off ro hD6
      refine ⟨off H6 D, D, .lst ws, off_self hD6, off_at, trivial, ?_⟩
      have W6 := W.mono (.of (e1.trans g6))
      have np := ok.np
      walk_at "rd"
      refine ⟨_, rfl, a, _, _, _, _, rfl, W6.ob, T.cW, T.nW_pile_names, fW_pile_names, p, rfl, ⟨_, SqL.of W6.pi⟩, fun D2 nD2 => ?_⟩
      refine lc_w (walk_list (xs := wd.piles.map V.str)) rStr rStr (ys := wd.piles) (fun p => decide (chg A'.outs[i] p = some .take)) id (by simp) (fun H' s => SqL.of (s _ _ W6.pi)) (yat_of rStr strs_paired) (by omega) nD2 (fun x => rfl) (fun x m G sm hx hm Q hQ => ?_) (fun x m G sm hx hm hk Q hQ => ?_) (fun H7 zs sm hz hp => ?_)
      · obtain rfl : x = .str m := hx
        have ro7 := mono ro' sm
        obtain ⟨bo, dbo, xo, rfl, hbo, _⟩ := id ro7
        walk_at "rd"
        refine ⟨bo, dbo, _, rfl, hbo, _, _, m, rfl, ro7, fun H' s' => ?_⟩
        walk_at "rd"
        refine i_eq oc_scal ⟨_, rfl, ?_⟩
        rw [oc_take]
        exact hQ _ s'
      · walk_at "rd"
        exact hQ _ _ (Same.refl _) hx
      · rw [List.map_id] at hp
        walk_at "rd"
        have hfl := List.length_filter_le (fun p => decide (chg A'.outs[i] p = some .take)) wd.piles
        refine ⟨_, wd.piles.filter fun p => decide (chg A'.outs[i] p = some .take), rfl, ⟨D2, rfl, by rw [hz, paired_strs hp]⟩, fun m hm => name_ok (ok.nm m ?_), by omega, by omega, fun v8 H8 e8 ⟨q8, gs, hv8, hq8, hg8⟩ => ⟨trivial, fun nD8 => ?_⟩⟩
        · have := (List.mem_filter.mp hm).1
          simp [this]
        subst hv8
        have nqD : q8 ≠ D := ne_of_none hq8 nD8
        have e18 : Same H1 H8 := (g6.trans sm).trans e8
        have hw8 : Paired (rTup3 rIdx rTupS rTupS (upd H8 D (.lst ws))) ws (((List.range A'.outs.length).take i).flatMap res) :=
          paired_mono ((sm.trans e8).trans (same_new nD8)) (paired_but off_same hD6 hw6)
        have hg9 := paired_mono (same_new (o := .lst ws) nD8) hg8
        have ro9 := mono ro' ((sm.trans e8).trans (same_new (o := .lst ws) nD8))
        have e19 : Same H1 (upd H8 D (.lst ws)) := e18.trans (same_new nD8)
        have hq9 : upd H8 D (.lst ws) q8 = some (.lst gs) := by
          rw [upd_ne nqD]
          exact hq8
        have hD9 : upd H8 D (.lst ws) D = some (.lst ws) := upd_same
        generalize upd H8 D (.lst ws) = H9 at hw8 hg9 ro9 e19 hq9 hD9
        have hsl := subs_len (wd.piles.filter fun p => decide (chg A'.outs[i] p = some .take))
        have h4 : 2 ^ ((wd.piles.filter fun p => decide (chg A'.outs[i] p = some .take)).length + 1) ≤ 2 ^ 2 := Nat.pow_le_pow_right (by decide) (by omega)
        have hgl := paired_len hg9
        have hresi : res i = (subs (wd.piles.filter fun p => decide (chg A'.outs[i] p = some .take))).map fun g => (i, g, behind wd s A'.outs[i] g) := by
          rw [← hres]
          simp only [List.getD_eq_getElem?_getD, List.getElem?_eq_getElem hi', Option.getD_some]
        have hpi := hpre i (by omega)
        have hwl := paired_len hw8
        refine ⟨q8, rfl, ⟨gs, SqL.of hq9⟩, ?_⟩
        generalize hS : subs (wd.piles.filter fun p => decide (chg A'.outs[i] p = some .take)) = S at hg9 hresi hsl hgl
        refine for_w (walk_list (xs := gs)) (fun j σ H' => ∃ v6 ws', Same H1 H' ∧ H' q8 = some (.lst gs) ∧ Paired (rTupS H') gs S ∧ rOut c H' vo A'.outs[i] ∧ H' D = some (.lst ws') ∧ Paired (rTup3 rIdx rTupS rTupS H') ws' (((List.range A'.outs.length).take i).flatMap res ++ (S.take j).map fun g => (i, g, behind wd s A'.outs[i] g)) ∧ σ = [some (.ref a), some v, some (.str n), some (.ref D), some (.int (i : Int)), some vo, v6, v7])
          ⟨_, ws, e19, hq9, hg9, ro9, hD9, by simpa using hw8, rfl⟩ (fun j σ H' _ ⟨_, _, _, h, _⟩ => SqL.of h) ?_ ?_
        · rintro j x σ H10 H11 hj ⟨v6, ws', e10, hq10, hg10, ro10, hD10, hw10, rfl⟩ ⟨rfl, hx⟩
          obtain ⟨g, hg, rx⟩ := paired_get hg10 hx
          have hjl : j < S.length := (List.getElem?_eq_some_iff.mp hg).1
          have W10 := W.mono (.of (e1.trans e10))
          have hwl := paired_len hw10
          rw [List.length_append, List.length_map, List.length_take] at hwl
          walk_at "rd"
          refine ⟨.inl ⟨rfl, _, SqL.of hD10⟩, ?_⟩
          walk_at "rd"
          refine ⟨a, _, _, rfl, W10.ob, fW_no_behind, ?_⟩
          walk_at "rd"
          refine ⟨_, v, vo, x, wd, s, A'.outs[i], g, rfl, ⟨a, dx, f', p, r, t, rfl, W10⟩, ok.toLsOk, mono hv e10, ro10, rx, fun vb H12 e12 rb => ?_⟩
          walk_at "rd"
          refine ⟨big5 (by simp), fun pt npt => ?_⟩
          walk_at "rd"
          have e13' : Same H11 (upd H12 pt (.tup [.int (i : Int), x, vb])) := e12.trans (same_new npt)
          have hDpt : D ≠ pt := ne_of_none (e12 _ _ hD10) npt
          have rt : rTup3 rIdx rTupS rTupS (upd H12 pt (.tup [.int (i : Int), x, vb])) (.ref pt) (i, g, behind wd s A'.outs[i] g) := ⟨pt, _, _, _, rfl, upd_same, rfl, mono rx e13', mono rb (same_new npt)⟩
          have hD13 := e13' _ _ hD10
          have hq13 := e13' _ _ hq10
          have hg13 := paired_mono e13' hg10
          have ro13 := mono ro10 e13'
          have hw13 := paired_mono e13' hw10
          have e1_13 := e10.trans e13'
          generalize upd H12 pt (.tup [.int (i : Int), x, vb]) = H13 at rt hD13 hq13 hg13 ro13 hw13 e1_13
          refine i_append hD13 (by omega) ?_
          have sb : SameBut D H13 (upd H13 D (.lst (ws' ++ [.ref pt]))) := (SameBut.of (Same.refl _)).put
          refine ⟨_, ws' ++ [.ref pt], same_mut e1_13 nD, by rw [upd_ne nqD]; exact hq13, paired_but sb hD13 hg13, TupR.but ro13 sb hD13, upd_same, ?_, rfl⟩
          rw [take_more hg, List.map_append, ← List.append_assoc]
          exact paired_snoc (paired_but sb hD13 hw13) (TupR.but rt sb hD13)
        · rintro σ H10 ⟨v6, ws', e10, hq10, hg10, ro10, hD10, hw10, rfl⟩
          refine ⟨_, _, _, _, ws', e10, hD10, ?_, rfl⟩
          rw [flat_take (show (List.range A'.outs.length)[i]? = some i by simp [hi']), hresi]
          rw [hgl, List.take_length] at hw10
          exact hw10
    · rintro σ H4 ⟨v4, v5, v6, v7, ws, e4, hD, hw4, rfl⟩
      walk_at "rd"
      have : ((List.range A'.outs.length).take (((A'.outs.length : Nat) : Int) - 0).toNat) = List.range A'.outs.length := List.take_of_length_le (by simp)
      exact q _ _ (e1.trans e4) ⟨D, ws, rfl, hD, by rw [hres']; rw [List.take_of_length_le (by simp)] at hw4; exact hw4⟩
def shT (w : Wd) (s : List Str) (o : Chg) : List Str := w.counters.filter fun n => decide (chg o n = some .take) || (decide (chg o n = some .empty) && decide (n ∈ s))
def shA (w : Wd) (o : Chg) : List Str := w.counters.filter fun n => decide (chg o n = some .add)
theorem oc_add {o : Chg} {n : Str} : decide (ocV o n = .str "add") = decide (chg o n = some .add) := by
  unfold ocV
  rcases chg o n with _ | x
  · rfl
  · cases x <;> decide +kernel
theorem oc_empty {o : Chg} {n : Str} : decide (ocV o n = .str "empty") = decide (chg o n = some .empty) := by
  unfold ocV
  rcases chg o n with _ | x
  · rfl
  · cases x <;> decide +kernel
def spShifts (c : Cs) : Sp := fun vs H Q _ => ∃ x y wd s n A i o, vs = [x, y, .str n, .int ((i : Nat) : Int)] ∧ rWd c H x wd ∧ rTupS H y s ∧ s ∈ statesOf wd.seen ∧ gt wd.acts n = some A ∧ fitsA wd s A = true ∧ A.outs[i]? = some o ∧ ∀ v H', Same H H' → rTup2 rTupS rTupS H' v (shT wd s o, shA wd o) → Q v H'
theorem m_World_shifts (T : Txt K mg c) : Met P w K mg base 10 c.W "shifts" (spShifts c) [] := by
    refine met_of T.m_World_shifts sc_World_shifts (by walk_at "len") (fun f cdv A outer sh H vs Q E hr h => ?_)
    have nd := sc_World_shifts.nd
    obtain ⟨_, y, wd, s, n, A', i, o, rfl, hw, hy, hs, hA, hf, ho, q⟩ := h
    refine ⟨_, (pss_cons (ps_set (i := 1) nd rfl (.inl rfl) (C8.pe_mt (m_World_checked T) hr (by first | decide | exact Nat.le_refl _ | omega) (pv 0) (pa_cons (pv 1) (pa_cons (pv 2) pa_nil))))
        (pss_cons (ps_if (pt_not (pt_chain op_le op_lt pe_int (pv 3) (pe_callB (cr_ownLen (m_Action_len T) hr (by first | decide | exact Nat.le_refl _ | omega)) (by rfl) T.g_len PySem.boot_len (pa_cons (pe_dget (by exact hu_of hr) (pe_fldK K rfl (pv 0) rfl) (pv 2) (fun _ _ => rfl)) pa_nil)))) (pss_one ps_never) pss_nil)
        (pss_cons (ps_set (i := 4) nd rfl (.inr rfl) (C8.pe_mt (m_Action_outcome T) hr (by first | decide | exact Nat.le_refl _ | omega) (pe_dget (by exact hu_of hr) (pe_fldK K rfl (pv 0) rfl) (pv 2) (fun _ _ => rfl)) (pa_cons (pv 3) pa_nil)))
        (pss_cons (ps_set (i := 5) nd rfl (.inl rfl) (pe_lst pa_nil))
        (pss_cons (ps_for PassesOwn.never rfl (pi_listK K rfl (C8.pe_mt0 (m_World_counters T) hr (by first | decide | exact Nat.le_refl _ | omega) (pv 0))) (pg_name (i := 6) nd rfl (.inl rfl)) (pss_one (ps_if (PW.pt (pw_or (pt_cmpR op_eq (pe_ownIx (m_Outcome_getitem T) hr (by first | decide | exact Nat.le_refl _ | omega) T.fiO (pv 4) (pv 6)) pe_str (nomark _)) (pw_or1 (PW.pt (pw_and (pt_cmpR op_eq (pe_ownIx (m_Outcome_getitem T) hr (by first | decide | exact Nat.le_refl _ | omega) T.fiO (pv 4) (pv 6)) pe_str (nomark _)) (pw_and1 (pt_cmpR (kInS K rfl) (pv 6) (pv 1) (by rfl)))))))) (pss_one (ps_expr (pe_bmK K rfl PySem.F.plainAttrs_list PySem.F.slot_list_append PySem.F.type_list_append mt_append (pv 5) (pa_cons (pv 6) pa_nil)))) pss_nil)))
        (pss_one (ps_ret (pe_tup (pa_cons (pe_callTy (kTup K rfl) (by rfl) T.g_tuple (by decide +kernel) (pa_cons (pv 5) pa_nil)) (pa_cons (pe_callTy (kTup K rfl) (by rfl) T.g_tuple (by decide +kernel) (pa_cons (pe_lc (own := [("name", 6)]) (g := gName 6) rfl nd (pi_listK K rfl (C8.pe_mt0 (m_World_counters T) hr (by first | decide | exact Nat.le_refl _ | omega) (pv 0))) (blkOk_by (own := [("name", 6)]) (N := N_World_shifts) (sc := fnScope s_World_shifts) (by decide +kernel)) (fun _ _ _ _ _ => (pg_name (i := 6) nd rfl (.inl rfl))) (fun _ _ _ _ _ => pts_one (pt_hide (pt_cmpR op_eq (pe_ownIx (m_Outcome_getitem T) hr (by first | decide | exact Nat.le_refl _ | omega) T.fiO (pv 4) (pv 6)) pe_str (nomark _)))) (fun _ _ _ _ _ => pe_hide (pv 6))) pa_nil)) pa_nil)))))))))), ?_⟩
    obtain ⟨a, dx, f', p, r, t, rfl, W, ⟨_, kvs, ht0, ht, hk⟩, ok⟩ := id hw
    cases ht0
    obtain ⟨va, hva, ra⟩ := pk_some hk hA
    have hil : i < A'.outs.length := (List.getElem?_eq_some_iff.mp ho).1
    have hcl := ok.cntLen
    walk_at "rd"
    refine ⟨a, _, _, rfl, W.ob, fW_no_checked, ?_⟩
    walk_at "rd"
    refine ⟨_, y, wd, s, n, A', rfl, hw, hy, hs, hA, hf, fun v H1 e1 hv => ?_⟩
    obtain ⟨vb, rfl, hvb⟩ := id hv
    have W1 := W.mono (.of e1)
    walk_at "rd"
    refine ⟨_, rfl, 0, _, rfl, rfl, _, rfl, ifT (decide_eq_true (by omega)) ?_⟩
    walk_at "rd"
    refine ⟨a, _, _, _, _, rfl, W1.ob, T.cW, T.nW_table, fW_table, ?_⟩
    walk_at "rd"
    refine ⟨t, _, rfl, dgK ((Ex.of e1).rd ht) hva, ?_⟩
    obtain ⟨ba, da, nb, lb, rfl, hba, _, _, _, hlen⟩ := id ra
    walk_at "rd"
    refine ⟨ba, _, _, rfl, e1 _ _ hba, _, A', rfl, mono ra e1, fun H2 e2 => ⟨_, rfl, by omega, ?_⟩⟩
    walk_at "rd"
    refine ⟨_, _, rfl, rfl, _, rfl, ?_⟩
    rw [show decide (((i : Nat) : Int) < (A'.outs.length : Int)) = true from decide_eq_true (by omega)]
    have e12 := e1.trans e2
    have W2 := W.mono (.of e12)
    walk_at "rd"
    refine ⟨a, _, _, _, _, rfl, W2.ob, T.cW, T.nW_table, fW_table, ?_⟩
    walk_at "rd"
    refine ⟨t, _, rfl, dgK ((Ex.of e12).rd ht) hva, ?_⟩
    refine ⟨ba, _, _, rfl, e12 _ _ hba, fA_no_outcome, ?_⟩
    walk_at "rd"
    refine ⟨_, A', i, o, rfl, mono ra e12, ho, fun vo H3 e3 ro => ?_⟩
    walk_at "rd"
    refine ⟨Nat.zero_le _, fun D nD => ?_⟩
    have e4 : Same H3 (upd H3 D (.lst [])) := same_new nD
    have e14 := (e12.trans e3).trans e4
    have W4 := W.mono (.of e14)
    walk_at "rd"
    refine ⟨a, _, _, rfl, W4.ob, fW_no_counters, ?_⟩
    walk_at "rd"
    refine ⟨_, wd, rfl, ⟨a, dx, f', p, r, t, rfl, W4⟩, ok.toLsOk, fun v5 H5 e5 ⟨l, hv5, hl⟩ => ?_⟩
    subst hv5
    have hD5 := e5 _ _ (show upd H3 D (.lst []) D = some (.lst []) from upd_same)
    have nlD : l ≠ D := fun z => by
      rw [z, hD5] at hl
      have h := HO.lst.inj (Option.some.inj hl)
      exact ok.cn (List.map_eq_nil_iff.mp h.symm)
    have ro5 := mono ro (e4.trans e5)
    have hv5 := mono hv ((e2.trans e3).trans (e4.trans e5))
    generalize hkp : (fun n => decide (chg o n = some .take) || (decide (chg o n = some .empty) && decide (n ∈ s))) = keep
    refine ⟨l, rfl, ⟨_, SqL.of hl⟩, ?_⟩
    refine for_w (walk_list (xs := wd.counters.map V.str)) (fun j σ H' => ∃ v6, Same H3 H' ∧ H' l = some (.lst (wd.counters.map V.str)) ∧ rOut c H' vo o ∧ rTupS H' (.ref vb) s ∧ H' D = some (.lst (((wd.counters.take j).filter keep).map V.str)) ∧ σ = [some (.ref a), some (.ref vb), some (.str n), some (.int (i : Int)), some vo, some (.ref D), v6])
      ⟨_, e4.trans e5, hl, ro5, hv5, hD5, rfl⟩ (fun i σ H' _ ⟨_, _, h, _⟩ => SqL.of h) ?_ ?_
    · rintro j x σ H6 H7 hj ⟨v6, e6, hl6, ro6, hv6, hD6, rfl⟩ ⟨rfl, hx⟩
      obtain ⟨m, hm, rx⟩ := paired_get (F := rStr H7) strs_paired hx
      obtain rfl : x = .str m := rx
      obtain ⟨bo, dbo, xo, rfl, hbo, _⟩ := id ro6
      have fin : ∀ H8, Same H7 H8 → ∀ b, b = keep m → ∀ (rt : VK) (bk ct N : L2.St → Hp → Prop), (∀ H' v6, Same H3 H' → H' l = some (.lst (wd.counters.map V.str)) → rOut c H' (.ref bo) o → rTupS H' (.ref vb) s → H' D = some (.lst (((wd.counters.take (j + 1)).filter keep).map V.str)) → N [some (.ref a), some (.ref vb), some (.str n), some (.int (i : Int)), some (.ref bo), some (.ref D), v6] H') →
          if b = true then tDrop (tBM K "list" rAppend (tVar 5) (tCons (tVar 6) tNil)) ⟨N, rt, bk, ct⟩ [some (.ref a), some (.ref vb), some (.str n), some (.int (i : Int)), some (.ref bo), some (.ref D), some (.str m)] H8 else tNext ⟨N, rt, bk, ct⟩ [some (.ref a), some (.ref vb), some (.str n), some (.int (i : Int)), some (.ref bo), some (.ref D), some (.str m)] H8 := by
        intro H8 e8 b hb rt bk ct N hN
        have hD8 := e8 _ _ hD6
        have e38 := e6.trans e8
        rw [take_more hm, List.filter_append, filter_one, ← hb] at hN
        cases b with
        | true =>
          rw [if_pos rfl] at hN
          walk_at "rd"
          refine ⟨.inl ⟨rfl, _, SqL.of hD8⟩, ?_⟩
          walk_at "rd"
          have hlf : ((wd.counters.take j).filter keep).length ≤ 100 := Nat.le_trans (List.length_filter_le _ _) (by rw [List.length_take]; omega)
          have sb : SameBut D H8 (upd H8 D (.lst (((wd.counters.take j).filter keep).map V.str ++ [.str m]))) := (SameBut.of (Same.refl _)).put
          refine i_append hD8 (by rw [List.length_map]; omega) (hN _ _ (same_mut e38 nD) (by rw [upd_ne nlD]; exact e8 _ _ hl6) (TupR.but (mono ro6 e8) sb hD8) (TupR.but (mono hv6 e8) sb hD8) ?_)
          rw [upd_same]
          simp
        | false =>
          rw [if_neg Bool.false_ne_true, List.append_nil] at hN
          walk_at "rd"
          exact hN _ _ e38 (e8 _ _ hl6) (mono ro6 e8) (mono hv6 e8) hD8
      walk_at "rd"
      refine ⟨bo, _, _, rfl, hbo, _, o, m, rfl, ro6, fun H8 e8 => ?_⟩
      walk_at "rd"
      refine i_eq oc_scal ⟨_, rfl, ?_⟩
      rw [oc_take]
      cases hc : decide (chg o m = some .take) with
      | true =>
        refine i_if1 (fin H8 e8 true (by rw [← hkp]; simp [hc]) _ _ _ _ ?_)
        intro H' v6 q1 q2 q3 q4 q5
        exact ⟨_, q1, q2, q3, q4, q5, rfl⟩
      | false =>
        walk_at "rd"
        refine ⟨bo, _, _, rfl, e8 _ _ hbo, _, o, m, rfl, mono ro6 e8, fun H9 e9 => ?_⟩
        walk_at "rd"
        refine i_eq oc_scal ⟨_, rfl, ?_⟩
        rw [oc_empty]
        have e89 := e8.trans e9
        cases he : decide (chg o m = some .empty) with
        | true =>
          walk_at "rd"
          obtain ⟨_, hq, hvb6⟩ := hv6
          cases hq
          refine i_inT (.inl (SqT.of (e89 _ _ hvb6))) ⟨_, rfl, ?_⟩
          refine fin H9 e89 (decide (m ∈ s)) (by rw [← hkp]; simp [hc, he]) _ _ _ _ ?_
          intro H' v6 q1 q2 q3 q4 q5
          exact ⟨_, q1, q2, q3, q4, q5, rfl⟩
        | false =>
          refine i_if0 ?_
          refine fin H9 e89 false (by rw [← hkp]; simp [hc, he]) _ _ _ _ ?_
          intro H' v6 q1 q2 q3 q4 q5
          exact ⟨_, q1, q2, q3, q4, q5, rfl⟩
    · rintro σ H6 ⟨v6, e6, hl6, ro6, hv6, hD6, rfl⟩
      rw [List.length_map, List.take_length] at hD6
      have hkT : wd.counters.filter keep = shT wd s o := by
        rw [← hkp]
        rfl
      rw [hkT] at hD6
      walk_at "rd"
      refine ⟨D, _, rfl, .inl ⟨SqL.of hD6, fun p1 np1 => ?_⟩⟩
      have e7 : Same H6 (upd H6 p1 (.tup ((shT wd s o).map V.str))) := same_new np1
      have rT : rTupS (upd H6 p1 (.tup ((shT wd s o).map V.str))) (.ref p1) (shT wd s o) := ⟨p1, rfl, upd_same⟩
      generalize upd H6 p1 (.tup ((shT wd s o).map V.str)) = H7 at e7 rT
      have e17 := ((e12.trans e3).trans e6).trans e7
      have W7 := W.mono (.of e17)
      have ro7 := mono ro6 e7
      walk_at "rd"
      refine ⟨_, rfl, a, _, _, rfl, W7.ob, fW_no_counters, _, wd, rfl, ⟨a, dx, f', p, r, t, rfl, W7⟩, ok.toLsOk, fun v8 H8 e8 ⟨l2, hv8, hl2⟩ => ?_⟩
      subst hv8
      refine ⟨l2, rfl, ⟨_, SqL.of hl2⟩, fun D2 nD2 => ?_⟩
      refine lc_w (walk_list (xs := wd.counters.map V.str)) rStr rStr (ys := wd.counters) (fun n => decide (chg o n = some .add)) id (by simp) (fun H' s => SqL.of (s _ _ hl2)) (yat_of rStr strs_paired) (by omega) nD2 (fun x => rfl) (fun x m G sm hx hm Q hQ => ?_) (fun x m G sm hx hm hk Q hQ => ?_) (fun H9 zs sm hz hp => ?_)
      · obtain rfl : x = .str m := hx
        have ro9 := mono ro7 (e8.trans sm)
        obtain ⟨bo, dbo, xo, rfl, hbo, _⟩ := id ro9
        walk_at "rd"
        refine ⟨bo, dbo, _, rfl, hbo, _, o, m, rfl, ro9, fun H' s' => ?_⟩
        walk_at "rd"
        refine i_eq oc_scal ⟨_, rfl, ?_⟩
        rw [oc_add]
        exact hQ _ s'
      · walk_at "rd"
        exact hQ _ _ (Same.refl _) hx
      · rw [List.map_id] at hp
        walk_at "rd"
        refine ⟨D2, zs, rfl, .inl ⟨SqL.of hz, fun p2 np2 => ?_⟩⟩
        walk_at "rd"
        refine ⟨big5 (by simp), fun p3 np3 => ?_⟩
        have e78 := (e8.trans sm).trans (same_new (o := .tup zs) np2)
        refine q _ _ ((e17.trans e78).trans (same_new np3)) ⟨p3, _, _, rfl, upd_same, mono rT (e78.trans (same_new np3)), ⟨p2, rfl, ?_⟩⟩
        rw [same_new np3 _ _ upd_same, paired_strs hp]
        rfl
/-! ### tasks -/
theorem rCond_but {c : Cs} {a C dx : Addr} {fs : List (Str × V)} {H H' : Hp} {v : V} {t : Tree} (h : rCond c H v t) (e : SameBut a H H') (ha : H a = some (.ins C dx fs)) (hf : fs.lookup ("tree" : Str) = none) : rCond c H' v t := by
  obtain ⟨b, db, x, rfl, hb, ht, hd⟩ := h
  have n1 : b ≠ a := fun z => by
    rw [z, ha] at hb
    cases hb
    rw [fC_tree] at hf
    cases hf
  refine ⟨b, db, x, rfl, e _ _ n1 hb, ?_, hd⟩
  have key : ∀ (t : Tree) (x : V), rTree H x t → rTree H' x t := by
    have tp : ∀ p xs, H p = some (.tup xs) → H' p = some (.tup xs) := fun p xs h => e _ _ (fun z => by rw [z, ha] at h; cases h) h
    intro t
    induction t with
    | is s =>
      rintro _ ⟨p, rfl, h⟩
      exact ⟨p, rfl, tp _ _ h⟩
    | not t ih =>
      rintro _ ⟨p, y, rfl, h, h2⟩
      exact ⟨p, y, rfl, tp _ _ h, ih _ h2⟩
    | and t u ih1 ih2 =>
      rintro _ ⟨p, y, z, rfl, h, h2, h3⟩
      exact ⟨p, y, z, rfl, tp _ _ h, ih1 _ h2, ih2 _ h3⟩
    | or t u ih1 ih2 =>
      rintro _ ⟨p, y, z, rfl, h, h2, h3⟩
      exact ⟨p, y, z, rfl, tp _ _ h, ih1 _ h2, ih2 _ h3⟩
    | always =>
      rintro _ ⟨p, rfl, h⟩
      exact ⟨p, rfl, tp _ _ h⟩
    | never =>
      rintro _ ⟨p, rfl, h⟩
      exact ⟨p, rfl, tp _ _ h⟩
  exact key t x ht
theorem rAct_but {c : Cs} {a C dx : Addr} {fs : List (Str × V)} {H H' : Hp} {v : V} {A : Act} (h : rAct c H v A) (e : SameBut a H H') (ha : H a = some (.ins C dx fs)) (hf : fs.lookup ("tree" : Str) = none) (h2 : fs.lookup ("table" : Str) = none) (h3 : fs.lookup ("need" : Str) = none) : rAct c H' v A := by
  obtain ⟨b, db, n, p, rfl, hb, hn, ⟨l, vs, rfl, hl, hp⟩, h5⟩ := h
  have n1 : b ≠ a := fun z => by
    rw [z, ha] at hb
    cases hb
    rw [fA_need] at h3
    cases h3
  exact ⟨b, db, n, _, rfl, e _ _ n1 hb, rCond_but hn e ha hf, ⟨l, vs, rfl, e _ _ (fun z => by rw [z, ha] at hl; cases hl) hl, paired_imp (fun _ _ r => rOut_but r e ha h2) hp⟩, h5⟩
theorem rWo_but {c : Cs} {a C dx : Addr} {fs : List (Str × V)} {H H' : Hp} {v : V} {wd : Wd} (h : rWo c H v wd) (e : SameBut a H H') (ha : H a = some (.ins C dx fs)) (hf : fs.lookup ("tree" : Str) = none) (h2 : fs.lookup ("table" : Str) = none) (h3 : fs.lookup ("need" : Str) = none) : rWo c H' v wd := by
  obtain ⟨b, db, f, p, r, t, kvs, rfl, W, ht, hk, ok⟩ := h
  have n1 : b ≠ a := fun z => by
    have hb := W.ob
    rw [z, ha] at hb
    cases hb
    rw [fW_table] at h2
    cases h2
  have nn : ∀ b o, H b = some o → (∀ C dx fs, o ≠ .ins C dx fs) → H' b = some o := fun b o h no => e _ _ (fun z => by
    rw [z, ha] at h
    exact no _ _ _ (Option.some.inj h).symm) h
  exact ⟨b, db, f, p, r, t, kvs, rfl, ⟨e _ _ n1 W.ob, nn _ _ W.fa (fun _ _ _ z => by cases z), nn _ _ W.pi (fun _ _ _ z => by cases z), nn _ _ W.re (fun _ _ _ z => by cases z)⟩, nn _ _ ht (fun _ _ _ z => by cases z), Paired.mapP hk fun _ _ z => ⟨z.1, rAct_but z.2 e ha hf h2 h3⟩, ok⟩
def spCheckCond (c : Cs) : Sp := fun vs H Q _ => ∃ x y wd t, vs = [x, y] ∧ rWl c H x wd ∧ LsOk wd ∧ rCond c H y t ∧ (∀ n ∈ t.names, n ∈ wd.seen) ∧ ∀ H', Same H H' → Q .non H'
theorem c_check_condition (T : Txt K mg c) : Cal P w K mg base 6 "check_condition" (spCheckCond c) [] := by
    refine cal_of T.d_check_condition sc_check_condition (by walk_at "len") (fun f cdv A outer sh H vs Q E hr h => ?_)
    have nd := sc_check_condition.nd
    obtain ⟨_, y, wd, t, rfl, ⟨a, dx, f', p, r, tt, rfl, W⟩, ok, hy, hn, q⟩ := h
    refine ⟨_, (pss_one (ps_for PassesOwn.never rfl (pi_listK K rfl (C8.pe_mt0 (m_Condition_names T) hr (by first | decide | exact Nat.le_refl _ | omega) (pv 1))) (pg_name (i := 2) nd rfl (.inl rfl)) (pss_one (ps_if (pt_cmpR (kNotInS K rfl) (pv 2) (C8.pe_mt0 (m_World_seen T) hr (by first | decide | exact Nat.le_refl _ | omega) (pv 0)) (by rfl)) (pss_one ps_never) pss_nil)))), ?_⟩
    obtain ⟨bc, dbc, xc, rfl, hbc, ht, hd⟩ := id hy
    have hfew := names_few hd
    walk_at "rd"
    refine ⟨bc, _, _, rfl, hbc, fC_no_names, ?_⟩
    walk_at "rd"
    refine ⟨_, t, rfl, hy, by omega, fun v H1 ms e1 ⟨l, hv, hl⟩ hms hml => ?_⟩
    subst hv
    refine ⟨l, rfl, ⟨_, SqL.of hl⟩, ?_⟩
    refine for_w (walk_list (xs := ms.map V.str)) (fun j σ H' => ∃ v2, Same H1 H' ∧ σ = [some (.ref a), some (.ref bc), v2]) ⟨_, Same.refl _, rfl⟩ (fun i σ H' _ ⟨_, h, _⟩ => SqL.of (h _ _ hl)) ?_ ?_
    · rintro j x σ H2 H3 hj ⟨v2, e2, rfl⟩ ⟨rfl, hx⟩
      obtain ⟨m, hm, rx⟩ := paired_get (F := rStr H3) strs_paired hx
      obtain rfl : x = .str m := rx
      have W2 := W.mono (.of (e1.trans e2))
      walk_at "rd"
      refine ⟨a, _, _, rfl, W2.ob, fW_no_seen, ?_⟩
      walk_at "rd"
      refine ⟨_, wd, rfl, ⟨a, dx, f', p, r, tt, rfl, W2⟩, ok, fun v H4 e4 ⟨l4, hv, hl4⟩ => ?_⟩
      subst hv
      refine i_notInT (.inr (SqL.of hl4)) ⟨_, rfl, ?_⟩
      rw [decide_eq_true (hn m (hms m (List.mem_of_getElem? hm)))]
      walk_at "rd"
      exact ⟨_, e2.trans e4, rfl⟩
    · rintro σ H2 ⟨v2, e2, rfl⟩
      exact q _ (e1.trans e2)
def rTk2 (c : Cs) : Rep Tk := fun H v k => ∃ a dx i b g, v = .ref a ∧ H a = some (.ins c.T dx (fT i b g)) ∧ rWo c H i k.wd ∧ k.wd.acts ≠ [] ∧ rCond c H b k.start ∧ rCond c H g k.goal
theorem rTk2_same {c : Cs} {H H' : Hp} {v : V} {k : Tk} (h : rTk2 c H v k) (e : Same H H') : rTk2 c H' v k := by
  obtain ⟨a, dx, i, b, g, rfl, ha, hi, hne, hb, hg⟩ := h
  exact ⟨a, dx, i, b, g, rfl, e _ _ ha, rWo_same hi e, hne, mono hb e, mono hg e⟩
def spTInit (c : Cs) : Sp := fun vs H Q _ => ∃ a dx x y z wd st gl G, vs = [.ref a, x, y, z] ∧ Same G H ∧ G a = none ∧ H a = some (.ins c.T dx []) ∧ rWo c G x wd ∧ wd.acts ≠ [] ∧ rCond c G y st ∧ rCond c G z gl ∧ (∀ n ∈ st.names, n ∈ wd.seen) ∧ (∀ n ∈ gl.names, n ∈ wd.seen) ∧
  ∀ H2 i, Same G H2 → H2 a = some (.ins c.T dx (fT i y z)) → rWo c H2 i wd → Q .non H2
theorem k_Task (T : Txt K mg c) : Mak P w K mg base 7 "Task" c.T (spTInit c) [] := by
    refine mak_of T.m_Task_init sc_Task_init (by walk_at "len") (fun f cdv A outer sh H vs Q E hr h => ?_)
    have nd := sc_Task_init.nd
    obtain ⟨a, dx, x, y, z, wd, st, gl, G, rfl, e, na, ha, hx, hne, hy, hz, hs, hg, q⟩ := h
    refine ⟨_, (pss_cons (ps_fldK K rfl (pv 0) (C8.pe_mt0 (m_World_copy T) hr (by first | decide | exact Nat.le_refl _ | omega) (pv 1)) rfl)
        (pss_cons (ps_expr (C8.pe_c (c_check_condition T) hr (by first | decide | exact Nat.le_refl _ | omega) rfl (pa_cons (pe_fldK K rfl (pv 0) rfl) (pa_cons (pv 2) pa_nil))))
        (pss_cons (ps_expr (C8.pe_c (c_check_condition T) hr (by first | decide | exact Nat.le_refl _ | omega) rfl (pa_cons (pe_fldK K rfl (pv 0) rfl) (pa_cons (pv 3) pa_nil))))
        (pss_cons (ps_fldK K rfl (pv 0) (pv 2) rfl)
        (pss_one (ps_fldK K rfl (pv 0) (pv 3) rfl)))))), ?_⟩
    obtain ⟨aw, dw, f', p, r, t, kvs, rfl, W, _⟩ := id (rWo_same hx e)
    walk_at "rd"
    refine ⟨aw, _, _, rfl, W.ob, fW_no_copy, ?_⟩
    walk_at "rd"
    refine ⟨_, wd, rfl, rWo_same hx e, hne, fun v H1 e1 hv => ?_⟩
    walk_at "rd"
    have g1 := e.trans e1
    have a1 := e1 _ _ ha
    refine ⟨a, _, _, _, rfl, a1, T.cT, T.nT_inner, by decide, ?_⟩
    rw [fT_put0]
    have v2 : rWo c (upd H1 a (.ins c.T dx [(("inner" : Str), v)])) v wd := rWo_but hv (SameBut.of (Same.refl _)).put a1 rfl rfl rfl
    have g2 : Same G (upd H1 a (.ins c.T dx [(("inner" : Str), v)])) := same_mut g1 na
    have a2 : upd H1 a (.ins c.T dx [(("inner" : Str), v)]) a = some (.ins c.T dx [(("inner" : Str), v)]) := upd_same
    generalize upd H1 a (.ins c.T dx [(("inner" : Str), v)]) = H2 at v2 g2 a2
    obtain ⟨ai, di, fi, pi, ri, ti, kvi, rfl, Wi, hti, hki, oki⟩ := id v2
    walk_at "rd"
    refine ⟨a, _, _, _, _, rfl, a2, T.cT, T.nT_inner, lk_here, ?_⟩
    walk_at "rd"
    refine ⟨_, y, wd, st, rfl, ⟨ai, di, fi, pi, ri, ti, rfl, Wi⟩, oki.toLsOk, mono hy g2, hs, fun H3 e3 => ?_⟩
    walk_at "rd"
    refine ⟨a, _, _, _, _, rfl, e3 _ _ a2, T.cT, T.nT_inner, lk_here, ?_⟩
    walk_at "rd"
    refine ⟨_, z, wd, gl, rfl, ⟨ai, di, fi, pi, ri, ti, rfl, Wi.mono (.of e3)⟩, oki.toLsOk, mono hz (g2.trans e3), hg, fun H4 e4 => ?_⟩
    have e24 := e3.trans e4
    walk_at "rd"
    refine ⟨a, _, _, _, rfl, e24 _ _ a2, T.cT, T.nT_begin, by simp, ?_⟩
    rw [fT_put1]
    walk_at "rd"
    refine ⟨a, _, _, _, rfl, upd_same, T.cT, T.nT_aimed, by simp, ?_⟩
    rw [fT_put2, upd_upd]
    refine q _ (.ref ai) (same_mut (g2.trans e24) na) upd_same ?_
    have lkn : ∀ f : Str, ("inner" : Str) ≠ f → List.lookup f [(("inner" : Str), V.ref ai)] = none := fun f h => (lk_past (beq_eq_false_iff_ne.mpr (Ne.symm h))).trans rfl
    exact rWo_but (rWo_same v2 e24) (SameBut.of (Same.refl _)).put (e24 _ _ a2) (lkn _ (by decide +kernel)) (lkn _ (by decide +kernel)) (lkn _ (by decide +kernel))
theorem i_mkT {H : Hp} {x y z : V} {wd : Wd} {st gl : Tree} {E : XK} {Q : VK} (hx : rWo c H x wd) (hne : wd.acts ≠ []) (hy : rCond c H y st) (hz : rCond c H z gl) (hs : ∀ n ∈ st.names, n ∈ wd.seen) (hg : ∀ n ∈ gl.names, n ∈ wd.seen) (q : ∀ v H', Same H H' → rTk2 c H' v ⟨wd, st, gl⟩ → Q v H') (a dx : Addr) (nx : H a = none) (nd : H dx = none) (ne : dx ≠ a) :
    spTInit c (.ref a :: ([x, y, z] ++ [])) (upd (upd H dx (.own a)) a (.ins c.T dx [])) (fun v H2 => v = .non ∧ Q (.ref a) H2) E :=
  ⟨a, dx, x, y, z, wd, st, gl, H, rfl, same_made nx nd (Same.refl _), nx, upd_same, hx, hne, hy, hz, hs, hg, fun H2 i e h1 h2 => ⟨rfl, q _ _ e ⟨a, dx, i, y, z, rfl, h1, h2, hne, mono hy e, mono hz e⟩⟩⟩
def spTBase (c : Cs) : Sp := fun vs H Q _ => ∃ x k, vs = [x] ∧ rTk2 c H x k ∧ ∀ v H', Same H H' → rWo c H' v k.wd → Q v H'
theorem m_Task_base (T : Txt K mg c) : Met P w K mg base 7 c.T "base" (spTBase c) [] := by
    refine met_of T.m_Task_base sc_Task_base (by walk_at "len") (fun f cdv A outer sh H vs Q E hr h => ?_)
    have nd := sc_Task_base.nd
    obtain ⟨_, k, rfl, ⟨a, dx, i, b, g, rfl, ha, hi, hne, hb, hg⟩, q⟩ := h
    refine ⟨_, (pss_one (ps_ret (C8.pe_mt0 (m_World_copy T) hr (by first | decide | exact Nat.le_refl _ | omega) (pe_fldK K rfl (pv 0) rfl)))), ?_⟩
    walk_at "rd"
    refine ⟨a, _, _, _, _, rfl, ha, T.cT, T.nT_inner, fT_inner, ?_⟩
    obtain ⟨ai, di, fi, pi, ri, ti, kvi, rfl, Wi, _⟩ := id hi
    refine ⟨ai, _, _, rfl, Wi.ob, fW_no_copy, ?_⟩
    walk_at "rd"
    exact ⟨_, k.wd, rfl, hi, hne, q⟩
def goals (k : Tk) : List (List Str) := (statesOf k.wd.seen).filter fun s => k.goal.holds s
def spTGoals (c : Cs) : Sp := fun vs H Q _ => ∃ x k, vs = [x] ∧ rTk2 c H x k ∧ ∀ v H', Same H H' → rLst rTupS H' v (goals k) → Q v H'
theorem m_Task_goals (T : Txt K mg c) : Met P w K mg base 6 c.T "goals" (spTGoals c) [] := by
    refine met_of T.m_Task_goals sc_Task_goals (by walk_at "len") (fun f cdv A outer sh H vs Q E hr h => ?_)
    have nd := sc_Task_goals.nd
    obtain ⟨_, k, rfl, ⟨a, dx, i, b, g, rfl, ha, hi, hne, hb, hg⟩, q⟩ := h
    refine ⟨_, (pss_one (ps_ret (pe_lc (own := [("state", 1)]) (g := gName 1) rfl nd (pi_listK K rfl (C8.pe_mt0 (m_World_states T) hr (by first | decide | exact Nat.le_refl _ | omega) (pe_fldK K rfl (pv 0) rfl))) (blkOk_by (own := [("state", 1)]) (N := N_Task_goals) (sc := fnScope s_Task_goals) (by decide +kernel)) (fun _ _ _ _ _ => (pg_name (i := 1) nd rfl (.inl rfl))) (fun _ _ _ _ _ => pts_one (pt_hide (pt_val (pe_attCall T.cT T.nT_aimed (m_Condition_call T) T.fiC hr (by first | decide | exact Nat.le_refl _ | omega) (pv 0) (pa_cons (pv 1) pa_nil))))) (fun _ _ _ _ _ => pe_hide (pv 1))))), ?_⟩
    walk_at "rd"
    obtain ⟨ai, di, fi, pi, ri, ti, kvi, rfl, Wi, hti, hki, oki⟩ := id hi
    refine ⟨_, rfl, a, _, _, _, _, rfl, ha, T.cT, T.nT_inner, fT_inner, ai, _, _, rfl, Wi.ob, fW_no_states, _, k.wd, rfl, ⟨ai, di, fi, pi, ri, ti, rfl, Wi⟩, oki.toLsOk, fun v1 H1 e1 ⟨l, vs, hv, hl, hp⟩ => ?_⟩
    subst hv
    have hsl := states_len k.wd.seen
    have hsn := oki.toLsOk.seenLen
    have hpw : 2 ^ k.wd.seen.length ≤ 2 ^ 3 := Nat.pow_le_pow_right (by decide) hsn
    obtain ⟨bg, dbg, xg, rfl, hbg, _⟩ := id hg
    refine ⟨l, rfl, ⟨_, SqL.of hl⟩, fun D nD => ?_⟩
    refine lc_w (walk_list (xs := vs)) rTupS rTupS (ys := statesOf k.wd.seen) (fun s => k.goal.holds s) id (paired_len hp) (fun H' s => SqL.of (s _ _ hl)) (yat_of rTupS hp) (by omega) nD (fun x => rfl) (fun x s G sm hx hm Q hQ => ?_) (fun x s G sm hx hm hk Q hQ => ?_) (fun H2 zs sm hz hp2 => ?_)
    · walk_at "rd"
      refine ⟨_, rfl, a, _, _, bg, rfl, (e1.trans sm) _ _ ha, fT_aimed, ?_⟩
      walk_at "rd"
      exact ⟨⟨dbg, _, (e1.trans sm) _ _ hbg⟩, _, x, k.goal, s, rfl, mono hg (e1.trans sm), hx, fun H' s' => ⟨_, rfl, hQ _ s'⟩⟩
    · walk_at "rd"
      exact hQ _ _ (Same.refl _) hx
    · rw [List.map_id] at hp2
      exact q _ _ (e1.trans sm) ⟨D, zs, rfl, hz, hp2⟩
/-! ### the game -/
structure Edge where
  tgt : Option (List Str)
  taken : List Str
  added : List Str
def rEdge : Rep Edge := fun H v x => ∃ a t k d i g, v = .ref a ∧ H a = some (.tup [t, k, d, i, g]) ∧ rOpt rTupS H t x.tgt ∧ rTupS H k x.taken ∧ rTupS H d x.added
instance : Mono rEdge := ⟨fun e ⟨a, t, k, d, i, g, h1, h2, h3, h4, h5⟩ => ⟨a, t, k, d, i, g, h1, e.o h2, monoE (R := rOpt rTupS) h3 e, monoE h4 e, monoE h5 e⟩⟩
def edgeOf (w : Wd) (R : List (List Str)) (s : List Str) (A : Act) (q : Nat × List Str × List Str) : Edge := ⟨if q.2.2 ∈ R then none else some q.2.2, shT w s (A.outs.getD q.1 []), shA w (A.outs.getD q.1 [])⟩
def edgesFor (w : Wd) (R : List (List Str)) (s : List Str) (A : Act) : List Edge := (results w s A).map (edgeOf w R s A)
theorem upd_swap {H : Hp} {a b : Addr} {x y z : HO} (h : a ≠ b) : upd (upd (upd H a x) b y) a z = upd (upd H a z) b y := by
  funext c
  by_cases h1 : c = a
  · subst h1
    rw [upd_same, upd_ne h, upd_same]
  · by_cases h2 : c = b
    · subst h2
      rw [upd_ne h1, upd_same, upd_same]
    · rw [upd_ne h1, upd_ne h2, upd_ne h1, upd_ne h2, upd_ne h1]
theorem upd_swap' {H : Hp} {a b : Addr} {x y : HO} (h : a ≠ b) : upd (upd H b y) a x = upd (upd H a x) b y := by
  funext c
  by_cases h1 : c = a
  · subst h1
    rw [upd_same, upd_ne h, upd_same]
  · by_cases h2 : c = b
    · subst h2
      rw [upd_ne h1, upd_same, upd_same]
    · rw [upd_ne h1, upd_ne h2, upd_ne h2, upd_ne h1]
theorem behind_sub {w : Wd} {s : List Str} {o : Chg} {g : List Str} : ∀ n ∈ behind w s o g, n ∈ w.seen := fun n h => (List.mem_filter.mp h).1
theorem results_mem {w : Wd} {s : List Str} {A : Act} {q : Nat × List Str × List Str} (h : q ∈ results w s A) : ∃ hi : q.1 < A.outs.length, q.2.2 = behind w s A.outs[q.1] q.2.1 ∧ q.2.1 ∈ subs (w.piles.filter fun p => decide (chg A.outs[q.1] p = some .take)) := by
  obtain ⟨i, hi, h⟩ := List.mem_flatMap.mp h
  have hi' : i < A.outs.length := List.mem_range.mp hi
  obtain ⟨g, hg, rfl⟩ := List.mem_map.mp h
  have e : A.outs.getD i [] = A.outs[i] := by simp [List.getD_eq_getElem?_getD, hi']
  rw [e] at hg
  exact ⟨hi', by rw [e], hg⟩
theorem results_len {w : Wd} {s : List Str} {A : Act} (hp : w.piles.length ≤ 1) (ho : A.outs.length ≤ 2) : (results w s A).length ≤ 6 := by
  have h1 : ∀ i, ((subs (w.piles.filter fun p => decide (chg (A.outs.getD i []) p = some .take))).map fun g => (i, g, behind w s (A.outs.getD i []) g)).length ≤ 3 := fun i => by
    rw [List.length_map]
    have h1 := subs_len (w.piles.filter fun p => decide (chg (A.outs.getD i []) p = some .take))
    have h2 := List.length_filter_le (fun p => decide (chg (A.outs.getD i []) p = some .take)) w.piles
    have h4 : 2 ^ ((w.piles.filter fun p => decide (chg (A.outs.getD i []) p = some .take)).length + 1) ≤ 2 ^ 2 := Nat.pow_le_pow_right (by decide) (by omega)
    omega
  unfold results
  have key : ∀ l : List Nat, (l.flatMap fun i => (subs (w.piles.filter fun p => decide (chg (A.outs.getD i []) p = some .take))).map fun g => (i, g, behind w s (A.outs.getD i []) g)).length ≤ 3 * l.length := by
    intro l
    induction l with
    | nil => simp
    | cons x r ih =>
      rw [List.flatMap_cons, List.length_append, List.length_cons]
      have := h1 x
      omega
  have := key (List.range A.outs.length)
  rw [List.length_range] at this
  omega
def spAdded (c : Cs) : Sp := fun vs H Q _ => ∃ a dx o t e ch xw xr xs n A wd R s ws es G, vs = [.ref a, xw, xr, xs, .str n] ∧ H = upd G e (.lst ws) ∧ G e = none ∧ G a = some (.ins c.G dx (fG o t (.ref e) ch)) ∧ rWo c G xw wd ∧ rLst rTupS G xr R ∧ (∀ u ∈ R, ∀ n ∈ u, PyData.strOk n = true) ∧ rTupS G xs s ∧ s ∈ statesOf wd.seen ∧ gt wd.acts n = some A ∧ fitsA wd s A = true ∧ Paired (rEdge G) ws es ∧ es.length ≤ 1000 ∧
  ∀ v G2 ws2, Same G G2 → G2 e = none → Paired (rEdge G2) ws2 (es ++ edgesFor wd R s A) → rLst rIdx G2 v (List.range' es.length (edgesFor wd R s A).length) → Q v (upd G2 e (.lst ws2))
theorem m_Game_added_edges (T : Txt K mg c) : Met P w K mg base 11 c.G "added_edges" (spAdded c) [] := by
    refine met_of T.m_Game_added_edges sc_Game_added_edges (by walk_at "len") (fun f cdv A outer sh H vs Q E hr h => ?_)
    have nd := sc_Game_added_edges.nd
    obtain ⟨a, dx, o, t, e, ch, xw, xr, xs, n, A', wd, R, s, ws, es, G, rfl, rfl, ne, ha, hw, hR, hRo, hxs, hs, hA, hf, hes, hel, q⟩ := h
    refine ⟨_, (pss_cons (ps_set (i := 5) nd rfl (.inl rfl) (pe_lst pa_nil))
        (pss_cons (ps_for PassesOwn.never rfl (pi_listK K rfl (pe_hide (pe_hide (C8.pe_mt (m_World_results T) hr (by first | decide | exact Nat.le_refl _ | omega) (pv 1) (pa_cons (pv 3) (pa_cons (pv 4) pa_nil)))))) (pg_tupK K rfl rfl (pgs_cons (pg_name (i := 6) nd rfl (.inl rfl)) (pgs_cons (pg_name (i := 7) nd rfl (.inl rfl)) (pgs_cons (pg_name (i := 8) nd rfl (.inl rfl)) pgs_nil)))) (pss_cons (ps_asg (pe_hide (pe_hide (C8.pe_mt (m_World_shifts T) hr (by first | decide | exact Nat.le_refl _ | omega) (pv 1) (pa_cons (pv 3) (pa_cons (pv 4) (pa_cons (pv 6) pa_nil)))))) (pg_tupK K rfl rfl (pgs_cons (pg_name (i := 9) nd rfl (.inl rfl)) (pgs_cons (pg_name (i := 10) nd rfl (.inl rfl)) pgs_nil))))
        (pss_cons (ps_expr (pe_bmK K rfl PySem.F.plainAttrs_list PySem.F.slot_list_append PySem.F.type_list_append mt_append (pv 5) (pa_cons (pe_callB (kLen K rfl) (by rfl) T.g_len PySem.boot_len (pa_cons (pe_fldK K rfl (pv 0) rfl) pa_nil)) pa_nil)))
        (pss_one (ps_expr (pe_bmK K rfl PySem.F.plainAttrs_list PySem.F.slot_list_append PySem.F.type_list_append mt_append (pe_fldK K rfl (pv 0) rfl) (pa_cons (pe_hide (pe_hide (pe_tup (pa_cons (pe_ifExp (pt_cmpR (kInD K rfl (by exact hu65 hr)) (pv 8) (pv 2) (by rfl)) pe_non (pv 8)) (pa_cons (pv 9) (pa_cons (pv 10) (pa_cons (pv 6) (pa_cons (pv 7) pa_nil)))))))) pa_nil)))))))
        (pss_one (ps_ret (pv 5))))), ?_⟩
    obtain ⟨aw, dw, fw, pw, rw', tw, kvs, rfl, W, hti, hki, ok⟩ := id hw
    walk_at "rd"
    refine ⟨Nat.zero_le _, fun D nD => ?_⟩
    obtain ⟨nDG, nDe⟩ := none_of_upd nD
    walk_at "rd"
    refine ⟨upd G e (.lst ws), D, .lst [], rfl, nD, trivial, G, e, .lst ws, rfl, ne, trivial, ?_⟩
    walk_at "rd"
    refine ⟨aw, _, _, rfl, W.ob, fW_no_results, ?_⟩
    walk_at "rd"
    refine ⟨_, xs, wd, s, n, A', rfl, rWo_d hw, hxs, hs, hA, hf, fun v G2 e2 ⟨q2, rs, hv, hq2, hrs⟩ => ⟨trivial, fun ne2 => ⟨trivial, fun nD2 => ?_⟩⟩⟩
    subst hv
    obtain ⟨nD2, _⟩ := none_of_upd nD2
    have neD : e ≠ D := Ne.symm nDe
    have hrl : (results wd s A').length ≤ 6 := results_len ok.np (by
      obtain ⟨va, hva, ra⟩ := pk_some hki hA
      obtain ⟨_, _, _, _, _, _, _, _, _, h⟩ := ra
      exact h)
    have nqe : q2 ≠ e := ne_of_none hq2 ne2
    have nqD : q2 ≠ D := ne_of_none hq2 nD2
    refine ⟨q2, rfl, ⟨rs, SqL.of (by rw [upd_ne nqD, upd_ne nqe]; exact hq2)⟩, ?_⟩
    refine for_w (walk_list (xs := rs)) (fun j σ H' => ∃ G' ws' v6 v7 v8 v9 v10, H' = upd (upd G' e (.lst ws')) D (.lst ((List.range' es.length j).map fun k => V.int ((k : Nat) : Int))) ∧ Same G2 G' ∧ G' e = none ∧ G' D = none ∧ Paired (rEdge G') ws' (es ++ ((results wd s A').take j).map (edgeOf wd R s A')) ∧ σ = [some (.ref a), some (.ref aw), some xr, some xs, some (.str n), some (.ref D), v6, v7, v8, v9, v10]) ?_ ?_ ?_ ?_
    · exact ⟨G2, ws, _, _, _, _, _, rfl, Same.refl _, ne2, nD2, by simpa using paired_mono e2 hes, rfl⟩
    · rintro j σ H' _ ⟨G', ws', _, _, _, _, _, rfl, e', ne', nD', _⟩
      exact SqL.of (by rw [upd_ne nqD, upd_ne nqe]; exact e' _ _ hq2)
    · rintro j x σ H3 H4 hj ⟨G', ws', v6, v7, v8, v9, v10, hH4, e', ne', nD', hw', rfl⟩ ⟨rfl, hx⟩
      subst hH4
      obtain ⟨⟨i, g, bh⟩, hq, ⟨px, vi, vg, vb, rfl, hpx, ri, rg, rb⟩⟩ := paired_get hrs hx
      obtain ⟨hi', hbh, hgs⟩ := results_mem (List.mem_of_getElem? hq)
      have hi' : i < A'.outs.length := hi'
      have hbh : bh = behind wd s A'.outs[i] g := hbh
      obtain rfl : vi = .int (i : Int) := ri
      have hjl : j < (results wd s A').length := (List.getElem?_eq_some_iff.mp hq).1
      have hpx' := e' _ _ hpx
      have npe : px ≠ e := ne_of_none hpx' ne'
      have npD : px ≠ D := ne_of_none hpx' nD'
      have e12 := e2.trans e'
      have W' := W.mono (.of e12)
      have hwl := paired_len hw'
      rw [List.length_append, List.length_map, List.length_take] at hwl
      refine ⟨px, _, rfl, SqT.of (by rw [upd_ne npD, upd_ne npe]; exact hpx'), rfl, _, _, rfl, _, _, rfl, _, _, rfl, rfl, ?_⟩
      walk_at "rd"
      refine ⟨upd G' e (.lst ws'), D, _, rfl, by rw [upd_ne (Ne.symm neD)]; exact nD', trivial, G', e, .lst ws', rfl, ne', trivial, ?_⟩
      walk_at "rd"
      refine ⟨aw, _, _, rfl, W'.ob, fW_no_shifts, ?_⟩
      walk_at "rd"
      refine ⟨_, xs, wd, s, n, A', i, A'.outs[i], rfl, rWo_d (rWo_same hw e12), mono hxs e12, hs, hA, hf, List.getElem?_eq_getElem hi', fun v5 G5 e5 ⟨p5, vt, vd, hv5, hp5, rt, rd⟩ => ⟨trivial, fun ne5 => ⟨trivial, fun nD5 => ?_⟩⟩⟩
      subst hv5
      obtain ⟨nD5, _⟩ := none_of_upd nD5
      have n5e : p5 ≠ e := ne_of_none hp5 ne5
      have n5D : p5 ≠ D := ne_of_none hp5 nD5
      refine ⟨p5, _, rfl, SqT.of (by rw [upd_ne n5D, upd_ne n5e]; exact hp5), rfl, _, _, rfl, _, _, rfl, rfl, ?_⟩
      have ha5 := (e12.trans e5) _ _ ha
      have nae : a ≠ e := ne_of_none ha ne
      have naD : a ≠ D := ne_of_none ha nDG
      walk_at "rd"
      refine ⟨.inl ⟨rfl, _, SqL.of upd_same⟩, ?_⟩
      walk_at "rd"
      refine ⟨a, _, _, _, _, rfl, by rw [upd_ne naD, upd_ne nae]; exact ha5, T.cG, T.nG_edges, fG_edges, ?_⟩
      walk_at "rd"
      refine ⟨e, ws', rfl, .inl (SqL.of (by rw [upd_ne neD]; exact upd_same)), ?_⟩
      walk_at "rd"
      refine i_append upd_same (by simp; omega) ?_
      rw [upd_upd]
      walk_at "rd"
      refine ⟨a, _, _, _, _, rfl, by rw [upd_ne naD, upd_ne nae]; exact ha5, T.cG, T.nG_edges, fG_edges, ?_⟩
      refine ⟨.inl ⟨rfl, _, SqL.of (by rw [upd_ne neD]; exact upd_same)⟩, ?_⟩
      walk_at "rd"
      refine ⟨upd G5 e (.lst ws'), D, _, rfl, by rw [upd_ne (Ne.symm neD)]; exact nD5, trivial, G5, e, .lst ws', rfl, ne5, trivial, ?_⟩
      walk_at "rd"
      have e25 := e'.trans e5
      have e05 := e12.trans e5
      have hbok : ∀ m ∈ bh, PyData.strOk m = true := fun m hm => by
        rw [hbh] at hm
        exact name_ok (ok.nm m (List.mem_append_left _ (behind_sub m hm)))
      have rb5 : rTupS G5 vb bh := mono rb e25
      refine i_inL rb5 (mono hR e05) hbok hRo ⟨_, rfl, ?_⟩
      have fin : ∀ vtg, rOpt rTupS G5 vtg (if bh ∈ R then none else some bh) → ∀ pt, G5 pt = none → upd G5 pt (.tup [vtg, vt, vd, .int (i : Int), vg]) e = none → upd G5 pt (.tup [vtg, vt, vd, .int (i : Int), vg]) D = none →
          ∃ G' ws'', upd (upd (upd (upd G5 pt (.tup [vtg, vt, vd, .int (i : Int), vg])) e (.lst ws')) D (.lst (((List.range' es.length j).map fun k => V.int ((k : Nat) : Int)) ++ [.int ((ws'.length : Nat) : Int)]))) e (.lst (ws' ++ [.ref pt])) = upd (upd G' e (.lst ws'')) D (.lst ((List.range' es.length (j + 1)).map fun k => V.int ((k : Nat) : Int))) ∧ Same G2 G' ∧ G' e = none ∧ G' D = none ∧ Paired (rEdge G') ws'' (es ++ ((results wd s A').take (j + 1)).map (edgeOf wd R s A')) := by
        intro vtg hvt pt npt ne6 nD6
        have e6 : Same G5 (upd G5 pt (.tup [vtg, vt, vd, .int (i : Int), vg])) := same_new npt
        refine ⟨upd G5 pt (.tup [vtg, vt, vd, .int (i : Int), vg]), ws' ++ [.ref pt], ?_, e25.trans e6, ne6, nD6, ?_⟩
        · rw [upd_swap neD, List.range'_1_concat, List.map_append, hwl, Nat.min_eq_left (by omega)]
          rfl
        · rw [take_more hq, List.map_append, ← List.append_assoc]
          refine paired_snoc (paired_mono (e5.trans e6) hw') ⟨pt, _, _, _, _, _, rfl, upd_same, ?_, ?_, ?_⟩
          · exact mono (R := rOpt rTupS) hvt e6
          · show rTupS _ vt (shT wd s (A'.outs.getD i []))
            rw [show A'.outs.getD i [] = A'.outs[i] by simp [List.getD_eq_getElem?_getD, hi']]
            exact mono rt e6
          · show rTupS _ vd (shA wd (A'.outs.getD i []))
            rw [show A'.outs.getD i [] = A'.outs[i] by simp [List.getD_eq_getElem?_getD, hi']]
            exact mono rd e6
      by_cases hbR : bh ∈ R
      · refine ifT (decide_eq_true hbR) ?_
        walk_at "rd"
        refine ⟨big5 (by simp), fun pt npt => ⟨trivial, fun ne6 => ⟨trivial, fun nD6 => ?_⟩⟩⟩
        obtain ⟨G', ws'', h1, h2, h3, h4, h5⟩ := fin .non (by rw [if_pos hbR]; rfl) pt npt ne6 (none_of_upd nD6).1
        walk_at "rd"
        refine i_append (by rw [upd_ne neD]; exact upd_same) (by omega) ?_
        exact ⟨G', ws'', _, _, _, _, _, h1, h2, h3, h4, h5, rfl⟩
      · refine ifF (decide_eq_false hbR) ?_
        walk_at "rd"
        refine ⟨big5 (by simp), fun pt npt => ⟨trivial, fun ne6 => ⟨trivial, fun nD6 => ?_⟩⟩⟩
        obtain ⟨G', ws'', h1, h2, h3, h4, h5⟩ := fin vb (by rw [if_neg hbR]; exact rb5) pt npt ne6 (none_of_upd nD6).1
        walk_at "rd"
        refine i_append (by rw [upd_ne neD]; exact upd_same) (by omega) ?_
        exact ⟨G', ws'', _, _, _, _, _, h1, h2, h3, h4, h5, rfl⟩
    · rintro σ H' ⟨G', ws', v6, v7, v8, v9, v10, rfl, e', ne', nD', hw', rfl⟩
      walk_at "rd"
      rw [← upd_swap' neD]
      have hrs' := paired_len hrs
      rw [hrs', List.take_length] at hw'
      have nD'' : upd G' D (.lst ((List.range' es.length rs.length).map fun k => V.int ((k : Nat) : Int))) e = none := by
        rw [upd_ne neD]
        exact ne'
      refine q _ _ ws' ((e2.trans e').trans (same_new nD')) nD'' (paired_mono (same_new nD') hw') ⟨D, _, rfl, upd_same, ?_⟩
      rw [edgesFor, List.length_map, ← hrs']
      generalize List.range' es.length rs.length = l
      induction l with
      | nil => exact .nil
      | cons x r ih => exact .cons rfl ih
structure Gm where
  order : List (List Str)
  tallies : List Str
  edges : List Edge
  choices : List (List Str × List (Str × List Nat))
def keyS (s : List Str) : List Key := s.map Sum.inr
theorem keyS_kV (s : List Str) : (keyS s).map kV = s.map V.str := by
  unfold keyS
  rw [List.map_map]
  rfl
theorem keyS_inj {s t : List Str} (h : keyS s = keyS t) : s = t := List.map_inj_right (fun _ _ z => Sum.inr.inj z) |>.mp h
def rCs : Rep (List (Str × List Nat)) := rLst (rTup2 rStr (rLst rIdx))
instance : Mono rCs := inferInstanceAs (Mono (rLst (rTup2 rStr (rLst rIdx))))
abbrev PT {α : Type} (F : V → α → Prop) : List (List Key × V) → List (List Str × α) → Prop := Paired (fun (p : List Key × V) (q : List Str × α) => p.1 = keyS q.1 ∧ F p.2 q.2)
theorem pt_mono {α : Type} {R : Rep α} [Mono R] {H H' : Hp} (e : Ex H H') {kvs : List (List Key × V)} {l : List (List Str × α)} (h : PT (R H) kvs l) : PT (R H') kvs l := Paired.mapP h fun _ _ z => ⟨z.1, monoE z.2 e⟩
def rGame (c : Cs) : Rep Gm := fun H v g => ∃ a dx o t e ch kcs, v = .ref a ∧ H a = some (.ins c.G dx (fG (.ref o) (.ref t) (.ref e) (.ref ch))) ∧ rLst rTupS H (.ref o) g.order ∧ rLstS H (.ref t) g.tallies ∧ rLst rEdge H (.ref e) g.edges ∧ H ch = some (.dT kcs) ∧ PT (rCs H) kcs g.choices
theorem rGame_same {c : Cs} {H H' : Hp} {v : V} {g : Gm} (h : rGame c H v g) (e : Same H H') : rGame c H' v g := by
  obtain ⟨a, dx, o, t, ed, ch, kcs, rfl, ha, ho, ht, he, hc, hk⟩ := h
  exact ⟨a, dx, o, t, ed, ch, kcs, rfl, e _ _ ha, mono ho e, mono ht e, mono he e, e _ _ hc, pt_mono (.of e) hk⟩
/-- the choices at a state, by the edges -/
def Ch2 (w : Wd) (R : List (List Str)) (s : List Str) (es : List Edge) (cs : List (Str × List Nat)) (acts : List (Str × Act)) : Prop := cs.map (fun q => q.2.map fun k => es[k]?) = acts.map fun a => (edgesFor w R s a.2).map some
theorem ch2_grow {w : Wd} {R : List (List Str)} {s : List Str} {es m : List Edge} : ∀ {cs : List (Str × List Nat)} {acts : List (Str × Act)}, Ch2 w R s es cs acts → Ch2 w R s (es ++ m) cs acts
  | [], [], _ => rfl
  | [], _ :: _, h => by simp [Ch2] at h
  | _ :: _, [], h => by simp [Ch2] at h
  | q :: cs, a :: acts, h => by
    unfold Ch2 at h ⊢
    rw [List.map_cons, List.map_cons] at h ⊢
    injection h with h1 h2
    have ih : Ch2 w R s (es ++ m) cs acts := ch2_grow h2
    unfold Ch2 at ih
    rw [ih]
    congr 1
    have key : ∀ (l : List Nat) (r : List Edge), l.map (fun k => es[k]?) = r.map some → l.map (fun k => (es ++ m)[k]?) = r.map some := by
      intro l
      induction l with
      | nil => intro r h; exact h
      | cons x t iht =>
        intro r h
        cases r with
        | nil => simp at h
        | cons y u =>
          rw [List.map_cons, List.map_cons] at h ⊢
          injection h with h1 h2
          rw [iht u h2]
          congr 1
          have hx : x < es.length := (List.getElem?_eq_some_iff.mp h1).1
          rw [List.getElem?_append_left hx]
          exact h1
    exact key _ _ h1
theorem ch2_snoc {w : Wd} {R : List (List Str)} {s : List Str} {es : List Edge} {cs : List (Str × List Nat)} {acts : List (Str × Act)} {a : Str × Act} {n : Str} (h : Ch2 w R s es cs acts) : Ch2 w R s (es ++ edgesFor w R s a.2) (cs ++ [(n, List.range' es.length (edgesFor w R s a.2).length)]) (acts ++ [a]) := by
  have h' := ch2_grow (m := edgesFor w R s a.2) h
  unfold Ch2 at h' ⊢
  rw [List.map_append, List.map_append, h']
  congr 1
  show [(List.range' es.length (edgesFor w R s a.2).length).map fun k => (es ++ edgesFor w R s a.2)[k]?] = [(edgesFor w R s a.2).map some]
  congr 1
  generalize edgesFor w R s a.2 = m
  apply List.ext_getElem
  · simp
  · intro i h1 h2
    simp only [List.length_map, List.length_range'] at h1
    simp [List.getElem_range', List.getElem?_append_right, h1]
structure GmOk (k : Tk) (g : Gm) : Prop where
  order : g.order = (statesOf k.wd.seen).filter fun s => !decide (s ∈ goals k)
  tallies : g.tallies = k.wd.counters
  keys : g.choices.map (·.1) = g.order
  ch : ∀ p ∈ g.choices, Ch2 k.wd (goals k) p.1 g.edges p.2 (possible k.wd p.1)
  small : g.edges.length ≤ 1000
theorem rLst_butI {α : Type} {R : Rep α} {a C dx : Addr} {fs : List (Str × V)} {H H' : Hp} {v : V} {l : List α} (h : rLst R H v l) (e : SameBut a H H') (ha : H a = some (.ins C dx fs)) (r : ∀ v x, R H v x → R H' v x) : rLst R H' v l := by
  obtain ⟨b, vs, rfl, hb, hp⟩ := h
  exact ⟨b, vs, rfl, e _ _ (fun z => by rw [z, ha] at hb; cases hb) hb, paired_imp r hp⟩
theorem rTupS_butI {a C dx : Addr} {fs : List (Str × V)} {H H' : Hp} {v : V} {s : List Str} (h : rTupS H v s) (e : SameBut a H H') (ha : H a = some (.ins C dx fs)) : rTupS H' v s := by
  obtain ⟨b, rfl, hb⟩ := h
  exact ⟨b, rfl, e _ _ (fun z => by rw [z, ha] at hb; cases hb) hb⟩
theorem rLstS_butI {a C dx : Addr} {fs : List (Str × V)} {H H' : Hp} {v : V} {s : List Str} (h : rLstS H v s) (e : SameBut a H H') (ha : H a = some (.ins C dx fs)) : rLstS H' v s := by
  obtain ⟨b, rfl, hb⟩ := h
  exact ⟨b, rfl, e _ _ (fun z => by rw [z, ha] at hb; cases hb) hb⟩
theorem lkG1 {k : Str} {x0 : V} (h0 : (k == ("order" : Str)) = false) : List.lookup k [(("order" : Str), x0)] = none := by
  simp only [List.lookup, h0]
theorem lkG2 {k : Str} {x0 x1 : V} (h0 : (k == ("order" : Str)) = false) (h1 : (k == ("tallies" : Str)) = false) : List.lookup k [(("order" : Str), x0), (("tallies" : Str), x1)] = none := by
  simp only [List.lookup, h0, h1]
theorem lkG3 {k : Str} {x0 x1 x2 : V} (h0 : (k == ("order" : Str)) = false) (h1 : (k == ("tallies" : Str)) = false) (h2 : (k == ("edges" : Str)) = false) : List.lookup k [(("order" : Str), x0), (("tallies" : Str), x1), (("edges" : Str), x2)] = none := by
  simp only [List.lookup, h0, h1, h2]
theorem Ex.trans {H H' H2 : Hp} (a : Ex H H') (b : Ex H' H2) : Ex H H2 := ⟨fun x o n h => b.o' x o n (a.o' x o n h), fun x k h => b.rd (a.d x k h)⟩
theorem fG_put3' {x0 x1 x2 x3 : V} : putF "choices" x3 ([(("order" : Str), x0), (("tallies" : Str), x1), (("edges" : Str), x2)] : List (Str × V)) = fG x0 x1 x2 x3 := fG_put3
theorem none_back {G H : Hp} {a : Addr} (e : Same G H) (n : H a = none) : G a = none := by
  cases h : G a with
  | none => rfl
  | some o =>
    rw [e _ _ h] at n
    cases n
theorem rWo_butT {c : Cs} {H H' : Hp} {b : Addr} {kts : List (List Key × V)} {v : V} {wd : Wd} (h : rWo c H v wd) (hb : H b = some (.dT kts)) (e : SameBut b H H') : rWo c H' v wd := by
  obtain ⟨a, dx, f, p, r, t, kvs, rfl, W, ht, hk, ok⟩ := h
  have ex : Ex H H' := Ex.butT hb e
  exact ⟨a, dx, f, p, r, t, kvs, rfl, W.mono ex, e _ _ (fun z => by rw [z, hb] at ht; cases ht) ht, pk_monoE ex hk, ok⟩
theorem pt_none {α : Type} {F : V → α → Prop} {s : List Str} : ∀ {kvs : List (List Key × V)} {l : List (List Str × α)}, PT F kvs l → s ∉ l.map (·.1) → valV kvs (keyS s) = none
  | _, _, .nil, _ => rfl
  | _, _, .cons (a := p) (b := q) h t, n => by
    have z : ¬ p.1 = keyS s := fun w => n (by rw [List.map_cons, keyS_inj (h.1.symm.trans w)]; exact List.mem_cons_self)
    rw [valV_neg z]
    exact pt_none t fun m => n (List.mem_cons_of_mem _ m)
theorem valV_snoc {kvs : List (List Key × V)} {k : List Key} {v : V} (h : valV kvs k = none) : valV (kvs ++ [(k, v)]) k = some v := by
  induction kvs with
  | nil => exact valV_pos rfl
  | cons p r ih =>
    by_cases e : p.1 = k
    · rw [valV_pos e] at h
      cases h
    · rw [valV_neg e] at h
      rw [List.cons_append, valV_neg e]
      exact ih h
theorem putK_new {kvs : List (List Key × V)} {k : List Key} {v : V} (h : valV kvs k = none) : putK kvs k v = kvs ++ [(k, v)] := by
  unfold putK
  rw [if_neg]
  rw [valV_any, h]
  exact Bool.false_ne_true
theorem states_nodup {ns : List Str} (d : ns.Nodup) : (statesOf ns).Nodup := by
  have key : ∀ (ns p : List Str) (l : List (List Str)), (p ++ ns).Nodup → (∀ s ∈ l, ∀ x ∈ s, x ∈ p) → l.Nodup → (ns.foldl (fun l n => l.flatMap fun s => [s, s ++ [n]]) l).Nodup := by
    intro ns
    induction ns with
    | nil => intro p l _ _ h; exact h
    | cons n r ih =>
      intro p l hd hs hl
      rw [List.foldl_cons]
      have hn : n ∉ p := fun m => by
        have := (List.nodup_append.mp hd).2.2 n m n List.mem_cons_self
        exact this rfl
      refine ih (p ++ [n]) _ (by simpa using hd) ?_ ?_
      · intro s hs' x hx
        obtain ⟨u, hu, h⟩ := List.mem_flatMap.mp hs'
        simp only [List.mem_cons, List.not_mem_nil, or_false] at h
        rcases h with rfl | rfl
        · exact List.mem_append_left _ (hs _ hu x hx)
        · rcases List.mem_append.mp hx with h | h
          · exact List.mem_append_left _ (hs u hu x h)
          · exact List.mem_append_right _ h
      · clear ih
        induction l with
        | nil => exact List.nodup_nil
        | cons u t iht =>
          obtain ⟨h1, h2⟩ := List.nodup_cons.mp hl
          rw [List.flatMap_cons, List.nodup_append]
          refine ⟨?_, iht (fun s h => hs s (List.mem_cons_of_mem _ h)) h2, ?_⟩
          · refine List.nodup_cons.mpr ⟨?_, List.nodup_cons.mpr ⟨List.not_mem_nil, List.nodup_nil⟩⟩
            rw [List.mem_singleton]
            intro z
            have := congrArg List.length z
            simp at this
          · intro y hy z hz e
            subst e
            obtain ⟨w, hw, hyw⟩ := List.mem_flatMap.mp hz
            simp only [List.mem_cons, List.not_mem_nil, or_false] at hy hyw
            have nu : n ∉ u := fun m => hn (hs u List.mem_cons_self n m)
            have nw : n ∉ w := fun m => hn (hs w (List.mem_cons_of_mem _ hw) n m)
            rcases hy with rfl | rfl
            · rcases hyw with rfl | rfl
              · exact h1 hw
              · exact nu (by simp)
            · rcases hyw with rfl | h
              · exact nw (by simp)
              · have := List.append_inj_left' h rfl
                exact h1 (this ▸ hw)
  exact key ns [] [[]] (by simpa using d) (by simp) (by simp)
def spGInit (K : PySem.W.Frag) (c : Cs) : Sp := fun vs H Q _ => ∃ a dx x wo k G, vs = [.ref a, x, .ref wo] ∧ Same G H ∧ G a = none ∧ H a = some (.ins c.G dx []) ∧ rTk2 c G x k ∧ (∀ H', SqT K H' wo ([].map V.str)) ∧ ∀ H2 g, Same G H2 → rGame c H2 (.ref a) g → GmOk k g → Q .non H2
theorem k_Game (T : Txt K mg c) : Mak P w K mg base 12 "Game" c.G (spGInit K c) [] := by
    refine mak_of T.m_Game_init sc_Game_init (by walk_at "len") (fun f cdv A outer sh H vs Q E hr h => ?_)
    have nd := sc_Game_init.nd
    obtain ⟨a, dx, x, wo, k, G, rfl, e0, na, ha, hx, hwo, q⟩ := h
    refine ⟨_, (pss_cons (ps_set (i := 3) nd rfl (.inl rfl) (C8.pe_mt0 (m_Task_base T) hr (by first | decide | exact Nat.le_refl _ | omega) (pv 1)))
        (pss_cons (ps_set (i := 4) nd rfl (.inr rfl) (C8.pe_mt0 (m_Task_goals T) hr (by first | decide | exact Nat.le_refl _ | omega) (pv 1)))
        (pss_cons (ps_fldK K rfl (pv 0) (pe_lc (own := [("state", 5)]) (g := gName 5) rfl nd (pi_listK K rfl (C8.pe_mt0 (m_World_states T) hr (by first | decide | exact Nat.le_refl _ | omega) (pv 3))) (blkOk_by (own := [("state", 5)]) (N := N_Game_init) (sc := fnScope s_Game_init) (by decide +kernel)) (fun _ _ _ _ _ => (pg_name (i := 5) nd rfl (.inl rfl))) (fun _ _ _ _ _ => pts_one (pt_hide (pt_cmpR (kNotInD K rfl (by exact hu65 hr)) (pv 5) (pv 4) (by rfl)))) (fun _ _ _ _ _ => pe_hide (pv 5))) rfl)
        (pss_cons (ps_fldK K rfl (pv 0) (C8.pe_mt0 (m_World_counters T) hr (by first | decide | exact Nat.le_refl _ | omega) (pv 3)) rfl)
        (pss_cons (ps_fldK K rfl (pv 0) (pe_lst pa_nil) rfl)
        (pss_cons (ps_fldK K rfl (pv 0) pe_dnewT rfl)
        (pss_one (ps_for PassesOwn.never rfl (pi_listK K rfl (pe_fldK K rfl (pv 0) rfl)) (pg_name (i := 5) nd rfl (.inl rfl)) (pss_cons (ps_dput (by exact hu_of hr) (pe_fldK K rfl (pv 0) rfl) (pv 5) (pe_lst pa_nil) rfl)
        (pss_one (ps_for PassesOwn.never rfl (pi_listK K rfl (pe_hide (pe_hide (C8.pe_mt (m_World_possible T) hr (by first | decide | exact Nat.le_refl _ | omega) (pv 3) (pa_cons (pv 5) pa_nil))))) (pg_name (i := 6) nd rfl (.inl rfl)) (pss_one (ps_if (pt_cmpR (kNotInS K rfl) (pv 6) (pv 2) (by rfl)) (pss_one (ps_expr (pe_bmK K rfl PySem.F.plainAttrs_list PySem.F.slot_list_append PySem.F.type_list_append mt_append (pe_dget (by exact hu_of hr) (pe_fldK K rfl (pv 0) rfl) (pv 5) (fun _ _ => rfl)) (pa_cons (pe_hide (pe_tup (pa_cons (pv 6) (pa_cons (C8.pe_mt (m_Game_added_edges T) hr (by first | decide | exact Nat.le_refl _ | omega) (pv 0) (pa_cons (pv 3) (pa_cons (pv 4) (pa_cons (pv 5) (pa_cons (pv 6) pa_nil))))) pa_nil)))) pa_nil)))) pss_nil))))))))))))), ?_⟩
    obtain ⟨ax, dxx, ix, bx, gx, rfl, hax, _⟩ := id hx
    walk_at "rd"
    refine ⟨ax, _, _, rfl, e0 _ _ hax, fT_no_base, ?_⟩
    walk_at "rd"
    refine ⟨_, k, rfl, rTk2_same hx e0, fun xw H1 e1 hw1 => ?_⟩
    obtain ⟨aw, dw, fw, pw, rw', tw, kvs, rfl, W, hti, hki, ok⟩ := id hw1
    have hne : k.wd.acts ≠ [] := by
      obtain ⟨_, _, _, _, _, _, _, _, h, _⟩ := hx
      exact h
    walk_at "rd"
    refine ⟨ax, _, _, rfl, (e0.trans e1) _ _ hax, fT_no_goals, ?_⟩
    walk_at "rd"
    refine ⟨_, k, rfl, rTk2_same hx (e0.trans e1), fun xr H2 e2 hr2 => ?_⟩
    have W2 := W.mono (.of e2)
    walk_at "rd"
    refine ⟨_, rfl, aw, _, _, rfl, W2.ob, fW_no_states, _, k.wd, rfl, ⟨aw, dw, fw, pw, rw', tw, rfl, W2⟩, ok.toLsOk, fun v3 H3 e3 ⟨l3, vs3, hv3, hl3, hp3⟩ => ?_⟩
    subst hv3
    have hsl := states_len k.wd.seen
    have hsn := ok.toLsOk.seenLen
    have hpw : 2 ^ k.wd.seen.length ≤ 2 ^ 3 := Nat.pow_le_pow_right (by decide) hsn
    have hgo : ∀ u ∈ goals k, ∀ n ∈ u, PyData.strOk n = true := fun u hu => ok.toLsOk.okS (List.mem_filter.mp hu).1
    refine ⟨l3, rfl, ⟨vs3, SqL.of hl3⟩, fun D nD => ?_⟩
    have hr3 := mono hr2 e3
    refine lc_w (walk_list (xs := vs3)) rTupS rTupS (ys := statesOf k.wd.seen) (fun s => !decide (s ∈ goals k)) id (paired_len hp3) (fun H' s => SqL.of (s _ _ hl3)) (yat_of rTupS hp3) (by omega) nD (fun x => rfl) (fun x s G sm hx hm Q hQ => ?_) (fun x s G sm hx hm hk Q hQ => ?_) (fun H4 zs sm4 hz hp4 => ?_)
    · walk_at "rd"
      exact i_notInL hx (mono hr3 sm) (ok.toLsOk.okS hm) hgo ⟨_, rfl, hQ _ (Same.refl _)⟩
    · walk_at "rd"
      exact hQ _ _ (Same.refl _) hx
    rw [List.map_id] at hp4
    have e14 := (e1.trans e2).trans (e3.trans sm4)
    have g4 : Same G H4 := e0.trans e14
    have a4 := e14 _ _ ha
    have w4 : rWo c H4 (.ref aw) k.wd := rWo_same hw1 ((e2.trans e3).trans sm4)
    have r4 := mono hr3 sm4
    have o4 : rLst rTupS H4 (.ref D) ((statesOf k.wd.seen).filter fun s => !decide (s ∈ goals k)) := ⟨D, zs, rfl, hz, hp4⟩
    walk_at "rd"
    refine ⟨a, _, _, _, rfl, a4, T.cG, T.nG_order, by decide, ?_⟩
    rw [fG_put0]
    have sb5 : SameBut a H4 (upd H4 a (.ins c.G dx [(("order" : Str), .ref D)])) := (SameBut.of (Same.refl _)).put
    have w5 := rWo_but w4 sb5 a4 rfl rfl rfl
    have r5 := rLst_butI r4 sb5 a4 (fun v x r => rTupS_butI r sb5 a4)
    have o5 := rLst_butI o4 sb5 a4 (fun v x r => rTupS_butI r sb5 a4)
    have g5 : Same G (upd H4 a (.ins c.G dx [(("order" : Str), .ref D)])) := same_mut g4 na
    have a5 : upd H4 a (.ins c.G dx [(("order" : Str), .ref D)]) a = some (.ins c.G dx [(("order" : Str), .ref D)]) := upd_same
    generalize upd H4 a (.ins c.G dx [(("order" : Str), .ref D)]) = H5 at w5 r5 o5 g5 a5
    obtain ⟨_, _, _, _, _, _, _, hq5, W5, _⟩ := id w5
    cases hq5
    walk_at "rd"
    refine ⟨aw, _, _, rfl, W5.ob, fW_no_counters, ?_⟩
    walk_at "rd"
    refine ⟨_, k.wd, rfl, rWl_of (rWo_d w5), ok.toLsOk, fun vt H6 e6 ⟨lt, hvt, hlt⟩ => ?_⟩
    subst hvt
    walk_at "rd"
    have a6 := e6 _ _ a5
    refine ⟨a, _, _, _, rfl, a6, T.cG, T.nG_tallies, by simp, ?_⟩
    rw [fG_put1]
    have sb7 : SameBut a H6 (upd H6 a (.ins c.G dx [(("order" : Str), .ref D), (("tallies" : Str), .ref lt)])) := (SameBut.of (Same.refl _)).put
    have w7 := rWo_but (rWo_same w5 e6) sb7 a6 (lkG1 (by decide +kernel)) (lkG1 (by decide +kernel)) (lkG1 (by decide +kernel))
    have r7 := rLst_butI (mono r5 e6) sb7 a6 (fun v x r => rTupS_butI r sb7 a6)
    have o7 := rLst_butI (mono o5 e6) sb7 a6 (fun v x r => rTupS_butI r sb7 a6)
    have t7 := rLstS_butI (show rLstS H6 (.ref lt) k.wd.counters from ⟨lt, rfl, hlt⟩) sb7 a6
    have g7 : Same G (upd H6 a (.ins c.G dx [(("order" : Str), .ref D), (("tallies" : Str), .ref lt)])) := same_mut (g5.trans e6) na
    have a7 : upd H6 a (.ins c.G dx [(("order" : Str), .ref D), (("tallies" : Str), .ref lt)]) a = some (.ins c.G dx [(("order" : Str), .ref D), (("tallies" : Str), .ref lt)]) := upd_same
    generalize upd H6 a (.ins c.G dx [(("order" : Str), .ref D), (("tallies" : Str), .ref lt)]) = H7 at w7 r7 o7 t7 g7 a7
    walk_at "rd"
    refine ⟨Nat.zero_le _, fun ed ned => ?_⟩
    walk_at "rd"
    have nae : a ≠ ed := ne_of_none a7 ned
    refine ⟨a, _, _, _, rfl, by rw [upd_ne nae]; exact a7, T.cG, T.nG_edges, by simp, ?_⟩
    rw [fG_put2, upd_swap' nae]
    have sb8 : SameBut a H7 (upd H7 a (.ins c.G dx [(("order" : Str), .ref D), (("tallies" : Str), .ref lt), (("edges" : Str), .ref ed)])) := (SameBut.of (Same.refl _)).put
    have w8 := rWo_but w7 sb8 a7 (lkG2 (by decide +kernel) (by decide +kernel)) (lkG2 (by decide +kernel) (by decide +kernel)) (lkG2 (by decide +kernel) (by decide +kernel))
    have r8 := rLst_butI r7 sb8 a7 (fun v x r => rTupS_butI r sb8 a7)
    have o8 := rLst_butI o7 sb8 a7 (fun v x r => rTupS_butI r sb8 a7)
    have t8 := rLstS_butI t7 sb8 a7
    have g8 : Same G (upd H7 a (.ins c.G dx [(("order" : Str), .ref D), (("tallies" : Str), .ref lt), (("edges" : Str), .ref ed)])) := same_mut g7 na
    have a8 : upd H7 a (.ins c.G dx [(("order" : Str), .ref D), (("tallies" : Str), .ref lt), (("edges" : Str), .ref ed)]) a = some (.ins c.G dx [(("order" : Str), .ref D), (("tallies" : Str), .ref lt), (("edges" : Str), .ref ed)]) := upd_same
    have ned8 : upd H7 a (.ins c.G dx [(("order" : Str), .ref D), (("tallies" : Str), .ref lt), (("edges" : Str), .ref ed)]) ed = none := by rw [upd_ne (Ne.symm nae)]; exact ned
    generalize upd H7 a (.ins c.G dx [(("order" : Str), .ref D), (("tallies" : Str), .ref lt), (("edges" : Str), .ref ed)]) = G8 at w8 r8 o8 t8 g8 a8 ned8
    walk_at "rd"
    intro ch nch
    obtain ⟨nch8, nche⟩ := none_of_upd nch
    have nac : a ≠ ch := ne_of_none a8 nch8
    walk_at "rd"
    refine ⟨a, _, _, _, rfl, by rw [upd_ne nac, upd_ne nae]; exact a8, T.cG, T.nG_choices, by simp, ?_⟩
    rw [fG_put3', upd_swap' (x := .dT []) nche, upd_swap' (a := a) (b := ed) nae]
    have sc : Same G8 (upd G8 ch (.dT [])) := same_new nch8
    have ac : upd G8 ch (.dT []) a = some (.ins c.G dx [(("order" : Str), .ref D), (("tallies" : Str), .ref lt), (("edges" : Str), .ref ed)]) := sc _ _ a8
    have sb9 : SameBut a (upd G8 ch (.dT [])) (upd (upd G8 ch (.dT [])) a (.ins c.G dx (fG (.ref D) (.ref lt) (.ref ed) (.ref ch)))) := (SameBut.of (Same.refl _)).put
    have w9 := rWo_but (rWo_same w8 sc) sb9 ac (lkG3 (by decide +kernel) (by decide +kernel) (by decide +kernel)) (lkG3 (by decide +kernel) (by decide +kernel) (by decide +kernel)) (lkG3 (by decide +kernel) (by decide +kernel) (by decide +kernel))
    have r9 := rLst_butI (mono r8 sc) sb9 ac (fun v x r => rTupS_butI r sb9 ac)
    have o9 := rLst_butI (mono o8 sc) sb9 ac (fun v x r => rTupS_butI r sb9 ac)
    have t9 := rLstS_butI (mono t8 sc) sb9 ac
    have g9 : Same G (upd (upd G8 ch (.dT [])) a (.ins c.G dx (fG (.ref D) (.ref lt) (.ref ed) (.ref ch)))) := same_mut (g8.trans sc) na
    have a9 : upd (upd G8 ch (.dT [])) a (.ins c.G dx (fG (.ref D) (.ref lt) (.ref ed) (.ref ch))) a = some (.ins c.G dx (fG (.ref D) (.ref lt) (.ref ed) (.ref ch))) := upd_same
    have c9 : upd (upd G8 ch (.dT [])) a (.ins c.G dx (fG (.ref D) (.ref lt) (.ref ed) (.ref ch))) ch = some (.dT []) := by
      rw [upd_ne (Ne.symm nac)]
      exact upd_same
    have ned9 : upd (upd G8 ch (.dT [])) a (.ins c.G dx (fG (.ref D) (.ref lt) (.ref ed) (.ref ch))) ed = none := by rw [upd_ne (Ne.symm nae), upd_ne (Ne.symm nche)]; exact ned8
    generalize upd (upd G8 ch (.dT [])) a (.ins c.G dx (fG (.ref D) (.ref lt) (.ref ed) (.ref ch))) = G9 at w9 r9 o9 t9 g9 a9 c9 ned9
    obtain ⟨_, ozs, hq, hD9, hp9⟩ := id o9
    cases hq
    have hna := ok.na
    have nDe : D ≠ ed := ne_of_none hD9 ned9
    walk_at "rd"
    refine ⟨a, _, _, _, _, rfl, by rw [upd_ne nae]; exact a9, T.cG, T.nG_order, fG_order, D, rfl, ⟨ozs, SqL.of (by rw [upd_ne nDe]; exact hD9)⟩, ?_⟩
    generalize hord : ((statesOf k.wd.seen).filter fun s => !decide (s ∈ goals k)) = ord at hp9
    have hol : ord.length ≤ 8 := by
      have := List.length_filter_le (fun s => !decide (s ∈ goals k)) (statesOf k.wd.seen)
      rw [hord] at this
      omega
    have hnd : ord.Nodup := by
      rw [← hord]
      exact (states_nodup ok.toLsOk.seenNd).filter _
    have hin : ∀ s ∈ ord, s ∈ statesOf k.wd.seen := fun s hs => by
      rw [← hord] at hs
      exact (List.mem_filter.mp hs).1
    refine for_w (walk_list (xs := ozs)) (fun i σ H' => ∃ G' ws es kcs chs v5 v6, H' = upd G' ed (.lst ws) ∧ G' ed = none ∧ Ex G9 G' ∧ rWo c G' (.ref aw) k.wd ∧ Same G G' ∧ G' ch = some (.dT kcs) ∧ PT (rCs G') kcs chs ∧ chs.map (·.1) = ord.take i ∧ (∀ p ∈ chs, Ch2 k.wd (goals k) p.1 es p.2 (possible k.wd p.1)) ∧ Paired (rEdge G') ws es ∧ es.length ≤ 18 * i ∧ σ = [some (.ref a), some (.ref ax), some (.ref wo), some (.ref aw), some xr, v5, v6]) ?_ ?_ ?_ ?_
    · exact ⟨G9, [], [], [], [], none, none, rfl, ned9, .of (Same.refl _), w9, g9, c9, .nil, by simp, by simp, .nil, by simp, rfl⟩
    · rintro i σ H' _ ⟨G', ws, es, kcs, chs, v5, v6, rfl, ne', ex, _⟩
      exact SqL.of (by rw [upd_ne nDe]; exact ex.o hD9)
    · rintro i x σ H' H2' hi ⟨G', ws, es, kcs, chs, v5, v6, hH, ne', ex, w', sG, hc', hk', hkeys, hch, hes, hel, rfl⟩ ⟨rfl, hx⟩
      subst hH
      obtain ⟨s, hs, rx⟩ := paired_get hp9 hx
      obtain ⟨xa, rfl, hxa⟩ := id (monoE rx ex)
      have hsm : s ∈ ord := List.mem_of_getElem? hs
      have hi8 : i < ord.length := (List.getElem?_eq_some_iff.mp hs).1
      have a' := ex.o a9
      have nche : ch ≠ ed := ne_of_none hc' ne'
      have nxe : xa ≠ ed := ne_of_none hxa ne'
      walk_at "rd"
      refine ⟨Nat.zero_le _, fun C nC => ?_⟩
      obtain ⟨nC', nCe⟩ := none_of_upd nC
      have naC : a ≠ C := ne_of_none a' nC'
      have nchC : ch ≠ C := ne_of_none hc' nC'
      have nxC : xa ≠ C := ne_of_none hxa nC'
      walk_at "rd"
      refine ⟨a, _, _, _, _, rfl, by rw [upd_ne naC, upd_ne nae]; exact a', T.cG, T.nG_choices, fG_choices, ?_⟩
      walk_at "rd"
      refine ⟨ch, _, rfl, .inr ⟨kcs, keyS s, xa, by rw [upd_ne nchC, upd_ne nche]; exact hc', rfl, by rw [upd_ne nxC, upd_ne nxe, keyS_kV]; exact hxa, big5' (by rw [Paired.length hk']; have := congrArg List.length hkeys; rw [List.length_map, List.length_take] at this; omega), rfl⟩, ?_⟩
      have hsno : s ∉ chs.map (·.1) := by
        rw [hkeys]
        exact nodup_take_not hnd hs
      have hvn := pt_none hk' hsno
      rw [putK_new hvn, upd_swap' nchC, upd_swap' (a := ch) (b := ed) nche, upd_swap' (a := C) (b := ed) nCe]
      have sbch : SameBut ch G' (upd G' ch (.dT (kcs ++ [(keyS s, V.ref C)]))) := (SameBut.of (Same.refl _)).put
      have ex2 : Ex G' (upd G' ch (.dT (kcs ++ [(keyS s, V.ref C)]))) := Ex.butT hc' sbch
      have w2 := rWo_butT w' hc' sbch
      have s2 : Same G (upd G' ch (.dT (kcs ++ [(keyS s, V.ref C)]))) := same_mut sG (none_back g8 nch8)
      have k2 := pt_mono ex2 hk'
      have c2 : upd G' ch (.dT (kcs ++ [(keyS s, V.ref C)])) ch = some (.dT (kcs ++ [(keyS s, V.ref C)])) := upd_same
      have es2 := paired_monoE ex2 hes
      have x2 := ex2.o hxa
      have nC2 : upd G' ch (.dT (kcs ++ [(keyS s, V.ref C)])) C = none := by rw [upd_ne (Ne.symm nchC)]; exact nC'
      have ne2 : upd G' ch (.dT (kcs ++ [(keyS s, V.ref C)])) ed = none := by rw [upd_ne (Ne.symm nche)]; exact ne'
      have ex02 := ex.trans ex2
      have nCG : G C = none := none_back sG nC'
      generalize upd G' ch (.dT (kcs ++ [(keyS s, V.ref C)])) = G2 at ex2 w2 s2 k2 c2 es2 x2 nC2 ne2 ex02
      obtain ⟨_, _, _, _, _, _, _, hq2, W2', _⟩ := id w2
      cases hq2
      walk_at "rd"
      refine ⟨upd G2 C (.lst []), ed, .lst ws, rfl, by rw [upd_ne (Ne.symm nCe)]; exact ne2, trivial, G2, C, .lst [], rfl, nC2, trivial, ?_⟩
      walk_at "rd"
      refine ⟨aw, _, _, rfl, W2'.ob, fW_no_possible, ?_⟩
      walk_at "rd"
      refine ⟨_, _, k.wd, s, rfl, w2, hne, ⟨xa, rfl, x2⟩, hin s hsm, fun vp G3 e3 ⟨lp, hvp, hlp⟩ => ⟨trivial, fun nC3 => ⟨trivial, fun ne3 => ?_⟩⟩⟩
      subst hvp
      rw [upd_ne (Ne.symm nCe)] at ne3
      have nlC : lp ≠ C := ne_of_none hlp nC3
      have nle : lp ≠ ed := ne_of_none hlp ne3
      refine ⟨lp, rfl, ⟨_, SqL.of (by rw [upd_ne nle, upd_ne nlC]; exact hlp)⟩, ?_⟩
      have hPl : (possible k.wd s).length ≤ 3 := Nat.le_trans (List.length_filter_le _ _) hna
      refine for_w (walk_list (xs := ((possible k.wd s).map (·.1)).map V.str)) (fun j σ H' => ∃ G' ws es' cs csm v6, H' = upd (upd G' C (.lst cs)) ed (.lst ws) ∧ G' C = none ∧ G' ed = none ∧ Same G3 G' ∧ Paired (rEdge G') ws es' ∧ Paired (rTup2 rStr (rLst rIdx) G') cs csm ∧ Ch2 k.wd (goals k) s es' csm ((possible k.wd s).take j) ∧ es'.length ≤ 18 * i + 6 * j ∧ (∀ p ∈ chs, Ch2 k.wd (goals k) p.1 es' p.2 (possible k.wd p.1)) ∧ cs.length = j ∧ σ = [some (.ref a), some (.ref ax), some (.ref wo), some (.ref aw), some xr, some (.ref xa), v6]) ?_ ?_ ?_ ?_
      · exact ⟨G3, ws, es, [], [], _, rfl, nC3, ne3, Same.refl _, paired_mono e3 es2, .nil, rfl, by omega, hch, rfl, rfl⟩
      · rintro j σ H' _ ⟨G', ws, es', cs, csm, v6, rfl, nC', ne', e', _⟩
        exact SqL.of (by rw [upd_ne nle, upd_ne nlC]; exact e' _ _ hlp)
      · rintro j x σ H' H2' hj ⟨G', ws, es', cs, csm, v6, hH, nC', ne', e', hes', hcs', hch', hel', hchs', hcl, rfl⟩ ⟨rfl, hx⟩
        subst hH
        obtain ⟨n, hn, rx⟩ := paired_get (F := rStr (fun _ => Option.none)) strs_paired hx
        obtain rfl : x = .str n := rx
        obtain ⟨⟨n', A'⟩, hnA, hn'⟩ : ∃ p, (possible k.wd s)[j]? = some p ∧ p.1 = n := by
          rw [List.getElem?_map] at hn
          cases hp : (possible k.wd s)[j]? with
          | none => rw [hp] at hn; cases hn
          | some p =>
            rw [hp] at hn
            exact ⟨p, rfl, Option.some.inj hn⟩
        obtain rfl : n' = n := hn'
        obtain ⟨hm1, hm2⟩ := List.mem_filter.mp (List.mem_of_getElem? hnA)
        have hgA : gt k.wd.acts n' = some A' := gt_of_mem ok.nda hm1
        have hfA : fitsA k.wd s A' = true := hm2
        have hj3 : j < (possible k.wd s).length := (List.getElem?_eq_some_iff.mp hnA).1
        have e23 := e3.trans e'
        have ex' : Ex G9 G' := ex02.trans (.of e23)
        have a3 := ex'.o a9
        have c3 := e23 _ _ c2
        have x3 := e23 _ _ x2
        have naC' : a ≠ C := naC
        have nxC' : xa ≠ C := nxC
        have nchC' : ch ≠ C := nchC
        walk_at "rd"
        refine i_notInT (ns := []) (.inl (hwo _)) ⟨_, rfl, ifT (by simp) ?_⟩
        walk_at "rd"
        refine ⟨a, _, _, _, _, rfl, by rw [upd_ne nae, upd_ne naC]; exact a3, T.cG, T.nG_choices, fG_choices, ?_⟩
        walk_at "rd"
        refine ⟨ch, .ref C, rfl, .inr ⟨_, keyS s, xa, .inl (by rw [upd_ne nche, upd_ne nchC]; exact c3), rfl, by rw [upd_ne nxe, upd_ne nxC, keyS_kV]; exact x3, (valV_snoc hvn).symm⟩, ?_⟩
        refine ⟨.inl ⟨rfl, cs, SqL.of (by rw [upd_ne nCe]; exact upd_same)⟩, ?_⟩
        walk_at "rd"
        refine ⟨upd G' ed (.lst ws), C, .lst cs, upd_swap' (Ne.symm nCe), by rw [upd_ne nCe]; exact nC', trivial, ?_⟩
        walk_at "rd"
        refine ⟨a, _, _, rfl, by rw [upd_ne nae]; exact a3, fG_no_added_edges, ?_⟩
        walk_at "rd"
        refine ⟨a, dx, _, _, ed, _, .ref aw, xr, .ref xa, n', A', k.wd, goals k, s, ws, es', G', rfl, rfl, ne', a3, rWo_same w2 e23, monoE r9 ex', hgo, ⟨xa, rfl, x3⟩, hin s hsm, hgA, hfA, hes', by omega, fun v4 G4 ws4 e4 ne4 hes4 hv4 => ?_⟩
        walk_at "rd"
        refine ⟨big5 (by simp), fun pt npt => ⟨trivial, fun nC5 => ?_⟩⟩
        obtain ⟨npt4, npte⟩ := none_of_upd npt
        have nptC : pt ≠ C := fun z => by
          rw [z, upd_same] at nC5
          cases nC5
        walk_at "rd"
        refine i_append upd_same (by omega) ?_
        rw [upd_upd, upd_swap' (a := pt) (b := ed) npte, upd_swap' (a := C) (b := ed) nCe]
        have e5 : Same G4 (upd G4 pt (.tup [.str n', v4])) := same_new npt4
        have nC6 : upd G4 pt (.tup [.str n', v4]) C = none := by
          rw [upd_ne (Ne.symm nptC), upd_ne nCe] at nC5
          rw [upd_ne (Ne.symm nptC)]
          exact nC5
        have ne6 : upd G4 pt (.tup [.str n', v4]) ed = none := by
          rw [upd_ne (Ne.symm npte)]
          exact ne4
        have hpl := results_len (w := k.wd) (s := s) (A := A') ok.np (ok.acts _ hm1).2.len
        refine ⟨upd G4 pt (.tup [.str n', v4]), ws4, es' ++ edgesFor k.wd (goals k) s A', cs ++ [.ref pt], csm ++ [(n', List.range' es'.length (edgesFor k.wd (goals k) s A').length)], _, rfl, nC6, ne6, e'.trans (e4.trans e5), paired_mono e5 hes4, ?_, ?_, ?_, ?_, ?_, rfl⟩
        · refine paired_snoc (paired_mono (e4.trans e5) hcs') ⟨pt, _, _, rfl, upd_same, rfl, mono hv4 e5⟩
        · rw [take_more hnA]
          exact ch2_snoc (a := (n', A')) hch'
        · rw [List.length_append, edgesFor, List.length_map]
          omega
        · intro p hp
          exact ch2_grow (hchs' p hp)
        · rw [List.length_append, hcl]
          rfl
      · rintro σ H' ⟨G', ws, es', cs, csm, v6, rfl, nC', ne', e', hes', hcs', hch', hel', hchs', hcl, rfl⟩
        have e23 := e3.trans e'
        have eC : Same G' (upd G' C (.lst cs)) := same_new nC'
        have e2C := e23.trans eC
        rw [List.length_map, List.length_map, List.take_length] at hch'
        rw [List.length_map, List.length_map] at hel'
        have hnl : (possible k.wd s).length ≤ 3 := hPl
        refine ⟨upd G' C (.lst cs), ws, es', kcs ++ [(keyS s, V.ref C)], chs ++ [(s, csm)], _, _, rfl, by rw [upd_ne (Ne.symm nCe)]; exact ne', ex02.trans (.of e2C), rWo_same w2 e2C, s2.trans e2C, e2C _ _ c2, ?_, ?_, ?_, paired_mono eC hes', by omega, rfl⟩
        · refine pappend (pt_mono (.of e2C) k2) (Paired.cons (F := fun (p : List Key × V) (q : List Str × List (Str × List Nat)) => p.1 = keyS q.1 ∧ rCs _ p.2 q.2) ⟨rfl, C, cs, rfl, upd_same, paired_mono eC hcs'⟩ .nil)
        · rw [List.map_append, hkeys, take_more hs]
          rfl
        · intro p hp
          rcases List.mem_append.mp hp with h | h
          · exact hchs' p h
          · rw [List.mem_singleton.mp h]
            exact hch'
    · rintro σ H' ⟨G', ws, es, kcs, chs, v5, v6, rfl, ne', ex, w', sG, hc', hk', hkeys, hch, hes, hel, rfl⟩
      rw [paired_len hp9] at hkeys hel
      refine q _ ⟨ord, k.wd.counters, es, chs⟩ (sG.trans (same_new ne')) ?_ ⟨hord.symm, rfl, by rw [hkeys, List.take_length], hch, by show es.length ≤ 1000; omega⟩
      have ex2 : Ex G9 (upd G' ed (.lst ws)) := ex.trans (.of (same_new ne'))
      refine ⟨a, dx, D, lt, ed, ch, kcs, rfl, ex2.o a9, ⟨D, ozs, rfl, ex2.o hD9, paired_monoE ex2 hp9⟩, monoE t9 ex2, ⟨ed, ws, rfl, upd_same, paired_mono (same_new ne') hes⟩, ?_, pt_mono (.of (same_new ne')) hk'⟩
      rw [upd_ne (ne_of_none hc' ne')]
      exact hc'
/-! ### solving -/
def gtT {α : Type} (l : List (List Str × α)) (s : List Str) : Option α := (l.find? fun p => decide (p.1 = s)).map (·.2)
theorem ptT_some {α : Type} {F : V → α → Prop} {s : List Str} {x : α} : ∀ {kvs : List (List Key × V)} {l : List (List Str × α)}, PT F kvs l → gtT l s = some x → ∃ v, valV kvs (keyS s) = some v ∧ F v x
  | _, _, .nil, e => by cases e
  | _, _, .cons (a := p) (b := q) h t, e => by
    by_cases z : q.1 = s
    · refine ⟨p.2, valV_pos (h.1.trans (congrArg _ z)), ?_⟩
      unfold gtT at e
      rw [List.find?_cons_of_pos (by simpa using z)] at e
      rw [← (Option.some.inj e : q.2 = x)]
      exact h.2
    · have z' : ¬ p.1 = keyS s := fun w => z (keyS_inj (h.1.symm.trans w))
      rw [valV_neg z']
      unfold gtT at e
      rw [List.find?_cons_of_neg (by simpa using z)] at e
      exact ptT_some t e
theorem gtT_mem {α : Type} {l : List (List Str × α)} {s : List Str} (h : s ∈ l.map (·.1)) : ∃ x, gtT l s = some x ∧ (s, x) ∈ l := by
  induction l with
  | nil => cases h
  | cons p r ih =>
    by_cases z : p.1 = s
    · refine ⟨p.2, ?_, ?_⟩
      · unfold gtT
        rw [List.find?_cons_of_pos (by simpa using z)]
        rfl
      · rw [← z]
        exact List.mem_cons_self
    · rw [List.map_cons] at h
      obtain ⟨x, h1, h2⟩ := ih ((List.mem_cons.mp h).resolve_left fun w => z w.symm)
      refine ⟨x, ?_, List.mem_cons_of_mem _ h2⟩
      unfold gtT at h1 ⊢
      rw [List.find?_cons_of_neg (by simpa using z)]
      exact h1
structure GmWf (g : Gm) : Prop where
  keys : g.choices.map (·.1) = g.order
  idx : ∀ p ∈ g.choices, ∀ q ∈ p.2, ∀ k ∈ q.2, k < g.edges.length
  few : ∀ p ∈ g.choices, ∀ q ∈ p.2, q.2.length ≤ 1000
  nd : g.order.Nodup
  len : g.order.length ≤ 8
  small : g.edges.length ≤ 1000
/-- a dict whose keys are states, its values texts -/
def rTab : Rep (List (List Str)) := fun H v ks => ∃ d kvs, v = .ref d ∧ Rd H d (.dT kvs) ∧ kvs.map (·.1) = ks.map keyS
theorem val_keys {kvs : List (List Key × V)} {ks : List (List Str)} (h : kvs.map (·.1) = ks.map keyS) (s : List Str) : (valV kvs (keyS s)).isSome = decide (s ∈ ks) := by
  rw [← valV_any]
  have e : (kvs.any fun kv => decide (kv.1 = keyS s)) = ((kvs.map (·.1)).any fun k => decide (k = keyS s)) := by
    rw [List.any_map]
    rfl
  rw [e, h, List.any_map]
  induction ks generalizing kvs with
  | nil => simp
  | cons x r ih =>
    rw [List.any_cons]
    have ih' : (r.any ((fun k => decide (k = keyS s)) ∘ keyS)) = decide (s ∈ r) := by
      clear h e ih
      induction r with
      | nil => simp
      | cons y t iht =>
        rw [List.any_cons, iht]
        by_cases z : y = s
        · subst z
          simp
        · have z' : ¬ keyS y = keyS s := fun w => z (keyS_inj w)
          have z2 : ¬ s = y := fun w => z w.symm
          simp [z', z2]
    rw [ih']
    by_cases z : x = s
    · subst z
      simp
    · have z' : ¬ keyS x = keyS s := fun w => z (keyS_inj w)
      have z2 : ¬ s = x := fun w => z w.symm
      simp [z', z2]
def tgtIn (ks : List (List Str)) (e : Edge) : Bool := match e.tgt with
  | some s => decide (s ∈ ks)
  | none => false
def okAt (g : Gm) (good bad : List Bool) (ks : List (List Str)) (k : Nat) : Bool := good.getD k false || (!bad.getD k false && ((g.edges[k]?).map (tgtIn ks)).getD false)
def chOf (g : Gm) (s : List Str) : List (Str × List Nat) := (gtT g.choices s).getD []
def forced (g : Gm) (good bad : List Bool) (ks : List (List Str)) (s : List Str) : Bool := (chOf g s).any fun q => q.2.all (okAt g good bad ks)
theorem all_filter (f : Nat → Bool) : ∀ ids : List Nat, ids.all f = decide ((ids.filter fun k => !f k).length = 0)
  | [] => rfl
  | k :: r => by
    rw [List.all_cons, List.filter_cons, all_filter f r]
    cases hf : f k <;> simp
/-- what the solver leans on -/
structure Sol (c : Cs) (H : Hp) (xg xo xb : V) (g : Gm) (good bad : List Bool) : Prop where
  game : rGame c H xg g
  wf : GmWf g
  go : rLst rBool H xo good
  ba : rLst rBool H xb bad
  lg : good.length = g.edges.length
  lb : bad.length = g.edges.length
  ng : ∀ (k : Nat) (e : Edge), g.edges[k]? = some e → e.tgt = none → good[k]? = some true
theorem Sol.same {c : Cs} {H H' : Hp} {xg xo xb : V} {g : Gm} {good bad : List Bool} (h : Sol c H xg xo xb g good bad) (e : Same H H') : Sol c H' xg xo xb g good bad := ⟨rGame_same h.game e, h.wf, mono h.go e, mono h.ba e, h.lg, h.lb, h.ng⟩
def spForced (c : Cs) : Sp := fun vs H Q _ => ∃ xg xo xb xt xs g good bad ks s, vs = [xg, xo, xb, xt, xs] ∧ Sol c H xg xo xb g good bad ∧ rTab H xt ks ∧ rTupS H xs s ∧ s ∈ g.order ∧ ∀ H', Same H H' → (forced g good bad ks s = true → ∀ n : Str, Q (.str n) H') ∧ (forced g good bad ks s = false → Q .non H')
theorem c_forced_action (T : Txt K mg c) : Cal P w K mg base 1 "forced_action" (spForced c) [] := by
    refine cal_of T.d_forced_action sc_forced_action (by walk_at "len") (fun f cdv A outer sh H vs Q E hr h => ?_)
    have nd := sc_forced_action.nd
    obtain ⟨_, _, _, _, _, g, good, bad, ks, s, rfl, hS, ⟨dt, kts, rfl, hdt, hkt⟩, ⟨xa, rfl, hxa⟩, hs, q⟩ := h
    refine ⟨_, (pss_cons (ps_for PassesOwn.never rfl (pi_listK K rfl (pe_dget (by exact hu_of hr) (pe_fldK K rfl (pv 0) rfl) (pv 4) (fun _ _ => rfl))) (pg_tupK K rfl rfl (pgs_cons (pg_name (i := 5) nd rfl (.inl rfl)) (pgs_cons (pg_name (i := 6) nd rfl (.inl rfl)) pgs_nil))) (pss_cons (ps_setLc (i := 7) (own := [("at", 8)]) (g := gName 8) (by rfl) nd rfl rfl (sw_true rfl rfl rfl (by decide +kernel)) (pi_listK K rfl (pv 6)) (blkOk_by (own := [("at", 8)]) (N := N_forced_action) (sc := fnScope s_forced_action) (by decide +kernel)) (fun _ _ _ _ _ => (pg_name (i := 8) nd rfl (.inl rfl))) (fun _ _ _ _ _ => pts_one (pt_hide (PW.pt (pw_and (pt_not (pt_val (pe_ix (kIxL K rfl) (pv 1) (pv 8) (fun _ _ => rfl)))) (pw_and1 (PW.pt (pw_or (pt_val (pe_ix (kIxL K rfl) (pv 2) (pv 8) (fun _ _ => rfl))) (pw_or1 (pt_cmp (pc_dnotin (by exact hu_of hr) (pe_ix (kIxT K rfl) (pe_ix (kIxL K rfl) (pe_fldK K rfl (pv 0) rfl) (pv 8) (fun _ _ => rfl)) pe_int (fun _ _ => rfl)) (pv 3))))))))))) (fun _ _ _ _ _ => pe_hide (pv 8)))
        (pss_one (ps_if (pt_cmpR op_eq (pe_callB (kLen K rfl) (by rfl) T.g_len PySem.boot_len (pa_cons (pv 7) pa_nil)) pe_int (nomark _)) (pss_one (ps_ret (pv 5))) pss_nil))))
        (pss_one (ps_ret pe_non))), ?_⟩
    obtain ⟨⟨a, dx, o, t, ed, ch, kcs, rfl, ha, ho, ht, ⟨_, ews, hq, hed, hep⟩, hch, hkc⟩, wf, ⟨go, gvs, rfl, hgo, hgp⟩, ⟨ba, bvs, rfl, hba, hbp⟩, lg, lb, ng⟩ := id hS
    cases hq
    obtain ⟨cs, hcs, hcm⟩ := gtT_mem (by rw [wf.keys]; exact hs)
    obtain ⟨vc, hvc, ⟨cl, cvs, rfl, hcl, hcp⟩⟩ := ptT_some hkc hcs
    have hchO : chOf g s = cs := by
      unfold chOf
      rw [hcs]
      rfl
    walk_at "rd"
    refine ⟨a, _, _, _, _, rfl, ha, T.cG, T.nG_choices, fG_choices, ?_⟩
    walk_at "rd"
    refine ⟨ch, _, rfl, .inr ⟨kcs, keyS s, xa, .inl hch, rfl, by rw [keyS_kV]; exact hxa, hvc.symm⟩, cl, rfl, ⟨_, SqL.of hcl⟩, ?_⟩
    refine for_w (walk_list (xs := cvs)) (fun i σ H' => ∃ v5 v6 v7 v8, Same H H' ∧ ((cs.take i).any fun q => q.2.all (okAt g good bad ks)) = false ∧ σ = [some (.ref a), some (.ref go), some (.ref ba), some (.ref dt), some (.ref xa), v5, v6, v7, v8]) ⟨_, _, _, _, Same.refl _, rfl, rfl⟩ (fun i σ H' _ ⟨_, _, _, _, e, _⟩ => SqL.of (e _ _ hcl)) ?_ ?_
    · rintro i x σ H1 H2 hi ⟨v5, v6, v7, v8, e1, hany, rfl⟩ ⟨rfl, hx⟩
      obtain ⟨q', hq', ⟨px, xn, xl, rfl, hpx, rn, rl⟩⟩ := paired_get hcp hx
      obtain ⟨n, ids⟩ := q'
      obtain rfl : xn = .str n := rn
      obtain ⟨l, ivs, rfl, hl, hip⟩ := mono rl e1
      have hqm : (n, ids) ∈ cs := List.mem_of_getElem? hq'
      have hidx : ∀ k ∈ ids, k < g.edges.length := wf.idx _ hcm _ hqm
      have hfew : ids.length ≤ 1000 := wf.few _ hcm _ hqm
      refine ⟨px, _, rfl, SqT.of (e1 _ _ hpx), rfl, _, _, rfl, _, _, rfl, rfl, ?_⟩
      walk_at "rd"
      refine ⟨_, rfl, l, rfl, ⟨_, SqL.of hl⟩, fun D nD => ?_⟩
      refine lc_w (walk_list (xs := ivs)) rIdx rIdx (ys := ids) (fun k => !okAt g good bad ks k) id (paired_len hip) (fun H' s => SqL.of (s _ _ hl)) (yat_of rIdx hip) (by omega) nD (fun x => rfl) (fun x k G sm hx hm Q hQ => ?_) (fun x k G sm hx hm hk Q hQ => ?_) (fun H3 zs sm hz hp => ?_)
      · obtain rfl : x = .int (k : Int) := hx
        have e2 := e1.trans sm
        have hkl := hidx k hm
        have hg1 : good[k]? = some (good[k]'(by omega)) := List.getElem?_eq_getElem (by omega)
        have hb1 : bad[k]? = some (bad[k]'(by omega)) := List.getElem?_eq_getElem (by omega)
        have he1 : g.edges[k]? = some (g.edges[k]'hkl) := List.getElem?_eq_getElem hkl
        obtain ⟨vg, hvg, rg⟩ := paired_at hgp hg1
        obtain ⟨vb, hvb, rb⟩ := paired_at hbp hb1
        obtain ⟨ve, hve, pe, pt, pk, pd, pi, pg', rfl, hpe, rt, _⟩ := paired_at hep he1
        obtain rfl : vg = .bl _ := rg
        obtain rfl : vb = .bl _ := rb
        have hok : okAt g good bad ks k = (good[k]'(by omega) || (!bad[k]'(by omega) && tgtIn ks (g.edges[k]'hkl))) := by
          unfold okAt
          simp only [List.getD_eq_getElem?_getD, hg1, hb1, he1, Option.getD_some, Option.map_some]
        rw [hok] at hQ
        walk_at "rd"
        refine i_ixL (SqL.of (e2 _ _ hgo)) hvg ⟨_, rfl, ?_⟩
        cases hgk : good[k]'(by omega) with
        | true =>
          rw [hgk] at hQ
          walk_at "rd"
          exact hQ _ (Same.refl _)
        | false =>
          rw [hgk] at hQ
          walk_at "rd"
          refine i_ixL (SqL.of (e2 _ _ hba)) hvb ⟨_, rfl, ?_⟩
          cases hbk : bad[k]'(by omega) with
          | true =>
            rw [hbk] at hQ
            walk_at "rd"
            exact hQ _ (Same.refl _)
          | false =>
            rw [hbk] at hQ
            walk_at "rd"
            refine ⟨a, _, _, _, _, rfl, e2 _ _ ha, T.cG, T.nG_edges, fG_edges, ?_⟩
            walk_at "rd"
            refine i_ixL (SqL.of (e2 _ _ hed)) hve ?_
            have hpeG := SqT.of (K := K) (e2 _ _ hpe)
            walk_at "rd"
            cases htg : (g.edges[k]'hkl).tgt with
            | none =>
              have := ng k _ he1 htg
              rw [hg1, hgk] at this
              cases this
            | some u =>
              rw [htg] at rt
              obtain ⟨bu, rfl, hbu⟩ := rt
              refine ⟨dt, _, rfl, .inr ⟨kts, keyS u, bu, (hdt.elim (fun h => .inl (e2 _ _ h)) fun ⟨ob, h⟩ => .inr ⟨ob, e2 _ _ h⟩), rfl, by rw [keyS_kV]; exact e2 _ _ hbu, rfl⟩, ?_⟩
              rw [val_keys hkt]
              refine ⟨_, rfl, ?_⟩
              have : tgtIn ks (g.edges[k]'hkl) = decide (u ∈ ks) := by
                unfold tgtIn
                rw [htg]
              rw [this] at hQ
              simpa using hQ _ (Same.refl _)
      · walk_at "rd"
        exact hQ _ _ (Same.refl _) hx
      · rw [List.map_id] at hp
        have hlz := paired_len hp
        walk_at "rd"
        refine ⟨D, zs, rfl, .inl (SqL.of hz), ?_⟩
        walk_at "rd"
        have hall : ids.all (okAt g good bad ks) = decide ((ids.filter fun k => !okAt g good bad ks k).length = 0) := by
          exact all_filter _ _
        cases hc : ids.all (okAt g good bad ks) with
        | true =>
          rw [hc] at hall
          have h0 := of_decide_eq_true hall.symm
          refine ifT (decide_eq_true (by rw [hlz, h0]; rfl)) ?_
          walk_at "rd"
          refine (q _ (e1.trans sm)).1 ?_ n
          unfold forced
          rw [hchO, List.any_eq_true]
          exact ⟨_, hqm, hc⟩
        | false =>
          rw [hc] at hall
          have h0 := of_decide_eq_false hall.symm
          refine ifF (decide_eq_false fun z => h0 (by
            have := V.int.inj z
            omega)) ?_
          walk_at "rd"
          refine ⟨_, _, _, _, e1.trans sm, ?_, rfl⟩
          rw [take_more hq', List.any_append, hany]
          show (ids.all (okAt g good bad ks) || false) = false
          rw [hc]
          rfl
    · rintro σ H1 ⟨v5, v6, v7, v8, e1, hany, rfl⟩
      walk_at "rd"
      refine (q _ e1).2 ?_
      unfold forced
      rw [hchO]
      rwa [paired_len hcp, List.take_length] at hany
theorem nodup_le {α : Type} [DecidableEq α] : ∀ (l D : List α), l.Nodup → (∀ x ∈ l, x ∈ D) → l.length ≤ D.length
  | [], _, _, _ => Nat.zero_le _
  | x :: r, D, d, h => by
    obtain ⟨d1, d2⟩ := List.nodup_cons.mp d
    have hx := h x List.mem_cons_self
    have ih := nodup_le r (D.erase x) d2 fun y hy => (List.mem_erase_of_ne (fun z => d1 (by rw [← z]; exact hy))).mpr (h y (List.mem_cons_of_mem _ hy))
    rw [List.length_erase_of_mem hx] at ih
    have := List.length_pos_of_mem hx
    rw [List.length_cons]
    omega
theorem i_while {c : TT} {tb : TS} {nx bk ct : L2.St → Hp → Prop} {rt : VK} {σ : L2.St} {H : Hp} (q : ∃ W : Nat → L2.St → Hp → Prop, (∃ m, W m σ H) ∧ ∀ m σ H, W m σ H → c σ H fun b H1 => if b = true then ∃ N : L2.St → Hp → Prop, (∀ σ' H', N σ' H' → ∃ m', m' < m ∧ W m' σ' H') ∧ tb ⟨N, rt, nx, N⟩ σ H1 else nx σ H1) : tWhile c tb ⟨nx, rt, bk, ct⟩ σ H := q
/-- the table's keys, its values texts; the table apart -/
def closedT (g : Gm) (good bad : List Bool) (ks : List (List Str)) : Prop := ∀ s ∈ g.order, s ∉ ks → forced g good bad ks s = false
/-- what closing gives: closed, and no more than what is closed -/
structure Closed (g : Gm) (good bad : List Bool) (ks ks' : List (List Str)) : Prop where
  nd : ks'.Nodup
  sub : ∀ s ∈ ks', s ∈ ks ∨ s ∈ g.order
  inc : ∀ s ∈ ks, s ∈ ks'
  cl : closedT g good bad ks'
  least : ∀ P : List Str → Prop, (∀ s ∈ ks, P s) → (∀ us, (∀ s ∈ us, P s) → ∀ s ∈ g.order, forced g good bad us s = true → P s) → ∀ s ∈ ks', P s
def spClose (c : Cs) : Sp := fun vs H Q _ => ∃ xg xo xb dt kts g good bad ks G, vs = [xg, xo, xb, .ref dt] ∧ H = upd G dt (.dT kts) ∧ G dt = none ∧ Sol c G xg xo xb g good bad ∧ kts.map (·.1) = ks.map keyS ∧ ks.Nodup ∧ (∀ s ∈ ks, s ∈ g.order) ∧
  ∀ G2 kts' ks', Same G G2 → G2 dt = none → kts'.map (·.1) = ks'.map keyS → Closed g good bad ks ks' → Q .non (upd G2 dt (.dT kts'))
theorem c_close_table (T : Txt K mg c) : Cal P w K mg base 2 "close_table" (spClose c) [] := by
    refine cal_of T.d_close_table sc_close_table (by walk_at "len") (fun f cdv A outer sh H vs Q E hr h => ?_)
    have nd := sc_close_table.nd
    obtain ⟨_, xo, xb, dt, kts, g, good, bad, ks, G, rfl, rfl, ndt, hS, hkt, hnd, hin, q⟩ := h
    refine ⟨_, (pss_cons (ps_set (i := 4) nd rfl (.inl rfl) pe_bl)
        (pss_one (ps_while PassesOwn.never (pt_val (pv 4)) (pss_cons (ps_set (i := 4) nd rfl (.inl rfl) pe_bl)
        (pss_one (ps_for PassesOwn.never rfl (pi_listK K rfl (pe_fldK K rfl (pv 0) rfl)) (pg_name (i := 5) nd rfl (.inl rfl)) (pss_one (ps_if (pt_cmp (pc_dnotin (by exact hu_of hr) (pv 5) (pv 3))) (pss_cons (ps_set (i := 6) nd rfl (.inl rfl) (C8.pe_c (c_forced_action T) hr (by first | decide | exact Nat.le_refl _ | omega) rfl (pa_cons (pv 0) (pa_cons (pv 1) (pa_cons (pv 2) (pa_cons (pv 3) (pa_cons (pv 5) pa_nil)))))))
        (pss_one (ps_if (pt_cmpR op_notN (pv 6) pe_non (nomark _)) (pss_cons (ps_dput (by exact hu_of hr) (pv 3) (pv 5) (pv 6) rfl)
        (pss_one (ps_set (i := 4) nd rfl (.inl rfl) pe_bl))) pss_nil))) pss_nil)))))))), ?_⟩
    obtain ⟨⟨a, dx, o, t, ed, ch, kcs, rfl, ha, ⟨_, ovs, hqo, ho, hop⟩, _⟩, wf, _⟩ := id hS
    cases hqo
    walk_at "rd"
    refine i_while ⟨fun m σ H' => ∃ G' kts' ks' b v5 v6, H' = upd G' dt (.dT kts') ∧ Same G G' ∧ G' dt = none ∧ kts'.map (·.1) = ks'.map keyS ∧ ks'.Nodup ∧ (∀ s ∈ ks', s ∈ g.order) ∧ (∀ s ∈ ks, s ∈ ks') ∧ (∀ P : List Str → Prop, (∀ s ∈ ks, P s) → (∀ us, (∀ s ∈ us, P s) → ∀ s ∈ g.order, forced g good bad us s = true → P s) → ∀ s ∈ ks', P s) ∧ (b = false → closedT g good bad ks') ∧ σ = [some (.ref a), some xo, some xb, some (.ref dt), some (.bl b), v5, v6] ∧ m = 2 * (g.order.length - ks'.length) + (if b = true then 1 else 0), ⟨_, G, kts, ks, true, none, none, rfl, Same.refl _, ndt, hkt, hnd, hin, fun s h => h, (fun P h _ => h), (fun z => by cases z), rfl, rfl⟩, ?_⟩
    rintro m σ H' ⟨G1, kts1, ks1, b, v5, v6, rfl, e1, nd1, hk1, hn1, hin1, hinc1, hl1, hc1, rfl, rfl⟩
    walk_at "rd"
    cases b with
    | false =>
      walk_at "rd"
      exact q G1 kts1 ks1 e1 nd1 hk1 ⟨hn1, fun s h => .inr (hin1 s h), hinc1, hc1 rfl, hl1⟩
    | true =>
      refine i_if1 ⟨fun σ' H' => ∃ G' kts' ks' b v5 v6, H' = upd G' dt (.dT kts') ∧ Same G G' ∧ G' dt = none ∧ kts'.map (·.1) = ks'.map keyS ∧ ks'.Nodup ∧ (∀ s ∈ ks', s ∈ g.order) ∧ (∀ s ∈ ks, s ∈ ks') ∧ (∀ P : List Str → Prop, (∀ s ∈ ks, P s) → (∀ us, (∀ s ∈ us, P s) → ∀ s ∈ g.order, forced g good bad us s = true → P s) → ∀ s ∈ ks', P s) ∧ (b = false → closedT g good bad ks' ∧ ks'.length = ks1.length) ∧ (b = true → ks1.length < ks'.length) ∧ σ' = [some (.ref a), some xo, some xb, some (.ref dt), some (.bl b), v5, v6], ?_, ?_⟩
      · rintro σ' H' ⟨G', kts', ks', b, w5, w6, rfl, e', nd', hk', hn', hin', hinc', hl', hf', ht', rfl⟩
        have hle := nodup_le ks' g.order hn' hin'
        refine ⟨_, ?_, G', kts', ks', b, w5, w6, rfl, e', nd', hk', hn', hin', hinc', hl', fun z => (hf' z).1, rfl, rfl⟩
        cases b with
        | false =>
          have := (hf' rfl).2
          simp
          omega
        | true =>
          have := ht' rfl
          simp
          omega
      · have a1 := e1 _ _ ha
        have nad : a ≠ dt := ne_of_none a1 nd1
        have o1 := e1 _ _ ho
        have nod : o ≠ dt := ne_of_none o1 nd1
        walk_at "rd"
        refine ⟨a, _, _, _, _, rfl, by rw [upd_ne nad]; exact a1, T.cG, T.nG_order, fG_order, o, rfl, ⟨ovs, SqL.of (by rw [upd_ne nod]; exact o1)⟩, ?_⟩
        refine for_w (walk_list (xs := ovs)) (fun i σ' H' => ∃ G' kts' ks' b v5 v6, H' = upd G' dt (.dT kts') ∧ Same G G' ∧ G' dt = none ∧ kts'.map (·.1) = ks'.map keyS ∧ ks'.Nodup ∧ (∀ s ∈ ks', s ∈ g.order) ∧ (∀ s ∈ ks, s ∈ ks') ∧ (∀ P : List Str → Prop, (∀ s ∈ ks, P s) → (∀ us, (∀ s ∈ us, P s) → ∀ s ∈ g.order, forced g good bad us s = true → P s) → ∀ s ∈ ks', P s) ∧ (b = false → (∀ s ∈ g.order.take i, s ∉ ks' → forced g good bad ks' s = false) ∧ ks' = ks1) ∧ (b = true → ks1.length < ks'.length) ∧ σ' = [some (.ref a), some xo, some xb, some (.ref dt), some (.bl b), v5, v6]) ?_ ?_ ?_ ?_
        · exact ⟨G1, kts1, ks1, false, _, _, rfl, e1, nd1, hk1, hn1, hin1, hinc1, hl1, (fun _ => ⟨by simp, rfl⟩), (fun z => by cases z), rfl⟩
        · rintro i σ H' _ ⟨G', kts', ks', b, v5, v6, rfl, e', nd', _⟩
          exact SqL.of (by rw [upd_ne nod]; exact e' _ _ ho)
        · rintro i x σ H' H2' hi ⟨G', kts', ks', b, w5, w6, hH, e', nd', hk', hn', hin', hinc', hl', hf', ht', rfl⟩ ⟨rfl, hx⟩
          subst hH
          obtain ⟨s, hs, rx⟩ := paired_get hop hx
          obtain ⟨xa, rfl, hxa⟩ := mono rx e'
          have hso : s ∈ g.order := List.mem_of_getElem? hs
          have nxd : xa ≠ dt := ne_of_none hxa nd'
          have hxa' : upd G' dt (.dT kts') xa = some (.tup (s.map V.str)) := by rw [upd_ne nxd]; exact hxa
          walk_at "rd"
          refine ⟨dt, _, rfl, .inr ⟨kts', keyS s, xa, .inl upd_same, rfl, by rw [keyS_kV]; exact hxa', rfl⟩, ?_⟩
          rw [val_keys hk']
          refine ⟨_, rfl, ?_⟩
          by_cases hsk : s ∈ ks'
          · rw [decide_eq_true hsk]
            walk_at "rd"
            refine ⟨G', kts', ks', b, _, _, rfl, e', nd', hk', hn', hin', hinc', hl', fun z => ⟨?_, (hf' z).2⟩, ht', rfl⟩
            intro u hu hun
            rw [take_more hs] at hu
            rcases List.mem_append.mp hu with h | h
            · exact (hf' z).1 u h hun
            · rw [List.mem_singleton.mp h] at hun
              exact absurd hsk hun
          · rw [decide_eq_false hsk]
            walk_at "rd"
            have hS' := (hS.same e').same (same_new (o := .dT kts') nd')
            refine ⟨_, xo, xb, _, _, g, good, bad, ks', s, rfl, hS', ⟨dt, kts', rfl, .inl upd_same, hk'⟩, ⟨xa, rfl, hxa'⟩, hso, fun H3 e3 => ⟨fun hfo n => ?_, fun hfo => ?_⟩⟩
            · have hd3 := e3 _ _ (show upd G' dt (.dT kts') dt = some (.dT kts') from upd_same)
              have g3 : Same G' (off H3 dt) := same_off nd' e3
              have hx3 := e3 _ _ hxa'
              walk_at "rd"
              refine ⟨rfl, ⟨_, rfl, ifT (by simp) ?_⟩⟩
              walk_at "rd"
              have hle := nodup_le ks' g.order hn' hin'
              have hkl : kts'.length = ks'.length := by
                have := congrArg List.length hk'
                simpa using this
              have wl := wf.len
              have hvn : valV kts' (keyS s) = none := by
                have := val_keys hk' s
                rw [decide_eq_false hsk] at this
                cases hv : valV kts' (keyS s) with
                | none => rfl
                | some v => rw [hv] at this; cases this
              refine ⟨dt, _, rfl, .inr ⟨kts', keyS s, xa, hd3, rfl, by rw [keyS_kV]; exact hx3, big5' (by omega), rfl⟩, ?_⟩
              rw [putK_new hvn, ← upd_off]
              walk_at "rd"
              refine ⟨off H3 dt, _, ks' ++ [s], true, _, _, rfl, e'.trans g3, off_at, by rw [List.map_append, List.map_append, hk']; rfl, ?_, ?_, ?_, ?_, (fun z => by cases z), fun _ => ?_, rfl⟩
              · exact List.nodup_append.mpr ⟨hn', List.nodup_cons.mpr ⟨List.not_mem_nil, List.nodup_nil⟩, fun u hu v hv e => hsk (by rw [← List.mem_singleton.mp hv, ← e]; exact hu)⟩
              · intro u hu
                rcases List.mem_append.mp hu with h | h
                · exact hin' u h
                · rw [List.mem_singleton.mp h]; exact hso
              · exact fun u hu => List.mem_append_left _ (hinc' u hu)
              · intro P h1 h2 u hu
                rcases List.mem_append.mp hu with h | h
                · exact hl' P h1 h2 u h
                · rw [List.mem_singleton.mp h]
                  exact h2 ks' (hl' P h1 h2) s hso hfo
              · rw [List.length_append]
                show ks1.length < ks'.length + 1
                cases b with
                | true => have := ht' rfl; omega
                | false => rw [(hf' rfl).2]; omega
            · have hd3 := e3 _ _ (show upd G' dt (.dT kts') dt = some (.dT kts') from upd_same)
              have g3 : Same G' (off H3 dt) := same_off nd' e3
              walk_at "rd"
              refine ⟨rfl, ?_⟩
              walk_at "rd"
              refine ⟨off H3 dt, kts', ks', b, _, _, off_self hd3, e'.trans g3, off_at, hk', hn', hin', hinc', hl', fun z => ⟨?_, (hf' z).2⟩, ht', rfl⟩
              intro u hu hun
              rw [take_more hs] at hu
              rcases List.mem_append.mp hu with h | h
              · exact (hf' z).1 u h hun
              · rw [List.mem_singleton.mp h]
                exact hfo
        · rintro σ' H' ⟨G', kts', ks', b, w5, w6, rfl, e', nd', hk', hn', hin', hinc', hl', hf', ht', rfl⟩
          rw [paired_len hop, List.take_length] at hf'
          exact ⟨G', kts', ks', b, w5, w6, rfl, e', nd', hk', hn', hin', hinc', hl', fun z => ⟨(hf' z).1, by rw [(hf' z).2]⟩, ht', rfl⟩
theorem cal_no {x : Str} {st : Stmt} {ps N : List Str} {k : Nat} (t : DefT K mg x st ps) (S : FnScope N ps (fnScope st)) : Cal P w K mg base (k + 1) x (fun _ _ _ _ => False) [] :=
  cal_of t S (fun _ _ _ _ h => h.elim) fun _ _ _ _ _ _ _ _ _ _ h => h.elim
/-- a table and what is returned with it -/
def rWon (H : Hp) (v : V) (ks : List (List Str)) : Prop := ∃ p dt xo xb xr kts, v = .ref p ∧ H p = some (.tup [.ref dt, xo, xb, xr]) ∧ H dt = some (.dT kts) ∧ kts.map (·.1) = ks.map keyS
def spWon0 (c : Cs) : Sp := fun vs H Q _ => ∃ xg xo xb xc g good bad, vs = [xg, xo, xb, xc] ∧ Sol c H xg xo xb g good bad ∧ rLstS H xc [] ∧ ∀ v H' ks, Same H H' → rWon H' v ks → Closed g good bad [] ks → Q v H'
theorem c_won_by0 (T : Txt K mg c) : Cal P w K mg base 3 "won_by" (spWon0 c) [] := by
    refine cal_of T.d_won_by sc_won_by (by walk_at "len") (fun f cdv A outer sh H vs Q E hr h => ?_)
    have nd := sc_won_by.nd
    obtain ⟨xg, xo, xb, _, g, good, bad, rfl, hS, ⟨xc, rfl, hxc⟩, q⟩ := h
    refine ⟨_, (pss_cons (ps_set (i := 4) nd rfl (.inr rfl) pe_dnewT)
        (pss_cons (ps_set (i := 5) nd rfl (.inl rfl) pe_dnewK)
        (pss_cons (ps_set (i := 6) nd rfl (.inl rfl) pe_bl)
        (pss_cons (ps_while PassesOwn.never (pt_val (pv 6)) (pss_cons (ps_expr (C8.pe_c (c_close_table T) hr (by first | decide | exact Nat.le_refl _ | omega) rfl (pa_cons (pv 0) (pa_cons (pv 1) (pa_cons (pv 2) (pa_cons (pv 4) pa_nil))))))
        (pss_cons (ps_set (i := 6) nd rfl (.inl rfl) pe_bl)
        (pss_cons (ps_set (i := 5) nd rfl (.inl rfl) pe_dnewK)
        (pss_one (ps_for PassesOwn.never rfl (pi_listK K rfl (pv 3)) (pg_name (i := 7) nd rfl (.inl rfl)) (pss_cons (ps_set (i := 8) nd rfl (.inl rfl) (C8.pe_c (cal_no (k := 0) T.d_falling_of sc_falling_of) hr (by first | decide | exact Nat.le_refl _ | omega) rfl (pa_cons (pv 0) (pa_cons (pv 1) (pa_cons (pv 2) (pa_cons (pv 3) (pa_cons (pv 7) (pa_cons (pv 4) pa_nil))))))))
        (pss_cons (ps_dput (by exact hu_of hr) (pv 5) (pv 7) (pv 8) rfl)
        (pss_cons (ps_lock (ps_setLc (i := 10) (own := [("state", 9)]) (g := gName 9) (by rfl) nd rfl rfl (sw_true rfl rfl rfl (by decide +kernel)) (pi_keys (pe_ix (kIxT K rfl) (pe_ix (kIxL K rfl) (pv 8) (pe_un un_neg pe_int) (fun _ _ => rfl)) pe_int (fun _ _ => rfl))) (blkOk_by (own := [("state", 9)]) (N := N_won_by) (sc := fnScope s_won_by) (by decide +kernel)) (fun _ _ _ _ _ => (pg_name (i := 9) nd rfl (.inl rfl))) (fun _ _ _ _ _ => pts_one (pt_hide (pt_cmp (pc_dnotin (by exact hu_of hr) (pv 9) (pv 4))))) (fun _ _ _ _ _ => pe_hide (pv 9))))
        (pss_one (ps_if (pt_cmpR op_gt (pe_callB (kLen K rfl) (by rfl) T.g_len PySem.boot_len (pa_cons (pv 10) pa_nil)) pe_int (nomark _)) (pss_cons (ps_for PassesOwn.never rfl (pi_listK K rfl (pv 10)) (pg_name (i := 9) nd rfl (.inl rfl)) (pss_one (ps_dput (by exact hu_of hr) (pv 4) (pv 9) (pe_dget (by exact hu_of hr) (pe_ix (kIxT K rfl) (pe_ix (kIxL K rfl) (pv 8) (pe_un un_neg pe_int) (fun _ _ => rfl)) pe_int (fun _ _ => rfl)) (pv 9) (fun _ _ => rfl)) rfl)))
        (pss_cons (ps_set (i := 6) nd rfl (.inl rfl) pe_bl)
        (pss_one ps_break))) pss_nil)))))))))))
        (pss_one (ps_ret (pe_tup (pa_cons (pv 4) (pa_cons (pv 1) (pa_cons (pv 2) (pa_cons (pv 5) pa_nil))))))))))), ?_⟩
    walk_at "rd"
    intro dt ndt
    walk_at "rd"
    intro r0 nr0
    walk_at "rd"
    obtain ⟨nr0H, nrd⟩ := none_of_upd nr0
    refine i_while ⟨fun m σ H' => ∃ G' kts' ks' b xr v7 v8 v9 v10, H' = upd G' dt (.dT kts') ∧ Same H G' ∧ G' dt = none ∧ kts'.map (·.1) = ks'.map keyS ∧ ((b = true ∧ ks' = []) ∨ (b = false ∧ Closed g good bad [] ks')) ∧ σ = [some xg, some xo, some xb, some (.ref xc), some (.ref dt), some xr, some (.bl b), v7, v8, v9, v10] ∧ m = if b = true then 1 else 0, ?_, ?_⟩
    · exact ⟨_, upd H r0 (.dK []), [], [], true, _, _, _, _, _, by rw [upd_swap' nrd], same_new nr0H, by rw [upd_ne (Ne.symm nrd)]; exact ndt, rfl, .inl ⟨rfl, rfl⟩, rfl, rfl⟩
    · rintro m σ H' ⟨G1, kts1, ks1, b, xr, v7, v8, v9, v10, rfl, e1, nd1, hk1, hb, rfl, rfl⟩
      walk_at "rd"
      rcases hb with ⟨rfl, rfl⟩ | ⟨rfl, hcl⟩
      · refine i_if1 ⟨fun σ' H' => ∃ G' kts' ks' xr v7 v8 v9 v10, H' = upd G' dt (.dT kts') ∧ Same H G' ∧ G' dt = none ∧ kts'.map (·.1) = ks'.map keyS ∧ Closed g good bad [] ks' ∧ σ' = [some xg, some xo, some xb, some (.ref xc), some (.ref dt), some xr, some (.bl false), v7, v8, v9, v10], ?_, ?_⟩
        · rintro σ' H' ⟨G', kts', ks', xr, v7, v8, v9, v10, rfl, e', nd', hk', hcl, rfl⟩
          exact ⟨0, by decide, G', kts', ks', false, _, _, _, _, _, rfl, e', nd', hk', .inr ⟨rfl, hcl⟩, rfl, rfl⟩
        · walk_at "rd"
          refine ⟨xg, xo, xb, dt, kts1, g, good, bad, [], G1, rfl, rfl, nd1, hS.same e1, hk1, List.nodup_nil, (fun s h => by cases h), fun G2 kts2 ks2 e2 nd2 hk2 hcl2 => ?_⟩
          walk_at "rd"
          intro r2 nr2
          obtain ⟨nr2G, nr2d⟩ := none_of_upd nr2
          have hxc2 := (e1.trans e2) _ _ hxc
          have nxd : xc ≠ dt := ne_of_none hxc2 nd2
          have nxr : xc ≠ r2 := ne_of_none hxc2 nr2G
          walk_at "rd"
          refine ⟨xc, rfl, ⟨_, SqL.of (by rw [upd_ne nxr, upd_ne nxd]; exact hxc2)⟩, ?_⟩
          refine for_w (walk_list (xs := ([] : List Str).map V.str)) (fun i σ H' => H' = upd (upd G2 dt (.dT kts2)) r2 (.dK []) ∧ ∃ v7 v8 v9 v10, σ = [some xg, some xo, some xb, some (.ref xc), some (.ref dt), some (.ref r2), some (.bl false), v7, v8, v9, v10]) ⟨rfl, _, _, _, _, rfl⟩ ?_ ?_ ?_
          · rintro i σ H' _ ⟨rfl, _⟩
            exact SqL.of (by rw [upd_ne nxr, upd_ne nxd]; exact hxc2)
          · rintro i x σ H' H2' hi
            exact absurd hi (Nat.not_lt_zero _)
          · rintro σ H' ⟨rfl, v7, v8, v9, v10, rfl⟩
            exact ⟨upd G2 r2 (.dK []), kts2, ks2, _, _, _, _, _, by rw [upd_swap' nr2d], (e1.trans e2).trans (same_new nr2G), by rw [upd_ne (Ne.symm nr2d)]; exact nd2, hk2, hcl2, rfl⟩
      · walk_at "rd"
        refine ⟨big5 (by simp), fun p np => ?_⟩
        obtain ⟨npG, npd⟩ := none_of_upd np
        refine q _ _ ks1 ((e1.trans (same_new nd1)).trans (same_new np)) ⟨p, dt, xo, xb, xr, kts1, rfl, upd_same, ?_, hk1⟩ hcl
        rw [upd_ne (Ne.symm npd)]
        exact upd_same
/-! ### falling -/
theorem lc_en {α β : Type} {K : PySem.W.Frag} {a : Addr} {xs : List V} {D : Addr} {ys : List α} {j1 j2 : Nat} {te : TE} {vs : List Nat} {σ : L2.St} {H1 : Hp} {Qd : Hp → Prop} (R : Rep α) (S : Rep β) [Mono R] [Mono S] (F : Nat → β) (ha : H1 a = some (.lst xs)) (hp : Paired (R H1) xs ys) (hl : ys.length < 100000) (nD : H1 D = none)
    (hw : ∀ u v, wipe (((wipe σ vs).set j1 (some u)).set j2 (some v)) vs = wipe σ vs)
    (he : ∀ i y x G, Same H1 G → R G x y → ys[i]? = some y → ∀ Q : VK, (∀ v G2, Same G G2 → S G2 v (F i) → Q v G2) → te (((wipe σ vs).set j1 (some (.int (i : Int)))).set j2 (some x)) G Q)
    (hq : ∀ H2 zs, Same H1 H2 → H2 D = some (.lst zs) → Paired (S H2) zs ((List.range ys.length).map F) → Qd H2) :
    ∃ W : Nat → Nat → Hp → Prop, (∃ m, W 0 m (upd H1 D (.lst []))) ∧ ∀ i m H, W i m H →
      ((Ite K a).stop i H ∧ Qd H) ∨ ((Ite K a).go i H ∧ ∃ Nx : Hp → Prop, (∀ H', Nx H' → ∃ m', m' < m ∧ W (i + 1) m' H') ∧ ∀ x H', (Ite K a).yld i H x H' → gTup K 2 (gCons (gName j1) (gCons (gName j2) gNil)) x (wipe σ vs) H' fun σ2 H2 => wipe σ2 vs = wipe σ vs ∧ tYes σ2 H2 fun b H3 =>
        if b = true then tHide te σ2 H3 fun y H4 => ∃ acc, H4 D = some (.lst acc) ∧ acc.length < sizeLine ∧ Nx (upd H4 D (.lst (acc ++ [y]))) else Nx H3) := by
  have hlen := paired_len hp
  have naD : a ≠ D := ne_of_none ha nD
  refine lc_it (walk_enum (K := K) (a := a) (xs := xs)) (fun i H => ∃ G zs, H = upd G D (.lst zs) ∧ G D = none ∧ Same H1 G ∧ Paired (S G) zs (((List.range ys.length).take i).map F)) ⟨H1, [], rfl, nD, Same.refl _, by rw [List.take_zero]; exact .nil⟩ ?_ ?_ ?_
  · rintro i H _ ⟨G, zs, rfl, nG, s, _⟩
    exact SqL.of (by rw [upd_ne naD]; exact s _ _ ha)
  · rintro i x H H' hi ⟨G, zs, rfl, nG, s, hz⟩ ⟨T, x1, x2, rfl, nT, rfl, h1, h2⟩
    obtain rfl : V.int ((i : Nat) : Int) = x1 := Option.some.inj h1
    obtain ⟨y, hy, hr⟩ := paired_get hp h2
    obtain ⟨nTG, nTD⟩ := none_of_upd nT
    have sT : Same G (upd G T (.tup [.int (i : Int), x2])) := same_new nTG
    have hzl := paired_len hz
    rw [List.length_map, List.length_take, List.length_range] at hzl
    have hil : i < ys.length := by omega
    refine ⟨T, _, rfl, SqT.of upd_same, rfl, _, _, rfl, _, _, rfl, rfl, hw _ _, tYes_i ?_⟩
    rw [if_pos rfl]
    refine ⟨upd G T (.tup [.int (i : Int), x2]), D, .lst zs, by rw [upd_swap' nTD], by rw [upd_ne (Ne.symm nTD)]; exact nG, trivial, ?_⟩
    refine he i y x2 _ (s.trans sT) (mono hr (s.trans sT)) hy _ fun v G3 s3 hv => ⟨trivial, fun n3 => ⟨zs, upd_same, big5' (by omega), G3, zs ++ [v], upd_upd, n3, (s.trans sT).trans s3, ?_⟩⟩
    rw [take_more (show (List.range ys.length)[i]? = some i by simp [hil]), List.map_append]
    exact paired_snoc (paired_mono (sT.trans s3) hz) hv
  · rintro H ⟨G, zs, rfl, nG, s, hz⟩
    rw [List.take_of_length_le (by simp; omega)] at hz
    exact hq _ zs (same_mut s nD) upd_same (paired_mono (same_new nG) hz)
/-- an expression that only reads, and what it gives -/
def EV (te : TE) (σ : L2.St) (H : Hp) (v : V) : Prop := ∀ Q : VK, Q v H → te σ H Q
section
variable {K : PySem.W.Frag} {σ : L2.St} {H : Hp} {ta tb : TE} {b b' : Bool} {i : Nat} {v : V} {n : Str} {ns : List Str} {p : Addr} {xs : List V}
theorem ev_var (h : σ[i]? = some (some v)) : EV (tVar i) σ H v := fun Q q => ⟨v, h, q⟩
theorem ev_c : EV (tC v) σ H v := fun Q q => q
theorem ev_and (ha : EV ta σ H (.bl b)) (hb : EV tb σ H (.bl b')) : EV (tAndV ta tb) σ H (.bl (b && b')) := fun Q q => ha _ ⟨b, rfl, by
  cases b with
  | true => exact hb _ q
  | false => exact q⟩
theorem ev_or (ha : EV ta σ H (.bl b)) (hb : EV tb σ H (.bl b')) : EV (tOrV ta tb) σ H (.bl (b || b')) := fun Q q => ha _ ⟨b, rfl, by
  cases b with
  | true => exact q
  | false => exact hb _ q⟩
theorem ev_not (ha : EV ta σ H (.bl b)) : EV (tNotV ta) σ H (.bl (!b)) := fun Q q => ha _ ⟨b, rfl, q⟩
theorem ev_in (ha : EV ta σ H (.str n)) (hb : EV tb σ H (.ref p)) (h : SqT K H p (ns.map V.str)) : EV (tOp (rIn K false) ta tb) σ H (.bl (decide (n ∈ ns))) := fun Q q => ha _ (hb _ (i_inT (.inl h) q))
theorem ev_notIn (ha : EV ta σ H (.str n)) (hb : EV tb σ H (.ref p)) (h : SqT K H p (ns.map V.str)) : EV (tOp (rIn K true) ta tb) σ H (.bl (!decide (n ∈ ns))) := fun Q q => ha _ (hb _ (i_notInT (.inl h) q))
theorem ev_ixT {j : Nat} (ha : EV ta σ H (.ref p)) (h : SqT K H p xs) (e : xs[j]? = some v) : EV (tOp (rIxT K) ta (tC (.int (j : Int)))) σ H v := fun Q q => ha _ ⟨p, xs, _, v, rfl, rfl, h, atI_nat e, q⟩
theorem ev_ixT0 (ha : EV ta σ H (.ref p)) (h : SqT K H p (v :: xs)) : EV (tOp (rIxT K) ta (tC (.int 0))) σ H v := fun Q q => ha _ ⟨p, _, _, v, rfl, rfl, h, atI_nat (j := 0) rfl, q⟩
theorem ev_ixL {j : Nat} (ha : EV ta σ H (.ref p)) (hb : EV tb σ H (.int (j : Int))) (h : SqL K H p xs) (e : xs[j]? = some v) : EV (tOp (rIxL K) ta tb) σ H v := fun Q q => ha _ (hb _ ⟨p, xs, _, v, rfl, rfl, h, atI_nat e, q⟩)
theorem ev_use {te : TE} {Q : VK} (h : EV te σ H v) (q : Q v H) : te σ H Q := h Q q
/-- a target, or None, among a table's keys -/
theorem ev_tgt {kts : List (List Key × V)} {ks : List (List Str)} {d : Addr} {e : Edge} (ha : EV ta σ H v) (hv : rOpt rTupS H v e.tgt) (hb : EV tb σ H (.ref d)) (hd : Rd H d (.dT kts)) (hk : kts.map (·.1) = ks.map keyS) : EV (tDInO ta tb) σ H (.bl (tgtIn ks e)) := fun Q q => ha _ (hb _ (by
  unfold tgtIn at q
  cases ht : e.tgt with
  | none =>
    rw [ht] at q hv
    exact .inr ⟨d, kts, rfl, hv, hd, q⟩
  | some s =>
    rw [ht] at q hv
    obtain ⟨a, rfl, h⟩ := hv
    refine .inl ⟨d, _, rfl, .inr ⟨kts, keyS s, a, hd, rfl, by rw [keyS_kV]; exact h, rfl⟩, ?_⟩
    rw [val_keys hk]
    exact q))
end
def worseAt (g : Gm) (bad : List Bool) (c : Str) (k : Nat) : Bool := bad.getD k false || ((g.edges[k]?).map fun e => decide (c ∈ e.added)).getD false
def worseL (g : Gm) (bad : List Bool) (c : Str) : List Bool := (List.range g.edges.length).map (worseAt g bad c)
def lessE (c : Str) (e : Edge) : Bool := decide (c ∈ e.taken) && !decide (c ∈ e.added)
def betterAt (g : Gm) (good bad : List Bool) (c : Str) (T X : List (List Str)) (k : Nat) : Bool := good.getD k false || (!bad.getD k false && ((g.edges[k]?).map fun e => tgtIn T e || (lessE c e && tgtIn X e)).getD false)
def betterL (g : Gm) (good bad : List Bool) (c : Str) (T X : List (List Str)) : List Bool := (List.range g.edges.length).map (betterAt g good bad c T X)
abbrev StepF (g : Gm) (good bad : List Bool) (c : Str) (T X Y : List (List Str)) : Prop := Closed g (betterL g good bad c T X) (worseL g bad c) [] Y
inductive Chain (step : List (List Str) → List (List Str) → Prop) (X0 : List (List Str)) : Nat → List (List Str) → Prop where
  | zero : Chain step X0 0 X0
  | succ {n : Nat} {X Y : List (List Str)} : Chain step X0 n X → step X Y → Chain step X0 (n + 1) Y
/-- what falling gives -/
def FallP (g : Gm) (good bad : List Bool) (c : Str) (T R : List (List Str)) : Prop := ∃ n X, Chain (StepF g good bad c T) g.order n X ∧ n ≤ g.order.length ∧ StepF g good bad c T X R ∧ ∀ s, s ∈ R ↔ s ∈ X
theorem getD_rangeMap {n k : Nat} {F : Nat → Bool} (h : k < n) : ((List.range n).map F).getD k false = F k := by
  simp [List.getD_eq_getElem?_getD, h]
theorem okAt_mono {g : Gm} {good bad : List Bool} {c : Str} {T X X' us Y : List (List Str)} (hX : ∀ s ∈ X', s ∈ X) (hu : ∀ s ∈ us, s ∈ Y) {k : Nat} (hk : k < g.edges.length) (h : okAt g (betterL g good bad c T X') (worseL g bad c) us k = true) : okAt g (betterL g good bad c T X) (worseL g bad c) Y k = true := by
  unfold okAt betterL worseL at h ⊢
  rw [getD_rangeMap hk, getD_rangeMap hk] at h ⊢
  have he : g.edges[k]? = some (g.edges[k]'hk) := List.getElem?_eq_getElem hk
  unfold betterAt worseAt at h ⊢
  simp only [he, Option.map_some, Option.getD_some, Bool.or_eq_true, Bool.and_eq_true, Bool.not_eq_true'] at h ⊢
  have ti : ∀ {A B : List (List Str)} {e : Edge}, (∀ s ∈ A, s ∈ B) → tgtIn A e = true → tgtIn B e = true := fun {A B e} hab h => by
    unfold tgtIn at h ⊢
    cases ht : e.tgt with
    | none => rw [ht] at h; exact h
    | some s =>
      rw [ht] at h
      exact decide_eq_true (hab s (of_decide_eq_true h))
  rcases h with (h | ⟨h1, h | ⟨h2, h3⟩⟩) | ⟨h1, h2⟩
  · exact .inl (.inl h)
  · exact .inl (.inr ⟨h1, .inl h⟩)
  · exact .inl (.inr ⟨h1, .inr ⟨h2, ti hX h3⟩⟩)
  · exact .inr ⟨h1, ti hu h2⟩
theorem chOf_mem {g : Gm} (wf : GmWf g) {s : List Str} {q : Str × List Nat} (h : q ∈ chOf g s) : ∀ k ∈ q.2, k < g.edges.length := by
  unfold chOf at h
  cases hg : gtT g.choices s with
  | none => rw [hg] at h; cases h
  | some cs =>
    rw [hg] at h
    unfold gtT at hg
    cases hf : g.choices.find? fun p => decide (p.1 = s) with
    | none => rw [hf] at hg; cases hg
    | some p =>
      rw [hf] at hg
      have hm := List.mem_of_find?_eq_some hf
      have h2 : p.2 = cs := Option.some.inj hg
      exact wf.idx p hm q (by rw [h2]; exact h)
theorem forced_mono {g : Gm} (wf : GmWf g) {good bad : List Bool} {c : Str} {T X X' us Y : List (List Str)} (hX : ∀ s ∈ X', s ∈ X) (hu : ∀ s ∈ us, s ∈ Y) {s : List Str} (h : forced g (betterL g good bad c T X') (worseL g bad c) us s = true) : forced g (betterL g good bad c T X) (worseL g bad c) Y s = true := by
  unfold forced at h ⊢
  rw [List.any_eq_true] at h ⊢
  obtain ⟨q, hq, h⟩ := h
  refine ⟨q, hq, ?_⟩
  rw [List.all_eq_true] at h ⊢
  exact fun k hk => okAt_mono hX hu (chOf_mem wf hq k hk) (h k hk)
theorem step_mono {g : Gm} (wf : GmWf g) {good bad : List Bool} {c : Str} {T X X' Y Y' : List (List Str)} (hX : ∀ s ∈ X', s ∈ X) (h : StepF g good bad c T X Y) (h' : StepF g good bad c T X' Y') : ∀ s ∈ Y', s ∈ Y := by
  refine h'.least (fun s => s ∈ Y) (fun s hs => by cases hs) fun us hu s hs hf => ?_
  by_cases m : s ∈ Y
  · exact m
  · have := h.cl s hs m
    rw [forced_mono wf hX hu hf] at this
    cases this
def FallInv (H3 : Hp) (fl a go ba xc dt D0 D1 : Addr) (n : Str) (g : Gm) (good bad : List Bool) (ks X : List (List Str)) (σ : L2.St) (H' : Hp) : Prop :=
  ∃ kX xd pre nn v7 v8 v12 v13 v14 v15 v16, Same H3 H' ∧ H' fl = some (.lst pre) ∧ pre.length + X.length ≤ g.order.length + 10 ∧ H' xd = some (.dT kX) ∧ kX.map (·.1) = X.map keyS ∧ X.Nodup ∧ (∀ s ∈ X, s ∈ g.order) ∧ Chain (StepF g good bad n ks) g.order nn X ∧ X.length + nn ≤ g.order.length ∧ (∀ Y, StepF g good bad n ks X Y → ∀ s ∈ Y, s ∈ X) ∧
    σ = [some (.ref a), some (.ref go), some (.ref ba), some (.ref xc), some (.str n), some (.ref dt), some (.ref D0), v7, v8, some (.ref D1), some (.ref xd), some (.ref fl), v12, v13, v14, v15, v16]
def spFall (c : Cs) : Sp := fun vs H Q _ => ∃ xg xo xb xc xt g good bad ks n, vs = [xg, xo, xb, xc, .str n, xt] ∧ Sol c H xg xo xb g good bad ∧ rLstS H xc [n] ∧ rTab H xt ks ∧ ∀ fl H' pre p R, Same H H' → H' fl = some (.lst (pre ++ [p])) → rWon H' p R → FallP g good bad n ks R → Q (.ref fl) H'
theorem c_falling_of (T : Txt K mg c) : Cal P w K mg base 4 "falling_of" (spFall c) [] := by
    refine cal_of T.d_falling_of sc_falling_of (by walk_at "len") (fun f cdv A outer sh H vs Q E hr h => ?_)
    have nd := sc_falling_of.nd
    obtain ⟨xg, _, _, _, _, g, good, bad, ks, n, rfl, hS, ⟨xc, rfl, hxc⟩, ⟨dt, kts, rfl, hdt, hkt⟩, q⟩ := h
    refine ⟨_, (pss_cons (ps_setLc (i := 6) (own := [("other", 15)]) (g := gName 15) (by rfl) nd rfl rfl (sw_true rfl rfl rfl (by decide +kernel)) (pi_listK K rfl (pv 3)) (blkOk_by (own := [("other", 15)]) (N := N_falling_of) (sc := fnScope s_falling_of) (by decide +kernel)) (fun _ _ _ _ _ => (pg_name (i := 15) nd rfl (.inl rfl))) (fun _ _ _ _ _ => pts_one (pt_hide (pt_cmpR op_ne (pv 15) (pv 4) (nomark _)))) (fun _ _ _ _ _ => pe_hide (pv 15)))
        (pss_cons (ps_setLc (i := 9) (own := [("at", 7), ("edge", 8)]) (g := gTup K 2 (gCons (gName 7) (gCons (gName 8) gNil))) (by rfl) nd rfl rfl (sw_true rfl rfl rfl (by decide +kernel)) (pi_enumK K rfl (by rfl) T.g_enumerate (pa_cons (pe_fldK K rfl (pv 0) rfl) pa_nil)) (blkOk_by (own := [("at", 7), ("edge", 8)]) (N := N_falling_of) (sc := fnScope s_falling_of) (by decide +kernel)) (fun _ _ _ _ _ => (pg_tupK K rfl rfl (pgs_cons (pg_name (i := 7) nd rfl (.inl rfl)) (pgs_cons (pg_name (i := 8) nd rfl (.inl rfl)) pgs_nil)))) (fun _ _ _ _ _ => pts_nil) (fun _ _ _ _ _ => pe_hide (pe_or (pe_ix (kIxL K rfl) (pv 2) (pv 7) (fun _ _ => rfl)) (pe_one (pe_cmpR (kInS K rfl) (pv 4) (pe_ix (kIxT K rfl) (pv 8) pe_int (fun _ _ => rfl)) (by rfl))))))
        (pss_cons (ps_setDcT (i := 10) (own := [("state", 16)]) (g := gName 16) (by exact hu_of hr) (by rfl) nd rfl rfl (swD_true rfl rfl rfl (by decide +kernel)) (pi_listK K rfl (pe_fldK K rfl (pv 0) rfl)) (blkOk_by (own := [("state", 16)]) (N := N_falling_of) (sc := fnScope s_falling_of) (by decide +kernel)) (fun _ _ _ _ _ => (pg_name (i := 16) nd rfl (.inl rfl))) (fun _ _ _ _ _ => pts_nil) (fun _ _ _ _ _ => (pv 16)) (fun _ _ _ _ _ => pe_bl))
        (pss_cons (ps_set (i := 11) nd rfl (.inl rfl) (pe_lst pa_nil))
        (pss_one (ps_while PassesOwn.never (pt_val pe_bl) (pss_cons (ps_set (i := 12) nd rfl (.inl rfl) (pe_lst pa_nil))
        (pss_cons (ps_for PassesOwn.never rfl (pi_enumK K rfl (by rfl) T.g_enumerate (pa_cons (pe_fldK K rfl (pv 0) rfl) pa_nil)) (pg_tupK K rfl rfl (pgs_cons (pg_name (i := 7) nd rfl (.inl rfl)) (pgs_cons (pg_name (i := 8) nd rfl (.inl rfl)) pgs_nil))) (pss_cons (ps_set (i := 13) nd rfl (.inl rfl) (pe_and (pe_cmpR (kInS K rfl) (pv 4) (pe_ix (kIxT K rfl) (pv 8) pe_int (fun _ _ => rfl)) (by rfl)) (pe_one (pe_cmpR (kNotInS K rfl) (pv 4) (pe_ix (kIxT K rfl) (pv 8) pe_int (fun _ _ => rfl)) (by rfl)))))
        (pss_cons (ps_set (i := 14) nd rfl (.inl rfl) (pe_or (pe_cmp (pc_dinO (by exact hu_of hr) (pe_ix (kIxT K rfl) (pv 8) pe_int (fun _ _ => rfl)) (pv 5))) (pe_one (pe_and (pv 13) (pe_one (pe_cmp (pc_dinO (by exact hu_of hr) (pe_ix (kIxT K rfl) (pv 8) pe_int (fun _ _ => rfl)) (pv 10))))))))
        (pss_one (ps_expr (pe_bmK K rfl PySem.F.plainAttrs_list PySem.F.slot_list_append PySem.F.type_list_append mt_append (pv 12) (pa_cons (pe_or (pe_ix (kIxL K rfl) (pv 1) (pv 7) (fun _ _ => rfl)) (pe_one (pe_and (pe_not (pe_ix (kIxL K rfl) (pv 2) (pv 7) (fun _ _ => rfl))) (pe_one (pv 14))))) pa_nil)))))))
        (pss_cons (ps_expr (pe_bmK K rfl PySem.F.plainAttrs_list PySem.F.slot_list_append PySem.F.type_list_append mt_append (pv 11) (pa_cons (C8.pe_c (c_won_by0 T) hr (by first | decide | exact Nat.le_refl _ | omega) rfl (pa_cons (pv 0) (pa_cons (pv 12) (pa_cons (pv 9) (pa_cons (pv 6) pa_nil))))) pa_nil)))
        (pss_cons (ps_if (pt_cmpR op_eq (pe_callB call_len_dT (by rfl) T.g_len PySem.boot_len (pa_cons (pe_ix (kIxT K rfl) (pe_ix (kIxL K rfl) (pv 11) (pe_un un_neg pe_int) (fun _ _ => rfl)) pe_int (fun _ _ => rfl)) pa_nil)) (pe_callB call_len_dT (by rfl) T.g_len PySem.boot_len (pa_cons (pv 10) pa_nil)) (nomark _)) (pss_one (ps_ret (pv 11))) pss_nil)
        (pss_one (ps_set (i := 10) nd rfl (.inl rfl) (pe_ix (kIxT K rfl) (pe_ix (kIxL K rfl) (pv 11) (pe_un un_neg pe_int) (fun _ _ => rfl)) pe_int (fun _ _ => rfl)))))))))))))), ?_⟩
    walk_at "rd"
    obtain ⟨⟨a, dx, o, t, ed, ch, kcs, rfl, ha, ⟨_, ovs, hqo, ho, hop⟩, _, ⟨_, ews, hqe, hed, hep⟩, hch, hkc⟩, wf, ⟨go, gvs, rfl, hgo, hgp⟩, ⟨ba, bvs, rfl, hba, hbp⟩, lg, lb, ng⟩ := id hS
    cases hqo
    cases hqe
    have hel := wf.small
    have hol := wf.len
    refine ⟨_, rfl, xc, rfl, ⟨_, SqL.of hxc⟩, fun D0 nD0 => ?_⟩
    refine lc_w (walk_list (xs := ([n] : List Str).map V.str)) rStr rStr (ys := [n]) (fun m => !decide (m = n)) id (by simp) (fun H' s => SqL.of (s _ _ hxc)) (yat_of rStr strs_paired) (by simp) nD0 (fun x => rfl) (fun x m G sm hx hm Q hQ => ?_) (fun x m G sm hx hm hk Q hQ => ?_) (fun H1 zs e1 hz hp => ?_)
    · obtain rfl : x = .str m := hx
      walk_at "rd"
      have : decide (V.str m = V.str n) = decide (m = n) := by simp
      rw [this]
      exact hQ _ (Same.refl _)
    · walk_at "rd"
      exact hQ _ _ (Same.refl _) hx
    have h0 : zs = [] := by
      have := paired_len hp
      simpa using this
    subst h0
    walk_at "rd"
    have ed1 := e1 _ _ hed
    have ep1 := paired_mono e1 hep
    refine ⟨_, rfl, a, _, _, _, _, rfl, e1 _ _ ha, T.cG, T.nG_edges, fG_edges, ed, ews, rfl, SqL.of ed1, fun D1 nD1 => ?_⟩
    refine lc_en rEdge rBool (worseAt g bad n) ed1 ep1 (by omega) nD1 (fun u v => rfl) (fun i e x G sm hx he Q hQ => ?_) (fun H2 ws sm2 hD1 hwp => ?_)
    · obtain ⟨pe, pt, pk, pd, pi, pg', rfl, hpe, rt, rk, ⟨bd, rfl, hbd⟩⟩ := hx
      have hil : i < g.edges.length := (List.getElem?_eq_some_iff.mp he).1
      have hb1 : bad[i]? = some (bad[i]'(by omega)) := List.getElem?_eq_getElem (by omega)
      obtain ⟨vb, hvb, rb⟩ := paired_at hbp hb1
      obtain rfl : vb = .bl _ := rb
      have hw : worseAt g bad n i = (bad[i]'(by omega) || decide (n ∈ e.added)) := by
        unfold worseAt
        simp only [List.getD_eq_getElem?_getD, hb1, he, Option.getD_some, Option.map_some]
      refine ev_use (ev_or (ev_ixL (ev_var (by rfl)) (ev_var (by rfl)) (SqL.of ((e1.trans sm) _ _ hba)) hvb) (ev_in (ev_var (by rfl)) (ev_ixT (j := 2) (ev_var (by rfl)) (SqT.of hpe) rfl) (SqT.of hbd))) ?_
      exact hQ _ _ (Same.refl _) (by rw [hw]; rfl)
    have e2 := e1.trans sm2
    walk_at "rd"
    have o2 := e2 _ _ ho
    have op2 := paired_mono e2 hop
    refine ⟨_, rfl, a, _, _, _, _, rfl, e2 _ _ ha, T.cG, T.nG_order, fG_order, o, rfl, ⟨ovs, SqL.of o2⟩, fun xd0 nxd0 => ?_⟩
    refine dcT_states o2 op2 wf.nd (by omega) nxd0 (fun x => rfl) (fun x G Q q => ⟨x, rfl, q⟩) (fun x G Q q => q) (fun H3 kx0 sm3 hxd0 hkx0 => ?_)
    have e3 := e2.trans sm3
    have hS3 := hS.same e3
    have hw3 : rLst rBool H3 (.ref D1) (worseL g bad n) := ⟨D1, ws, rfl, sm3 _ _ hD1, paired_mono sm3 hwp⟩
    have hr3 : rLstS H3 (.ref D0) [] := ⟨D0, rfl, (sm2.trans sm3) _ _ hz⟩
    walk_at "rd"
    refine ⟨Nat.zero_le _, fun fl nfl => ?_⟩
    walk_at "rd"
    have hstep0 : ∀ Y, StepF g good bad n ks g.order Y → ∀ s ∈ Y, s ∈ g.order := fun Y hY s hs => (hY.sub s hs).resolve_left (fun h => by cases h)
    refine i_while ⟨fun m σ H' => ∃ X, FallInv H3 fl a go ba xc dt D0 D1 n g good bad ks X σ H' ∧ m = X.length, ⟨_, g.order, ⟨kx0, xd0, [], 0, _, _, _, _, _, _, _, same_new nfl, upd_same, by simp, by rw [upd_ne (ne_of_none hxd0 nfl)]; exact hxd0, hkx0, wf.nd, fun s h => h, .zero, by omega, hstep0, rfl⟩, rfl⟩, ?_⟩
    rintro m σ H4 ⟨X, ⟨kX, xd, pre, nn, v7, v8, v12, v13, v14, v15, v16, e4, hfl, hprel, hxd, hkX, hXn, hXo, hch4, hnn, hsub, rfl⟩, rfl⟩
    walk_at "rd"
    refine ⟨fun σ' H' => ∃ X', X'.length < X.length ∧ FallInv H3 fl a go ba xc dt D0 D1 n g good bad ks X' σ' H', fun σ' H' ⟨X', h1, h2⟩ => ⟨_, h1, X', h2, rfl⟩, ?_⟩
    walk_at "rd"
    refine ⟨Nat.zero_le _, fun D nD => ?_⟩
    have e34 := e3.trans e4
    have e5 : Same H4 (upd H4 D (.lst [])) := same_new nD
    walk_at "rd"
    refine ⟨_, rfl, a, _, _, _, _, rfl, (e34.trans e5) _ _ ha, T.cG, T.nG_edges, fG_edges, ed, ews, rfl, SqL.of ((e34.trans e5) _ _ hed), ?_⟩
    have ep4 := paired_mono e34 hep
    have hS4 := hS.same e34
    have hdt4 : Rd H4 dt (.dT kts) := hdt.elim (fun h => .inl (e34 _ _ h)) fun ⟨ob, h⟩ => .inr ⟨ob, e34 _ _ h⟩
    refine for_w (walk_enum (xs := ews)) (fun i σ' H' => ∃ v7 v8 v13 v14, Same H4 H' ∧ H' D = some (.lst (((List.range g.edges.length).take i).map fun k => V.bl (betterAt g good bad n ks X k))) ∧ σ' = [some (.ref a), some (.ref go), some (.ref ba), some (.ref xc), some (.str n), some (.ref dt), some (.ref D0), v7, v8, some (.ref D1), some (.ref xd), some (.ref fl), some (.ref D), v13, v14, v15, v16]) ⟨_, _, _, _, e5, by rw [upd_same]; rfl, rfl⟩ (fun i σ H' _ ⟨_, _, _, _, e, _⟩ => SqL.of ((e34.trans e) _ _ hed)) ?_ ?_
    · rintro i x σ' H5 H6 hi ⟨v7, v8, v13, v14, e45, hD5, rfl⟩ ⟨pT, x1, x2, rfl, nT, rfl, h1, h2⟩
      obtain rfl : V.int ((i : Nat) : Int) = x1 := Option.some.inj h1
      obtain ⟨e, he, ⟨pe, pt, pk, pd, pi, pg', rfl, hpe, rt, ⟨bk, rfl, hbk⟩, ⟨bd, rfl, hbd⟩⟩⟩ := paired_get hep h2
      have hil : i < g.edges.length := (List.getElem?_eq_some_iff.mp he).1
      have hg1 : good[i]? = some (good[i]'(by omega)) := List.getElem?_eq_getElem (by omega)
      have hb1 : bad[i]? = some (bad[i]'(by omega)) := List.getElem?_eq_getElem (by omega)
      obtain ⟨vg, hvg, rg⟩ := paired_at hgp hg1
      obtain ⟨vb, hvb, rb⟩ := paired_at hbp hb1
      obtain rfl : vg = .bl _ := rg
      obtain rfl : vb = .bl _ := rb
      have e56 : Same H5 (upd H5 pT (.tup [.int (i : Int), .ref pe])) := same_new nT
      have e6 := e34.trans (e45.trans e56)
      have hD6 := e56 _ _ hD5
      have hxd6 := (e45.trans e56) _ _ hxd
      have hdt6 : Rd (upd H5 pT (.tup [.int (i : Int), .ref pe])) dt (.dT kts) := hdt.elim (fun h => .inl (e6 _ _ h)) fun ⟨ob, h⟩ => .inr ⟨ob, e6 _ _ h⟩
      have rt6 : rOpt rTupS (upd H5 pT (.tup [.int (i : Int), .ref pe])) pt e.tgt := mono (R := rOpt rTupS) rt e6
      have hsame : Same H4 (upd H5 pT (.tup [.int (i : Int), .ref pe])) := e45.trans e56
      refine ⟨pT, _, rfl, SqT.of upd_same, rfl, _, _, rfl, _, _, rfl, rfl, ?_⟩
      generalize upd H5 pT (.tup [.int (i : Int), .ref pe]) = H6 at e6 hD6 hxd6 hdt6 rt6 hsame
      have hk1 : ∀ σ : L2.St, σ[8]? = some (some (.ref pe)) → EV (tOp (rIxT K) (tVar 8) (tC (V.int 1))) σ H6 (.ref bk) := fun σ h => ev_ixT (j := 1) (ev_var h) (SqT.of (e6 _ _ hpe)) rfl
      have hk2 : ∀ σ : L2.St, σ[8]? = some (some (.ref pe)) → EV (tOp (rIxT K) (tVar 8) (tC (V.int 2))) σ H6 (.ref bd) := fun σ h => ev_ixT (j := 2) (ev_var h) (SqT.of (e6 _ _ hpe)) rfl
      have htg : ∀ σ : L2.St, σ[8]? = some (some (.ref pe)) → EV (tOp (rIxT K) (tVar 8) (tC (V.int 0))) σ H6 pt := fun σ h => ev_ixT0 (ev_var h) (SqT.of (e6 _ _ hpe))
      refine i_seq (i_asg (ev_use (ev_and (ev_in (ev_var (by rfl)) (hk1 _ (by rfl)) (SqT.of (e6 _ _ hbk))) (ev_notIn (ev_var (by rfl)) (hk2 _ (by rfl)) (SqT.of (e6 _ _ hbd)))) ?_))
      refine i_seq (i_asg (ev_use (ev_or (ev_tgt (htg _ (by rfl)) rt6 (ev_var (by rfl)) hdt6 hkt) (ev_and (ev_var (by rfl)) (ev_tgt (htg _ (by rfl)) rt6 (ev_var (by rfl)) (.inl hxd6) hkX))) ?_))
      refine i_drop (i_bm (i_var (v := V.ref D) (by rfl) ⟨Or.inl ⟨rfl, _, SqL.of hD6⟩, i_cons (ev_use (ev_or (ev_ixL (ev_var (by rfl)) (ev_var (by rfl)) (SqL.of (e6 _ _ hgo)) hvg) (ev_and (ev_not (ev_ixL (ev_var (by rfl)) (ev_var (by rfl)) (SqL.of (e6 _ _ hba)) hvb)) (ev_var (by rfl)))) (i_nil ?_))⟩))
      refine i_append hD6 (by rw [List.length_map, List.length_take, List.length_range]; omega) ?_
      refine ⟨_, _, _, _, same_mut hsame nD, ?_, rfl⟩
      rw [upd_same, take_more (show (List.range g.edges.length)[i]? = some i by simp [hil]), List.map_append]
      have hbt : betterAt g good bad n ks X i = (good[i]'(by omega) || (!bad[i]'(by omega) && (tgtIn ks e || (decide (n ∈ e.taken) && !decide (n ∈ e.added)) && tgtIn X e))) := by
        unfold betterAt lessE
        simp only [List.getD_eq_getElem?_getD, hg1, hb1, he, Option.getD_some, Option.map_some]
      simp only [List.map_cons, List.map_nil, hbt]
    · rintro σ' H5 ⟨v7, v8, v13, v14, e45, hD5, rfl⟩
      rw [List.take_of_length_le (by rw [List.length_range, paired_len hep]; exact Nat.le_refl _)] at hD5
      have hfl5 := e45 _ _ hfl
      walk_at "rd"
      refine ⟨.inl ⟨rfl, _, SqL.of hfl5⟩, ?_⟩
      walk_at "rd"
      have hS5 := hS4.same e45
      have he35 := e4.trans e45
      have hgt : ∀ k, k < g.edges.length → (betterL g good bad n ks X)[k]? = some (betterAt g good bad n ks X k) := fun k hk => by
        unfold betterL
        rw [List.getElem?_map, List.getElem?_range hk]
        rfl
      have hSol : Sol c H5 (.ref a) (.ref D) (.ref D1) g (betterL g good bad n ks X) (worseL g bad n) := by
        refine ⟨hS5.game, wf, ⟨D, _, rfl, hD5, ?_⟩, mono hw3 he35, by simp [betterL], by simp [worseL], fun k e he hn => ?_⟩
        · unfold betterL
          generalize List.range g.edges.length = l
          induction l with
          | nil => exact .nil
          | cons x r ih => exact .cons rfl ih
        · have hk : k < g.edges.length := (List.getElem?_eq_some_iff.mp he).1
          rw [hgt k hk]
          have := ng k e he hn
          unfold betterAt
          simp only [List.getD_eq_getElem?_getD, this, Option.getD_some, Bool.true_or]
      refine ⟨_, _, _, _, g, _, _, rfl, hSol, mono hr3 he35, fun v6 H6 R e6 ⟨p, dR, xo', xb', xr', kR, hv6, hp6, hdR, hkR⟩ hcl => ?_⟩
      subst hv6
      have hfl6 := e6 _ _ hfl5
      have hRn := hcl.nd
      have hRX := hsub R hcl
      have hxd6 := (e45.trans e6) _ _ hxd
      have nflp : p ≠ fl := fun z => by rw [z, hfl6] at hp6; cases hp6
      have nfldR : dR ≠ fl := fun z => by rw [z, hfl6] at hdR; cases hdR
      have nflxd : xd ≠ fl := fun z => by rw [z, hfl6] at hxd6; cases hxd6
      have hRl := nodup_le R X hRn hRX
      have hkRl : kR.length = R.length := by
        have := congrArg List.length hkR
        simpa using this
      have hkXl : kX.length = X.length := by
        have := congrArg List.length hkX
        simpa using this
      walk_at "rd"
      refine i_append hfl6 (by omega) ?_
      have s67 : Same H3 (upd H6 fl (.lst (pre ++ [.ref p]))) := same_mut (he35.trans e6) nfl
      have hfl7 : upd H6 fl (.lst (pre ++ [.ref p])) fl = some (.lst (pre ++ [.ref p])) := upd_same
      have hp7 : upd H6 fl (.lst (pre ++ [.ref p])) p = some (.tup [.ref dR, xo', xb', xr']) := by rw [upd_ne nflp]; exact hp6
      have hdR7 : upd H6 fl (.lst (pre ++ [.ref p])) dR = some (.dT kR) := by rw [upd_ne nfldR]; exact hdR
      have hxd7 : upd H6 fl (.lst (pre ++ [.ref p])) xd = some (.dT kX) := by rw [upd_ne nflxd]; exact hxd6
      generalize upd H6 fl (.lst (pre ++ [.ref p])) = H7 at s67 hfl7 hp7 hdR7 hxd7
      have hp7' := SqT.of (K := K) hp7
      walk_at "rd"
      refine ⟨_, rfl, i_ixLm (SqL.of hfl7) ?_⟩
      walk_at "rd"
      refine ⟨dR, kR, rfl, hdR7, ?_⟩
      walk_at "rd"
      refine ⟨xd, kX, rfl, hxd7, ?_⟩
      walk_at "rd"
      have hnn' : nn ≤ g.order.length := by omega
      by_cases hlen : R.length = X.length
      · refine ifT (decide_eq_true (by rw [hkRl, hkXl, hlen])) ?_
        walk_at "rd"
        refine q fl _ pre (.ref p) R (e3.trans s67) hfl7 ⟨p, dR, _, _, _, kR, rfl, hp7, hdR7, hkR⟩ ⟨nn, X, hch4, hnn', hcl, fun s => ⟨hRX s, fun hs => ?_⟩⟩
        by_cases hm : s ∈ R
        · exact hm
        · have := nodup_le (s :: R) X (List.nodup_cons.mpr ⟨hm, hRn⟩) (fun x hx => by
            rcases List.mem_cons.mp hx with rfl | h
            · exact hs
            · exact hRX x h)
          rw [List.length_cons] at this
          omega
      · refine ifF (decide_eq_false fun z => hlen (by
          have := V.int.inj z
          omega)) ?_
        walk_at "rd"
        refine ⟨_, rfl, i_ixLm (SqL.of hfl7) ?_⟩
        walk_at "rd"
        refine ⟨R, by omega, kR, dR, _, nn + 1, _, _, _, _, _, _, _, s67, hfl7, by rw [List.length_append]; show pre.length + 1 + R.length ≤ _; omega, hdR7, hkR, hRn, fun s hs => hXo s (hRX s hs), .succ hch4 hcl, by omega, fun Y hY => step_mono wf hRX hcl hY, rfl⟩
/-- as lc_w, what is walked told by the heap at the turn -/
theorem lc_wT {α β : Type} {J : It} {n : Nat} {Gd : Hp → Prop} {Y : Nat → Hp → V → Hp → Prop} {D : Addr} {ys : List α} {j : Nat} {tt : TT} {te : TE} {vs : List Nat} {σ : L2.St} {H1 : Hp} {Qd : Hp → Prop} (w : Walk J n Gd Y) (R : Rep α) (S : Rep β) [Mono R] [TupR R] [Mono S] (keep : α → Bool) (f : α → β) (hn : n = ys.length) (hG : ∀ H, Same H1 H → Gd H)
    (hY : ∀ i H x H', i < n → Y i H x H' → H' = H ∧ ∃ y, ys[i]? = some y ∧ R H x y) (hl : ys.length < 100000) (nD : H1 D = none)
    (hw : ∀ x, wipe ((wipe σ vs).set j (some x)) vs = wipe σ vs)
    (ht : ∀ x y G, Same H1 G → R G x y → y ∈ ys → ∀ Q : Bool → Hp → Prop, (∀ G2, Same G G2 → Q (keep y) G2) → tt ((wipe σ vs).set j (some x)) G Q)
    (he : ∀ x y G, Same H1 G → R G x y → y ∈ ys → keep y = true → ∀ Q : VK, (∀ v G2, Same G G2 → S G2 v (f y) → Q v G2) → te ((wipe σ vs).set j (some x)) G Q)
    (hq : ∀ H2 zs, Same H1 H2 → H2 D = some (.lst zs) → Paired (S H2) zs ((ys.filter keep).map f) → Qd H2) :
    ∃ W : Nat → Nat → Hp → Prop, (∃ m, W 0 m (upd H1 D (.lst []))) ∧ ∀ i m H, W i m H →
      (J.stop i H ∧ Qd H) ∨ (J.go i H ∧ ∃ Nx : Hp → Prop, (∀ H', Nx H' → ∃ m', m' < m ∧ W (i + 1) m' H') ∧ ∀ x H', J.yld i H x H' → gName j x (wipe σ vs) H' fun σ2 H2 => wipe σ2 vs = wipe σ vs ∧ tHideT tt σ2 H2 fun b H3 =>
        if b = true then tHide te σ2 H3 fun y H4 => ∃ acc, H4 D = some (.lst acc) ∧ acc.length < sizeLine ∧ Nx (upd H4 D (.lst (acc ++ [y]))) else Nx H3) := by
  refine lc_it w (fun i H => ∃ G zs, H = upd G D (.lst zs) ∧ G D = none ∧ Same H1 G ∧ Paired (S G) zs (((ys.take i).filter keep).map f)) ⟨H1, [], rfl, nD, Same.refl _, .nil⟩ (fun i H _ ⟨G, zs, e, nG, s, _⟩ => hG H (by rw [e]; exact same_mut s nD)) (fun i x H H' hi ⟨G, zs, e, nG, s, hz⟩ hyy => ?_) (fun H ⟨G, zs, e, nG, s, hz⟩ => ?_)
  · obtain ⟨rfl, y, hy, hr⟩ := hY i H x H' hi hyy
    subst e
    have hr : R G x y := TupR.but hr (fun b o h1 h2 => by rwa [upd_ne h1] at h2) upd_same
    have hm : y ∈ ys := List.mem_of_getElem? hy
    have hlz : zs.length ≤ i := by
      rw [paired_len hz, List.length_map]
      exact Nat.le_trans (List.length_filter_le _ _) (by rw [List.length_take]; exact Nat.min_le_left _ _)
    refine ⟨hw x, G, D, .lst zs, rfl, nG, trivial, ht x y G s hr hm _ fun G2 s2 => ⟨trivial, fun n2 => ?_⟩⟩
    rw [take_more hy, List.filter_append, filter_one]
    cases hk : keep y with
    | false =>
      rw [if_neg Bool.false_ne_true, if_neg Bool.false_ne_true, List.append_nil]
      exact ⟨G2, zs, rfl, n2, s.trans s2, paired_mono s2 hz⟩
    | true =>
      rw [if_pos rfl, if_pos rfl]
      refine ⟨G2, D, .lst zs, rfl, n2, trivial, he x y G2 (s.trans s2) (mono hr s2) hm hk _ fun v G3 s3 hv => ⟨trivial, fun n3 => ⟨zs, upd_same, big5' (by omega), G3, zs ++ [v], upd_upd, n3, (s.trans s2).trans s3, ?_⟩⟩⟩
      rw [List.map_append]
      exact paired_snoc (paired_mono (s2.trans s3) hz) hv
  · subst e
    rw [List.take_of_length_le (by omega)] at hz
    exact hq _ zs (same_mut s nD) upd_same (paired_mono (same_new nG) hz)
theorem same_unlockT {H H' : Hp} {b : Addr} {kvs : List (List Key × V)} {ob : Obj} (h : H b = some (.dT kvs)) (e : Same (upd H b (.frz ob (.dT kvs))) H') : Same H (upd H' b (.dT kvs)) := fun x o q => by
  by_cases z : x = b
  · subst z
    rw [h] at q
    cases q
    exact upd_same
  · rw [upd_ne z]
    exact e _ _ (by rw [upd_ne z]; exact q)
theorem keys_at {kR : List (List Key × V)} {R : List (List Str)} (h : kR.map (·.1) = R.map keyS) {i : Nat} {k : List Key} {v : V} (e : kR[i]? = some (k, v)) : ∃ s, R[i]? = some s ∧ k = keyS s := by
  have h1 : (kR.map (·.1))[i]? = some k := by rw [List.getElem?_map, e]; rfl
  rw [h, List.getElem?_map] at h1
  cases hs : R[i]? with
  | none => rw [hs] at h1; cases h1
  | some s =>
    rw [hs] at h1
    exact ⟨s, rfl, (Option.some.inj h1).symm⟩
/-- what the solver's table is -/
structure WonP (g : Gm) (good bad : List Bool) (n : Str) (T : List (List Str)) : Prop where
  nd : T.Nodup
  ino : ∀ s ∈ T, s ∈ g.order
  cl : closedT g good bad T
  fall : ∃ R, FallP g good bad n T R ∧ ∀ s ∈ R, s ∈ T
  least : ∀ P : List Str → Prop, (∀ us, (∀ s ∈ us, P s) → ∀ s ∈ g.order, forced g good bad us s = true → P s) → (∀ T' R, (∀ s ∈ T', P s) → FallP g good bad n T' R → ∀ s ∈ R, P s) → ∀ s ∈ T, P s
def Lst1 (g : Gm) (good bad : List Bool) (n : Str) (T : List (List Str)) : Prop := ∀ P : List Str → Prop, (∀ us, (∀ s ∈ us, P s) → ∀ s ∈ g.order, forced g good bad us s = true → P s) → (∀ T' R, (∀ s ∈ T', P s) → FallP g good bad n T' R → ∀ s ∈ R, P s) → ∀ s ∈ T, P s
def WonInv (H : Hp) (xg xo xb : V) (xc dt : Addr) (g : Gm) (good bad : List Bool) (n : Str) (T : List (List Str)) (b : Bool) (σ : L2.St) (H' : Hp) : Prop :=
  ∃ G kT xr v7 v8 v9 v10, H' = upd G dt (.dT kT) ∧ Same H G ∧ G dt = none ∧ kT.map (·.1) = T.map keyS ∧ T.Nodup ∧ (∀ s ∈ T, s ∈ g.order) ∧ Lst1 g good bad n T ∧ (b = false → closedT g good bad T ∧ ∃ R, FallP g good bad n T R ∧ ∀ s ∈ R, s ∈ T) ∧
    σ = [some xg, some xo, some xb, some (.ref xc), some (.ref dt), some xr, some (.bl b), v7, v8, v9, v10]
def spWon1 (c : Cs) : Sp := fun vs H Q _ => ∃ xg xo xb xc g good bad n, vs = [xg, xo, xb, xc] ∧ Sol c H xg xo xb g good bad ∧ rLstS H xc [n] ∧ ∀ v H' T, Same H H' → rWon H' v T → WonP g good bad n T → Q v H'
theorem c_won_by1 (T : Txt K mg c) : Cal P w K mg base 5 "won_by" (spWon1 c) [] := by
    refine cal_of T.d_won_by sc_won_by (by walk_at "len") (fun f cdv A outer sh H vs Q E hr h => ?_)
    have nd := sc_won_by.nd
    obtain ⟨xg, xo, xb, _, g, good, bad, n, rfl, hS, ⟨xc, rfl, hxc⟩, q⟩ := h
    refine ⟨_, (pss_cons (ps_set (i := 4) nd rfl (.inr rfl) pe_dnewT)
        (pss_cons (ps_set (i := 5) nd rfl (.inl rfl) pe_dnewK)
        (pss_cons (ps_set (i := 6) nd rfl (.inl rfl) pe_bl)
        (pss_cons (ps_while PassesOwn.never (pt_val (pv 6)) (pss_cons (ps_expr (C8.pe_c (c_close_table T) hr (by first | decide | exact Nat.le_refl _ | omega) rfl (pa_cons (pv 0) (pa_cons (pv 1) (pa_cons (pv 2) (pa_cons (pv 4) pa_nil))))))
        (pss_cons (ps_set (i := 6) nd rfl (.inl rfl) pe_bl)
        (pss_cons (ps_set (i := 5) nd rfl (.inl rfl) pe_dnewK)
        (pss_one (ps_for PassesOwn.never rfl (pi_listK K rfl (pv 3)) (pg_name (i := 7) nd rfl (.inl rfl)) (pss_cons (ps_set (i := 8) nd rfl (.inl rfl) (C8.pe_c (c_falling_of T) hr (by first | decide | exact Nat.le_refl _ | omega) rfl (pa_cons (pv 0) (pa_cons (pv 1) (pa_cons (pv 2) (pa_cons (pv 3) (pa_cons (pv 7) (pa_cons (pv 4) pa_nil))))))))
        (pss_cons (ps_dput (by exact hu_of hr) (pv 5) (pv 7) (pv 8) rfl)
        (pss_cons (ps_lock (ps_setLc (i := 10) (own := [("state", 9)]) (g := gName 9) (by rfl) nd rfl rfl (sw_true rfl rfl rfl (by decide +kernel)) (pi_keys (pe_ix (kIxT K rfl) (pe_ix (kIxL K rfl) (pv 8) (pe_un un_neg pe_int) (fun _ _ => rfl)) pe_int (fun _ _ => rfl))) (blkOk_by (own := [("state", 9)]) (N := N_won_by) (sc := fnScope s_won_by) (by decide +kernel)) (fun _ _ _ _ _ => (pg_name (i := 9) nd rfl (.inl rfl))) (fun _ _ _ _ _ => pts_one (pt_hide (pt_cmp (pc_dnotin (by exact hu_of hr) (pv 9) (pv 4))))) (fun _ _ _ _ _ => pe_hide (pv 9))))
        (pss_one (ps_if (pt_cmpR op_gt (pe_callB (kLen K rfl) (by rfl) T.g_len PySem.boot_len (pa_cons (pv 10) pa_nil)) pe_int (nomark _)) (pss_cons (ps_for PassesOwn.never rfl (pi_listK K rfl (pv 10)) (pg_name (i := 9) nd rfl (.inl rfl)) (pss_one (ps_dput (by exact hu_of hr) (pv 4) (pv 9) (pe_dget (by exact hu_of hr) (pe_ix (kIxT K rfl) (pe_ix (kIxL K rfl) (pv 8) (pe_un un_neg pe_int) (fun _ _ => rfl)) pe_int (fun _ _ => rfl)) (pv 9) (fun _ _ => rfl)) rfl)))
        (pss_cons (ps_set (i := 6) nd rfl (.inl rfl) pe_bl)
        (pss_one ps_break))) pss_nil)))))))))))
        (pss_one (ps_ret (pe_tup (pa_cons (pv 4) (pa_cons (pv 1) (pa_cons (pv 2) (pa_cons (pv 5) pa_nil))))))))))), ?_⟩
    have wf := hS.wf
    have hol := wf.len
    walk_at "rd"
    intro dt ndt
    walk_at "rd"
    intro r0 nr0
    walk_at "rd"
    obtain ⟨nr0H, nrd⟩ := none_of_upd nr0
    refine i_while ⟨fun m σ H' => ∃ T b, WonInv H xg xo xb xc dt g good bad n T b σ H' ∧ m = 2 * (g.order.length - T.length) + (if b = true then 1 else 0), ⟨_, [], true, ⟨upd H r0 (.dK []), [], _, _, _, _, _, by rw [upd_swap' nrd], same_new nr0H, by rw [upd_ne (Ne.symm nrd)]; exact ndt, rfl, List.nodup_nil, (fun s h => by cases h), (fun P _ _ s h => by cases h), (fun z => by cases z), rfl⟩, rfl⟩, ?_⟩
    rintro m σ H' ⟨T0, b, ⟨G1, kts1, xr, v7, v8, v9, v10, rfl, e1, nd1, hk1, hn1, ho1, hl1, hb1, rfl⟩, rfl⟩
    walk_at "rd"
    cases b with
    | false =>
      obtain ⟨hc, hfall⟩ := hb1 rfl
      walk_at "rd"
      refine ⟨big5 (by simp), fun p np => ?_⟩
      obtain ⟨npG, npd⟩ := none_of_upd np
      refine q _ _ T0 ((e1.trans (same_new nd1)).trans (same_new np)) ⟨p, dt, xo, xb, xr, kts1, rfl, upd_same, ?_, hk1⟩ ⟨hn1, ho1, hc, hfall, hl1⟩
      rw [upd_ne (Ne.symm npd)]
      exact upd_same
    | true =>
      refine i_if1 ⟨fun σ' H' => ∃ T' b', WonInv H xg xo xb xc dt g good bad n T' b' σ' H' ∧ ((b' = false ∧ T0.length ≤ T'.length) ∨ T0.length < T'.length), ?_, ?_⟩
      · rintro σ' H' ⟨T', b', hI, hlt⟩
        refine ⟨_, ?_, T', b', hI, rfl⟩
        obtain ⟨_, _, _, _, _, _, _, _, _, _, _, hn', ho', _⟩ := hI
        have := nodup_le T' g.order hn' ho'
        rcases hlt with ⟨rfl, h⟩ | h
        · simp
          omega
        · cases b' <;> simp <;> omega
      · walk_at "rd"
        refine ⟨xg, xo, xb, dt, kts1, g, good, bad, T0, G1, rfl, rfl, nd1, hS.same e1, hk1, hn1, ho1, fun G2 kts2 T1 e2 nd2 hk2 hcl2 => ?_⟩
        walk_at "rd"
        intro r2 nr2
        obtain ⟨nr2G, nr2d⟩ := none_of_upd nr2
        walk_at "rd"
        have e12 := e1.trans e2
        have s20 : Same G2 (upd G2 dt (.dT kts2)) := same_new nd2
        have s2r : Same (upd G2 dt (.dT kts2)) (upd (upd G2 dt (.dT kts2)) r2 (.dK [])) := same_new nr2
        have hS0 := ((hS.same e12).same s20).same s2r
        have hxc0 := (e12.trans (s20.trans s2r)) _ _ hxc
        have hdt0 : upd (upd G2 dt (.dT kts2)) r2 (.dK []) dt = some (.dT kts2) := by rw [upd_ne (Ne.symm nr2d)]; exact upd_same
        have hr20 : upd (upd G2 dt (.dT kts2)) r2 (.dK []) r2 = some (.dK []) := upd_same
        have hn2 := hcl2.nd
        have ho2 : ∀ s ∈ T1, s ∈ g.order := fun s hs => (hcl2.sub s hs).elim (ho1 s) id
        have hl2 : Lst1 g good bad n T1 := fun P h1 h2 => hcl2.least P (hl1 P h1 h2) h1
        have h01 := nodup_le T0 T1 hn1 hcl2.inc
        have hT1l := nodup_le T1 g.order hn2 ho2
        have sG0 := s20.trans s2r
        generalize upd (upd G2 dt (.dT kts2)) r2 (.dK []) = H0 at hS0 hxc0 hdt0 hr20 s2r sG0
        refine ⟨xc, rfl, ⟨_, SqL.of hxc0⟩, ?_⟩
        refine for_w (walk_list (xs := ([n] : List Str).map V.str)) (fun i σ H' => (i = 0 ∧ H' = H0 ∧ σ = [some xg, some xo, some xb, some (.ref xc), some (.ref dt), some (.ref r2), some (.bl false), v7, v8, v9, v10]) ∨ (i = 1 ∧ H' xc = some (.lst [.str n]) ∧ ∃ T' b', WonInv H xg xo xb xc dt g good bad n T' b' σ H' ∧ ((b' = false ∧ T0.length ≤ T'.length) ∨ T0.length < T'.length))) (.inl ⟨rfl, rfl, rfl⟩) ?_ ?_ ?_
        · rintro i σ H' _ (⟨_, rfl, _⟩ | ⟨_, h, _⟩)
          · exact SqL.of hxc0
          · exact SqL.of h
        · rintro i x σ H' H2' hi (⟨rfl, rfl, rfl⟩ | ⟨rfl, _⟩) ⟨rfl, hx⟩
          · obtain rfl : x = .str n := (Option.some.inj hx).symm
            walk_at "rd"
            refine ⟨xg, xo, xb, _, _, g, good, bad, T1, n, rfl, hS0, ⟨xc, rfl, hxc0⟩, ⟨dt, kts2, rfl, .inl hdt0, hk2⟩, fun fl H3 pre p R e3 hfl ⟨p', dR, xo', xb', xr', kR, hp', hp3, hdR, hkR⟩ hfp => ?_⟩
            subst hp'
            have hr3 := e3 _ _ hr20
            walk_at "rd"
            refine ⟨r2, _, rfl, dpK hr3 (by simp), ?_⟩
            have nfr : fl ≠ r2 := fun z => by rw [z, hr3] at hfl; cases hfl
            have npr : p' ≠ r2 := fun z => by rw [z, hr3] at hp3; cases hp3
            have ndr : dR ≠ r2 := fun z => by rw [z, hr3] at hdR; cases hdR
            have hdt3 := e3 _ _ hdt0
            have ndtr : dt ≠ r2 := fun z => by rw [z, hr3] at hdt3; cases hdt3
            have nr2G : G2 r2 = none := nr2G
            have sG4 : Same G2 (upd H3 r2 (.dK (putK [] (Sum.inr n) (.ref fl)))) := same_mut (sG0.trans e3) nr2G
            have hfl4 : upd H3 r2 (.dK (putK [] (Sum.inr n) (.ref fl))) fl = some (.lst (pre ++ [.ref p'])) := by rw [upd_ne nfr]; exact hfl
            have hp4 : upd H3 r2 (.dK (putK [] (Sum.inr n) (.ref fl))) p' = some (.tup [.ref dR, xo', xb', xr']) := by rw [upd_ne npr]; exact hp3
            have hdR4 : upd H3 r2 (.dK (putK [] (Sum.inr n) (.ref fl))) dR = some (.dT kR) := by rw [upd_ne ndr]; exact hdR
            have hdt4 : upd H3 r2 (.dK (putK [] (Sum.inr n) (.ref fl))) dt = some (.dT kts2) := by rw [upd_ne ndtr]; exact hdt3
            generalize upd H3 r2 (.dK (putK [] (Sum.inr n) (.ref fl))) = H4 at sG4 hfl4 hp4 hdR4 hdt4
            walk_at "rd"
            refine ⟨dR, .dT kR, hdR4, trivial, fun od => ?_⟩
            have nflR : fl ≠ dR := fun z => by rw [z, hdR4] at hfl4; cases hfl4
            have npR : p' ≠ dR := fun z => by rw [z, hdR4] at hp4; cases hp4
            have hflf : upd H4 dR (.frz od (.dT kR)) fl = some (.lst (pre ++ [.ref p'])) := by rw [upd_ne nflR]; exact hfl4
            have hpf : upd H4 dR (.frz od (.dT kR)) p' = some (.tup [.ref dR, xo', xb', xr']) := by rw [upd_ne npR]; exact hp4
            have hdRf : upd H4 dR (.frz od (.dT kR)) dR = some (.frz od (.dT kR)) := upd_same
            have hdtf : Rd (upd H4 dR (.frz od (.dT kR))) dt (.dT kts2) := by
              by_cases z : dt = dR
              · subst z
                rw [hdt4] at hdR4
                cases hdR4
                exact .inr ⟨od, hdRf⟩
              · exact .inl (by rw [upd_ne z]; exact hdt4)
            generalize hHf : upd H4 dR (.frz od (.dT kR)) = Hf at hflf hpf hdRf hdtf
            have hRl : kR.length = R.length := by
              have := congrArg List.length hkR
              simpa using this
            obtain ⟨fn, fX, fch, fnn, fst, fiff⟩ := id hfp
            have hRn := fst.nd
            have hRo : ∀ s ∈ R, s ∈ g.order := fun s hs => (fst.sub s hs).resolve_left (fun h => by cases h)
            have hRlen := nodup_le R g.order hRn hRo
            walk_at "rd"
            refine ⟨_, rfl, 1, rfl, ?_⟩
            refine i_ixLm (xs := pre) (SqL.of hflf) ?_
            have hpf' := SqT.of (K := K) hpf
            walk_at "rd"
            refine ⟨dR, od, rfl, .inr ⟨kR, hdRf, fun D nD => ?_⟩⟩
            have hRR : ∀ i H x H', i < kR.length → (H' = H ∧ ∃ (k : List Key) (v : V) (q : Addr), kR[i]? = some (k, v) ∧ x = .ref q ∧ H q = some (.tup (k.map kV))) → H' = H ∧ ∃ y, R[i]? = some y ∧ rTupS H x y := fun i H x H' _ ⟨e, k, v, q, hk, hx, hq⟩ => by
              obtain ⟨s, hs, rfl⟩ := keys_at hkR hk
              exact ⟨e, s, hs, q, hx, by rw [← keyS_kV]; exact hq⟩
            refine lc_wT (walk_keysT (kvs := kR)) rTupS rTupS (ys := R) (fun s => !decide (s ∈ T1)) id hRl (fun H' s => s _ _ hdRf) hRR (by omega) nD (fun x => rfl) (fun x s G sm hx hm Q hQ => ?_) (fun x s G sm hx hm hk Q hQ => ?_) (fun H5 zs sm hz hp => ?_)
            · obtain ⟨xa, rfl, hxa⟩ := id hx
              walk_at "rd"
              refine ⟨dt, _, rfl, .inr ⟨kts2, keyS s, xa, hdtf.elim (fun h => .inl (sm _ _ h)) (fun ⟨ob, h⟩ => .inr ⟨ob, sm _ _ h⟩), rfl, by rw [keyS_kV]; exact hxa, rfl⟩, _, rfl, ?_⟩
              rw [val_keys hk2]
              exact hQ _ (Same.refl _)
            · walk_at "rd"
              exact hQ _ _ (Same.refl _) hx
            rw [List.map_id] at hp
            have nDR : D ≠ dR := fun z => by rw [z, hdRf] at nD; cases nD
            refine ⟨sm _ _ hdRf, ?_⟩
            have s45 : Same H4 (upd H5 dR (.dT kR)) := same_unlockT hdR4 (by rw [hHf]; exact sm)
            have hD5 : upd H5 dR (.dT kR) D = some (.lst zs) := by rw [upd_ne nDR]; exact hz
            have hp5 : Paired (rTupS (upd H5 dR (.dT kR))) zs (R.filter fun s => !decide (s ∈ T1)) := by
              refine paired_imp (fun v s r => ?_) hp
              obtain ⟨xa, rfl, hxa⟩ := r
              have hd5 := sm _ _ hdRf
              exact ⟨xa, rfl, by rw [upd_ne (fun z => by rw [z, hd5] at hxa; cases hxa)]; exact hxa⟩
            generalize upd H5 dR (.dT kR) = H6 at s45 hD5 hp5
            have hdt6 := s45 _ _ hdt4
            have hdR6 := s45 _ _ hdR4
            have hfl6 := s45 _ _ hfl4
            have hp6 := s45 _ _ hp4
            have hlz := paired_len hp5
            have hxcn : ∀ G', Same H G' → G' dt = none → ∀ k, upd G' dt (.dT k) xc = some (.lst [.str n]) := fun G' e nn k => by
              have h := e _ _ hxc
              rw [upd_ne (ne_of_none h nn)]
              exact h
            have sG6 : Same G2 (off H6 dt) := fun b o h => by
              rw [off_ne (ne_of_none h nd2)]
              exact s45 _ _ (sG4 _ _ h)
            have sH6 := e12.trans sG6
            dsimp only
            walk_at "rd"
            refine ⟨D, zs, rfl, .inl (SqL.of hD5), ?_⟩
            walk_at "rd"
            refine ⟨_, 0, rfl, rfl, _, rfl, ?_⟩
            generalize hfr : (R.filter fun s => !decide (s ∈ T1)) = fresh at hp5 hlz
            have hfrm : ∀ s, s ∈ fresh ↔ s ∈ R ∧ s ∉ T1 := fun s => by
              rw [← hfr, List.mem_filter]
              simp
            cases fresh with
            | nil =>
              have hz0 : zs = [] := List.length_eq_zero_iff.mp hlz
              subst hz0
              refine ifF (by decide +kernel) ?_
              walk_at "rd"
              have hRT : ∀ s ∈ R, s ∈ T1 := fun s hs => by
                by_cases hm : s ∈ T1
                · exact hm
                · exact absurd ((hfrm s).mpr ⟨hs, hm⟩) (by simp)
              refine .inr ⟨rfl, ?_, T1, false, ⟨off H6 dt, kts2, _, _, _, _, _, off_self hdt6, sH6, off_at, hk2, hn2, ho2, hl2, fun _ => ⟨hcl2.cl, R, hfp, hRT⟩, rfl⟩, .inl ⟨rfl, h01⟩⟩
              rw [off_self hdt6]
              exact hxcn _ sH6 off_at _
            | cons f0 fr =>
              have hf0 := (hfrm f0).mp List.mem_cons_self
              have hdne : dR ≠ dt := fun z => by
                rw [z, hdt6] at hdR6
                have hkk := HO.dT.inj (Option.some.inj hdR6)
                rw [← hkk, hk2] at hkR
                have : T1 = R := List.map_inj_right (fun _ _ z => keyS_inj z) |>.mp hkR
                rw [← this] at hf0
                exact hf0.2 hf0.1
              refine ifT (decide_eq_true (by rw [hlz, List.length_cons]; omega)) ?_
              generalize hfresh : f0 :: fr = fresh at hfr hp5 hlz hfrm
              have hfl0 : fresh ≠ [] := by rw [← hfresh]; exact List.cons_ne_nil _ _
              have hfn : fresh.Nodup := by rw [← hfr]; exact hRn.filter _
              have hfno : ∀ s ∈ fresh, s ∉ T1 := fun s hs => ((hfrm s).mp hs).2
              have g6 : off H6 dt dR = some (.dT kR) := by rw [off_ne hdne]; exact hdR6
              have nfd : fl ≠ dt := fun z => by rw [z, hdt6] at hfl6; cases hfl6
              have npd : p' ≠ dt := fun z => by rw [z, hdt6] at hp6; cases hp6
              have nDd : D ≠ dt := fun z => by rw [z, hdt6] at hD5; cases hD5
              have hTf : (T1 ++ fresh).Nodup := List.nodup_append.mpr ⟨hn2, hfn, fun x hx y hy e => hfno y hy (e ▸ hx)⟩
              have hTfo : ∀ s ∈ T1 ++ fresh, s ∈ g.order := fun s hs => (List.mem_append.mp hs).elim (ho2 s) fun h => hRo s ((hfrm s).mp h).1
              have hTfl := nodup_le _ g.order hTf hTfo
              rw [List.length_append] at hTfl
              walk_at "rd"
              refine ⟨D, rfl, ⟨zs, SqL.of hD5⟩, ?_⟩
              refine for_w (walk_list (xs := zs)) (fun j σ' H' => ∃ G' kT' v9, H' = upd G' dt (.dT kT') ∧ Same (off H6 dt) G' ∧ G' dt = none ∧ kT'.map (·.1) = (T1 ++ fresh.take j).map keyS ∧ σ' = [some xg, some xo, some xb, some (.ref xc), some (.ref dt), some (.ref r2), some (.bl false), some (.str n), some (.ref fl), v9, some (.ref D)]) ⟨off H6 dt, kts2, _, off_self hdt6, Same.refl _, off_at, by simpa using hk2, rfl⟩ ?_ ?_ ?_
              · rintro j σ' H' _ ⟨G', kT', v9, rfl, e', nd', _⟩
                exact SqL.of (by rw [upd_ne nDd]; exact e' _ _ (by rw [off_ne nDd]; exact hD5))
              · rintro j x σ' H' H'' hj ⟨G', kT', v9, hH, e', nd', hkT', rfl⟩ ⟨rfl, hx⟩
                subst hH
                obtain ⟨s, hs, xa, rfl, hxa⟩ := paired_get hp5 hx
                have hsm : s ∈ fresh := List.mem_of_getElem? hs
                have nxd : xa ≠ dt := fun z => by rw [z, hdt6] at hxa; cases hxa
                have at_ : ∀ b o, b ≠ dt → H6 b = some o → upd G' dt (.dT kT') b = some o := fun b o nb h => by
                  rw [upd_ne nb]
                  exact e' _ _ (by rw [off_ne nb]; exact h)
                have hvs : (valV kR (keyS s)).isSome = true := by
                  rw [val_keys hkR]
                  exact decide_eq_true ((hfrm s).mp hsm).1
                obtain ⟨v, hv⟩ := Option.isSome_iff_exists.mp hvs
                have hsT : s ∉ T1 ++ fresh.take j := fun hm => (List.mem_append.mp hm).elim (hfno s hsm) (nodup_take_not hfn hs)
                have hvn : valV kT' (keyS s) = none := by
                  have := val_keys hkT' s
                  rw [decide_eq_false hsT] at this
                  cases hv : valV kT' (keyS s) with
                  | none => rfl
                  | some v => rw [hv] at this; cases this
                have hkl : kT'.length ≤ 100 := by
                  have := congrArg List.length hkT'
                  rw [List.length_map, List.length_map, List.length_append, List.length_take] at this
                  omega
                walk_at "rd"
                refine ⟨1, rfl, ?_⟩
                refine i_ixLm (xs := pre) (SqL.of (at_ _ _ nfd hfl6)) ?_
                have hp7 := SqT.of (K := K) (at_ _ _ npd hp6)
                walk_at "rd"
                refine ⟨dR, v, rfl, .inr ⟨kR, keyS s, xa, .inl (at_ _ _ hdne hdR6), rfl, by rw [keyS_kV]; exact at_ _ _ nxd hxa, hv.symm⟩, ?_⟩
                walk_at "rd"
                refine ⟨dt, _, rfl, .inr ⟨kT', keyS s, xa, upd_same, rfl, by rw [keyS_kV]; exact at_ _ _ nxd hxa, big5' (by omega), rfl⟩, ?_⟩
                rw [putK_new hvn, upd_upd]
                refine ⟨G', _, _, rfl, e', nd', ?_, rfl⟩
                rw [List.map_append, hkT', take_more hs, ← List.append_assoc, List.map_append (l₁ := T1 ++ fresh.take j)]
                rfl
              · rintro σ' H' ⟨G', kT', v9, rfl, e', nd', hkT', rfl⟩
                rw [hlz, List.take_length] at hkT'
                walk_at "rd"
                have hpos : 0 < fresh.length := List.length_pos_iff.mpr hfl0
                refine ⟨T1 ++ fresh, true, ⟨G', kT', _, _, _, _, _, rfl, sH6.trans e', nd', hkT', hTf, hTfo, fun P h1 h2 s hs => ?_, (fun z => by cases z), rfl⟩, .inr (by rw [List.length_append]; omega)⟩
                rcases List.mem_append.mp hs with h | h
                · exact hl2 P h1 h2 s h
                · exact h2 T1 R (hl2 P h1 h2) hfp s ((hfrm s).mp h).1
          · exact absurd hi (by simp)
        · rintro σ H' (⟨h, _⟩ | ⟨_, _, h⟩)
          · exact absurd h (by simp)
          · exact h
def goodL (g : Gm) : List Bool := g.edges.map fun e => e.tgt.isNone
def badL (g : Gm) : List Bool := g.edges.map fun _ => false
def spSolve (c : Cs) : Sp := fun vs H Q _ => ∃ xg g n, vs = [xg] ∧ rGame c H xg g ∧ GmWf g ∧ g.tallies = [n] ∧ ∀ v H' T, Same H H' → rWon H' v T → WonP g (goodL g) (badL g) n T → Q v H'
theorem c_solve_game (T : Txt K mg c) : Cal P w K mg base 6 "solve_game" (spSolve c) [] := by
    refine cal_of T.d_solve_game sc_solve_game (by walk_at "len") (fun f cdv A outer sh H vs Q E hr h => ?_)
    have nd := sc_solve_game.nd
    obtain ⟨_, g, n, rfl, hG, wf, htl, q⟩ := h
    refine ⟨_, (pss_cons (ps_setLc (i := 1) (own := [("edge", 2)]) (g := gName 2) (by rfl) nd rfl rfl (sw_true rfl rfl rfl (by decide +kernel)) (pi_listK K rfl (pe_fldK K rfl (pv 0) rfl)) (blkOk_by (own := [("edge", 2)]) (N := N_solve_game) (sc := fnScope s_solve_game) (by decide +kernel)) (fun _ _ _ _ _ => (pg_name (i := 2) nd rfl (.inl rfl))) (fun _ _ _ _ _ => pts_nil) (fun _ _ _ _ _ => pe_hide (pe_cmpR op_isN (pe_ix (kIxT K rfl) (pv 2) pe_int (fun _ _ => rfl)) pe_non (nomark _))))
        (pss_one (ps_ret (C8.pe_c (c_won_by1 T) hr (by first | decide | exact Nat.le_refl _ | omega) rfl (pa_cons (pv 0) (pa_cons (pv 1) (pa_cons (pe_lc (own := [("edge", 2)]) (g := gName 2) rfl nd (pi_listK K rfl (pe_fldK K rfl (pv 0) rfl)) (blkOk_by (own := [("edge", 2)]) (N := N_solve_game) (sc := fnScope s_solve_game) (by decide +kernel)) (fun _ _ _ _ _ => (pg_name (i := 2) nd rfl (.inl rfl))) (fun _ _ _ _ _ => pts_nil) (fun _ _ _ _ _ => pe_hide pe_bl)) (pa_cons (pe_fldK K rfl (pv 0) rfl) pa_nil)))))))), ?_⟩
    obtain ⟨a, dx, o, t, ed, ch, kcs, rfl, ha, ho, ht, ⟨_, ews, hqe, hed, hep⟩, hch, hkc⟩ := id hG
    cases hqe
    have hel := wf.small
    walk_at "rd"
    refine ⟨_, rfl, a, _, _, _, _, rfl, ha, T.cG, T.nG_edges, fG_edges, ed, rfl, ⟨ews, SqL.of hed⟩, fun D nD => ?_⟩
    refine lc_wm (walk_list (xs := ews)) rEdge rBool (ys := g.edges) (fun e => e.tgt.isNone) (paired_len hep) (fun H' s => SqL.of (s _ _ hed)) (yat_of rEdge hep) (by omega) nD (fun x => rfl) (fun x e G sm hx hm Q hQ => ?_) (fun H1 zs e1 hz hp => ?_)
    · obtain ⟨pe, pt, pk, pd, pi, pg', rfl, hpe, rt, _⟩ := hx
      have hpe' := SqT.of (K := K) hpe
      walk_at "rd"
      refine ⟨rfl, hQ _ _ (Same.refl _) ?_⟩
      show V.bl _ = V.bl _
      congr 1
      cases htg : e.tgt with
      | none =>
        rw [htg] at rt
        rw [show pt = V.non from rt]
        rfl
      | some s =>
        rw [htg] at rt
        obtain ⟨b, rfl, _⟩ := rt
        rfl
    have hg1 : rLst rBool H1 (.ref D) (goodL g) := ⟨D, zs, rfl, hz, hp⟩
    walk_at "rd"
    refine ⟨_, rfl, a, _, _, _, _, rfl, e1 _ _ ha, T.cG, T.nG_edges, fG_edges, ed, rfl, ⟨ews, SqL.of (e1 _ _ hed)⟩, fun D2 nD2 => ?_⟩
    refine lc_wm (walk_list (xs := ews)) rEdge rBool (ys := g.edges) (fun _ => false) (paired_len hep) (fun H' s => SqL.of (s _ _ (e1 _ _ hed))) (yat_of rEdge (paired_mono e1 hep)) (by omega) nD2 (fun x => rfl) (fun x e G sm hx hm Q hQ => ?_) (fun H2 us e2 hz2 hp2 => ?_)
    · walk_at "rd"
      exact hQ _ _ (Same.refl _) rfl
    have e12 := e1.trans e2
    walk_at "rd"
    refine ⟨a, _, _, _, _, rfl, e12 _ _ ha, T.cG, T.nG_tallies, fG_tallies, ?_⟩
    walk_at "rd"
    refine ⟨_, _, _, _, g, goodL g, badL g, n, rfl, ⟨rGame_same hG e12, wf, mono hg1 e2, ⟨D2, us, rfl, hz2, hp2⟩, by simp [goodL], by simp [badL], fun k e he hn => ?_⟩, by rw [← htl]; exact mono ht e12, fun v H' T e r w => q v H' T (e12.trans e) r w⟩
    unfold goodL
    rw [List.getElem?_map, he]
    show some e.tgt.isNone = some true
    rw [hn]
    rfl
theorem gmWf_of {k : Tk} {g : Gm} (h : GmOk k g) (ok : WdOk k.wd) : GmWf g := by
  have hsl := states_len k.wd.seen
  have hsn := ok.toLsOk.seenLen
  have hpw : 2 ^ k.wd.seen.length ≤ 2 ^ 3 := Nat.pow_le_pow_right (by decide) hsn
  have hfl := List.length_filter_le (fun s => !decide (s ∈ goals k)) (statesOf k.wd.seen)
  have key : ∀ p ∈ g.choices, ∀ q ∈ p.2, ∃ A ∈ possible k.wd p.1, q.2.map (fun i => g.edges[i]?) = (edgesFor k.wd (goals k) p.1 A.2).map some := fun p hp q hq => by
    have hc := h.ch p hp
    unfold Ch2 at hc
    have hm : q.2.map (fun i => g.edges[i]?) ∈ p.2.map (fun q => q.2.map fun k => g.edges[k]?) := List.mem_map.mpr ⟨q, hq, rfl⟩
    rw [hc] at hm
    obtain ⟨A, hA, he⟩ := List.mem_map.mp hm
    exact ⟨A, hA, he.symm⟩
  refine ⟨h.keys, fun p hp q hq i hi => ?_, fun p hp q hq => ?_, ?_, ?_, h.small⟩
  · obtain ⟨A, hA, he⟩ := key p hp q hq
    have hm : g.edges[i]? ∈ q.2.map (fun i => g.edges[i]?) := List.mem_map.mpr ⟨i, hi, rfl⟩
    rw [he] at hm
    obtain ⟨e, _, h2⟩ := List.mem_map.mp hm
    exact (List.getElem?_eq_some_iff.mp h2.symm).1
  · obtain ⟨A, hA, he⟩ := key p hp q hq
    have := congrArg List.length he
    rw [List.length_map, List.length_map, edgesFor, List.length_map] at this
    have hl := results_len (w := k.wd) (s := p.1) (A := A.2) ok.np (ok.acts _ (List.mem_filter.mp hA).1).2.len
    omega
  · rw [h.order]
    exact (states_nodup ok.toLsOk.seenNd).filter _
  · rw [h.order]
    omega
theorem i_mkG {H : Hp} {x : V} {wo : Addr} {k : Tk} {E : XK} {Q : VK} (hx : rTk2 c H x k) (hwo : ∀ H', SqT K H' wo ([].map V.str)) (q : ∀ v H' g, Same H H' → rGame c H' v g → GmOk k g → Q v H') (a dx : Addr) (nx : H a = none) (nd : H dx = none) (ne : dx ≠ a) :
    spGInit K c (.ref a :: ([x, .ref wo] ++ [])) (upd (upd H dx (.own a)) a (.ins c.G dx [])) (fun v H2 => v = .non ∧ Q (.ref a) H2) E :=
  ⟨a, dx, x, wo, k, H, rfl, same_made nx nd (Same.refl _), nx, upd_same, hx, hwo, fun H2 g e h1 h2 => ⟨rfl, q _ _ _ e h1 h2⟩⟩
theorem u_mkG {H : Hp} {x : V} {wo : Addr} {k : Tk} {σ : L2.St} {t : TA} {Q : VK} (ht : ∀ R : List V → Hp → Prop, R [x, .ref wo] H → t σ H R) (hx : rTk2 c H x k) (hwo : ∀ H', SqT K H' wo ([].map V.str)) (q : ∀ v H' g, Same H H' → rGame c H' v g → GmOk k g → Q v H') : tMake c.G (spGInit K c) [] C8.E0 t σ H Q :=
  ht _ fun a dx na ndx ne => i_mkG hx hwo q a dx na ndx ne
/-- what the program answers -/
def wonL (k : Tk) (T : List (List Str)) : List (List Str) := (statesOf k.wd.seen).filter fun s => decide (s ∈ goals k) || decide (s ∈ T)
def spWonS (K : PySem.W.Frag) (c : Cs) : Sp := fun vs H Q _ => ∃ x wo k n, vs = [x, .ref wo] ∧ rTk2 c H x k ∧ (∀ H', SqT K H' wo ([].map V.str)) ∧ k.wd.counters = [n] ∧ ∀ v H' T g, Same H H' → rLst rTupS H' v (wonL k T) → GmOk k g → WdOk k.wd → WonP g (goodL g) (badL g) n T → Q v H'
theorem b_won_states (T : Txt K mg c) : Body P w K mg base N_won_states "won_states" s_won_states 13 (spWonS K c) := by
    intro f cdv A outer sh H vs Q E hr h
    have nd := sc_won_states.nd
    obtain ⟨x, wo, k, n, rfl, hx, hwo, hcn, q⟩ := h
    refine ⟨_, (pss_cons (ps_set (i := 2) nd rfl (.inl rfl) (C8.pe_mk (k_Game T) hr (by first | decide | exact Nat.le_refl _ | omega) rfl (pa_cons (pv 0) (pa_cons (pv 1) pa_nil))))
        (pss_cons (ps_set (i := 3) nd rfl (.inr rfl) (pe_ix (kIxT K rfl) (C8.pe_c (c_solve_game T) hr (by first | decide | exact Nat.le_refl _ | omega) rfl (pa_cons (pv 2) pa_nil)) pe_int (fun _ _ => rfl)))
        (pss_cons (ps_set (i := 4) nd rfl (.inr rfl) (C8.pe_mt0 (m_Task_goals T) hr (by first | decide | exact Nat.le_refl _ | omega) (pv 0)))
        (pss_one (ps_ret (pe_lc (own := [("state", 5)]) (g := gName 5) rfl nd (pi_listK K rfl (C8.pe_mt0 (m_World_states T) hr (by first | decide | exact Nat.le_refl _ | omega) (C8.pe_mt0 (m_Task_base T) hr (by first | decide | exact Nat.le_refl _ | omega) (pv 0)))) (blkOk_by (own := [("state", 5)]) (N := N_won_states) (sc := fnScope s_won_states) (by decide +kernel)) (fun _ _ _ _ _ => (pg_name (i := 5) nd rfl (.inl rfl))) (fun _ _ _ _ _ => pts_one (pt_hide (PW.pt (pw_or (pt_cmpR (kInD K rfl (by exact hu65 hr)) (pv 5) (pv 4) (by rfl)) (pw_or1 (pt_cmp (pc_din (by exact hu_of hr) (pv 5) (pv 3)))))))) (fun _ _ _ _ _ => pe_hide (pv 5)))))))), ?_⟩
    obtain ⟨ax, dxx, ix, bx, gx, rfl, hax, hix, _⟩ := id hx
    have ok : WdOk k.wd := by
      obtain ⟨_, _, _, _, _, _, _, _, _, _, _, ok⟩ := hix
      exact ok
    refine i_seq (i_asg (u_mkG (K := K) (fun R r => i_cons (i_var (by rfl) (i_cons (i_var (by rfl) (i_nil r))))) hx hwo fun xg H1 g e1 hg hok => ?_))
    have wf := gmWf_of hok ok
    walk_at "rd"
    refine ⟨_, g, n, rfl, hg, wf, by rw [hok.tallies, hcn], fun v H2 T' e2 ⟨p, dt, xo, xb, xr, kts, hv, hp, hdt, hk⟩ hw => ?_⟩
    subst hv
    have hp' := SqT.of (K := K) hp
    walk_at "rd"
    refine ⟨ax, _, _, rfl, (e1.trans e2) _ _ hax, fT_no_goals, ?_⟩
    walk_at "rd"
    refine ⟨_, k, rfl, rTk2_same hx (e1.trans e2), fun xr2 H3 e3 hr3 => ?_⟩
    have e13 := (e1.trans e2).trans e3
    walk_at "rd"
    refine ⟨_, rfl, ax, _, _, rfl, e13 _ _ hax, fT_no_base, ?_⟩
    refine ⟨_, k, rfl, rTk2_same hx e13, fun xw H4 e4 hw4 => ?_⟩
    obtain ⟨aw, dw, fw, pw, rw', tw, kvs, rfl, W, _⟩ := id hw4
    refine ⟨aw, _, _, rfl, W.ob, fW_no_states, _, k.wd, rfl, ⟨aw, dw, fw, pw, rw', tw, rfl, W⟩, ok.toLsOk, fun v5 H5 e5 ⟨l5, vs5, hv5, hl5, hp5⟩ => ?_⟩
    subst hv5
    have hsl := states_len k.wd.seen
    have hsn := ok.toLsOk.seenLen
    have hpw : 2 ^ k.wd.seen.length ≤ 2 ^ 3 := Nat.pow_le_pow_right (by decide) hsn
    have hgo : ∀ u ∈ goals k, ∀ n ∈ u, PyData.strOk n = true := fun u hu => ok.toLsOk.okS (List.mem_filter.mp hu).1
    have e35 := e4.trans e5
    refine ⟨l5, rfl, ⟨vs5, SqL.of hl5⟩, fun D nD => ?_⟩
    refine lc_w (walk_list (xs := vs5)) rTupS rTupS (ys := statesOf k.wd.seen) (fun s => decide (s ∈ goals k) || decide (s ∈ T')) id (paired_len hp5) (fun H' s => SqL.of (s _ _ hl5)) (yat_of rTupS hp5) (by omega) nD (fun x => rfl) (fun x s G sm hx hm Q hQ => ?_) (fun x s G sm hx hm hk Q hQ => ?_) (fun H6 zs sm6 hz hp6 => ?_)
    · obtain ⟨xa, rfl, hxa⟩ := id hx
      walk_at "rd"
      refine i_inL hx (mono hr3 (e35.trans sm)) (ok.toLsOk.okS hm) hgo ⟨_, rfl, ?_⟩
      cases hc : decide (s ∈ goals k) with
      | true =>
        rw [hc] at hQ
        walk_at "rd"
        exact hQ _ (Same.refl _)
      | false =>
        rw [hc] at hQ
        walk_at "rd"
        refine ⟨dt, _, rfl, .inr ⟨kts, keyS s, xa, .inl ((e3.trans (e35.trans sm)) _ _ hdt), rfl, by rw [keyS_kV]; exact hxa, rfl⟩, ?_⟩
        rw [val_keys hk]
        exact ⟨_, rfl, hQ _ (Same.refl _)⟩
    · walk_at "rd"
      exact hQ _ _ (Same.refl _) hx
    · rw [List.map_id] at hp6
      exact q _ _ T' g ((e13.trans e35).trans sm6) ⟨D, zs, rfl, hz, hp6⟩ hok ok hw
/-! ### arithmetic that only reads -/
section
variable {σ : L2.St} {H : Hp} {ta tb : TE} {i j : Int}
theorem ev_rI {C : Int → Int → Prop} {g : Int → Int → V} (ha : EV ta σ H (.int i)) (hb : EV tb σ H (.int j)) (hc : C i j) : EV (tOp (rI C g) ta tb) σ H (g i j) := fun Q q => ha _ (hb _ ⟨i, j, rfl, rfl, hc, q⟩)
theorem ev_rI0 {g : Int → Int → V} (ha : EV ta σ H (.int i)) (hb : EV tb σ H (.int j)) : EV (tOp (rI0 g) ta tb) σ H (g i j) := fun Q q => ha _ (hb _ ⟨i, j, rfl, rfl, q⟩)
theorem ev_ixl {K : PySem.W.Frag} {p : Addr} {xs : List V} {v : V} {k : Nat} (ha : EV ta σ H (.ref p)) (h : SqL K H p xs) (e : xs[k]? = some v) : EV (tOp (rIxL K) ta (tC (.int (k : Int)))) σ H v := fun Q q => ha _ ⟨p, xs, _, v, rfl, rfl, h, atI_nat e, q⟩
end
/-- stream[k] = te -/
theorem i_setL {te : TE} {K : PySem.W.Frag} {nx bk ct : L2.St → Hp → Prop} {rt : VK} {σ : L2.St} {H : Hp} {p : Addr} {xs : List V} {v : V} {k : Nat} (h0 : σ[0]? = some (some (.ref p))) (he : EV te σ H v) (h : H p = some (.lst xs)) (hk : k < xs.length) (hl : xs.length ≤ 100) (q : nx σ (upd H p (.lst (xs.set k v)))) : tAsg te (gSub (tVar 0) (tC (.int (k : Int))) rSetL) ⟨nx, rt, bk, ct⟩ σ H :=
  he _ ⟨_, h0, p, xs, (k : Int), k, rfl, rfl, h, by
    unfold ixN
    rw [if_pos (by omega), if_pos (by omega)]
    rfl, q⟩
/-! ### the law's stream -/
structure Strm where
  zs : List Int
  x1 : Int
  x2 : Int
  x3 : Int
def sH (G : Hp) (s st : Addr) (S : Strm) : Hp := upd (upd G s (.lst (S.zs.map V.int))) st (.lst [.ref s, .int S.x1, .int S.x2, .int S.x3])
structure SOk (S : Strm) (b : Nat) : Prop where
  h1 : 0 ≤ S.x1
  h2 : 0 ≤ S.x2
  hb : S.x2 ≤ b
  h3 : 0 ≤ S.x3
  h4 : S.x3 < 2147483647
  hz : S.zs.length ≤ 64
theorem sH_st {G : Hp} {s st : Addr} {S : Strm} : sH G s st S st = some (.lst [.ref s, .int S.x1, .int S.x2, .int S.x3]) := upd_same
theorem sH_s {G : Hp} {s st : Addr} {S : Strm} (h : s ≠ st) : sH G s st S s = some (.lst (S.zs.map V.int)) := by
  unfold sH
  rw [upd_ne h]
  exact upd_same
theorem sH_1 {G : Hp} {s st : Addr} {S : Strm} {y : Int} : upd (sH G s st S) st (.lst ([V.ref s, .int S.x1, .int S.x2, .int S.x3].set 1 (.int y))) = sH G s st { S with x1 := y } := upd_upd
theorem sH_2 {G : Hp} {s st : Addr} {S : Strm} {y : Int} : upd (sH G s st S) st (.lst ([V.ref s, .int S.x1, .int S.x2, .int S.x3].set 2 (.int y))) = sH G s st { S with x2 := y } := upd_upd
theorem sH_3 {G : Hp} {s st : Addr} {S : Strm} {y : Int} : upd (sH G s st S) st (.lst ([V.ref s, .int S.x1, .int S.x2, .int S.x3].set 3 (.int y))) = sH G s st { S with x3 := y } := upd_upd
theorem sH_z {G : Hp} {s st : Addr} {S : Strm} {zs : List Int} (h : s ≠ st) : upd (sH G s st S) s (.lst (zs.map V.int)) = sH G s st { S with zs := zs } := by
  unfold sH
  rw [upd_swap h]
theorem sH_new {G : Hp} {s st p : Addr} {S : Strm} {o : HO} (h : s ≠ st) (n : sH G s st S p = none) : upd (sH G s st S) p o = sH (upd G p o) s st S ∧ Same G (upd G p o) ∧ (G s = none → upd G p o s = none) ∧ (G st = none → upd G p o st = none) := by
  obtain ⟨n1, n2⟩ := none_of_upd n
  obtain ⟨n3, n4⟩ := none_of_upd n1
  refine ⟨?_, same_new n3, fun h => by rw [upd_ne (Ne.symm n4)]; exact h, fun h => by rw [upd_ne (Ne.symm n2)]; exact h⟩
  unfold sH
  rw [upd_swap' n2, upd_swap' n4]
section
variable {te : TE} {nx bk ct : L2.St → Hp → Prop} {rt : VK} {σ : L2.St} {G : Hp} {s st : Addr} {S : Strm} {y : Int}
theorem i_set1 (h0 : σ[0]? = some (some (.ref st))) (he : EV te σ (sH G s st S) (.int y)) (q : nx σ (sH G s st { S with x1 := y })) : tAsg te (gSub (tVar 0) (tC (.int 1)) rSetL) ⟨nx, rt, bk, ct⟩ σ (sH G s st S) :=
  i_setL (K := []) (k := 1) h0 he sH_st (by simp) (by simp) (by rw [sH_1]; exact q)
theorem i_set2 (h0 : σ[0]? = some (some (.ref st))) (he : EV te σ (sH G s st S) (.int y)) (q : nx σ (sH G s st { S with x2 := y })) : tAsg te (gSub (tVar 0) (tC (.int 2)) rSetL) ⟨nx, rt, bk, ct⟩ σ (sH G s st S) :=
  i_setL (K := []) (k := 2) h0 he sH_st (by simp) (by simp) (by rw [sH_2]; exact q)
theorem i_set3 (h0 : σ[0]? = some (some (.ref st))) (he : EV te σ (sH G s st S) (.int y)) (q : nx σ (sH G s st { S with x3 := y })) : tAsg te (gSub (tVar 0) (tC (.int 3)) rSetL) ⟨nx, rt, bk, ct⟩ σ (sH G s st S) :=
  i_setL (K := []) (k := 3) h0 he sH_st (by simp) (by simp) (by rw [sH_3]; exact q)
theorem i_seqJ {t1 t2 : TS} {H : Hp} (P : Hp → Prop) (h2 : ∀ H', P H' → t2 ⟨nx, rt, bk, ct⟩ σ H') (h1 : (∀ H', P H' → t2 ⟨nx, rt, bk, ct⟩ σ H') → t1 ⟨t2 ⟨nx, rt, bk, ct⟩, rt, bk, ct⟩ σ H) : tSeq t1 t2 ⟨nx, rt, bk, ct⟩ σ H := h1 h2
theorem i_tst {te : TE} {H : Hp} {b : Bool} {Q : Bool → Hp → Prop} (he : EV te σ H (.bl b)) (q : Q b H) : tTest te σ H Q := he _ ⟨b, rfl, q⟩
theorem ev_rEq {ta tb : TE} {H : Hp} {x y : V} (ha : EV ta σ H x) (hb : EV tb σ H y) (h : scal x y = true) : EV (tOp rEq ta tb) σ H (.bl (decide (x = y))) := fun Q q => ha _ (hb _ ⟨h, q⟩)
theorem ev_int {ta : TE} {H : Hp} {i : Int} (ha : EV ta σ H (.int i)) : EV (tCB (fun xs H Q => (∃ i, xs = [V.int i] ∧ Q (V.int i) H) ∨ ∃ k, xs = [V.bl k] ∧ Q (V.int (if k = true then 1 else 0)) H) (tCons ta tNil)) σ H (.int i) := fun Q q => ha _ (.inl ⟨i, rfl, q⟩)
end
theorem ints_eqv : ∀ zs : List Int, PyData.eqv (.list (zs.map .int)) (.list []) = decide (zs = [])
  | [] => rfl
  | _ :: _ => rfl
theorem dp_ints {K : PySem.W.Frag} {H : Hp} : ∀ zs : List Int, DpAll K H (zs.map V.int) (zs.map .int)
  | [] => .nil
  | z :: r => .cons (.int z) (dp_ints r)
theorem shaped_ints (zs : List Int) : SeqAt.shaped (.list (zs.map .int)) = true := shaped_list (f := PyData.int) fun x _ => ⟨rfl, Nat.zero_le _⟩
def spDraw : Sp := fun vs H Q _ => ∃ st s many G S b, vs = [.ref st, .int ((many : Nat) : Int)] ∧ H = sH G s st S ∧ G s = none ∧ G st = none ∧ s ≠ st ∧ 1 ≤ many ∧ many ≤ 1000 ∧ SOk S b ∧ b < 100000 ∧ ∀ (d : Nat) S2 G2, Same G G2 → G2 s = none → G2 st = none → d < many → SOk S2 (b + 1) → Q (.int (d : Int)) (sH G2 s st S2)
theorem c_l_draw (T : Txt K mg c) : Cal P w K mg base 1 "_law_draw" (spDraw) [] := by
    refine cal_of T.d_l_draw sc_l_draw (by walk_at "len") (fun f cdv A outer sh H vs Q E hr h => ?_)
    have nd := sc_l_draw.nd
    obtain ⟨st, s, many, G, S, b, rfl, rfl, ns, nst, nss, hm1, hm2, hS, hb, q⟩ := h
    refine ⟨_, (pss_cons (ps_asg (pe_op op_add (pe_ix (kIxL K rfl) (pv 0) pe_int (fun _ _ => rfl)) pe_int) (pg_sub (pv 0) pe_int set_list))
        (pss_cons (ps_if (PW.pt (pw_and (pt_cmpR op_eq (pe_ix (kIxL K rfl) (pv 0) pe_int (fun _ _ => rfl)) pe_int (nomark _)) (pw_and1 (pt_cmpR (kNeD K rfl (by exact hr.units)) (pe_ix (kIxL K rfl) (pv 0) pe_int (fun _ _ => rfl)) (pe_lst pa_nil) (nomark _))))) (pss_cons (ps_asg (pe_bmK K rfl PySem.F.plainAttrs_list PySem.F.slot_list_pop PySem.F.type_list_pop mt_popAt (pe_ix (kIxL K rfl) (pv 0) pe_int (fun _ _ => rfl)) (pa_cons pe_int pa_nil)) (pg_sub (pv 0) pe_int set_list))
        (pss_one (ps_if (pt_cmpR op_lt (pe_ix (kIxL K rfl) (pv 0) pe_int (fun _ _ => rfl)) (pe_op op_pow pe_int pe_int) (nomark _)) (pss_cons (ps_asg (pe_op op_mod (pe_callTy call_int1 (by rfl) T.g_int (by decide +kernel) (pa_cons (pe_op op_add (pe_op op_add (pe_op op_mul (pe_ix (kIxL K rfl) (pv 0) pe_int (fun _ _ => rfl)) pe_int) (pe_ix (kIxL K rfl) (pv 0) pe_int (fun _ _ => rfl))) pe_int) pa_nil)) pe_int) (pg_sub (pv 0) pe_int set_list))
        (pss_one (ps_asg pe_int (pg_sub (pv 0) pe_int set_list)))) pss_nil))) pss_nil)
        (pss_cons (ps_if (pt_cmpR op_gt (pe_ix (kIxL K rfl) (pv 0) pe_int (fun _ _ => rfl)) pe_int (nomark _)) (pss_cons (ps_set (i := 2) nd rfl (.inl rfl) (pe_op op_mod (pe_callTy call_int1 (by rfl) T.g_int (by decide +kernel) (pa_cons (pe_ix (kIxL K rfl) (pv 0) pe_int (fun _ _ => rfl)) pa_nil)) (pv 1)))
        (pss_cons (ps_asg (pe_op op_fdiv (pe_ix (kIxL K rfl) (pv 0) pe_int (fun _ _ => rfl)) (pv 1)) (pg_sub (pv 0) pe_int set_list))
        (pss_one (ps_ret (pv 2))))) pss_nil)
        (pss_cons (ps_set (i := 3) nd rfl (.inl rfl) (pe_op op_mod (pe_op op_pow (pe_op op_add (pe_op op_add (pe_ix (kIxL K rfl) (pv 0) pe_int (fun _ _ => rfl)) (pe_op op_mul pe_int (pe_ix (kIxL K rfl) (pv 0) pe_int (fun _ _ => rfl)))) pe_int) pe_int) pe_int))
        (pss_one (ps_ret (pe_op op_mod (pe_op op_mod (pe_op op_pow (pe_op op_add (pe_op op_add (pe_op op_mul (pv 3) pe_int) (pe_op op_mul (pe_op op_mul pe_int (pe_ix (kIxL K rfl) (pv 0) pe_int (fun _ _ => rfl))) (pe_ix (kIxL K rfl) (pv 0) pe_int (fun _ _ => rfl)))) pe_int) pe_int) pe_int) (pv 1)))))))), ?_⟩
    have e0 : ∀ (σ : L2.St) G S, σ[0]? = some (some (.ref st)) → EV (tOp (rIxL K) (tVar 0) (tC (V.int 0))) σ (sH G s st S) (.ref s) := fun σ G S h => ev_ixl (k := 0) (ev_var h) (SqL.of sH_st) rfl
    have e1 : ∀ (σ : L2.St) G S, σ[0]? = some (some (.ref st)) → EV (tOp (rIxL K) (tVar 0) (tC (V.int 1))) σ (sH G s st S) (.int S.x1) := fun σ G S h => ev_ixl (k := 1) (ev_var h) (SqL.of sH_st) rfl
    have e2 : ∀ (σ : L2.St) G S, σ[0]? = some (some (.ref st)) → EV (tOp (rIxL K) (tVar 0) (tC (V.int 2))) σ (sH G s st S) (.int S.x2) := fun σ G S h => ev_ixl (k := 2) (ev_var h) (SqL.of sH_st) rfl
    have e3 : ∀ (σ : L2.St) G S, σ[0]? = some (some (.ref st)) → EV (tOp (rIxL K) (tVar 0) (tC (V.int 3))) σ (sH G s st S) (.int S.x3) := fun σ G S h => ev_ixl (k := 3) (ev_var h) (SqL.of sH_st) rfl
    refine i_seq (i_set2 (by rfl) (ev_rI0 (e2 _ _ _ (by rfl)) ev_c) ?_)
    have hS1 : SOk { S with x2 := S.x2 + 1 } (b + 1) := ⟨hS.h1, by have := hS.h2; show 0 ≤ S.x2 + 1; omega, by have := hS.hb; show S.x2 + 1 ≤ ((b + 1 : Nat) : Int); omega, hS.h3, hS.h4, hS.hz⟩
    generalize ({ S with x2 := S.x2 + 1 } : Strm) = S1 at hS1
    have hmI : (0 : Int) < (many : Int) := by omega
    refine i_seqJ (fun H' => ∃ G' S', H' = sH G' s st S' ∧ Same G G' ∧ G' s = none ∧ G' st = none ∧ SOk S' (b + 1)) ?_ fun key => ?_
    · rintro H' ⟨G', S', rfl, eG, ns', nst', hS'⟩
      refine i_seq (i_if (i_tst (ev_rI0 (e1 _ _ _ (by rfl)) ev_c) ?_))
      by_cases hx : 0 < S'.x1
      · refine ifT (decide_eq_true hx) ?_
        refine i_seq (i_asg (ev_use (ev_rI (C := fun _ j => 0 < j) (g := fun i j => V.int (i % j)) (ev_int (e1 _ _ _ (by rfl))) (ev_var (by rfl)) hmI) ?_))
        refine i_seq (i_set1 (by rfl) (ev_rI (C := CDiv) (g := fun i j => V.int (i / j)) (e1 _ _ _ (by rfl)) (ev_var (by rfl)) ⟨hmI, by omega⟩) ?_)
        refine i_ret (i_var (by rfl) ?_)
        have hd := Int.emod_nonneg S'.x1 (show (many : Int) ≠ 0 by omega)
        have hd2 := Int.emod_lt_of_pos S'.x1 hmI
        obtain ⟨d, hdd⟩ := Int.eq_ofNat_of_zero_le hd
        rw [hdd]
        rw [hdd] at hd2
        exact q d _ _ eG ns' nst' (by omega) ⟨Int.ediv_nonneg hS'.h1 (by omega), hS'.h2, hS'.hb, hS'.h3, hS'.h4, hS'.hz⟩
      · refine ifF (decide_eq_false hx) (i_next ?_)
        have h2 := hS'.h2
        have hb2 := hS'.hb
        have h3 := hS'.h3
        have h4 := hS'.h4
        refine i_seq (i_asg (ev_use (ev_rI (C := fun _ j => 0 < j) (g := fun i j => V.int (i % j)) (ev_rI (C := CPow) (g := fun i j => V.int (i ^ j.toNat)) (ev_rI0 (ev_rI0 (e3 _ _ _ (by rfl)) (ev_rI (C := CMul) (g := fun i j => V.int (i * j)) ev_c (e2 _ _ _ (by rfl)) (.inl ⟨by omega, by omega⟩))) ev_c) ev_c ⟨by omega, by omega, by omega⟩) ev_c (by decide)) ?_))
        generalize hM : (S'.x3 + 104729 * S'.x2 + 17) ^ (5 : Int).toNat % 2147483629 = M
        have hM0 : 0 ≤ M := by
          rw [← hM]
          exact Int.emod_nonneg _ (by decide)
        have hM1 : M < 2147483629 := by
          rw [← hM]
          exact Int.emod_lt_of_pos _ (by decide)
        have hx2 : S'.x2 ≤ 100001 := by omega
        have hsq : 40503 * S'.x2 * S'.x2 ≤ 500000000000000 := by
          have h1 : 40503 * S'.x2 * S'.x2 ≤ 40503 * 100001 * 100001 := Int.mul_le_mul (by omega) hx2 h2 (by decide)
          exact Int.le_trans h1 (by decide)
        have hsq0 : 0 ≤ 40503 * S'.x2 * S'.x2 := Int.mul_nonneg (by omega) h2
        refine i_ret (ev_use (ev_rI (C := fun _ j => 0 < j) (g := fun i j => V.int (i % j)) (ev_rI (C := fun _ j => 0 < j) (g := fun i j => V.int (i % j)) (ev_rI (C := CPow) (g := fun i j => V.int (i ^ j.toNat)) (ev_rI0 (ev_rI0 (ev_rI (C := CMul) (g := fun i j => V.int (i * j)) (ev_var (by rfl)) ev_c (.inl ⟨by omega, by omega⟩)) (ev_rI (C := CMul) (g := fun i j => V.int (i * j)) (ev_rI (C := CMul) (g := fun i j => V.int (i * j)) ev_c (e2 _ _ _ (by rfl)) (.inl ⟨by omega, by omega⟩)) (e2 _ _ _ (by rfl)) (.inr ⟨by omega, by omega⟩))) ev_c) ev_c ⟨by omega, by omega, by omega⟩) ev_c (by decide)) (ev_var (by rfl)) hmI) ?_)
        generalize (M * 48271 + 40503 * S'.x2 * S'.x2 + 13) ^ (3 : Int).toNat % 1000000007 = Z
        have hd := Int.emod_nonneg Z (show (many : Int) ≠ 0 by omega)
        have hd2 := Int.emod_lt_of_pos Z hmI
        obtain ⟨d, hdd⟩ := Int.eq_ofNat_of_zero_le hd
        rw [hdd]
        rw [hdd] at hd2
        exact q d _ _ eG ns' nst' (by omega) hS'
    · refine i_if (i_and (i_tst (ev_rEq (e1 _ _ _ (by rfl)) ev_c rfl) ?_))
      by_cases hx : S1.x1 = 0
      · refine ifT (by simp [hx]) ?_
        refine e0 _ _ _ (by rfl) _ ⟨Nat.zero_le _, fun p np => ?_⟩
        obtain ⟨hp1, hp2, hp3, hp4⟩ := sH_new (o := .lst []) nss np
        have hpp : upd (sH G s st S1) p (.lst []) p = some (.lst []) := upd_same
        rw [hp1] at hpp ⊢
        have ns2 := hp3 ns
        have nst2 := hp4 nst
        generalize upd G p (.lst []) = G2 at hp2 ns2 nst2 hpp
        refine ⟨_, _, .lst (SqL.of (sH_s nss)) (dp_ints S1.zs), .lst (SqL.of hpp) .nil, shaped_ints _, by decide, _, rfl, ?_⟩
        rw [ints_eqv]
        cases hz : S1.zs with
        | nil =>
          refine ifF (by decide +kernel) (i_next ?_)
          exact key _ ⟨G2, S1, rfl, hp2, ns2, nst2, hS1⟩
        | cons z r =>
          refine ifT (by simp) ?_
          have hzl : r.length + 1 ≤ 64 := by
            have := hS1.hz
            rw [hz] at this
            exact this
          refine i_seq (i_asgG (i_bm (e0 _ _ _ (by rfl) _ ⟨Or.inl ⟨rfl, _, SqL.of (sH_s nss)⟩, i_cons (i_c (i_nil ?_))⟩)))
          refine ⟨s, S1.zs.map V.int, 0, 0, .int z, rfl, rfl, sH_s nss, by decide, by decide, ?_, by rw [hz]; rfl, ?_⟩
          · unfold seqIndex?
            simp [hz]
          have he : (S1.zs.map V.int).eraseIdx 0 = r.map V.int := by
            rw [hz]
            rfl
          rw [he, sH_z nss]
          have sx : ∀ (S : Strm) (y : Int) (nx : L2.St → Hp → Prop), nx (L2.start N_l_draw [.ref st, .int (many : Int)]) (sH G2 s st { S with x1 := y }) → gSub (tVar 0) (tC (V.int 1)) rSetL (.int y) (L2.start N_l_draw [.ref st, .int (many : Int)]) (sH G2 s st S) nx := fun S y nx q =>
            i_set1 (te := tC (.int y)) (rt := Q) (bk := nx) (ct := nx) (nx := nx) rfl ev_c q
          refine sx _ _ _ ?_
          have hS2 : SOk { S1 with zs := r, x1 := 0 } (b + 1) := ⟨Int.le_refl 0, hS1.h2, hS1.hb, hS1.h3, hS1.h4, by show r.length ≤ 64; omega⟩
          refine i_if (i_tst (ev_rI0 (e1 _ _ _ (by rfl)) (ev_rI (C := CPow) (g := fun i j => V.int (i ^ j.toNat)) ev_c ev_c ⟨by decide, by decide, by decide⟩)) ?_)
          by_cases hbig : z < 10 ^ (18 : Int).toNat
          · refine ifT (decide_eq_true hbig) ?_
            refine i_seq (i_set3 (by rfl) (ev_rI (C := fun _ j => 0 < j) (g := fun i j => V.int (i % j)) (ev_int (ev_rI0 (ev_rI0 (ev_rI (C := CMul) (g := fun i j => V.int (i * j)) (e3 _ _ _ (by rfl)) ev_c (.inr ⟨by decide, by decide⟩)) (e1 _ _ _ (by rfl))) ev_c)) ev_c (by decide)) ?_)
            refine i_set1 (by rfl) ev_c ?_
            exact key _ ⟨G2, _, rfl, hp2, ns2, nst2, ⟨Int.le_refl 0, hS1.h2, hS1.hb, Int.emod_nonneg _ (by decide), Int.emod_lt_of_pos _ (by decide), by show r.length ≤ 64; omega⟩⟩
          · refine ifF (decide_eq_false hbig) (i_next ?_)
            refine key _ ⟨G2, _, rfl, hp2, ns2, nst2, ⟨?_, hS1.h2, hS1.hb, hS1.h3, hS1.h4, by show r.length ≤ 64; omega⟩⟩
            show 0 ≤ z
            have : (0 : Int) ≤ 10 ^ (18 : Int).toNat := by decide
            omega
      · refine ifF (by simp [hx]) ?_
        exact key _ ⟨G, S1, rfl, Same.refl _, ns, nst, hS1⟩
/-- the stream beside G -/
structure SA (G : Hp) (s st : Addr) (S : Strm) (b : Nat) : Prop where
  ns : G s = none
  nst : G st = none
  nss : s ≠ st
  ok : SOk S b
theorem SA.lst {G : Hp} {s st : Addr} {S : Strm} {b : Nat} {a : Addr} {o : HO} (h : SA G s st S b) (e : G a = some o) : sH G s st S a = some o := by
  unfold sH
  rw [upd_ne (ne_of_none e h.nst), upd_ne (ne_of_none e h.ns)]
  exact e
theorem SA.same {G : Hp} {s st : Addr} {S : Strm} {b : Nat} (h : SA G s st S b) : Same G (sH G s st S) := fun a o e => h.lst e
theorem SA.more {G : Hp} {s st : Addr} {S : Strm} {b b' : Nat} (h : SA G s st S b) (l : b ≤ b') : SA G s st S b' := ⟨h.ns, h.nst, h.nss, h.ok.h1, h.ok.h2, by have := h.ok.hb; omega, h.ok.h3, h.ok.h4, h.ok.hz⟩
theorem i_draw {G : Hp} {s st : Addr} {S : Strm} {b many : Nat} {Q : VK} {E : XK} (h : SA G s st S b) (h1 : 1 ≤ many) (h2 : many ≤ 1000) (hb : b < 99000) (q : ∀ (d : Nat) S2 G2, Same G G2 → SA G2 s st S2 (b + 1) → d < many → Q (.int (d : Int)) (sH G2 s st S2)) : spDraw [.ref st, .int (many : Int)] (sH G s st S) Q E :=
  ⟨st, s, many, G, S, b, rfl, rfl, h.ns, h.nst, h.nss, h1, h2, h.ok, by omega, fun d S2 G2 e n1 n2 hd ok => q d S2 G2 e ⟨n1, n2, h.nss, ok⟩ hd⟩
def spPick : Sp := fun vs H Q _ => ∃ st s x ns G S b, vs = [.ref st, x] ∧ H = sH G s st S ∧ SA G s st S b ∧ b < 99000 ∧ rLstS G x ns ∧ ns ≠ [] ∧ ns.length ≤ 1000 ∧ ∀ n S2 G2, Same G G2 → SA G2 s st S2 (b + 1) → n ∈ ns → Q (.str n) (sH G2 s st S2)
theorem c_l_pick (T : Txt K mg c) : Cal P w K mg base 2 "_law_pick" (spPick) [] := by
    refine cal_of T.d_l_pick sc_l_pick (by walk_at "len") (fun f cdv A outer sh H vs Q E hr h => ?_)
    have nd := sc_l_pick.nd
    obtain ⟨st, s, _, ns, G, S, b, rfl, rfl, hA, hb, ⟨a, rfl, ha⟩, hne, hl, q⟩ := h
    refine ⟨_, (pss_one (ps_ret (pe_ix (kIxL K rfl) (pv 1) (C8.pe_c (c_l_draw T) hr (by first | decide | exact Nat.le_refl _ | omega) rfl (pa_cons (pv 0) (pa_cons (pe_callB (kLen K rfl) (by rfl) T.g_len PySem.boot_len (pa_cons (pv 1) pa_nil)) pa_nil))) (fun _ _ => rfl)))), ?_⟩
    have hpos := List.length_pos_iff.mpr hne
    walk_at "rd"
    refine ⟨a, _, rfl, .inl (SqL.of (hA.lst ha)), ?_⟩
    walk_at "rd"
    rw [show ((ns.map V.str).length : Int) = (ns.length : Int) by simp]
    refine i_draw hA hpos hl hb fun d S2 G2 e hA2 hd => ?_
    refine i_ixL (v := .str (ns[d]'hd)) (SqL.of (hA2.lst (e _ _ ha))) (by simp [hd]) (q _ S2 G2 e hA2 (List.getElem_mem hd))
theorem erase_mapS {α β : Type} (f : α → β) : ∀ (l : List α) (j : Nat), (l.map f).eraseIdx j = (l.eraseIdx j).map f
  | [], _ => rfl
  | _ :: _, 0 => rfl
  | x :: r, j + 1 => congrArg (f x :: ·) (erase_mapS f r j)
theorem erase_permS {α : Type} : ∀ (l : List α) (j : Nat) (h : j < l.length), (l[j] :: l.eraseIdx j).Perm l
  | [], _, h => absurd h (Nat.not_lt_zero _)
  | _ :: _, 0, _ => List.Perm.refl _
  | x :: r, j + 1, h => (List.Perm.swap x _ _).trans (List.Perm.cons x (erase_permS r j (Nat.lt_of_succ_lt_succ h)))
def spMixed : Sp := fun vs H Q _ => ∃ st s x ns G S b, vs = [.ref st, x] ∧ H = sH G s st S ∧ SA G s st S b ∧ b < 90000 ∧ rLstS G x ns ∧ ns.length ≤ 10 ∧ ∀ v ms S2 G2, Same G G2 → SA G2 s st S2 (b + 10) → rLstS G2 v ms → ms.Perm ns → Q v (sH G2 s st S2)
theorem c_l_mixed (T : Txt K mg c) : Cal P w K mg base 2 "_law_mixed" (spMixed) [] := by
    refine cal_of T.d_l_mixed sc_l_mixed (by walk_at "len") (fun f cdv A outer sh H vs Q E hr h => ?_)
    have nd := sc_l_mixed.nd
    obtain ⟨st, s, _, ns, G, S, b, rfl, rfl, hA, hb, ⟨a, rfl, ha⟩, hl, q⟩ := h
    refine ⟨_, (pss_cons (ps_set (i := 2) nd rfl (.inr rfl) (pe_callTy (kList K rfl) (by rfl) T.g_list (by decide +kernel) (pa_cons (pv 1) pa_nil)))
        (pss_one (ps_ret (pe_lc (own := [("_law_k", 3)]) (g := gName 3) rfl nd (pi_range1 (by rfl) T.g_range (pa_cons (pe_callB (kLen K rfl) (by rfl) T.g_len PySem.boot_len (pa_cons (pv 2) pa_nil)) pa_nil)) (blkOk_by (own := [("_law_k", 3)]) (N := N_l_mixed) (sc := fnScope s_l_mixed) (by decide +kernel)) (fun _ _ _ _ _ => (pg_name (i := 3) nd rfl (.inl rfl))) (fun _ _ _ _ _ => pts_nil) (fun _ _ _ _ _ => pe_hide (pe_bmK K rfl PySem.F.plainAttrs_list PySem.F.slot_list_pop PySem.F.type_list_pop mt_popAt (pv 2) (pa_cons (C8.pe_c (c_l_draw T) hr (by first | decide | exact Nat.le_refl _ | omega) rfl (pa_cons (pv 0) (pa_cons (pe_callB (kLen K rfl) (by rfl) T.g_len PySem.boot_len (pa_cons (pv 2) pa_nil)) pa_nil))) pa_nil))))))), ?_⟩
    walk_at "rd"
    refine ⟨a, _, rfl, .inl (SqL.of (hA.lst ha)), fun L nL => ?_⟩
    obtain ⟨hL1, eL, nsL, nstL⟩ := sH_new (o := .lst (ns.map V.str)) hA.nss nL
    rw [hL1]
    obtain ⟨nL1, nLst⟩ := none_of_upd nL
    obtain ⟨nLG, nLs⟩ := none_of_upd nL1
    have hA1 : SA (upd G L (.lst (ns.map V.str))) s st S b := ⟨nsL hA.ns, nstL hA.nst, hA.nss, hA.ok⟩
    walk_at "rd"
    refine ⟨_, rfl, L, _, rfl, .inl (SqL.of (hA1.lst upd_same)), _, rfl, by rw [List.length_map]; omega, by rw [List.length_map]; omega, fun D nD => ?_⟩
    have hD0 : sH (upd G L (.lst (ns.map V.str))) s st S D = none := nD
    refine lc_it walk_range (fun i H' => ∃ G' S' left ms, H' = upd (sH (upd G' L (.lst (left.map V.str))) s st S') D (.lst (ms.map V.str)) ∧ sH (upd G' L (.lst (left.map V.str))) s st S' D = none ∧ Same G G' ∧ SA (upd G' L (.lst (left.map V.str))) s st S' (b + i) ∧ (ms ++ left).Perm ns ∧ ms.length = i) ⟨G, S, ns, [], rfl, hD0, Same.refl _, hA1, List.Perm.refl _, rfl⟩ (fun _ _ _ _ => trivial) ?_ ?_
    · rintro i x H' H2' hi ⟨G', S', left, ms, rfl, hD', eG, hA', hpm, hml⟩ ⟨rfl, hx⟩
      have hpl := hpm.length_eq
      rw [List.length_append] at hpl
      have hi' : i < ns.length := by simpa using hi
      refine ⟨rfl, tYes_i ?_⟩
      rw [if_pos rfl]
      refine ⟨sH (upd G' L (.lst (left.map V.str))) s st S', D, _, rfl, hD', trivial, ?_⟩
      have hL' := hA'.lst (show upd G' L (.lst (left.map V.str)) L = some (.lst (left.map V.str)) from upd_same)
      refine i_bm (i_var (v := V.ref L) (by rfl) ⟨Or.inl ⟨rfl, _, SqL.of hL'⟩, i_cons (i_call (i_cons (i_var (by rfl) (i_cons (i_CB (i_cons (i_var (by rfl) (i_nil ⟨L, _, rfl, .inl (SqL.of hL'), i_nil ?_⟩))))))))⟩)
      rw [show ((left.map V.str).length : Int) = (left.length : Int) by simp]
      refine i_draw hA' (by omega) (by omega) (by omega) fun d S2 G2 e2 hA2 hd => ?_
      have hL2 := e2 _ _ upd_same
      walk_at "rd"
      refine ⟨L, left.map V.str, (d : Int), d, .str (left[d]'hd), rfl, rfl, hA2.lst hL2, by omega, by omega, ?_, by simp [hd], trivial, fun nD2 => ?_⟩
      · unfold seqIndex?
        have h1 : ¬ ((d : Int) < 0) := by omega
        simp only [h1, if_false, List.length_map]
        rw [if_pos (by simp; omega)]
        simp
      · have hsw : upd (sH G2 s st S2) L (.lst ((left.map V.str).eraseIdx d)) = sH (upd G2 L (.lst ((left.eraseIdx d).map V.str))) s st S2 := by
          unfold sH
          rw [upd_swap' nLst, upd_swap' nLs, erase_mapS]
        rw [hsw] at nD2 ⊢
        refine ⟨ms.map V.str, upd_same, big5' (by rw [List.length_map]; omega), G2, S2, left.eraseIdx d, ms ++ [left[d]'hd], ?_, nD2, (same_mut eG nLG).trans e2, ⟨by rw [upd_ne (Ne.symm nLs)]; exact hA2.ns, by rw [upd_ne (Ne.symm nLst)]; exact hA2.nst, hA2.nss, by
          have := hA2.ok
          rwa [Nat.add_assoc] at this⟩, ?_, by rw [List.length_append, hml]; rfl⟩
        · rw [upd_upd, List.map_append]
          rfl
        · refine List.Perm.trans ?_ hpm
          rw [List.append_assoc]
          exact List.Perm.append_left ms (erase_permS left d hd)
    · rintro H' ⟨G', S', left, ms, rfl, hD', eG, hA', hpm, hml⟩
      have hpl := hpm.length_eq
      rw [List.length_append] at hpl
      have hml' : ms.length = ns.length := by simpa using hml
      have h0 : left = [] := List.length_eq_zero_iff.mp (by omega)
      subst h0
      rw [List.append_nil] at hpm
      obtain ⟨n1, n2⟩ := none_of_upd hD'
      obtain ⟨n3, n4⟩ := none_of_upd n1
      have e : upd (sH (upd G' L (.lst [])) s st S') D (.lst (ms.map V.str)) = sH (upd (upd G' L (.lst [])) D (.lst (ms.map V.str))) s st S' := by
        unfold sH
        rw [upd_swap' n2, upd_swap' n4]
      show Q (V.ref D) (upd (sH (upd G' L (.lst [])) s st S') D (.lst (ms.map V.str)))
      rw [e]
      have hb10 : b + (ns.map V.str).length ≤ b + 10 := by rw [List.length_map]; omega
      refine q _ ms S' _ ((same_mut eG nLG).trans (same_new n3)) (SA.more ⟨by rw [upd_ne (Ne.symm n4)]; exact hA'.ns, by rw [upd_ne (Ne.symm n2)]; exact hA'.nst, hA'.nss, hA'.ok⟩ (by simp at hml' ⊢; omega)) ⟨D, rfl, upd_same⟩ hpm
/-- [te for k in range(n)] where te draws -/
theorem lc_st {β : Type} {n j : Nat} {te : TE} {vs : List Nat} {σ : L2.St} {G1 : Hp} {s st D : Addr} {S1 : Strm} {b kb : Nat} {Qd : Hp → Prop} (S : Rep β) [Mono S] (P : Nat → β → Prop) (hA : SA G1 s st S1 b) (nD : sH G1 s st S1 D = none) (hl : n < 100000)
    (hw : ∀ x, wipe ((wipe σ vs).set j (some x)) vs = wipe σ vs)
    (he : ∀ i G S', i < n → Same G1 G → SA G s st S' (b + kb * i) → ∀ Q : VK, (∀ v x G2 S2, Same G G2 → SA G2 s st S2 (b + kb * (i + 1)) → S G2 v x → P i x → Q v (sH G2 s st S2)) → te ((wipe σ vs).set j (some (.int (i : Int)))) (sH G s st S') Q)
    (hq : ∀ G2 S2 zs xs, Same G1 G2 → SA G2 s st S2 (b + kb * n) → G2 D = some (.lst zs) → Paired (S G2) zs xs → xs.length = n → (∀ i x, xs[i]? = some x → P i x) → Qd (sH G2 s st S2)) :
    ∃ W : Nat → Nat → Hp → Prop, (∃ m, W 0 m (upd (sH G1 s st S1) D (.lst []))) ∧ ∀ i m H, W i m H →
      ((Itr 0 n).stop i H ∧ Qd H) ∨ ((Itr 0 n).go i H ∧ ∃ Nx : Hp → Prop, (∀ H', Nx H' → ∃ m', m' < m ∧ W (i + 1) m' H') ∧ ∀ x H', (Itr 0 n).yld i H x H' → gName j x (wipe σ vs) H' fun σ2 H2 => wipe σ2 vs = wipe σ vs ∧ tYes σ2 H2 fun b H3 =>
        if b = true then tHide te σ2 H3 fun y H4 => ∃ acc, H4 D = some (.lst acc) ∧ acc.length < sizeLine ∧ Nx (upd H4 D (.lst (acc ++ [y]))) else Nx H3) := by
  refine lc_it walk_range (fun i H' => ∃ G S' zs xs, H' = upd (sH G s st S') D (.lst zs) ∧ sH G s st S' D = none ∧ Same G1 G ∧ SA G s st S' (b + kb * i) ∧ Paired (S G) zs xs ∧ xs.length = i ∧ ∀ i x, xs[i]? = some x → P i x) ⟨G1, S1, [], [], rfl, nD, Same.refl _, by simpa using hA, .nil, rfl, fun i x h => by simp at h⟩ (fun _ _ _ _ => trivial) ?_ ?_
  · rintro i x H H' hi ⟨G, S', zs, xs, rfl, nD', e, hA', hz, hxl, hP⟩ ⟨rfl, hx⟩
    have hx : x = .int (i : Int) := by
      rw [hx]
      show V.int ((0 : Int) + (i : Int)) = V.int (i : Int)
      rw [Int.zero_add]
    subst hx
    have hzl := paired_len hz
    refine ⟨hw _, tYes_i ?_⟩
    rw [if_pos rfl]
    refine ⟨sH G s st S', D, .lst zs, rfl, nD', trivial, he i G S' hi e hA' _ fun v y G2 S2 e2 hA2 hv hp => ⟨trivial, fun nD2 => ⟨zs, upd_same, big5' (by omega), G2, S2, zs ++ [v], xs ++ [y], upd_upd, nD2, e.trans e2, hA2, paired_snoc (paired_mono e2 hz) hv, by rw [List.length_append, hxl]; rfl, fun k u hk => ?_⟩⟩⟩
    by_cases h : k < xs.length
    · rw [List.getElem?_append_left h] at hk
      exact hP k u hk
    · rw [List.getElem?_append_right (by omega)] at hk
      have h0 : k - xs.length = 0 := by
        cases hkk : k - xs.length with
        | zero => rfl
        | succ m => rw [hkk] at hk; simp at hk
      rw [h0] at hk
      have : y = u := by simpa using hk
      subst this
      have : k = i := by omega
      subst this
      exact hp
  · rintro H ⟨G, S', zs, xs, rfl, nD', e, hA', hz, hxl, hP⟩
    obtain ⟨n1, n2⟩ := none_of_upd nD'
    obtain ⟨n3, n4⟩ := none_of_upd n1
    have e' : upd (sH G s st S') D (.lst zs) = sH (upd G D (.lst zs)) s st S' := by
      unfold sH
      rw [upd_swap' n2, upd_swap' n4]
    rw [e']
    exact hq _ S' zs xs (e.trans (same_new n3)) ⟨by rw [upd_ne (Ne.symm n4)]; exact hA'.ns, by rw [upd_ne (Ne.symm n2)]; exact hA'.nst, hA'.nss, hA'.ok⟩ upd_same (paired_mono (same_new n3) hz) hxl hP
/-- a new object beside the stream -/
theorem SA.new {G : Hp} {s st p : Addr} {S : Strm} {b : Nat} {o : HO} (h : SA G s st S b) (n : sH G s st S p = none) : upd (sH G s st S) p o = sH (upd G p o) s st S ∧ Same G (upd G p o) ∧ SA (upd G p o) s st S b := by
  obtain ⟨h1, h2, h3, h4⟩ := sH_new (o := o) h.nss n
  exact ⟨h1, h2, h3 h.ns, h4 h.nst, h.nss, h.ok⟩
/-- what stays beside the stream -/
theorem SA.back {G H' : Hp} {s st : Addr} {S : Strm} {b : Nat} (h : SA G s st S b) (e : Same (sH G s st S) H') : ∃ G', H' = sH G' s st S ∧ Same G G' ∧ SA G' s st S b := by
  refine ⟨off (off H' st) s, ?_, fun x o q => ?_, off_at, ?_, h.nss, h.ok⟩
  · have h1 := e _ _ sH_st
    have h2 := e _ _ (sH_s h.nss)
    unfold sH
    funext c
    by_cases z1 : c = st
    · rw [z1, upd_same]
      exact h1
    · rw [upd_ne z1]
      by_cases z2 : c = s
      · rw [z2, upd_same]
        exact h2
      · rw [upd_ne z2, off_ne z2, off_ne z1]
  · rw [off_ne (ne_of_none q h.ns), off_ne (ne_of_none q h.nst)]
    exact e _ _ (h.lst q)
  · by_cases z : st = s
    · rw [z]
      exact off_at
    · rw [off_ne z]
      exact off_at
theorem join_chars : ∀ cs : List Nat, Txt.join "" (cs.map fun c => (⟨#[c]⟩ : Str)) = ⟨cs.toArray⟩ := by
  have key : ∀ cs : List Nat, Str.join (Str.ofString "") (cs.map fun c => (⟨#[c]⟩ : Str)) = ⟨cs.toArray⟩ := by
    intro cs
    induction cs with
    | nil => rfl
    | cons c r ih =>
      cases r with
      | nil => rfl
      | cons d t =>
        show (⟨#[c]⟩ : Str) ++ Str.ofString "" ++ Str.join (Str.ofString "") ((d :: t).map fun c => (⟨#[c]⟩ : Str)) = _
        rw [ih]
        show (⟨(#[c] ++ (Str.ofString "").cps) ++ (d :: t).toArray⟩ : Str) = _
        congr 1
        apply Array.ext'
        simp [show (Str.ofString "").cps = #[] from by decide +kernel]
  intro cs
  rw [show Txt.join "" (cs.map fun c => (⟨#[c]⟩ : Str)) = Str.join (Str.ofString "") (cs.map fun c => (⟨#[c]⟩ : Str)) from TL.join_eq _ _]
  exact key cs
theorem name_of {cs : List Nat} (h1 : 1 ≤ cs.length) (h8 : cs.length ≤ 8) (hl : ∀ c ∈ cs, c ∈ letters.cps.toList) (hr : (⟨cs.toArray⟩ : Str) ∉ reserved) : isName ⟨cs.toArray⟩ = true := by
  unfold isName
  have hlen : (⟨cs.toArray⟩ : Str).length = cs.length := rfl
  rw [hlen, decide_eq_true h1, decide_eq_true h8, decide_eq_false hr]
  simp only [Bool.true_and, Bool.not_false]
  rw [List.all_eq_true]
  intro c hc
  exact decide_eq_true (hl c (by simpa using hc))
/-- one of twenty is free -/
theorem free_one {α : Type} [DecidableEq α] (l tk : List α) (d : l.Nodup) (h : tk.length < l.length) : l.filter (fun x => !decide (x ∈ tk)) ≠ [] := by
  intro z
  have : ∀ x ∈ l, x ∈ tk := fun x hx => by
    by_cases m : x ∈ tk
    · exact m
    · have : x ∈ l.filter (fun x => !decide (x ∈ tk)) := List.mem_filter.mpr ⟨hx, by simp [m]⟩
      rw [z] at this
      cases this
  have := nodup_le l tk d this
  omega
def qs : List Nat := [97, 98, 99, 100, 101, 102, 103, 104, 105, 106, 107, 108, 109, 110, 111, 112, 113, 114, 115, 116]
def qn (c : Nat) : Str := ⟨#[113, c]⟩
theorem qn_ok : ∀ c ∈ qs, isName (qn c) = true := by decide +kernel
theorem qn_nd : (qs.map qn).Nodup := by decide +kernel
def spName : Sp := fun vs H Q _ => ∃ st s x tk G S b, vs = [.ref st, x] ∧ H = sH G s st S ∧ SA G s st S b ∧ b < 90000 ∧ rLstS G x tk ∧ tk.length ≤ 10 ∧ ∀ nm S2 G2, Same G G2 → SA G2 s st S2 (b + 20) → isName nm = true → nm ∉ tk → Q (.str nm) (sH G2 s st S2)
theorem c_l_name (T : Txt K mg c) : Cal P w K mg base 2 "_law_name" (spName) [] := by
    refine cal_of T.d_l_name sc_l_name (by walk_at "len") (fun f cdv A outer sh H vs Q E hr h => ?_)
    have nd := sc_l_name.nd
    obtain ⟨st, s, _, tk, G, S, b, rfl, rfl, hA, hb, ⟨a, rfl, ha⟩, htk, q⟩ := h
    refine ⟨_, (pss_cons (ps_set (i := 2) nd rfl (.inl rfl) (pe_ix (kIxL K rfl) (pe_lst (pa_cons pe_int (pa_cons pe_int (pa_cons pe_int (pa_cons pe_int (pa_cons pe_int (pa_cons pe_int pa_nil))))))) (C8.pe_c (c_l_draw T) hr (by first | decide | exact Nat.le_refl _ | omega) rfl (pa_cons (pv 0) (pa_cons pe_int pa_nil))) (fun _ _ => rfl)))
        (pss_cons (ps_set (i := 3) nd rfl (.inl rfl) (pe_join pe_str (pe_lc (own := [("_law_k", 4)]) (g := gName 4) rfl nd (pi_range1 (by rfl) T.g_range (pa_cons (pv 2) pa_nil)) (blkOk_by (own := [("_law_k", 4)]) (N := N_l_name) (sc := fnScope s_l_name) (by decide +kernel)) (fun _ _ _ _ _ => (pg_name (i := 4) nd rfl (.inl rfl))) (fun _ _ _ _ _ => pts_nil) (fun _ _ _ _ _ => pe_hide (pe_ix ix_str pe_str (C8.pe_c (c_l_draw T) hr (by first | decide | exact Nat.le_refl _ | omega) rfl (pa_cons (pv 0) (pa_cons pe_int pa_nil))) (fun _ _ => rfl))))))
        (pss_cons (ps_if (PW.pt (pw_or (pt_cmpR (kInS K rfl) (pv 3) (pv 1) (by rfl)) (pw_or1 (pt_cmpR (kInS K rfl) (pv 3) (pe_lst (pa_cons pe_str (pa_cons pe_str (pa_cons pe_str (pa_cons pe_str (pa_cons pe_str pa_nil)))))) (by rfl))))) (pss_one (ps_ret (pe_ix (kIxL K rfl) (pe_lc (own := [("_law_one", 5)]) (g := gName 5) rfl nd (pi_listK K rfl (pe_lc (own := [("_law_letter", 6)]) (g := gName 6) rfl nd (pi_str pe_str) (blkOk_by (own := [("_law_letter", 6)]) (N := N_l_name) (sc := fnScope s_l_name) (by decide +kernel)) (fun _ _ _ _ _ => (pg_name (i := 6) nd rfl (.inl rfl))) (fun _ _ _ _ _ => pts_nil) (fun _ _ _ _ _ => pe_hide (pe_op op_add_str pe_str (pv 6))))) (blkOk_by (own := [("_law_one", 5)]) (N := N_l_name) (sc := fnScope s_l_name) (by decide +kernel)) (fun _ _ _ _ _ => (pg_name (i := 5) nd rfl (.inl rfl))) (fun _ _ _ _ _ => pts_one (pt_hide (pt_cmpR (kNotInS K rfl) (pv 5) (pv 1) (by rfl)))) (fun _ _ _ _ _ => pe_hide (pv 5))) pe_int (fun _ _ => rfl)))) pss_nil)
        (pss_one (ps_ret (pv 3)))))), ?_⟩
    walk_at "rd"
    refine ⟨big5 (by simp), fun p np => ?_⟩
    obtain ⟨h1, e1, hA1⟩ := hA.new (o := .lst [.int 1, .int 1, .int 2, .int 3, .int 5, .int 8]) np
    have hp1 : upd (sH G s st S) p (.lst [.int 1, .int 1, .int 2, .int 3, .int 5, .int 8]) p = some (.lst [.int 1, .int 1, .int 2, .int 3, .int 5, .int 8]) := upd_same
    rw [h1] at hp1 ⊢
    have hpG : upd G p (.lst [.int 1, .int 1, .int 2, .int 3, .int 5, .int 8]) p = some (.lst [.int 1, .int 1, .int 2, .int 3, .int 5, .int 8]) := upd_same
    generalize upd G p (.lst [.int 1, .int 1, .int 2, .int 3, .int 5, .int 8]) = G1 at e1 hA1 hp1 hpG
    walk_at "rd"
    refine i_draw (many := 6) hA1 (by omega) (by omega) (by omega) fun d S2 G2 e2 hA2 hd => ?_
    obtain ⟨sz, hsz, hsz1, hsz8⟩ : ∃ sz : Nat, ([V.int 1, .int 1, .int 2, .int 3, .int 5, .int 8])[d]? = some (V.int (sz : Int)) ∧ 1 ≤ sz ∧ sz ≤ 8 := by
      match d, hd with
      | 0, _ => exact ⟨1, rfl, by decide, by decide⟩
      | 1, _ => exact ⟨1, rfl, by decide, by decide⟩
      | 2, _ => exact ⟨2, rfl, by decide, by decide⟩
      | 3, _ => exact ⟨3, rfl, by decide, by decide⟩
      | 4, _ => exact ⟨5, rfl, by decide, by decide⟩
      | 5, _ => exact ⟨8, rfl, by decide, by decide⟩
    refine i_ixL (SqL.of (hA2.lst (e2 _ _ hpG))) hsz ?_
    have e02 := e1.trans e2
    refine i_seq (i_asg ?_)
    refine ⟨⟨_, rfl⟩, _, rfl, (sz : Int), rfl, by omega, by omega, fun D nD => ?_⟩
    refine lc_st (n := ((sz : Int)).toNat) (kb := 1) (b := b + 1) rStr (fun _ x => ∃ c ∈ letters.cps.toList, x = ⟨#[c]⟩) hA2 nD (by omega) (fun x => rfl) (fun i G S' hi e hA' Q' hQ' => ?_) (fun G3 S3 zs xs e3 hA3 hz hp hxl hP => ?_)
    · refine i_op (i_c (i_call (i_cons (i_var (by rfl) (i_cons (i_c (i_nil ?_)))))))
      refine i_draw (many := 26) hA' (by omega) (by omega) (by omega) fun d S2 G2 e2 hA2 hd => ?_
      have hl26 : letters.cps.toList.length = 26 := by decide +kernel
      have hd' : d < letters.cps.toList.length := by omega
      refine ⟨letters, (d : Int), letters.cps.toList[d]'hd', rfl, rfl, big5 (by decide +kernel), atI_nat (List.getElem?_eq_getElem hd'), ?_⟩
      exact hQ' _ _ _ _ e2 (by rwa [show b + 1 + 1 * (i + 1) = b + 1 + 1 * i + 1 by omega]) rfl ⟨_, List.getElem_mem hd', rfl⟩
    · obtain ⟨cs, hcs, hcl⟩ : ∃ cs : List Nat, xs = cs.map (fun c => (⟨#[c]⟩ : Str)) ∧ ∀ c ∈ cs, c ∈ letters.cps.toList := by
        clear hp hxl
        induction xs with
        | nil => exact ⟨[], rfl, by simp⟩
        | cons x r ih =>
          obtain ⟨c, hc, rfl⟩ := hP 0 x rfl
          obtain ⟨cs, h1, h2⟩ := ih fun i x h => hP (i + 1) x (by simpa using h)
          refine ⟨c :: cs, by rw [h1]; rfl, fun d hd => ?_⟩
          rcases List.mem_cons.mp hd with rfl | h
          · exact hc
          · exact h2 d h
      subst hcs
      have hszl : cs.length = sz := by
        rw [List.length_map] at hxl
        omega
      have hD3 := hA3.lst hz
      have ha3 := hA3.lst ((e02.trans e3) _ _ ha)
      have e03 := e02.trans e3
      rw [paired_strs hp] at hD3
      refine ⟨_, D, _, rfl, rfl, .inl (SqL.of hD3), ?_, ?_⟩
      · rw [List.map_map, List.length_map]
        have hs : ∀ l : List Nat, (l.map ((fun x : Str => x.length) ∘ fun c => (⟨#[c]⟩ : Str))).sum = l.length := by
          intro l
          induction l with
          | nil => rfl
          | cons c r ih =>
            rw [List.map_cons, List.sum_cons, ih]
            show 1 + r.length = r.length + 1
            omega
        rw [hs]
        have h0 : (Str.ofString "").length = 0 := by decide +kernel
        rw [h0]
        omega
      rw [join_chars]
      refine i_seq (i_if ?_)
      walk_at "rd"
      refine i_inT (.inr (SqL.of ha3)) ⟨_, rfl, ?_⟩
      have alt : ∀ (D' : Ends) G4, D'.rt = Q → Same G3 G4 → SA G4 s st S3 (b + 20) →
          tRet (tOp (rIxL K) (tLc (iList K (tLc (iStr (tC (V.str (Str.ofString "abcdefghijklmnopqrst")))) (gName 6) tYes (tHide (tOp (fun x y H Q => ∃ i j, x = V.str i ∧ y = V.str j ∧ i.length + j.length ≤ sizeLine ∧ Q (V.str (i ++ j)) H) (tC (V.str (Str.ofString "q"))) (tVar 6))) (List.map (fun x => x.snd) [(Str.ofString "_law_letter", 6)])))
            (gName 5) (tHideT (tTest (tOp (rIn K true) (tVar 5) (tVar 1)))) (tHide (tVar 5)) (List.map (fun x => x.snd) [(Str.ofString "_law_one", 5)])) (tC (V.int 0))) D' [some (.ref st), some (.ref a), some (.int (sz : Int)), some (.str ⟨cs.toArray⟩), none, none, none] (sH G4 s st S3) := by
        intro D' G4 hD' e4 hA4
        refine ⟨_, rfl, fun D1 nD1 => ?_⟩
        have hqsl : (⟨qs.toArray⟩ : Str) = Str.ofString "abcdefghijklmnopqrst" := by decide +kernel
        refine lc_wm walk_str rCp rStr (ys := qs) qn (by decide +kernel) (fun _ _ => trivial) (fun i H x H' hi ⟨e, c, hc, hx⟩ => ⟨e, c, by rw [← hqsl] at hc; simpa using hc, hx⟩) (by decide) nD1 (fun x => rfl) (fun x y G sm hx hy Q' hQ' => ?_) (fun H5 zs5 e5 hz5 hp5 => ?_)
        · obtain rfl : x = .str ⟨#[y]⟩ := hx
          refine i_op (i_c (i_var (by rfl) ?_))
          have hq : Str.ofString "q" ++ (⟨#[y]⟩ : Str) = qn y := by
            show (⟨(Str.ofString "q").cps ++ #[y]⟩ : Str) = ⟨#[113, y]⟩
            rw [show (Str.ofString "q").cps = #[113] from by decide +kernel]
            rfl
          refine ⟨_, _, rfl, rfl, big5 (by show (Str.ofString "q").length + 1 ≤ 100000; rw [show (Str.ofString "q").length = 1 from by decide +kernel]; decide), ?_⟩
          rw [hq]
          exact hQ' _ _ (Same.refl _) rfl
        · have ha5 := e5 _ _ (hA4.lst ((e03.trans e4) _ _ ha))
          refine ⟨D1, rfl, ⟨zs5, SqL.of hz5⟩, fun D2 nD2 => ?_⟩
          refine lc_w (walk_list (xs := zs5)) rStr rStr (ys := qs.map qn) (fun x => !decide (x ∈ tk)) id (paired_len hp5) (fun H' s => SqL.of (s _ _ hz5)) (yat_of rStr hp5) (by decide) nD2 (fun x => rfl) (fun x m G sm hx hm Q' hQ' => ?_) (fun x m G sm hx hm hk Q' hQ' => ?_) (fun H6 zs6 e6 hz6 hp6 => ?_)
          · obtain rfl : x = .str m := hx
            refine i_test (i_op (i_var (by rfl) (i_var (by rfl) ?_)))
            exact i_notInT (.inr (SqL.of (sm _ _ ha5))) ⟨_, rfl, hQ' _ (Same.refl _)⟩
          · exact ⟨x, rfl, hQ' _ _ (Same.refl _) hx⟩
          · rw [List.map_id] at hp6
            have hne := free_one (qs.map qn) tk qn_nd (by show tk.length < 20; omega)
            cases hf : (qs.map qn).filter (fun x => !decide (x ∈ tk)) with
            | nil => exact absurd hf hne
            | cons nm r =>
              rw [hf] at hp6
              cases hp6 with
              | cons h _ =>
                obtain ⟨hm1, hm2⟩ := List.mem_filter.mp (show nm ∈ (qs.map qn).filter (fun x => !decide (x ∈ tk)) by rw [hf]; exact List.mem_cons_self)
                obtain ⟨c, hc, rfl⟩ := List.mem_map.mp hm1
                refine i_c (i_ixL0 (SqL.of hz6) rfl ?_)
                obtain ⟨G6, rfl, eG6, hA6⟩ := hA4.back (e5.trans e6)
                rw [show _ = V.str (qn c) from h, hD']
                exact q _ S3 G6 ((e03.trans e4).trans eG6) hA6 (qn_ok c hc) (by simpa using hm2)
      have hA3' : SA G3 s st S3 (b + 20) := hA3.more (by omega)
      by_cases hin : (⟨cs.toArray⟩ : Str) ∈ tk
      · refine ifT (decide_eq_true hin) (i_if1 ?_)
        exact alt _ G3 rfl (Same.refl _) hA3'
      · refine ifF (decide_eq_false hin) ?_
        refine i_test (i_op (i_var (by rfl) (i_lst (i_cons (i_c (i_cons (i_c (i_cons (i_c (i_cons (i_c (i_cons (i_c (i_nil ⟨big5 (by simp), fun p5 np5 => ?_⟩))))))))))))))
        obtain ⟨h5, e5, hA5⟩ := hA3'.new (o := .lst [V.str "and", .str "or", .str "not", .str "always", .str "never"]) np5
        have hp5 : upd (sH G3 s st S3) p5 (.lst [V.str "and", .str "or", .str "not", .str "always", .str "never"]) p5 = some (.lst [V.str "and", .str "or", .str "not", .str "always", .str "never"]) := upd_same
        refine i_inT (ns := reserved) (.inr (SqL.of hp5)) ⟨_, rfl, ?_⟩
        rw [h5]
        by_cases hres : (⟨cs.toArray⟩ : Str) ∈ reserved
        · refine ifT (decide_eq_true hres) ?_
          exact alt _ _ rfl e5 hA5
        · refine ifF (decide_eq_false hres) (i_next ?_)
          refine i_ret (i_var (by rfl) ?_)
          exact q _ S3 _ (e03.trans e5) hA5 (name_of (by omega) (by omega) hcl hres) hin
theorem SA.put {G : Hp} {s st F : Addr} {S : Strm} {b : Nat} {o : HO} (h : SA G s st S b) (n1 : F ≠ s) (n2 : F ≠ st) : upd (sH G s st S) F o = sH (upd G F o) s st S ∧ SA (upd G F o) s st S b := by
  refine ⟨?_, by rw [upd_ne (Ne.symm n1)]; exact h.ns, by rw [upd_ne (Ne.symm n2)]; exact h.nst, h.nss, h.ok⟩
  unfold sH
  rw [upd_swap' n2, upd_swap' n1]
def spNames : Sp := fun vs H Q _ => ∃ st s many x tk G S b, vs = [.ref st, .int ((many : Nat) : Int), x] ∧ H = sH G s st S ∧ SA G s st S b ∧ b < 80000 ∧ many ≤ 3 ∧ rLstS G x tk ∧ tk.length ≤ 3 ∧ ∀ v ns S2 G2, Same G G2 → SA G2 s st S2 (b + 60) → rLstS G2 v ns → ns.length = many → (tk ++ ns).Nodup ∨ ¬ tk.Nodup → (∀ n ∈ ns, isName n = true) → Q v (sH G2 s st S2)
theorem c_l_names (T : Txt K mg c) : Cal P w K mg base 3 "_law_names" (spNames) [] := by
    refine cal_of T.d_l_names sc_l_names (by walk_at "len") (fun f cdv A outer sh H vs Q E hr h => ?_)
    have nd := sc_l_names.nd
    obtain ⟨st, s, many, _, tk, G, S, b, rfl, rfl, hA, hb, hm, ⟨a, rfl, ha⟩, htk, q⟩ := h
    refine ⟨_, (pss_cons (ps_set (i := 3) nd rfl (.inl rfl) (pe_lst pa_nil))
        (pss_cons (ps_for PassesOwn.never rfl (pi_range1 (by rfl) T.g_range (pa_cons (pv 1) pa_nil)) (pg_name (i := 4) nd rfl (.inl rfl)) (pss_one (ps_expr (pe_bmK K rfl PySem.F.plainAttrs_list PySem.F.slot_list_append PySem.F.type_list_append mt_append (pv 3) (pa_cons (C8.pe_c (c_l_name T) hr (by first | decide | exact Nat.le_refl _ | omega) rfl (pa_cons (pv 0) (pa_cons (pe_op op_cat (pv 2) (pv 3)) pa_nil))) pa_nil)))))
        (pss_one (ps_ret (pv 3))))), ?_⟩
    walk_at "rd"
    refine ⟨Nat.zero_le _, fun F nF => ?_⟩
    obtain ⟨h1, e1, hA1⟩ := hA.new (o := .lst []) nF
    obtain ⟨n1, nFst⟩ := none_of_upd nF
    obtain ⟨nFG, nFs⟩ := none_of_upd n1
    rw [h1]
    walk_at "rd"
    refine ⟨_, rfl, by omega, by omega, ?_⟩
    refine for_w walk_range (fun i σ H' => ∃ G' S' ns v4, H' = sH (upd G' F (.lst (ns.map V.str))) s st S' ∧ Same G G' ∧ SA (upd G' F (.lst (ns.map V.str))) s st S' (b + 20 * i) ∧ ns.length = i ∧ ((tk ++ ns).Nodup ∨ ¬ tk.Nodup) ∧ (∀ n ∈ ns, isName n = true) ∧ σ = [some (.ref st), some (.int (many : Int)), some (.ref a), some (.ref F), v4]) ?_ (fun _ _ _ _ _ => trivial) ?_ ?_
    · refine ⟨G, S, [], _, rfl, Same.refl _, hA1, rfl, ?_, by simp, rfl⟩
      by_cases h : tk.Nodup
      · left
        simpa using h
      · exact .inr h
    · rintro i x σ H' H2' hi ⟨G', S', ns, v4, rfl, eG, hA', hnl, hnd, hok, rfl⟩ ⟨rfl, hx⟩
      have hi' : i < many := by simpa using hi
      have hF' : upd G' F (.lst (ns.map V.str)) F = some (.lst (ns.map V.str)) := upd_same
      have ha' : upd G' F (.lst (ns.map V.str)) a = some (.lst (tk.map V.str)) := by
        rw [upd_ne (ne_of_none ha nFG)]
        exact eG _ _ ha
      have eG' : Same G (upd G' F (.lst (ns.map V.str))) := same_mut eG nFG
      generalize upd G' F (.lst (ns.map V.str)) = G1 at hA' hF' ha' eG'
      walk_at "rd"
      refine ⟨.inl ⟨rfl, _, SqL.of (hA'.lst hF')⟩, ?_⟩
      walk_at "rd"
      refine i_cat (hA'.lst ha') (hA'.lst hF') (by simp; omega) fun p np => ?_
      obtain ⟨h2, e2, hA2⟩ := hA'.new (o := .lst (tk.map V.str ++ ns.map V.str)) np
      have hp2 : upd G1 p (.lst (tk.map V.str ++ ns.map V.str)) p = some (.lst (tk.map V.str ++ ns.map V.str)) := upd_same
      rw [h2]
      generalize upd G1 p (.lst (tk.map V.str ++ ns.map V.str)) = G2 at e2 hA2 hp2
      walk_at "rd"
      refine ⟨st, s, _, tk ++ ns, G2, S', b + 20 * i, rfl, rfl, hA2, by omega, ⟨p, rfl, by rw [List.map_append]; exact hp2⟩, by rw [List.length_append]; omega, fun nm S3 G3 e3 hA3 hnm hnot => ?_⟩
      have hF3 := (e2.trans e3) _ _ hF'
      walk_at "rd"
      refine i_append (hA3.lst hF3) (by rw [List.length_map]; omega) ?_
      obtain ⟨h3, hA4⟩ := hA3.put (o := .lst (ns.map V.str ++ [V.str nm])) nFs nFst
      rw [h3]
      have hsn : (ns.map V.str ++ [V.str nm]) = (ns ++ [nm]).map V.str := by simp
      rw [hsn] at hA4 ⊢
      refine ⟨G3, S3, ns ++ [nm], _, rfl, eG'.trans (e2.trans e3), by rwa [show b + 20 * (i + 1) = b + 20 * i + 20 by omega], by rw [List.length_append, hnl]; rfl, ?_, ?_, rfl⟩
      · rcases hnd with h | h
        · left
          rw [← List.append_assoc]
          exact List.nodup_append.mpr ⟨h, List.nodup_cons.mpr ⟨List.not_mem_nil, List.nodup_nil⟩, fun x hx y hy e => hnot (by rw [← List.mem_singleton.mp hy, ← e]; exact hx)⟩
        · exact .inr h
      · intro n hn
        rcases List.mem_append.mp hn with h | h
        · exact hok n h
        · rw [List.mem_singleton.mp h]
          exact hnm
    · rintro σ H' ⟨G', S', ns, v4, rfl, eG, hA', hnl, hnd, hok, rfl⟩
      walk_at "rd"
      have hnl' : ns.length = many := by simpa using hnl
      exact q _ ns S' _ (same_mut eG nFG) (hA'.more (by omega)) ⟨F, rfl, upd_same⟩ hnl' hnd hok
theorem u_leafC {K : PySem.W.Frag} {G : Hp} {s st : Addr} {S : Strm} {b : Nat} {σ : L2.St} {Q : VK} (hA : SA G s st S b) (hb : b < 99000) (h0 : σ[0]? = some (some (.ref st))) (q : ∀ v t S2 G2, Same G G2 → SA G2 s st S2 (b + 1) → rTree G2 v t → t.depth ≤ 1 → t.names = [] → Q v (sH G2 s st S2)) :
    tOp (rIxL K) (tLst (tCons (tTup (tCons (tC (V.str "always")) tNil)) (tCons (tTup (tCons (tC (V.str "never")) tNil)) tNil))) (tCall spDraw [] C8.E0 (tCons (tVar 0) (tCons (tC (V.int 2)) tNil))) σ (sH G s st S) Q := by
  walk_at "rd"
  refine ⟨by decide, fun p np => ?_⟩
  obtain ⟨h2, e2, hA2⟩ := hA.new (o := .tup [.str "always"]) np
  rw [h2]
  generalize hG2 : upd G p (.tup [.str "always"]) = G2 at e2 hA2
  have hp : G2 p = some (.tup [.str "always"]) := by rw [← hG2]; exact upd_same
  walk_at "rd"
  refine ⟨by decide, fun r nr => ?_⟩
  obtain ⟨h3, e3, hA3⟩ := hA2.new (o := .tup [.str "never"]) nr
  rw [h3]
  generalize hG3 : upd G2 r (.tup [.str "never"]) = G3 at e3 hA3
  have hr : G3 r = some (.tup [.str "never"]) := by rw [← hG3]; exact upd_same
  walk_at "rd"
  refine ⟨show 2 ≤ sizeLine by decide, fun l nl => ?_⟩
  obtain ⟨h4, e4, hA4⟩ := hA3.new (o := .lst [.ref p, .ref r]) nl
  rw [h4]
  generalize hG4 : upd G3 l (.lst [.ref p, .ref r]) = G4 at e4 hA4
  have hl : G4 l = some (.lst [.ref p, .ref r]) := by rw [← hG4]; exact upd_same
  walk_at "rd"
  refine ⟨_, h0, ?_⟩
  walk_at "rd"
  refine i_draw (many := 2) hA4 (by omega) (by omega) (by omega) fun d S5 G5 e5 hA5 hd => ?_
  have hl5 := hA5.lst (e5 _ _ hl)
  have e05 := e2.trans (e3.trans (e4.trans e5))
  match d, hd with
  | 0, _ => exact i_ixL0 (SqL.of hl5) rfl (q _ .always _ _ e05 hA5 ⟨p, rfl, e5 _ _ (e4 _ _ (e3 _ _ hp))⟩ (by decide) rfl)
  | 1, _ => exact i_ixL (j := 1) (SqL.of hl5) rfl (q _ .never _ _ e05 hA5 ⟨r, rfl, e5 _ _ (e4 _ _ hr)⟩ (by decide) rfl)
theorem u_leafP {G : Hp} {s st a : Addr} {S : Strm} {b : Nat} {σ : L2.St} {Q : VK} {ns : List Str} (hA : SA G s st S b) (hb : b < 90000) (ha : G a = some (.lst (ns.map V.str))) (hne : ns ≠ []) (hl : ns.length ≤ 5) (h0 : σ[0]? = some (some (.ref st))) (h1 : σ[1]? = some (some (.ref a))) {nx bk ct : L2.St → Hp → Prop} (l4 : 4 < σ.length) (q : ∀ v t S2 G2, Same G G2 → SA G2 s st S2 (b + 2) → rTree G2 v t → t.depth ≤ 1 → (∀ m ∈ t.names, m ∈ ns) → Q v (sH G2 s st S2)) :
    tSeq (tAsg (tCall spPick [] C8.E0 (tCons (tVar 0) (tCons (tVar 1) tNil))) (gName 4)) (tRet (tIf (tTest (tOp rEq (tCall spDraw [] C8.E0 (tCons (tVar 0) (tCons (tC (V.int 2)) tNil))) (tC (V.int 0)))) (tTup (tCons (tC (V.str "is")) (tCons (tVar 4) tNil))) (tTup (tCons (tC (V.str "not")) (tCons (tTup (tCons (tC (V.str "is")) (tCons (tVar 4) tNil))) tNil))))) ⟨nx, Q, bk, ct⟩ σ (sH G s st S) := by
  walk_at "rd"
  refine ⟨_, h0, ?_⟩
  walk_at "rd"
  refine ⟨_, h1, ?_⟩
  walk_at "rd"
  refine ⟨st, s, _, ns, G, S, b, rfl, rfl, hA, by omega, ⟨a, rfl, ha⟩, hne, by omega, fun nm S2 G2 e2 hA2 hm => ?_⟩
  walk_at "rd"
  have h0' : (σ.set 4 (some (V.str nm)))[0]? = some (some (.ref st)) := by rw [List.getElem?_set_ne (by decide)]; exact h0
  have h4' : (σ.set 4 (some (V.str nm)))[4]? = some (some (.str nm)) := by rw [List.getElem?_set_self l4]
  generalize σ.set 4 (some (V.str nm)) = σ' at h0' h4'
  refine ⟨_, h0', ?_⟩
  walk_at "rd"
  refine i_draw (many := 2) hA2 (by omega) (by omega) (by omega) fun d S3 G3 e3 hA3 hd => ?_
  walk_at "rd"
  by_cases hd0 : d = 0
  · refine ifT (by simp [hd0]) ?_
    walk_at "rd"
    refine ⟨_, h4', ?_⟩
    walk_at "rd"
    refine ⟨show 2 ≤ sizeLine by decide, fun p np => ?_⟩
    obtain ⟨h4, e4, hA4⟩ := hA3.new (o := .tup [.str "is", .str nm]) np
    rw [h4]
    exact q _ (.is nm) _ _ (e2.trans (e3.trans e4)) hA4 ⟨p, rfl, upd_same⟩ (by simp [Tree.depth]) (by simp [Tree.names]; exact hm)
  · refine ifF (by simp; omega) ?_
    walk_at "rd"
    refine ⟨_, h4', ?_⟩
    walk_at "rd"
    refine ⟨show 2 ≤ sizeLine by decide, fun p np => ?_⟩
    obtain ⟨h4, e4, hA4⟩ := hA3.new (o := .tup [.str "is", .str nm]) np
    rw [h4]
    generalize hG4 : upd G3 p (.tup [.str "is", .str nm]) = G4 at e4 hA4
    have hp : G4 p = some (.tup [.str "is", .str nm]) := by rw [← hG4]; exact upd_same
    walk_at "rd"
    refine ⟨show 2 ≤ sizeLine by decide, fun r nr => ?_⟩
    obtain ⟨h5, e5, hA5⟩ := hA4.new (o := .tup [.str "not", .ref p]) nr
    rw [h5]
    exact q _ (.not (.is nm)) _ _ (e2.trans (e3.trans (e4.trans e5))) hA5 ⟨r, .ref p, rfl, upd_same, ⟨p, rfl, e5 _ _ hp⟩⟩ (by simp [Tree.depth]) (by simp [Tree.names]; exact hm)
def spCondL (n : Nat) : Sp := fun vs H Q _ => ∃ st s x dp ns G S b, vs = [.ref st, x, .int ((dp : Nat) : Int)] ∧ H = sH G s st S ∧ SA G s st S b ∧ b + 60 * dp < 80000 ∧ rLstS G x ns ∧ ns.length ≤ 5 ∧ (∀ m ∈ ns, isName m = true) ∧ dp < n ∧ dp ≤ 1 ∧ ∀ v t S2 G2, Same G G2 → SA G2 s st S2 (b + (10 + 50 * dp)) → rTree G2 v t → t.depth ≤ dp + 1 → (∀ m ∈ t.names, m ∈ ns) → Q v (sH G2 s st S2)
theorem c_l_condition (T : Txt K mg c) : ∀ n, Cal P w K mg base (n + 3) "_law_condition" (spCondL n) [] := by
  intro n
  induction n with
  | zero =>
    refine cal_of T.d_l_condition sc_l_condition (by walk_at "len") (fun f cdv A outer sh H vs Q E hr h => ?_)
    obtain ⟨st, s, x, dp, ns, G, S, b, rfl, hH, hA, hb, hx, hl, hnm, hn, hd, q⟩ := h
    exact absurd hn (Nat.not_lt_zero _)
  | succ n ih =>
    refine cal_of T.d_l_condition sc_l_condition (by walk_at "len") (fun f cdv A outer sh H vs Q E hr h => ?_)
    obtain ⟨st, s, _, dp, ns, G, S, b, rfl, rfl, hA, hb, ⟨a, rfl, ha⟩, hl, hnm, hn, hd, q⟩ := h
    have nd := sc_l_condition.nd
    have hr3 : Room 3 (A.deeper (envOfC "_law_condition" (fnScope s_l_condition) sh.heap.objs.size f cdv)) := hr.mono (by omega)
    refine ⟨_, (pss_cons (ps_set (i := 3) nd rfl (.inl rfl) (C8.pe_c (c_l_draw T) hr (by first | decide | exact Nat.le_refl _ | omega) rfl (pa_cons (pv 0) (pa_cons pe_int pa_nil))))
        (pss_cons (ps_if (PW.pt (pw_or (pt_cmpR (kEqD K rfl (by exact hr.units)) (pv 1) (pe_lst pa_nil) (nomark _)) (pw_or1 (pt_cmpR op_eq (pv 3) pe_int (nomark _))))) (pss_one (ps_ret (pe_ix (kIxL K rfl) (pe_lst (pa_cons (pe_tup (pa_cons pe_str pa_nil)) (pa_cons (pe_tup (pa_cons pe_str pa_nil)) pa_nil))) (C8.pe_c (c_l_draw T) hr (by first | decide | exact Nat.le_refl _ | omega) rfl (pa_cons (pv 0) (pa_cons pe_int pa_nil))) (fun _ _ => rfl)))) pss_nil)
        (pss_cons (ps_if (PW.pt (pw_or (pt_cmpR op_eq (pv 2) pe_int (nomark _)) (pw_or1 (pt_cmpR op_lt (pv 3) pe_int (nomark _))))) (pss_cons (ps_set (i := 4) nd rfl (.inl rfl) (C8.pe_c (c_l_pick T) hr (by first | decide | exact Nat.le_refl _ | omega) rfl (pa_cons (pv 0) (pa_cons (pv 1) pa_nil))))
        (pss_one (ps_ret (pe_ifExp (pt_cmpR op_eq (C8.pe_c (c_l_draw T) hr (by first | decide | exact Nat.le_refl _ | omega) rfl (pa_cons (pv 0) (pa_cons pe_int pa_nil))) pe_int (nomark _)) (pe_tup (pa_cons pe_str (pa_cons (pv 4) pa_nil))) (pe_tup (pa_cons pe_str (pa_cons (pe_tup (pa_cons pe_str (pa_cons (pv 4) pa_nil))) pa_nil))))))) pss_nil)
        (pss_cons (ps_if (pt_cmpR op_eq (pv 3) pe_int (nomark _)) (pss_one (ps_ret (pe_tup (pa_cons pe_str (pa_cons (C8.pe_c ih hr (by first | decide | exact Nat.le_refl _ | omega) rfl (pa_cons (pv 0) (pa_cons (pv 1) (pa_cons (pe_op op_sub (pv 2) pe_int) pa_nil)))) pa_nil))))) pss_nil)
        (pss_cons (ps_set (i := 5) nd rfl (.inl rfl) (C8.pe_c ih hr (by first | decide | exact Nat.le_refl _ | omega) rfl (pa_cons (pv 0) (pa_cons (pv 1) (pa_cons (pe_op op_sub (pv 2) pe_int) pa_nil)))))
        (pss_one (ps_ret (pe_tup (pa_cons (pe_ix (kIxL K rfl) (pe_lst (pa_cons pe_str (pa_cons pe_str pa_nil))) (pe_op op_mod (pv 3) pe_int) (fun _ _ => rfl)) (pa_cons (pv 5) (pa_cons (C8.pe_c ih hr (by first | decide | exact Nat.le_refl _ | omega) rfl (pa_cons (pv 0) (pa_cons (pv 1) (pa_cons (pe_op op_sub (pv 2) pe_int) pa_nil)))) pa_nil))))))))))), ?_⟩
    walk_at "rd"
    refine i_draw (many := 9) hA (by omega) (by omega) (by omega) fun way S1 G1 e1 hA1 hway => ?_
    have ha1 := e1 _ _ ha
    walk_at "rd"
    refine ⟨by decide, fun p np => ?_⟩
    obtain ⟨h2, e2, hA2⟩ := hA1.new (o := .lst []) np
    rw [h2]
    generalize hG2 : upd G1 p (.lst []) = G2 at e2 hA2
    have hp2 : G2 p = some (.lst []) := by rw [← hG2]; exact upd_same
    refine eq_strs (s := ns) (t := []) ⟨a, rfl, hA2.lst (e2 _ _ ha1)⟩ ⟨p, rfl, hA2.lst hp2⟩ (fun m hm => name_ok (hnm m hm)) (by simp) ?_
    have e02 := e1.trans e2
    have ha2 := e02 _ _ ha
    have leaf : ∀ {σ : L2.St}, σ[0]? = some (some (.ref st)) → tOp (rIxL K) (tLst (tCons (tTup (tCons (tC (V.str "always")) tNil)) (tCons (tTup (tCons (tC (V.str "never")) tNil)) tNil))) (tCall spDraw [] C8.E0 (tCons (tVar 0) (tCons (tC (V.int 2)) tNil))) σ (sH G2 s st S1) Q := fun h0 =>
      u_leafC hA2 (by omega) h0 fun v t S3 G3 e3 hA3 ht hd' hn' => q v t S3 G3 (e02.trans e3) (hA3.more (by omega)) ht (by omega) (by rw [hn']; simp)
    by_cases hz : ns = []
    · exact ⟨_, rfl, ifT (by simpa using hz) (leaf rfl)⟩
    refine ⟨_, rfl, ifF (by simpa using hz) ?_⟩
    walk_at "rd"
    by_cases hw0 : way = 0
    · exact ifT (by simp [hw0]) (leaf rfl)
    refine ifF (by simp [hw0]) ?_
    walk_at "rd"
    have pick : ∀ {σ : L2.St} {nx bk ct : L2.St → Hp → Prop}, σ[0]? = some (some (.ref st)) → σ[1]? = some (some (.ref a)) → 4 < σ.length → tSeq (tAsg (tCall spPick [] C8.E0 (tCons (tVar 0) (tCons (tVar 1) tNil))) (gName 4)) (tRet (tIf (tTest (tOp rEq (tCall spDraw [] C8.E0 (tCons (tVar 0) (tCons (tC (V.int 2)) tNil))) (tC (V.int 0)))) (tTup (tCons (tC (V.str "is")) (tCons (tVar 4) tNil))) (tTup (tCons (tC (V.str "not")) (tCons (tTup (tCons (tC (V.str "is")) (tCons (tVar 4) tNil))) tNil))))) ⟨nx, Q, bk, ct⟩ σ (sH G2 s st S1) := fun h0 h1 h4 =>
      u_leafP hA2 (by omega) ha2 hz hl h0 h1 h4 fun v t S3 G3 e3 hA3 ht hd' hn' => q v t S3 G3 (e02.trans e3) (hA3.more (by omega)) ht (by omega) hn'
    by_cases hd0 : dp = 0
    · exact ifT (by simp [hd0]) (pick rfl rfl (Nat.le_of_ble_eq_true rfl))
    refine ifF (by simp [hd0]) ?_
    walk_at "rd"
    refine ⟨_, _, rfl, rfl, ?_⟩
    by_cases hw4 : way < 4
    · exact ⟨_, rfl, ifT (by simp; omega) (pick rfl rfl (Nat.le_of_ble_eq_true rfl))⟩
    refine ⟨_, rfl, ifF (by simp; omega) ?_⟩
    walk_at "rd"
    have hdp : ((dp : Nat) : Int) - 1 = ((dp - 1 : Nat) : Int) := by omega
    by_cases hw : way = 4
    · refine ifT (by simp [hw]) ?_
      walk_at "rd"
      refine ⟨_, _, rfl, rfl, ?_⟩
      walk_at "rd"
      show spCondL n [V.ref st, V.ref a, V.int (((dp : Nat) : Int) - 1)] _ _ _
      rw [hdp]
      refine ⟨st, s, _, dp - 1, ns, G2, S1, b + 1, rfl, rfl, hA2, by omega, ⟨a, rfl, ha2⟩, hl, hnm, by omega, by omega, fun v t S3 G3 e3 hA3 ht hdt hnt => ?_⟩
      walk_at "rd"
      refine ⟨show 2 ≤ sizeLine by decide, fun r nr => ?_⟩
      obtain ⟨h5, e5, hA5⟩ := hA3.new (o := .tup [.str "not", v]) nr
      rw [h5]
      exact q _ (.not t) _ _ (e02.trans (e3.trans e5)) (hA5.more (by omega)) ⟨r, v, rfl, upd_same, rTree_mono (Ex.of e5) _ _ ht⟩ (by simp only [Tree.depth]; omega) hnt
    refine ifF (by simp; omega) ?_
    walk_at "rd"
    refine ⟨_, _, rfl, rfl, ?_⟩
    walk_at "rd"
    show spCondL n [V.ref st, V.ref a, V.int (((dp : Nat) : Int) - 1)] _ _ _
    rw [hdp]
    refine ⟨st, s, _, dp - 1, ns, G2, S1, b + 1, rfl, rfl, hA2, by omega, ⟨a, rfl, ha2⟩, hl, hnm, by omega, by omega, fun v t S3 G3 e3 hA3 ht hdt hnt => ?_⟩
    walk_at "rd"
    refine ⟨show 2 ≤ sizeLine by decide, fun l nl => ?_⟩
    obtain ⟨h4, e4, hA4⟩ := hA3.new (o := .lst [.str "and", .str "or"]) nl
    rw [h4]
    generalize hG4 : upd G3 l (.lst [.str "and", .str "or"]) = G4 at e4 hA4
    have hl4 : G4 l = some (.lst [.str "and", .str "or"]) := by rw [← hG4]; exact upd_same
    walk_at "rd"
    refine ⟨_, _, rfl, rfl, show (0:Int) < 2 by decide, ?_⟩
    walk_at "rd"
    have hmod : ((way : Nat) : Int) % 2 = ((way % 2 : Nat) : Int) := by omega
    show rIxL K (.ref l) (.int (((way : Nat) : Int) % 2)) _ _
    rw [hmod]
    rcases Nat.mod_two_eq_zero_or_one way with hm2 | hm2
    · rw [hm2]
      refine i_ixL (j := 0) (SqL.of (hA4.lst hl4)) rfl ?_
      walk_at "rd"
      refine ⟨_, _, rfl, rfl, ?_⟩
      walk_at "rd"
      show spCondL n [V.ref st, V.ref a, V.int (((dp : Nat) : Int) - 1)] _ _ _
      rw [hdp]
      refine ⟨st, s, _, dp - 1, ns, G4, S3, _, rfl, rfl, hA4, by omega, ⟨a, rfl, e4 _ _ (e3 _ _ ha2)⟩, hl, hnm, by omega, by omega, fun v2 t2 S5 G5 e5 hA5 ht2 hdt2 hnt2 => ?_⟩
      walk_at "rd"
      refine ⟨show 3 ≤ sizeLine by decide, fun r nr => ?_⟩
      obtain ⟨h6, e6, hA6⟩ := hA5.new (o := .tup [.str "and", v, v2]) nr
      rw [h6]
      have ht' := rTree_mono (Ex.of (e4.trans (e5.trans e6))) _ _ ht
      have ht2' := rTree_mono (Ex.of e6) _ _ ht2
      exact q _ (.and t t2) _ _ (e02.trans (e3.trans (e4.trans (e5.trans e6)))) (hA6.more (by omega)) ⟨r, v, v2, rfl, upd_same, ht', ht2'⟩ (by simp only [Tree.depth]; omega) (fun m hm => (List.mem_append.mp hm).elim (hnt m) (hnt2 m))
    · rw [hm2]
      refine i_ixL (j := 1) (SqL.of (hA4.lst hl4)) rfl ?_
      walk_at "rd"
      refine ⟨_, _, rfl, rfl, ?_⟩
      walk_at "rd"
      show spCondL n [V.ref st, V.ref a, V.int (((dp : Nat) : Int) - 1)] _ _ _
      rw [hdp]
      refine ⟨st, s, _, dp - 1, ns, G4, S3, _, rfl, rfl, hA4, by omega, ⟨a, rfl, e4 _ _ (e3 _ _ ha2)⟩, hl, hnm, by omega, by omega, fun v2 t2 S5 G5 e5 hA5 ht2 hdt2 hnt2 => ?_⟩
      walk_at "rd"
      refine ⟨show 3 ≤ sizeLine by decide, fun r nr => ?_⟩
      obtain ⟨h6, e6, hA6⟩ := hA5.new (o := .tup [.str "or", v, v2]) nr
      rw [h6]
      have ht' := rTree_mono (Ex.of (e4.trans (e5.trans e6))) _ _ ht
      have ht2' := rTree_mono (Ex.of e6) _ _ ht2
      exact q _ (.or t t2) _ _ (e02.trans (e3.trans (e4.trans (e5.trans e6)))) (hA6.more (by omega)) ⟨r, v, v2, rfl, upd_same, ht', ht2'⟩ (by simp only [Tree.depth]; omega) (fun m hm => (List.mem_append.mp hm).elim (hnt m) (hnt2 m))
def spLBuilt (c : Cs) (n : Nat) : Sp := fun vs H Q _ => ∃ x t, vs = [x] ∧ rTree H x t ∧ t.depth < n ∧ t.depth ≤ 2 ∧ (∀ m ∈ t.names, isName m = true) ∧ ∀ v H', Same H H' → rCond c H' v t → Q v H'
theorem c_l_built (T : Txt K mg c) : ∀ n, Cal P w K mg base (n + 3) "_law_built" (spLBuilt c n) [] := by
  intro n
  induction n with
  | zero =>
    refine cal_of T.d_l_built sc_l_built (by walk_at "len") (fun f cdv A outer sh H vs Q E hr h => ?_)
    obtain ⟨x, t, rfl, ht, hn, hd, hnm, q⟩ := h
    exact absurd hn (Nat.not_lt_zero _)
  | succ n ih =>
    refine cal_of T.d_l_built sc_l_built (by walk_at "len") (fun f cdv A outer sh H vs Q E hr h => ?_)
    obtain ⟨x, t, rfl, ht, hn, hd, hnm, q⟩ := h
    have nd := sc_l_built.nd
    refine ⟨_, (pss_cons (ps_if (pt_cmpR op_eq (pe_ix (kIxT K rfl) (pv 0) pe_int (fun _ _ => rfl)) pe_str (nomark _)) (pss_one (ps_ret (pe_sta (st_Condition_of T) T.rdC hr (by first | decide | exact Nat.le_refl _ | omega) (pe_glob (v := V.ref c.C) (by rfl) T.gcC rfl) (pa_cons (pe_ix (kIxT K rfl) (pv 0) pe_int (fun _ _ => rfl)) pa_nil)))) pss_nil)
        (pss_cons (ps_if (pt_cmpR op_eq (pe_ix (kIxT K rfl) (pv 0) pe_int (fun _ _ => rfl)) pe_str (nomark _)) (pss_one (ps_ret (pe_un (un_own (m_Condition_invert T) hr (by first | decide | exact Nat.le_refl _ | omega)) (C8.pe_c ih hr (by first | decide | exact Nat.le_refl _ | omega) rfl (pa_cons (pe_ix (kIxT K rfl) (pv 0) pe_int (fun _ _ => rfl)) pa_nil))))) pss_nil)
        (pss_cons (ps_if (pt_cmpR op_eq (pe_ix (kIxT K rfl) (pv 0) pe_int (fun _ _ => rfl)) pe_str (nomark _)) (pss_one (ps_ret (pe_op (op_own (m_Condition_and T) (by rfl) T.sfC hr (by first | decide | exact Nat.le_refl _ | omega)) (C8.pe_c ih hr (by first | decide | exact Nat.le_refl _ | omega) rfl (pa_cons (pe_ix (kIxT K rfl) (pv 0) pe_int (fun _ _ => rfl)) pa_nil)) (C8.pe_c ih hr (by first | decide | exact Nat.le_refl _ | omega) rfl (pa_cons (pe_ix (kIxT K rfl) (pv 0) pe_int (fun _ _ => rfl)) pa_nil))))) pss_nil)
        (pss_cons (ps_if (pt_cmpR op_eq (pe_ix (kIxT K rfl) (pv 0) pe_int (fun _ _ => rfl)) pe_str (nomark _)) (pss_one (ps_ret (pe_op (op_own (m_Condition_or T) (by rfl) T.sfC hr (by first | decide | exact Nat.le_refl _ | omega)) (C8.pe_c ih hr (by first | decide | exact Nat.le_refl _ | omega) rfl (pa_cons (pe_ix (kIxT K rfl) (pv 0) pe_int (fun _ _ => rfl)) pa_nil)) (C8.pe_c ih hr (by first | decide | exact Nat.le_refl _ | omega) rfl (pa_cons (pe_ix (kIxT K rfl) (pv 0) pe_int (fun _ _ => rfl)) pa_nil))))) pss_nil)
        (pss_one (ps_ret (pe_ifExp (pt_cmpR op_eq (pe_ix (kIxT K rfl) (pv 0) pe_int (fun _ _ => rfl)) pe_str (nomark _)) (pe_sta0 (st_Condition_always T) T.rdC hr (by first | decide | exact Nat.le_refl _ | omega) (pe_glob (v := V.ref c.C) (by rfl) T.gcC rfl)) (pe_sta0 (st_Condition_never T) T.rdC hr (by first | decide | exact Nat.le_refl _ | omega) (pe_glob (v := V.ref c.C) (by rfl) T.gcC rfl))))))))), ?_⟩
    cases t with
    | is s =>
      obtain ⟨a, rfl, ha⟩ := ht
      have ha := SqT.of (K := K) ha
      walk_at "rd"
      refine ⟨rfl, ?_⟩
      walk_at "rd"
      exact ⟨s, rfl, hnm s (List.mem_singleton.mpr rfl), q⟩
    | not t =>
      obtain ⟨a, p, rfl, ha, h1⟩ := ht
      have ha := SqT.of (K := K) ha
      have hn : t.depth + 1 < n + 1 := hn
      have hd : t.depth + 1 ≤ 2 := hd
      walk_at "rd"
      refine ⟨_, t, rfl, h1, by omega, by omega, hnm, fun v H1 e1 ⟨b1, d1, x1, e, hb1, hr1, hd1⟩ => ?_⟩
      subst e
      exact ⟨b1, d1, _, rfl, hb1, b1, d1, x1, t, rfl, hb1, hr1, by omega, fun v H2 e2 hc => q v H2 (e1.trans e2) hc⟩
    | and t u =>
      obtain ⟨a, p, r, rfl, ha, h1, h2⟩ := ht
      have ha' := SqT.of (K := K) ha
      have hn : max t.depth u.depth + 1 < n + 1 := hn
      have hd : max t.depth u.depth + 1 ≤ 2 := hd
      have hm1 : ∀ m ∈ t.names, isName m = true := fun m hm => hnm m (List.mem_append.mpr (.inl hm))
      have hm2 : ∀ m ∈ u.names, isName m = true := fun m hm => hnm m (List.mem_append.mpr (.inr hm))
      walk_at "rd"
      refine ⟨_, t, rfl, h1, by omega, by omega, hm1, fun v H1 e1 ⟨b1, d1, x1, e, hb1, hr1, hd1⟩ => ?_⟩
      subst e
      have ha1 := SqT.of (K := K) (e1 _ _ ha)
      walk_at "rd"
      refine ⟨_, u, rfl, mono h2 e1, by omega, by omega, hm2, fun v H2 e2 ⟨b2, d2, x2, e, hb2, hr2, hd2⟩ => ?_⟩
      subst e
      exact ⟨b1, b2, d1, _, d2, _, rfl, rfl, e2 _ _ hb1, hb2, b1, b2, d1, d2, x1, x2, t, u, rfl, e2 _ _ hb1, rTree_mono (Ex.of e2) _ _ hr1, hb2, hr2, by omega, by omega, fun v H3 e3 hc => q v H3 (e1.trans (e2.trans e3)) hc⟩
    | or t u =>
      obtain ⟨a, p, r, rfl, ha, h1, h2⟩ := ht
      have ha' := SqT.of (K := K) ha
      have hn : max t.depth u.depth + 1 < n + 1 := hn
      have hd : max t.depth u.depth + 1 ≤ 2 := hd
      have hm1 : ∀ m ∈ t.names, isName m = true := fun m hm => hnm m (List.mem_append.mpr (.inl hm))
      have hm2 : ∀ m ∈ u.names, isName m = true := fun m hm => hnm m (List.mem_append.mpr (.inr hm))
      walk_at "rd"
      refine ⟨_, t, rfl, h1, by omega, by omega, hm1, fun v H1 e1 ⟨b1, d1, x1, e, hb1, hr1, hd1⟩ => ?_⟩
      subst e
      have ha1 := SqT.of (K := K) (e1 _ _ ha)
      walk_at "rd"
      refine ⟨_, u, rfl, mono h2 e1, by omega, by omega, hm2, fun v H2 e2 ⟨b2, d2, x2, e, hb2, hr2, hd2⟩ => ?_⟩
      subst e
      exact ⟨b1, b2, d1, _, d2, _, rfl, rfl, e2 _ _ hb1, hb2, b1, b2, d1, d2, x1, x2, t, u, rfl, e2 _ _ hb1, rTree_mono (Ex.of e2) _ _ hr1, hb2, hr2, by omega, by omega, fun v H3 e3 hc => q v H3 (e1.trans (e2.trans e3)) hc⟩
    | always =>
      obtain ⟨a, rfl, ha⟩ := ht
      have ha := SqT.of (K := K) ha
      walk_at "rd"
      refine ⟨rfl, ?_⟩
      walk_at "rd"
      exact ⟨rfl, q⟩
    | never =>
      obtain ⟨a, rfl, ha⟩ := ht
      have ha := SqT.of (K := K) ha
      walk_at "rd"
      refine ⟨rfl, ?_⟩
      walk_at "rd"
      exact ⟨rfl, q⟩
/-! ### the law's own world: a dict with four lists and more -/
structure LwAt (H : Hp) (d f p r : Addr) (w : Wd) : Prop where
  ob : ∃ kvs, Rd H d (.dK kvs) ∧ valV kvs (Sum.inr "facts") = some (.ref f) ∧ valV kvs (Sum.inr "piles") = some (.ref p) ∧ valV kvs (Sum.inr "reserves") = some (.ref r)
  fa : H f = some (.lst (w.facts.map V.str))
  pi : H p = some (.lst (w.piles.map V.str))
  re : H r = some (.lst (w.reserves.map V.str))
theorem LwAt.mono {H H' : Hp} {d f p r : Addr} {w : Wd} (h : LwAt H d f p r w) (e : Ex H H') : LwAt H' d f p r w := by
  obtain ⟨kvs, h1, h2⟩ := h.ob
  exact ⟨⟨kvs, e.rd h1, h2⟩, e.o h.fa, e.o h.pi, e.o h.re⟩
theorem LwAt.gf {H : Hp} {d f p r : Addr} {w : Wd} (h : LwAt H d f p r w) : DGet H d (.str "facts") (some (.ref f)) := by
  obtain ⟨kvs, h1, h2, h3, h4⟩ := h.ob
  exact dgK h1 h2
theorem LwAt.gp {H : Hp} {d f p r : Addr} {w : Wd} (h : LwAt H d f p r w) : DGet H d (.str "piles") (some (.ref p)) := by
  obtain ⟨kvs, h1, h2, h3, h4⟩ := h.ob
  exact dgK h1 h3
theorem LwAt.gr {H : Hp} {d f p r : Addr} {w : Wd} (h : LwAt H d f p r w) : DGet H d (.str "reserves") (some (.ref r)) := by
  obtain ⟨kvs, h1, h2, h3, h4⟩ := h.ob
  exact dgK h1 h4
theorem LwAt.same {H H' : Hp} {d f p r : Addr} {w : Wd} (h : LwAt H d f p r w) (e : Same H H') : LwAt H' d f p r w := h.mono (Ex.of e)
def spLSeen : Sp := fun vs H Q _ => ∃ d f p r w, vs = [.ref d] ∧ LwAt H d f p r w ∧ w.facts.length + w.piles.length ≤ 5 ∧ ∀ a, H a = none → Q (.ref a) (upd H a (.lst ((w.facts ++ w.piles).map V.str)))
theorem c_l_seen (T : Txt K mg c) : Cal P w K mg base 1 "_law_seen" (spLSeen) [] := by
    refine cal_of T.d_l_seen sc_l_seen (by walk_at "len") (fun f cdv A outer sh H vs Q E hr h => ?_)
    have nd := sc_l_seen.nd
    obtain ⟨d, f, p, r, w, rfl, W, hl, q⟩ := h
    refine ⟨_, (pss_one (ps_ret (pe_op op_cat (pe_dget (by exact hu_of hr) (pv 0) pe_str (fun _ _ => rfl)) (pe_dget (by exact hu_of hr) (pv 0) pe_str (fun _ _ => rfl))))), ?_⟩
    walk_at "rd"
    refine ⟨_, _, rfl, W.gf, ?_⟩
    walk_at "rd"
    refine ⟨_, _, rfl, W.gp, ?_⟩
    walk_at "rd"
    refine i_cat W.fa W.pi (by simp; omega) fun a na => ?_
    rw [← List.map_append]
    exact q a na
def spLCounters : Sp := fun vs H Q _ => ∃ d f p r w, vs = [.ref d] ∧ LwAt H d f p r w ∧ w.piles.length + w.reserves.length ≤ 5 ∧ ∀ a, H a = none → Q (.ref a) (upd H a (.lst ((w.piles ++ w.reserves).map V.str)))
theorem c_l_counters (T : Txt K mg c) : Cal P w K mg base 1 "_law_counters" (spLCounters) [] := by
    refine cal_of T.d_l_counters sc_l_counters (by walk_at "len") (fun f cdv A outer sh H vs Q E hr h => ?_)
    have nd := sc_l_counters.nd
    obtain ⟨d, f, p, r, w, rfl, W, hl, q⟩ := h
    refine ⟨_, (pss_one (ps_ret (pe_op op_cat (pe_dget (by exact hu_of hr) (pv 0) pe_str (fun _ _ => rfl)) (pe_dget (by exact hu_of hr) (pv 0) pe_str (fun _ _ => rfl))))), ?_⟩
    walk_at "rd"
    refine ⟨_, _, rfl, W.gp, ?_⟩
    walk_at "rd"
    refine ⟨_, _, rfl, W.gr, ?_⟩
    walk_at "rd"
    refine i_cat W.pi W.re (by simp; omega) fun a na => ?_
    rw [← List.map_append]
    exact q a na
theorem chv_take (x : Ch) : decide (x.v = V.str "take") = decide (some x = some Ch.take) := by cases x <;> decide +kernel
/-- the names of a set of changes that take from a pile -/
def takesIn (o : Chg) (ps : List Str) : List Str := ps.filter fun n => decide (chg o n = some .take)
def spLTaking : Sp := fun vs H Q _ => ∃ d f p r w y o, vs = [.ref d, y] ∧ LwAt H d f p r w ∧ rChg H y o ∧ w.piles.length ≤ 5 ∧ ∀ v H', Same H H' → rLstS H' v (takesIn o w.piles) → Q v H'
theorem c_l_taking (T : Txt K mg c) : Cal P w K mg base 1 "_law_taking" (spLTaking) [] := by
    refine cal_of T.d_l_taking sc_l_taking (by walk_at "len") (fun f cdv A outer sh H vs Q E hr h => ?_)
    have nd := sc_l_taking.nd
    obtain ⟨d, f, p, r, w, _, o, rfl, W, ⟨dy, rfl, hy⟩, hl, q⟩ := h
    refine ⟨_, (pss_one (ps_ret (pe_lc (own := [("_law_name_here", 2)]) (g := gName 2) rfl nd (pi_listK K rfl (pe_dget (by exact hu_of hr) (pv 0) pe_str (fun _ _ => rfl))) (blkOk_by (own := [("_law_name_here", 2)]) (N := N_l_taking) (sc := fnScope s_l_taking) (by decide +kernel)) (fun _ _ _ _ _ => (pg_name (i := 2) nd rfl (.inl rfl))) (fun _ _ _ _ _ => pts_one (pt_hide (pt_cmpR op_eq (pe_dget1 (by exact hu_of hr) (pv 1) (pv 2) ⟨rfl, rfl, rfl, rfl⟩) pe_str (nomark _)))) (fun _ _ _ _ _ => pe_hide (pv 2))))), ?_⟩
    walk_at "rd"
    refine ⟨_, rfl, _, _, rfl, W.gp, p, rfl, ⟨_, SqL.of W.pi⟩, fun D nD => ?_⟩
    refine lc_w (walk_list (xs := w.piles.map V.str)) rStr rStr (ys := w.piles) (fun n => decide (chg o n = some .take)) id (by simp) (fun H' s => SqL.of (s _ _ W.pi)) (yat_of rStr strs_paired) (by omega) nD (fun x => rfl) (fun x n G sm hx hm Q hQ => ?_) (fun x n G sm hx hm hk Q hQ => ?_) (fun H3 zs sm hz hp => ?_)
    · obtain rfl : x = .str n := hx
      walk_at "rd"
      refine ⟨dy, rfl, .inl ⟨_, .inl (sm _ _ hy)⟩, ?_⟩
      walk_at "rd"
      refine ⟨_, dgK (.inl (sm _ _ hy)) ch_get, ?_⟩
      walk_at "rd"
      have hQ' := hQ _ (Same.refl _)
      cases hc : chg o n with
      | none =>
        rw [hc] at hQ'
        exact ⟨rfl, _, rfl, hQ'⟩
      | some x =>
        rw [hc] at hQ'
        refine ⟨by cases x <;> rfl, _, rfl, ?_⟩
        show Q (decide (x.v = V.str "take")) G
        rw [chv_take]
        exact hQ'
    · walk_at "rd"
      exact hQ _ _ (Same.refl _) hx
    · rw [List.map_id] at hp
      exact q _ _ sm ⟨D, rfl, by rw [takesIn, ← paired_strs hp]; exact hz⟩
def spLStates : Sp := fun vs H Q _ => ∃ d f p r w, vs = [.ref d] ∧ LwAt H d f p r w ∧ w.facts.length + w.piles.length ≤ 3 ∧ ∀ v H', Same H H' → rLst rTupS H' v (statesOf (w.facts ++ w.piles)) → Q v H'
theorem c_l_states (T : Txt K mg c) : Cal P w K mg base 2 "_law_states" (spLStates) [] := by
    refine cal_of T.d_l_states sc_l_states (by walk_at "len") (fun f cdv A outer sh H vs Q E hr h => ?_)
    have nd := sc_l_states.nd
    obtain ⟨dd, f, p, r, wd, rfl, W, hl0, q⟩ := h
    refine ⟨_, (pss_cons (ps_set (i := 1) nd rfl (.inl rfl) (pe_lst (pa_cons (pe_tup pa_nil) pa_nil)))
        (pss_cons (ps_for PassesOwn.never rfl (pi_listK K rfl (C8.pe_c (c_l_seen T) hr (by first | decide | exact Nat.le_refl _ | omega) rfl (pa_cons (pv 0) pa_nil))) (pg_name (i := 2) nd rfl (.inl rfl)) (pss_cons (ps_set (i := 3) nd rfl (.inl rfl) (pe_lst pa_nil))
        (pss_cons (ps_for PassesOwn.never rfl (pi_listK K rfl (pv 1)) (pg_name (i := 4) nd rfl (.inl rfl)) (pss_one (ps_expr (pe_bmK K rfl PySem.F.plainAttrs_list PySem.F.slot_list_extend PySem.F.type_list_extend mt_extend (pv 3) (pa_cons (pe_lst (pa_cons (pv 4) (pa_cons (pe_op (kCatA K rfl) (pv 4) (pe_tup (pa_cons (pv 2) pa_nil))) pa_nil))) pa_nil)))))
        (pss_one (ps_set (i := 1) nd rfl (.inl rfl) (pv 3))))))
        (pss_one (ps_ret (pv 1))))), ?_⟩
    walk_at "rd"
    refine ⟨Nat.zero_le _, fun p0 np0 => ?_⟩
    walk_at "rd"
    refine ⟨big5 (by simp), fun p1 np1 => ?_⟩
    walk_at "rd"
    generalize hH1 : upd (upd H p0 (.tup [])) p1 (.lst [.ref p0]) = H1
    have e1 : Same H H1 := by
      rw [← hH1]
      exact (same_new np0).trans (same_new np1)
    have r1 : rLst rTupS H1 (.ref p1) [[]] := ⟨p1, _, rfl, by rw [← hH1]; exact upd_same, .cons ⟨p0, rfl, by rw [← hH1]; exact same_new np1 _ _ upd_same⟩ .nil⟩
    have W1 := W.same e1
    refine ⟨dd, f, p, r, wd, rfl, W1, by omega, fun l nl => ?_⟩
    have e2 := same_new (H := H1) (o := .lst ((wd.facts ++ wd.piles).map V.str)) nl
    have hl : upd H1 l (.lst ((wd.facts ++ wd.piles).map V.str)) l = some (.lst (wd.seen.map V.str)) := upd_same
    generalize upd H1 l (.lst ((wd.facts ++ wd.piles).map V.str)) = H2 at e2 hl
    refine ⟨l, rfl, ⟨_, SqL.of hl⟩, ?_⟩
    refine for_w (walk_list (xs := wd.seen.map V.str)) (fun i σ H' => ∃ v2 v3 x v5, Same H2 H' ∧ rLst rTupS H' x (statesOf (wd.seen.take i)) ∧ σ = [some (.ref dd), some x, v2, v3, v5]) ⟨none, none, _, none, Same.refl _, mono r1 e2, rfl⟩ (fun i σ H' _ ⟨_, _, _, _, s, _⟩ => SqL.of (s _ _ hl)) ?_ ?_
    · rintro i x σ H3 H4 hi ⟨v2, v3, x3, v5, e3, ⟨b, zs, rfl, hb, hz⟩, rfl⟩ ⟨rfl, hx⟩
      obtain ⟨n, hn, rx⟩ := paired_get (F := rStr H4) strs_paired hx
      obtain rfl : x = .str n := rx
      have hilen : i < wd.seen.length := (List.getElem?_eq_some_iff.mp hn).1
      have hsl : wd.seen.length ≤ 3 := by
        unfold Wd.seen
        simp
        omega
      have hstl : (statesOf (wd.seen.take i)).length ≤ 8 := by
        rw [states_len, List.length_take]
        exact Nat.le_trans (Nat.pow_le_pow_right (by decide) (show min i wd.seen.length ≤ 3 by omega)) (by decide)
      have hzl := paired_len hz
      walk_at "rd"
      refine ⟨Nat.zero_le _, fun D nD => ?_⟩
      walk_at "rd"
      have nbD : b ≠ D := ne_of_none hb nD
      refine ⟨b, rfl, ⟨_, SqL.of (same_new nD _ _ hb)⟩, ?_⟩
      refine for_w (walk_list (xs := zs)) (fun j σ H' => ∃ v5 ws, Same H4 H' ∧ H' D = some (.lst ws) ∧ Paired (rTupS H') ws (((statesOf (wd.seen.take i)).take j).flatMap fun s => [s, s ++ [n]]) ∧ σ = [some (.ref dd), some (.ref b), some (.str n), some (.ref D), v5]) ⟨v5, [], same_new nD, upd_same, .nil, rfl⟩ (fun j σ H' _ ⟨_, _, s, _⟩ => SqL.of (s _ _ hb)) ?_ ?_
      · rintro j x σ H5 H6 hj ⟨v5, ws, e5, hD, hw, rfl⟩ ⟨rfl, hx⟩
        obtain ⟨s, hs, rx⟩ := paired_get hz hx
        have hws := paired_len hw
        have hfl : (((statesOf (wd.seen.take i)).take j).flatMap fun s => [s, s ++ [n]]).length + 2 ≤ ((statesOf (wd.seen.take i)).flatMap fun s => [s, s ++ [n]]).length := flat_lt (f := fun s => [s, s ++ [n]]) hs
        have hf2 : ((statesOf (wd.seen.take i)).flatMap fun s => [s, s ++ [n]]).length = (statesOf (wd.seen.take i)).length * 2 := by
          generalize statesOf (wd.seen.take i) = l
          induction l with
          | nil => rfl
          | cons x t ih =>
            simp only [List.flatMap_cons, List.length_append, List.length_cons, List.length_nil, ih]
            omega
        have hsn : s.length ≤ 3 := by
          have := (states_sub (List.mem_of_getElem? hs)).length_le
          rw [List.length_take] at this
          omega
        obtain ⟨d, rfl, hd⟩ := mono rx e5
        walk_at "rd"
        refine ⟨.inl ⟨rfl, _, SqL.of hD⟩, ?_⟩
        walk_at "rd"
        refine ⟨big5 (by simp), fun p2 np2 => ?_⟩
        walk_at "rd"
        have npD2 : D ≠ p2 := ne_of_none hD np2
        have key : ∀ v H7, Same H6 H7 → rTupS H7 v (s ++ [n]) → ∀ p3, H7 p3 = none → rExtend (.ref D) [.ref p3] (upd H7 p3 (.lst [.ref d, v])) fun _ H1 => ∃ v5 ws, Same H4 H1 ∧ H1 D = some (.lst ws) ∧ Paired (rTupS H1) ws (((statesOf (wd.seen.take i)).take (j + 1)).flatMap fun s => [s, s ++ [n]]) ∧ ([some (.ref dd), some (.ref b), some (.str n), some (.ref D), some (.ref d)] : L2.St) = [some (.ref dd), some (.ref b), some (.str n), some (.ref D), v5] := by
          intro v H7 e7 rv p3 np3
          have hD7 := e7 _ _ hD
          have e8 : Same H7 (upd H7 p3 (.lst [.ref d, v])) := same_new np3
          have nDp : D ≠ p3 := ne_of_none hD7 np3
          refine i_extend (by rw [upd_ne nDp]; exact hD7) upd_same (by show ws.length + 2 ≤ 100000; omega) ?_
          have sb : SameBut D H6 (upd (upd H7 p3 (.lst [.ref d, v])) D (.lst (ws ++ [.ref d, v]))) := (SameBut.of (e7.trans e8)).put
          have sb7 : SameBut D H7 (upd (upd H7 p3 (.lst [.ref d, v])) D (.lst (ws ++ [.ref d, v]))) := (SameBut.of e8).put
          refine ⟨_, _, same_mut ((e5.trans e7).trans e8) nD, upd_same, ?_, rfl⟩
          rw [flat_take hs]
          refine paired_append (paired_imp (fun v s r => tupS_but r sb hD) hw) (.cons (tupS_but ⟨d, rfl, hd⟩ sb hD) (.cons (tupS_but rv sb7 hD7) .nil))
        refine ⟨d, p2, _, _, rfl, rfl, SqT.of (same_new np2 _ _ hd), SqT.of upd_same, big5 (by simp; omega), (fun z => ?_), (fun _ z => absurd z (List.cons_ne_nil _ _)), fun _ _ p3 np3 => ?_⟩
        · have : s = [] := List.map_eq_nil_iff.mp z
          subst this
          walk_at "rd"
          refine ⟨big5 (by simp), fun p4 np4 => ?_⟩
          walk_at "rd"
          exact key _ _ (same_new np2) ⟨p2, rfl, upd_same⟩ p4 np4
        · walk_at "rd"
          refine ⟨big5 (by simp), fun p4 np4 => ?_⟩
          walk_at "rd"
          refine key _ _ ((same_new np2).trans (same_new np3)) ⟨p3, rfl, ?_⟩ p4 np4
          rw [upd_same]
          simp
      · rintro σ H5 ⟨v5, ws, e5, hD, hw, rfl⟩
        walk_at "rd"
        rw [hzl, List.take_length] at hw
        refine ⟨_, _, _, _, e3.trans e5, ⟨D, ws, rfl, hD, ?_⟩, rfl⟩
        have : statesOf (wd.seen.take (i + 1)) = (statesOf (wd.seen.take i)).flatMap fun s => [s, s ++ [n]] := by
          unfold statesOf
          rw [take_more hn, List.foldl_append]
          rfl
        rw [this]
        exact hw
    · rintro σ H3 ⟨v2, v3, x3, v5, e3, h3, rfl⟩
      rw [List.length_map, List.take_length] at h3
      walk_at "rd"
      exact q _ _ ((e1.trans e2).trans e3) h3

def spLBehind : Sp := fun vs H Q _ => ∃ d f p r w y z u s o g, vs = [.ref d, y, z, u] ∧ LwAt H d f p r w ∧ LsOk w ∧ rTupS H y s ∧ rChg H z o ∧ rLstS H u g ∧ ∀ v H', Same H H' → rTupS H' v (behind w s o g) → Q v H'
theorem c_l_behind (T : Txt K mg c) : Cal P w K mg base 2 "_law_behind" (spLBehind) [] := by
    refine cal_of T.d_l_behind sc_l_behind (by walk_at "len") (fun f cdv A outer sh H vs Q E hr h => ?_)
    have nd := sc_l_behind.nd
    obtain ⟨dd, f, p, r, wd, _, _, _, s, o, g, rfl, W, ok, ⟨b, rfl, hb⟩, ⟨z, rfl, hz⟩, ⟨d, rfl, hd⟩, q⟩ := h
    refine ⟨_, (pss_cons (ps_set (i := 4) nd rfl (.inl rfl) (pe_lst pa_nil))
        (pss_cons (ps_for PassesOwn.never rfl (pi_listK K rfl (C8.pe_c (c_l_seen T) hr (by first | decide | exact Nat.le_refl _ | omega) rfl (pa_cons (pv 0) pa_nil))) (pg_name (i := 5) nd rfl (.inl rfl)) (pss_cons (ps_set (i := 6) nd rfl (.inl rfl) (pe_cmpR (kInS K rfl) (pv 5) (pv 1) (by rfl)))
        (pss_cons (ps_set (i := 7) nd rfl (.inl rfl) (pe_dget1 (by exact hu_of hr) (pv 2) (pv 5) ⟨rfl, rfl, rfl, rfl⟩))
        (pss_cons (ps_if (pt_cmpR op_eq (pv 7) pe_str (nomark _)) (pss_one (ps_set (i := 6) nd rfl (.inl rfl) (pe_cmpR (kNotInS K rfl) (pv 5) (pv 3) (by rfl)))) (pss_one (ps_if (pt_cmpR op_notN (pv 7) pe_non (nomark _)) (pss_one (ps_set (i := 6) nd rfl (.inl rfl) (pe_cmpR (kInS K rfl) (pv 7) (pe_lst (pa_cons pe_str (pa_cons pe_bl pa_nil))) (by rfl)))) pss_nil)))
        (pss_one (ps_if (pt_val (pv 6)) (pss_one (ps_expr (pe_bmK K rfl PySem.F.plainAttrs_list PySem.F.slot_list_append PySem.F.type_list_append mt_append (pv 4) (pa_cons (pv 5) pa_nil)))) pss_nil))))))
        (pss_one (ps_ret (pe_callTy (kTup K rfl) (by rfl) T.g_tuple (by decide +kernel) (pa_cons (pv 4) pa_nil)))))), ?_⟩
    have hl := ok.seenLen
    have h1 := ok.nf
    have h2 := ok.np
    walk_at "rd"
    refine ⟨Nat.zero_le _, fun D nD => ?_⟩
    have e0 : Same H (upd H D (.lst [])) := same_new nD
    have hD0 : upd H D (.lst []) D = some (.lst []) := upd_same
    have W0 := W.same e0
    generalize upd H D (.lst []) = H0 at e0 hD0 W0
    walk_at "rd"
    refine ⟨dd, f, p, r, wd, rfl, W0, by omega, fun l nl => ?_⟩
    have e1 := same_new (H := H0) (o := .lst ((wd.facts ++ wd.piles).map V.str)) nl
    have hl' : upd H0 l (.lst ((wd.facts ++ wd.piles).map V.str)) l = some (.lst (wd.seen.map V.str)) := upd_same
    generalize upd H0 l (.lst ((wd.facts ++ wd.piles).map V.str)) = H1 at e1 hl'
    refine ⟨l, rfl, ⟨_, SqL.of hl'⟩, ?_⟩
    have hD1 := e1 _ _ hD0
    have nlD : l ≠ D := fun z => by
      rw [z, hD1] at hl'
      have h := HO.lst.inj (Option.some.inj hl')
      exact ok.sn (List.map_eq_nil_iff.mp h.symm)
    refine for_w (walk_list (xs := wd.seen.map V.str)) (fun i σ H' => ∃ v5 v6 v7, Same H H' ∧ H' l = some (.lst (wd.seen.map V.str)) ∧ H' D = some (.lst (((wd.seen.take i).filter (heldA s o g)).map V.str)) ∧ σ = [some (.ref dd), some (.ref b), some (.ref z), some (.ref d), some (.ref D), v5, v6, v7]) ⟨_, _, _, e0.trans e1, hl', hD1, rfl⟩ (fun i σ H' _ ⟨_, _, _, _, h, _⟩ => SqL.of h) ?_ ?_
    · rintro i x σ H2 H4 hi ⟨v5, v6, v7, e4, h4, hD4, rfl⟩ ⟨rfl, hx⟩
      obtain ⟨n, hn, rx⟩ := paired_get (F := rStr H4) strs_paired hx
      obtain rfl : x = .str n := rx
      have hlen : ((wd.seen.take i).filter (heldA s o g)).length ≤ 100 := Nat.le_trans (List.length_filter_le _ _) (by rw [List.length_take]; omega)
      have hT : ∀ G, Same H4 G → heldA s o g n = true → Same H (upd G D (.lst (((wd.seen.take i).filter (heldA s o g)).map V.str ++ [.str n]))) ∧ upd G D (.lst (((wd.seen.take i).filter (heldA s o g)).map V.str ++ [.str n])) l = some (.lst (wd.seen.map V.str)) ∧ upd G D (.lst (((wd.seen.take i).filter (heldA s o g)).map V.str ++ [.str n])) D = some (.lst (((wd.seen.take (i + 1)).filter (heldA s o g)).map V.str)) := fun G eG h => by
        refine ⟨same_mut (e4.trans eG) nD, by rw [upd_ne nlD]; exact eG _ _ h4, ?_⟩
        rw [upd_same, take_more hn, List.filter_append, filter_one, if_pos h]
        simp
      have hF : ∀ G, Same H4 G → heldA s o g n = false → G D = some (.lst (((wd.seen.take (i + 1)).filter (heldA s o g)).map V.str)) := fun G eG h => by
        rw [take_more hn, List.filter_append, filter_one, if_neg (by rw [h]; exact Bool.false_ne_true), List.append_nil]
        exact eG _ _ hD4
      have hb4 := e4 _ _ hb
      have hz4 := e4 _ _ hz
      have hg4 := e4 _ _ hd
      walk_at "rd"
      refine i_inT (.inl (SqT.of hb4)) ?_
      walk_at "rd"
      refine ⟨z, rfl, .inl ⟨_, .inl hz4⟩, ?_⟩
      walk_at "rd"
      refine ⟨_, dgK (.inl hz4) ch_get, ?_⟩
      walk_at "rd"
      cases hc : chg o n with
      | none =>
        refine ⟨rfl, _, rfl, ifF (by decide +kernel) ?_⟩
        walk_at "rd"
        refine ⟨rfl, ?_⟩
        walk_at "rd"
        cases hm : decide (n ∈ s) with
        | true =>
          walk_at "rd"
          refine ⟨.inl ⟨rfl, _, SqL.of hD4⟩, ?_⟩
          walk_at "rd"
          have hh : heldA s o g n = true := by simp [heldA, hc]; simpa using hm
          exact i_append hD4 (by rw [List.length_map]; omega) ⟨_, _, _, (hT _ (Same.refl _) hh).1, (hT _ (Same.refl _) hh).2.1, (hT _ (Same.refl _) hh).2.2, rfl⟩
        | false =>
          walk_at "rd"
          exact ⟨_, _, _, e4, h4, hF _ (Same.refl _) (by simp [heldA, hc]; simpa using hm), rfl⟩
      | some x =>
        cases x with
        | take =>
          refine ⟨rfl, _, rfl, ifT (by decide +kernel) ?_⟩
          walk_at "rd"
          refine i_notInT (.inr (SqL.of hg4)) ?_
          walk_at "rd"
          cases hm : decide (n ∈ g) with
          | true =>
            walk_at "rd"
            exact ⟨_, _, _, e4, h4, hF _ (Same.refl _) (by simp [heldA, hc]; simpa using hm), rfl⟩
          | false =>
            walk_at "rd"
            refine ⟨.inl ⟨rfl, _, SqL.of hD4⟩, ?_⟩
            walk_at "rd"
            have hh : heldA s o g n = true := by simp [heldA, hc]; simpa using hm
            exact i_append hD4 (by rw [List.length_map]; omega) ⟨_, _, _, (hT _ (Same.refl _) hh).1, (hT _ (Same.refl _) hh).2.1, (hT _ (Same.refl _) hh).2.2, rfl⟩
        | yes =>
          refine ⟨rfl, _, rfl, ifF (by decide +kernel) ?_⟩
          walk_at "rd"
          refine ⟨rfl, ?_⟩
          walk_at "rd"
          refine ⟨show 2 ≤ sizeLine by decide, fun pl npl => ⟨pl, _, rfl, .inl (SqL.of upd_same), rfl, rfl, ?_⟩⟩
          have eG : Same H4 (upd H4 pl (.lst [.str "add", .bl true])) := same_new npl
          generalize upd H4 pl (.lst [.str "add", .bl true]) = G at eG
          have hin : (V.bl (if false = true then !inV (Ch.yes.v) [V.str "add", V.bl true] else inV (Ch.yes.v) [V.str "add", V.bl true])) = V.bl true := by decide +kernel
          have gD : ((Option.map Ch.v (some Ch.yes)).getD V.non) = Ch.yes.v := rfl
          rw [gD, hin]
          walk_at "rd"
          refine ⟨.inl ⟨rfl, _, SqL.of (eG _ _ hD4)⟩, ?_⟩
          walk_at "rd"
          have hh : heldA s o g n = true := by simp [heldA, hc]
          exact i_append (eG _ _ hD4) (by rw [List.length_map]; omega) ⟨_, _, _, (hT _ eG hh).1, (hT _ eG hh).2.1, (hT _ eG hh).2.2, rfl⟩
        | no =>
          refine ⟨rfl, _, rfl, ifF (by decide +kernel) ?_⟩
          walk_at "rd"
          refine ⟨rfl, ?_⟩
          walk_at "rd"
          refine ⟨show 2 ≤ sizeLine by decide, fun pl npl => ⟨pl, _, rfl, .inl (SqL.of upd_same), rfl, rfl, ?_⟩⟩
          have eG : Same H4 (upd H4 pl (.lst [.str "add", .bl true])) := same_new npl
          generalize upd H4 pl (.lst [.str "add", .bl true]) = G at eG
          have hin : (V.bl (if false = true then !inV (Ch.no.v) [V.str "add", V.bl true] else inV (Ch.no.v) [V.str "add", V.bl true])) = V.bl false := by decide +kernel
          have gD : ((Option.map Ch.v (some Ch.no)).getD V.non) = Ch.no.v := rfl
          rw [gD, hin]
          walk_at "rd"
          exact ⟨_, _, _, e4.trans eG, eG _ _ h4, hF _ eG (by simp [heldA, hc]), rfl⟩
        | add =>
          refine ⟨rfl, _, rfl, ifF (by decide +kernel) ?_⟩
          walk_at "rd"
          refine ⟨rfl, ?_⟩
          walk_at "rd"
          refine ⟨show 2 ≤ sizeLine by decide, fun pl npl => ⟨pl, _, rfl, .inl (SqL.of upd_same), rfl, rfl, ?_⟩⟩
          have eG : Same H4 (upd H4 pl (.lst [.str "add", .bl true])) := same_new npl
          generalize upd H4 pl (.lst [.str "add", .bl true]) = G at eG
          have hin : (V.bl (if false = true then !inV (Ch.add.v) [V.str "add", V.bl true] else inV (Ch.add.v) [V.str "add", V.bl true])) = V.bl true := by decide +kernel
          have gD : ((Option.map Ch.v (some Ch.add)).getD V.non) = Ch.add.v := rfl
          rw [gD, hin]
          walk_at "rd"
          refine ⟨.inl ⟨rfl, _, SqL.of (eG _ _ hD4)⟩, ?_⟩
          walk_at "rd"
          have hh : heldA s o g n = true := by simp [heldA, hc]
          exact i_append (eG _ _ hD4) (by rw [List.length_map]; omega) ⟨_, _, _, (hT _ eG hh).1, (hT _ eG hh).2.1, (hT _ eG hh).2.2, rfl⟩
        | empty =>
          refine ⟨rfl, _, rfl, ifF (by decide +kernel) ?_⟩
          walk_at "rd"
          refine ⟨rfl, ?_⟩
          walk_at "rd"
          refine ⟨show 2 ≤ sizeLine by decide, fun pl npl => ⟨pl, _, rfl, .inl (SqL.of upd_same), rfl, rfl, ?_⟩⟩
          have eG : Same H4 (upd H4 pl (.lst [.str "add", .bl true])) := same_new npl
          generalize upd H4 pl (.lst [.str "add", .bl true]) = G at eG
          have hin : (V.bl (if false = true then !inV (Ch.empty.v) [V.str "add", V.bl true] else inV (Ch.empty.v) [V.str "add", V.bl true])) = V.bl false := by decide +kernel
          have gD : ((Option.map Ch.v (some Ch.empty)).getD V.non) = Ch.empty.v := rfl
          rw [gD, hin]
          walk_at "rd"
          exact ⟨_, _, _, e4.trans eG, eG _ _ h4, hF _ eG (by simp [heldA, hc]), rfl⟩
    · rintro σ H2 ⟨v5, v6, v7, e2, h2, hD, rfl⟩
      rw [List.length_map, List.take_length] at hD
      walk_at "rd"
      exact ⟨D, _, rfl, .inl ⟨SqL.of hD, fun p3 np3 => q _ _ (e2.trans (same_new np3)) ⟨p3, rfl, upd_same⟩⟩⟩
/-- an action of the law's world: [name, need, [changes]] -/
def rLAct : Rep (Str × Act) := fun H v q => ∃ a x y, v = .ref a ∧ H a = some (.lst [.str q.1, x, y]) ∧ rTree H x q.2.need ∧ rLst rChg H y q.2.outs
instance : Mono rLAct := ⟨fun e ⟨a, x, y, h1, h2, h3, h4⟩ => ⟨a, x, y, h1, e.o h2, rTree_mono e _ _ h3, monoE h4 e⟩⟩
def okT (w : Wd) (s : List Str) (o : Chg) : Bool := (takesIn o w.piles).all fun p => decide (p ∈ s)
theorem fits_okT (w : Wd) (s : List Str) (A : Act) : fitsA w s A = (A.need.holds s && A.outs.all (okT w s)) := by
  have e : ∀ o : Chg, (!w.piles.any fun p => decide (chg o p = some .take) && !decide (p ∈ s)) = okT w s o := fun o => by
    unfold okT takesIn
    induction w.piles with
    | nil => rfl
    | cons p t ih =>
      rw [List.any_cons, Bool.not_or, ih, List.filter_cons]
      by_cases h : chg o p = some .take
      · rw [if_pos (by simpa using h), List.all_cons]
        simp [h]
      · rw [if_neg (by simpa using h)]
        simp [h]
  unfold fitsA
  congr 1
  exact congrArg A.outs.all (funext e)
def spLFits : Sp := fun vs H Q _ => ∃ d f p r w y z s A, vs = [.ref d, y, z] ∧ LwAt H d f p r w ∧ LsOk w ∧ rTupS H y s ∧ rLAct H z A ∧ A.2.need.depth ≤ 2 ∧ A.2.outs.length ≤ 2 ∧ ∀ H', Same H H' → Q (.bl (fitsA w s A.2)) H'
theorem c_l_fits (T : Txt K mg c) : Cal P w K mg base 5 "_law_fits" (spLFits) [] := by
    refine cal_of T.d_l_fits sc_l_fits (by walk_at "len") (fun f cdv A outer sh H vs Q E hr h => ?_)
    have nd := sc_l_fits.nd
    obtain ⟨d, f, p, r, wd, _, _, s, A', rfl, W, ok, ⟨b, rfl, hb⟩, hz, hd, ho, q⟩ := h
    refine ⟨_, (pss_cons (ps_if (pt_not (pt_val (C8.pe_c (c_l_holds T 3) hr (by first | decide | exact Nat.le_refl _ | omega) rfl (pa_cons (pe_ix (kIxL K rfl) (pv 2) pe_int (fun _ _ => rfl)) (pa_cons (pv 1) pa_nil))))) (pss_one (ps_ret pe_bl)) pss_nil)
        (pss_cons (ps_for PassesOwn.never rfl (pi_listK K rfl (pe_ix (kIxL K rfl) (pv 2) pe_int (fun _ _ => rfl))) (pg_name (i := 3) nd rfl (.inl rfl)) (pss_one (ps_if (pt_not (pt_val (pe_callB (kAll K rfl rfl) (by rfl) T.g_all (by decide +kernel) (pa_cons (pe_lc (own := [("_law_name_here", 4)]) (g := gName 4) rfl nd (pi_listK K rfl (C8.pe_c (c_l_taking T) hr (by first | decide | exact Nat.le_refl _ | omega) rfl (pa_cons (pv 0) (pa_cons (pv 3) pa_nil)))) (blkOk_by (own := [("_law_name_here", 4)]) (N := N_l_fits) (sc := fnScope s_l_fits) (by decide +kernel)) (fun _ _ _ _ _ => (pg_name (i := 4) nd rfl (.inl rfl))) (fun _ _ _ _ _ => pts_nil) (fun _ _ _ _ _ => pe_hide (pe_cmpR (kInS K rfl) (pv 4) (pv 1) (by rfl)))) pa_nil)))) (pss_one (ps_ret pe_bl)) pss_nil)))
        (pss_one (ps_ret pe_bl)))), ?_⟩
    obtain ⟨z, x1, x2, rfl, hz, ht, hos⟩ := hz
    walk_at "rd"
    have hos' := hos
    obtain ⟨l, zs, rfl, hl, hzs⟩ := hos
    have hzl := paired_len hzs
    refine ⟨x1, _, A'.2.need, s, rfl, ht, ⟨b, rfl, hb⟩, by omega, fun H1 e1 => ⟨_, rfl, ?_⟩⟩
    rw [fits_okT] at q
    cases hh : A'.2.need.holds s with
    | false =>
      rw [hh] at q
      walk_at "rd"
      exact q _ e1
    | true =>
      rw [hh] at q
      walk_at "rd"
      refine i_ixL (j := 2) (SqL.of (e1 _ _ hz)) rfl ⟨l, rfl, ⟨_, SqL.of (e1 _ _ hl)⟩, ?_⟩
      refine for_w (walk_list (xs := zs)) (fun i σ H' => ∃ v3 v4, Same H H' ∧ (A'.2.outs.take i).all (okT wd s) = true ∧ σ = [some (.ref d), some (.ref b), some (.ref z), v3, v4]) ⟨_, _, e1, rfl, rfl⟩ (fun i σ H' _ ⟨_, _, h, _⟩ => SqL.of (h _ _ hl)) ?_ ?_
      · rintro i x σ H2 H3 hi ⟨v3, v4, e3, ha, rfl⟩ ⟨rfl, hx⟩
        obtain ⟨o, ho', hxo⟩ := paired_get hzs hx
        have hxo3 := mono hxo e3
        walk_at "rd"
        refine ⟨_, rfl, _, rfl, d, f, p, r, wd, x, o, rfl, W.same e3, hxo3, by have := ok.np; omega, fun v H4 e4 ⟨tl, ev, htl⟩ => ?_⟩
        subst ev
        refine ⟨tl, rfl, ⟨_, SqL.of htl⟩, fun D nD => ?_⟩
        have hb4 := e4 _ _ (e3 _ _ hb)
        refine lc_wm (walk_list (xs := (takesIn o wd.piles).map V.str)) rStr rBool (ys := takesIn o wd.piles) (fun p => decide (p ∈ s)) (by simp) (fun H' s => SqL.of (s _ _ htl)) (yat_of rStr strs_paired) (Nat.lt_of_le_of_lt (List.length_filter_le _ _) (by have := ok.np; omega)) nD (fun x => rfl) (fun x n G sm hx hm Q hQ => ?_) (fun H5 zs5 sm hz5 hp => ?_)
        · obtain rfl : x = .str n := hx
          walk_at "rd"
          exact i_inT (.inl (SqT.of (sm _ _ hb4))) (hQ _ _ (Same.refl _) rfl)
        · walk_at "rd"
          refine i_all hz5 hp ⟨_, rfl, ?_⟩
          have e5 := e3.trans (e4.trans sm)
          have ht1 : A'.2.outs.take (i + 1) = A'.2.outs.take i ++ [o] := take_more ho'
          cases hk : (takesIn o wd.piles).all fun p => decide (p ∈ s) with
          | true =>
            walk_at "rd"
            exact ⟨_, _, e5, by rw [ht1, List.all_append, ha]; simp only [List.all_cons, List.all_nil, okT, hk]; rfl, rfl⟩
          | false =>
            walk_at "rd"
            have hno : A'.2.outs.all (okT wd s) = false := by
              rw [List.all_eq_false]
              exact ⟨o, List.mem_of_getElem? ho', by rw [okT, hk]; exact Bool.false_ne_true⟩
            rw [hno] at q
            exact q _ e5
      · rintro σ H2 ⟨v3, v4, e2, ha, rfl⟩
        rw [hzl, List.take_length] at ha
        rw [ha] at q
        walk_at "rd"
        exact q _ e2
/-- a law's world with its actions -/
def LwAll (H : Hp) (d f p r a : Addr) (w : Wd) : Prop := LwAt H d f p r w ∧ (∃ kvs, Rd H d (.dK kvs) ∧ valV kvs (Sum.inr "actions") = some (.ref a)) ∧ rLst rLAct H (.ref a) w.acts
theorem LwAll.same {H H' : Hp} {d f p r a : Addr} {w : Wd} (h : LwAll H d f p r a w) (e : Same H H') : LwAll H' d f p r a w := by
  obtain ⟨h1, ⟨kvs, h2, h3⟩, h4⟩ := h
  exact ⟨h1.same e, ⟨kvs, (Ex.of e).rd h2, h3⟩, monoE h4 (Ex.of e)⟩
theorem LwAll.ga {H : Hp} {d f p r a : Addr} {w : Wd} (h : LwAll H d f p r a w) : DGet H d (.str "actions") (some (.ref a)) := by
  obtain ⟨h1, ⟨kvs, h2, h3⟩, h4⟩ := h
  exact dgK h2 h3
def spLPossible : Sp := fun vs H Q _ => ∃ d f p r a w y s, vs = [.ref d, y] ∧ LwAll H d f p r a w ∧ WdOk w ∧ rTupS H y s ∧ ∀ v H', Same H H' → rLst rLAct H' v (w.acts.filter fun q => fitsA w s q.2) → Q v H'
theorem c_l_possible (T : Txt K mg c) : Cal P w K mg base 6 "_law_possible" (spLPossible) [] := by
    refine cal_of T.d_l_possible sc_l_possible (by walk_at "len") (fun f cdv A outer sh H vs Q E hr h => ?_)
    have nd := sc_l_possible.nd
    obtain ⟨d, f, p, r, ac, wd, _, s, rfl, WA, ok, ⟨b, rfl, hb⟩, q⟩ := h
    refine ⟨_, (pss_one (ps_ret (pe_lc (own := [("_law_action_here", 2)]) (g := gName 2) rfl nd (pi_listK K rfl (pe_dget (by exact hu_of hr) (pv 0) pe_str (fun _ _ => rfl))) (blkOk_by (own := [("_law_action_here", 2)]) (N := N_l_possible) (sc := fnScope s_l_possible) (by decide +kernel)) (fun _ _ _ _ _ => (pg_name (i := 2) nd rfl (.inl rfl))) (fun _ _ _ _ _ => pts_one (pt_hide (pt_val (C8.pe_c (c_l_fits T) hr (by first | decide | exact Nat.le_refl _ | omega) rfl (pa_cons (pv 0) (pa_cons (pv 1) (pa_cons (pv 2) pa_nil))))))) (fun _ _ _ _ _ => pe_hide (pv 2))))), ?_⟩
    obtain ⟨_, zs, ez, hl, hzs⟩ := WA.2.2
    cases ez
    have hna := ok.na
    walk_at "rd"
    refine ⟨_, rfl, _, _, rfl, WA.ga, ac, rfl, ⟨_, SqL.of hl⟩, fun D nD => ?_⟩
    refine lc_w (walk_list (xs := zs)) rLAct rLAct (ys := wd.acts) (fun q => fitsA wd s q.2) id (paired_len hzs) (fun H' s => SqL.of (s _ _ hl)) (yat_of rLAct hzs) (by omega) nD (fun x => rfl) (fun x n G sm hx hm Q hQ => ?_) (fun x n G sm hx hm hk Q hQ => ?_) (fun H3 us sm hz hp => ?_)
    · walk_at "rd"
      have hak := (ok.acts n hm).2
      exact ⟨d, f, p, r, wd, _, x, s, n, rfl, WA.1.same sm, ok.toLsOk, ⟨b, rfl, sm _ _ hb⟩, hx, hak.dep, hak.len, fun H' e => ⟨_, rfl, hQ _ e⟩⟩
    · walk_at "rd"
      exact hQ _ _ (Same.refl _) hx
    · rw [List.map_id] at hp
      exact q _ _ sm ⟨D, us, rfl, hz, hp⟩
/-- the states in which a goal's tree holds -/
def spLWhere : Sp := fun vs H Q _ => ∃ d f p r w y t, vs = [.ref d, y] ∧ LwAt H d f p r w ∧ LsOk w ∧ rTree H y t ∧ t.depth ≤ 2 ∧ ∀ v H', Same H H' → rLst rTupS H' v ((statesOf w.seen).filter fun s => t.holds s) → Q v H'
theorem c_l_where (T : Txt K mg c) : Cal P w K mg base 5 "_law_where" (spLWhere) [] := by
    refine cal_of T.d_l_where sc_l_where (by walk_at "len") (fun f cdv A outer sh H vs Q E hr h => ?_)
    have nd := sc_l_where.nd
    obtain ⟨d, f, p, r, wd, y, t, rfl, W, ok, ht, hd, q⟩ := h
    refine ⟨_, (pss_one (ps_ret (pe_lc (own := [("_law_state", 2)]) (g := gName 2) rfl nd (pi_listK K rfl (C8.pe_c (c_l_states T) hr (by first | decide | exact Nat.le_refl _ | omega) rfl (pa_cons (pv 0) pa_nil))) (blkOk_by (own := [("_law_state", 2)]) (N := N_l_where) (sc := fnScope s_l_where) (by decide +kernel)) (fun _ _ _ _ _ => (pg_name (i := 2) nd rfl (.inl rfl))) (fun _ _ _ _ _ => pts_one (pt_hide (pt_val (C8.pe_c (c_l_holds T 3) hr (by first | decide | exact Nat.le_refl _ | omega) rfl (pa_cons (pv 1) (pa_cons (pv 2) pa_nil)))))) (fun _ _ _ _ _ => pe_hide (pv 2))))), ?_⟩
    have hls : wd.facts.length + wd.piles.length ≤ 3 := by
      have := ok.nf
      have := ok.np
      omega
    walk_at "rd"
    refine ⟨_, rfl, d, f, p, r, wd, rfl, W, hls, fun v H1 e1 ⟨l, zs, ev, hl, hzs⟩ => ?_⟩
    subst ev
    refine ⟨l, rfl, ⟨_, SqL.of hl⟩, fun D nD => ?_⟩
    have hlen : (statesOf (wd.facts ++ wd.piles)).length < 100000 := by
      rw [states_len, List.length_append]
      exact Nat.lt_of_le_of_lt (Nat.pow_le_pow_right (by decide) hls) (by decide)
    refine lc_w (walk_list (xs := zs)) rTupS rTupS (ys := statesOf (wd.facts ++ wd.piles)) (fun s => t.holds s) id (paired_len hzs) (fun H' s => SqL.of (s _ _ hl)) (yat_of rTupS hzs) hlen nD (fun x => rfl) (fun x n G sm hx hm Q hQ => ?_) (fun x n G sm hx hm hk Q hQ => ?_) (fun H3 us sm hz hp => ?_)
    · walk_at "rd"
      exact ⟨y, x, t, n, rfl, rTree_mono (Ex.of (e1.trans sm)) _ _ ht, hx, by omega, fun H' e => ⟨_, rfl, hQ _ e⟩⟩
    · walk_at "rd"
      exact hQ _ _ (Same.refl _) hx
    · rw [List.map_id] at hp
      exact q _ _ (e1.trans sm) ⟨D, us, rfl, hz, hp⟩
theorem pairS_but {H H' : Hp} {D : Addr} {ws : List V} {v : V} {q : List Str × Int} (r : rTup2 rTupS rInt H v q) (sb : SameBut D H H') (hD : H D = some (.lst ws)) : rTup2 rTupS rInt H' v q := by
  obtain ⟨a, x, y, rfl, ha, hx, hy⟩ := r
  refine ⟨a, x, y, rfl, sb a _ (fun z => ?_) ha, tupS_but hx sb hD, hy⟩
  rw [z, hD] at ha
  cases ha
/-- is a pair of a state and a number to be looked at -/
def okPair (w : Wd) (s : List Str) (n : Nat) : Bool := !decide (w.reserves = []) || (decide (0 < n) == w.piles.all fun p => decide (p ∈ s))
def pairsTo (w : Wd) (s : List Str) (k : Nat) : List (List Str × Int) := ((List.range k).filter (okPair w s)).map fun n : Nat => (s, (n : Int))
def pairsOf (w : Wd) (m : Nat) : List (List Str × Int) := (statesOf w.seen).flatMap fun s => pairsTo w s (m + 1)
theorem pairsTo_len (w : Wd) (s : List Str) (k : Nat) : (pairsTo w s k).length ≤ k := by
  unfold pairsTo
  rw [List.length_map]
  exact Nat.le_trans (List.length_filter_le _ _) (by rw [List.length_range]; exact Nat.le_refl _)
theorem pairsTo_flat (w : Wd) (k : Nat) : ∀ l : List (List Str), (l.flatMap fun s => pairsTo w s k).length ≤ l.length * k
  | [] => Nat.zero_le _
  | s :: t => by
    rw [List.flatMap_cons, List.length_append, List.length_cons, Nat.succ_mul]
    have := pairsTo_len w s k
    have := pairsTo_flat w k t
    omega
def spLPairs : Sp := fun vs H Q _ => ∃ d f p r w m, vs = [.ref d, .int ((m : Nat) : Int)] ∧ LwAt H d f p r w ∧ LsOk w ∧ m ≤ 20 ∧ ∀ v H', Same H H' → rLst (rTup2 rTupS rInt) H' v (pairsOf w m) → Q v H'
theorem c_l_pairs (T : Txt K mg c) : Cal P w K mg base 3 "_law_pairs" (spLPairs) [] := by
    refine cal_of T.d_l_pairs sc_l_pairs (by walk_at "len") (fun f cdv A outer sh H vs Q E hr h => ?_)
    have nd := sc_l_pairs.nd
    obtain ⟨d, f, p, r, wd, m, rfl, W, ok, hm, q⟩ := h
    refine ⟨_, (pss_cons (ps_set (i := 2) nd rfl (.inl rfl) (pe_lst pa_nil))
        (pss_cons (ps_for PassesOwn.never rfl (pi_listK K rfl (C8.pe_c (c_l_states T) hr (by first | decide | exact Nat.le_refl _ | omega) rfl (pa_cons (pv 0) pa_nil))) (pg_name (i := 3) nd rfl (.inl rfl)) (pss_one (ps_for PassesOwn.never rfl (pi_range1 (by rfl) T.g_range (pa_cons (pe_op op_add (pv 1) pe_int) pa_nil)) (pg_name (i := 4) nd rfl (.inl rfl)) (pss_one (ps_if (PW.pt (pw_or (pt_cmpR (kNeD K rfl (by exact hr.units)) (pe_dget (by exact hu_of hr) (pv 0) pe_str (fun _ _ => rfl)) (pe_lst pa_nil) (nomark _)) (pw_or1 (pt_cmpR op_eq (pe_cmpR op_gt (pv 4) pe_int (nomark _)) (pe_cmpR (kInS K rfl) (pe_ix (kIxL K rfl) (pe_dget (by exact hu_of hr) (pv 0) pe_str (fun _ _ => rfl)) pe_int (fun _ _ => rfl)) (pv 3) (by rfl)) (nomark _))))) (pss_one (ps_expr (pe_bmK K rfl PySem.F.plainAttrs_list PySem.F.slot_list_append PySem.F.type_list_append mt_append (pv 2) (pa_cons (pe_tup (pa_cons (pv 3) (pa_cons (pv 4) pa_nil))) pa_nil)))) pss_nil)))))
        (pss_one (ps_ret (pv 2))))), ?_⟩
    walk_at "rd"
    refine ⟨Nat.zero_le _, fun D nD => ?_⟩
    have e0 : Same H (upd H D (.lst [])) := same_new nD
    have hD0 : upd H D (.lst []) D = some (.lst []) := upd_same
    have W0 := W.same e0
    generalize upd H D (.lst []) = H0 at e0 hD0 W0
    have hls : wd.facts.length + wd.piles.length ≤ 3 := by
      have := ok.nf
      have := ok.np
      omega
    walk_at "rd"
    refine ⟨d, f, p, r, wd, rfl, W0, hls, fun v H1 e1 ⟨l, zs, ev, hl, hzs⟩ => ?_⟩
    subst ev
    have hzl := paired_len hzs
    have hD1 := e1 _ _ hD0
    have nlD : l ≠ D := fun z => by
      rw [z, hD1] at hl
      have h := HO.lst.inj (Option.some.inj hl)
      rw [← h] at hzl
      have h2 := states_len (wd.facts ++ wd.piles)
      rw [← hzl] at h2
      exact absurd h2 (Nat.ne_of_lt (Nat.pow_pos (by decide)))
    refine ⟨l, rfl, ⟨_, SqL.of hl⟩, ?_⟩
    refine for_w (walk_list (xs := zs)) (fun i σ H' => ∃ v3 v4 ws, Same H H' ∧ H' l = some (.lst zs) ∧ Paired (rTupS H') zs (statesOf wd.seen) ∧ H' D = some (.lst ws) ∧ Paired (rTup2 rTupS rInt H') ws (((statesOf wd.seen).take i).flatMap fun s => pairsTo wd s (m + 1)) ∧ σ = [some (.ref d), some (.int ((m : Nat) : Int)), some (.ref D), v3, v4]) ⟨_, _, _, e0.trans e1, hl, hzs, hD1, .nil, rfl⟩ (fun i σ H' _ ⟨_, _, _, _, h, _⟩ => SqL.of h) ?_ ?_
    · rintro i x σ H2 H4 hi ⟨v3, v4, ws, e4, h4, hzs4, hD4, hw, rfl⟩ ⟨rfl, hx⟩
      walk_at "rd"
      obtain ⟨st, hst, rx⟩ := paired_get hzs4 hx
      obtain ⟨b, ev, hb⟩ := id rx
      subst ev
      refine ⟨_, _, rfl, rfl, ?_⟩
      walk_at "rd"
      refine ⟨_, rfl, by show -2 ^ 62 ≤ ((m : Nat) : Int) + 1; omega, by show ((m : Nat) : Int) + 1 < 2 ^ 62; omega, ?_⟩
      have hj : (((m : Nat) : Int) + 1).toNat = m + 1 := by omega
      refine for_w walk_range (fun k σ H' => ∃ v4 ws, Same H H' ∧ H' l = some (.lst zs) ∧ Paired (rTupS H') zs (statesOf wd.seen) ∧ H' b = some (.tup (st.map V.str)) ∧ H' D = some (.lst ws) ∧ Paired (rTup2 rTupS rInt H') ws (((statesOf wd.seen).take i).flatMap (fun s => pairsTo wd s (m + 1)) ++ pairsTo wd st k) ∧ σ = [some (.ref d), some (.int ((m : Nat) : Int)), some (.ref D), some (.ref b), v4]) ⟨_, ws, e4, h4, hzs4, hb, hD4, by simpa [pairsTo] using hw, rfl⟩ (fun _ _ _ _ _ => trivial) ?_ ?_
      · rintro k x σ H5 H6 hk ⟨v5, ws5, e5, h5, hzs5, hb5, hD5, hw5, rfl⟩ ⟨rfl, hx⟩
        have W5 := W.same e5
        obtain rfl : x = .int ((k : Nat) : Int) := by simpa using hx
        have hkm : k < m + 1 := by omega
        have hskip : ∀ H7, Same H6 H7 → okPair wd st k = false → Same H H7 ∧ H7 l = some (.lst zs) ∧ Paired (rTupS H7) zs (statesOf wd.seen) ∧ H7 b = some (.tup (st.map V.str)) ∧ H7 D = some (.lst ws5) ∧ Paired (rTup2 rTupS rInt H7) ws5 (((statesOf wd.seen).take i).flatMap (fun s => pairsTo wd s (m + 1)) ++ pairsTo wd st (k + 1)) := fun H7 e7 hn => by
          have hp : pairsTo wd st (k + 1) = pairsTo wd st k := by
            unfold pairsTo
            rw [List.range_succ, List.filter_append, List.filter_cons, if_neg (by rw [hn]; exact Bool.false_ne_true)]
            simp
          rw [hp]
          exact ⟨e5.trans e7, e7 _ _ h5, paired_imp (fun v s r => mono r e7) hzs5, e7 _ _ hb5, e7 _ _ hD5, paired_imp (fun v s r => mono r e7) hw5⟩
        have hput : ∀ H7 np, Same H6 H7 → okPair wd st k = true → H7 np = some (.tup [.ref b, .int ((k : Nat) : Int)]) → Same H (upd H7 D (.lst (ws5 ++ [.ref np]))) ∧ (upd H7 D (.lst (ws5 ++ [.ref np]))) l = some (.lst zs) ∧ Paired (rTupS (upd H7 D (.lst (ws5 ++ [.ref np])))) zs (statesOf wd.seen) ∧ (upd H7 D (.lst (ws5 ++ [.ref np]))) b = some (.tup (st.map V.str)) ∧ (upd H7 D (.lst (ws5 ++ [.ref np]))) D = some (.lst (ws5 ++ [.ref np])) ∧ Paired (rTup2 rTupS rInt (upd H7 D (.lst (ws5 ++ [.ref np])))) (ws5 ++ [.ref np]) (((statesOf wd.seen).take i).flatMap (fun s => pairsTo wd s (m + 1)) ++ pairsTo wd st (k + 1)) := fun H7 np e7 hn hq => by
          have hp : pairsTo wd st (k + 1) = pairsTo wd st k ++ [(st, (k : Int))] := by
            unfold pairsTo
            rw [List.range_succ, List.filter_append, List.filter_cons, if_pos hn]
            simp
          have sb : SameBut D H7 (upd H7 D (.lst (ws5 ++ [.ref np]))) := (SameBut.of (Same.refl _)).put
          have hD7 := e7 _ _ hD5
          have hbD : b ≠ D := fun z => by
            rw [z, hD5] at hb5
            cases hb5
          rw [hp, ← List.append_assoc]
          refine ⟨same_mut (e5.trans e7) nD, by rw [upd_ne nlD]; exact e7 _ _ h5, paired_imp (fun v s r => tupS_but (mono r e7) sb hD7) hzs5, by rw [upd_ne hbD]; exact e7 _ _ hb5, upd_same, ?_⟩
          exact paired_append (paired_imp (fun v s r => pairS_but (mono r e7) sb hD7) hw5) (.cons (pairS_but ⟨np, _, _, rfl, hq, ⟨b, rfl, e7 _ _ hb5⟩, rfl⟩ sb hD7) .nil)
        walk_at "rd"
        refine ⟨_, _, rfl, W5.gr, ?_⟩
        walk_at "rd"
        refine ⟨Nat.zero_le _, fun el nel => ?_⟩
        have eG : Same H6 (upd H6 el (.lst [])) := same_new nel
        have hel : upd H6 el (.lst []) el = some (.lst []) := upd_same
        generalize upd H6 el (.lst []) = G at eG hel
        have hwl : ws5.length ≤ 1000 := by
          rw [paired_len hw5, List.length_append]
          have l1 := pairsTo_flat wd (m + 1) ((statesOf wd.seen).take i)
          have l2 := pairsTo_len wd st k
          have l3 : ((statesOf wd.seen).take i).length ≤ 8 := by
            rw [List.length_take]
            refine Nat.le_trans (Nat.min_le_right _ _) ?_
            show (statesOf (wd.facts ++ wd.piles)).length ≤ 8
            rw [states_len, List.length_append]
            exact Nat.le_trans (Nat.pow_le_pow_right (by decide) hls) (by decide)
          have l4 := Nat.mul_le_mul l3 (show m + 1 ≤ 21 by omega)
          omega
        refine ne_strs (s := wd.reserves) (t := []) ⟨r, rfl, eG _ _ W5.re⟩ ⟨el, rfl, hel⟩ (fun n hn => name_ok (ok.nm n (List.mem_append.mpr (.inr hn)))) (by simp) ?_
        by_cases hre : wd.reserves = []
        · refine ⟨_, rfl, ifF (by simpa using hre) ?_⟩
          walk_at "rd"
          have hpi : ∃ pn, wd.piles = [pn] := by
            have h1 := ok.np
            have h2 := ok.cn
            rw [hre, List.append_nil] at h2
            match hp : wd.piles, h1, h2 with
            | [pn], _, _ => exact ⟨pn, rfl⟩
          obtain ⟨pn, hpn⟩ := hpi
          have WG := W5.same eG
          have hokE : okPair wd st k = (decide (0 < k) == decide (pn ∈ st)) := by simp [okPair, hre, hpn]
          refine ⟨_, _, rfl, rfl, ?_⟩
          walk_at "rd"
          refine ⟨_, _, rfl, WG.gp, ?_⟩
          walk_at "rd"
          refine i_ixL0 (SqL.of WG.pi) (by rw [hpn]; rfl) ?_
          walk_at "rd"
          refine i_inT (.inl (SqT.of (eG _ _ hb5))) ?_
          refine ⟨rfl, _, rfl, ?_⟩
          have hdec : decide (V.bl (decide ((0 : Int) < (k : Int))) = V.bl (decide (pn ∈ st))) = okPair wd st k := by
            rw [hokE]
            have e1 : decide ((0 : Int) < (k : Int)) = decide (0 < k) := by simp
            rw [e1]
            cases decide (0 < k) <;> cases decide (pn ∈ st) <;> rfl
          show if decide (V.bl (decide ((0 : Int) < (k : Int))) = V.bl (decide (pn ∈ st))) = true then _ else _
          rw [hdec]
          cases hok : okPair wd st k with
          | true =>
            walk_at "rd"
            refine ⟨.inl ⟨rfl, _, SqL.of (eG _ _ hD5)⟩, ?_⟩
            walk_at "rd"
            refine ⟨show 2 ≤ sizeLine by decide, fun np nnp => ?_⟩
            walk_at "rd"
            have e7 := eG.trans (same_new (o := .tup [.ref b, .int ((k : Nat) : Int)]) nnp)
            obtain ⟨g1, g2, g3, g4, g5, g6⟩ := hput _ np e7 hok upd_same
            exact i_append (e7 _ _ hD5) (by omega) ⟨_, _, g1, g2, g3, g4, g5, g6, rfl⟩
          | false =>
            walk_at "rd"
            obtain ⟨g1, g2, g3, g4, g5, g6⟩ := hskip _ eG hok
            exact ⟨_, _, g1, g2, g3, g4, g5, g6, rfl⟩
        · have hok : okPair wd st k = true := by simp [okPair, hre]
          refine ⟨_, rfl, ifT (by simpa using hre) ?_⟩
          walk_at "rd"
          refine ⟨.inl ⟨rfl, _, SqL.of (eG _ _ hD5)⟩, ?_⟩
          walk_at "rd"
          refine ⟨show 2 ≤ sizeLine by decide, fun np nnp => ?_⟩
          walk_at "rd"
          have e7 := eG.trans (same_new (o := .tup [.ref b, .int ((k : Nat) : Int)]) nnp)
          obtain ⟨g1, g2, g3, g4, g5, g6⟩ := hput _ np e7 hok upd_same
          exact i_append (e7 _ _ hD5) (by omega) ⟨_, _, g1, g2, g3, g4, g5, g6, rfl⟩
      · rintro σ H5 ⟨v5, ws5, e5, h5, hzs5, hb5, hD5, hw5, rfl⟩
        rw [hj] at hw5
        walk_at "rd"
        exact ⟨_, _, ws5, e5, h5, hzs5, hD5, by rw [take_more hst, List.flatMap_append]; simpa using hw5, rfl⟩
    · rintro σ H2 ⟨v3, v4, ws, e2, h2, _, hD2, hw, rfl⟩
      rw [hzl, show statesOf (wd.facts ++ wd.piles) = statesOf wd.seen from rfl, List.take_of_length_le (Nat.le_refl _)] at hw
      walk_at "rd"
      exact q _ _ e2 ⟨D, ws, rfl, hD2, hw⟩
theorem i_seqW {t1 t2 : TS} {nx bk ct : L2.St → Hp → Prop} {rt : VK} {σ : L2.St} {H : Hp} (M : L2.St → Hp → Prop) (h2 : ∀ σ H', M σ H' → t2 ⟨nx, rt, bk, ct⟩ σ H') (h1 : ∀ N : L2.St → Hp → Prop, (∀ σ H', M σ H' → N σ H') → t1 ⟨N, rt, bk, ct⟩ σ H) : tSeq t1 t2 ⟨nx, rt, bk, ct⟩ σ H := h1 _ h2
/-- the one counter of a world -/
def ctr (w : Wd) : Str := (w.piles ++ w.reserves).headD ""
/-- the numbers that may stand behind a set of changes -/
def laterNums (x : Option Ch) (n m : Nat) : List Nat := match x with
  | some .add => if n < m then (List.range (m - n)).map (fun k => n + 1 + k) else [m]
  | some .take => List.range n
  | some .empty => [0]
  | _ => [n]
def laterA (w : Wd) (m : Nat) (q : List Str × Int) (o : Chg) : List (List Str × Int) := (laterNums (chg o (ctr w)) q.2.toNat m).map fun k : Nat => (behind w q.1 o (if k = 0 then [ctr w] else []), (k : Int))
theorem laterNums_len {x : Option Ch} {n m : Nat} (h : n ≤ m) (hm : m ≤ 20) : (laterNums x n m).length ≤ 21 := by
  unfold laterNums
  split
  · split
    · rw [List.length_map, List.length_range]
      omega
    · exact (by decide : 1 ≤ 21)
  · rw [List.length_range]
    omega
  · exact (by decide : 1 ≤ 21)
  · exact (by decide : 1 ≤ 21)
theorem idx_paired {H : Hp} : ∀ {l : List Nat}, Paired (rIdx H) (l.map fun k : Nat => V.int (k : Int)) l
  | [] => .nil
  | _ :: _ => .cons rfl idx_paired
def spLLater : Sp := fun vs H Q _ => ∃ d f p r w m y z q o, vs = [.ref d, .int ((m : Nat) : Int), y, z] ∧ LwAt H d f p r w ∧ LsOk w ∧ m ≤ 20 ∧ rTup2 rTupS rInt H y q ∧ 0 ≤ q.2 ∧ q.2 ≤ m ∧ rChg H z o ∧ ∀ v H', Same H H' → rLst (rTup2 rTupS rInt) H' v (laterA w m q o) → Q v H'
theorem c_l_later (T : Txt K mg c) : Cal P w K mg base 3 "_law_later" (spLLater) [] := by
    refine cal_of T.d_l_later sc_l_later (by walk_at "len") (fun f cdv A outer sh H vs Q E hr h => ?_)
    have nd := sc_l_later.nd
    obtain ⟨d, f, p, r, wd, m, _, _, qq, o, rfl, W, ok, hm, ⟨a, x0, x1, rfl, ha, hx0, hx1⟩, hq0, hqm, ⟨z, rfl, hz⟩, q⟩ := h
    refine ⟨_, (pss_cons (ps_asg (pe_tup (pa_cons (pe_ix (kIxL K rfl) (C8.pe_c (c_l_counters T) hr (by first | decide | exact Nat.le_refl _ | omega) rfl (pa_cons (pv 0) pa_nil)) pe_int (fun _ _ => rfl)) (pa_cons (pe_ix (kIxT K rfl) (pv 2) pe_int (fun _ _ => rfl)) pa_nil))) (pg_tupK K rfl rfl (pgs_cons (pg_name (i := 4) nd rfl (.inr rfl)) (pgs_cons (pg_name (i := 5) nd rfl (.inl rfl)) pgs_nil))))
        (pss_cons (ps_par (i := 6) (j := 7) (by rfl) nd rfl rfl (by decide) rfl rfl (pa_cons (pe_dget1 (by exact hu_of hr) (pv 3) (pv 4) ⟨rfl, rfl, rfl, rfl⟩) (pa_cons (pe_lst (pa_cons (pv 5) pa_nil)) pa_nil)) (by rfl))
        (pss_cons (ps_if (pt_cmpR op_eq (pv 6) pe_str (nomark _)) (pss_one (ps_set (i := 7) nd rfl (.inl rfl) (pe_ifExp (pt_cmpR op_lt (pv 5) (pv 1) (nomark _)) (pe_listRg rfl (by rfl) T.g_list (prg_2 (by rfl) T.g_range (pe_op op_add (pv 5) pe_int) (pe_op op_add (pv 1) pe_int))) (pe_lst (pa_cons (pv 1) pa_nil))))) (pss_one (ps_if (pt_cmpR op_eq (pv 6) pe_str (nomark _)) (pss_one (ps_set (i := 7) nd rfl (.inl rfl) (pe_listRg rfl (by rfl) T.g_list (prg_1 (by rfl) T.g_range (pv 5))))) (pss_one (ps_if (pt_cmpR op_eq (pv 6) pe_str (nomark _)) (pss_one (ps_set (i := 7) nd rfl (.inl rfl) (pe_lst (pa_cons pe_int pa_nil)))) pss_nil)))))
        (pss_one (ps_ret (pe_lc (own := [("_law_one", 8)]) (g := gName 8) rfl nd (pi_listK K rfl (pv 7)) (blkOk_by (own := [("_law_one", 8)]) (N := N_l_later) (sc := fnScope s_l_later) (by decide +kernel)) (fun _ _ _ _ _ => (pg_name (i := 8) nd rfl (.inl rfl))) (fun _ _ _ _ _ => pts_nil) (fun _ _ _ _ _ => pe_hide (pe_tup (pa_cons (C8.pe_c (c_l_behind T) hr (by first | decide | exact Nat.le_refl _ | omega) rfl (pa_cons (pv 0) (pa_cons (pe_ix (kIxT K rfl) (pv 2) pe_int (fun _ _ => rfl)) (pa_cons (pv 3) (pa_cons (pe_ifExp (pt_cmpR op_eq (pv 8) pe_int (nomark _)) (pe_lst (pa_cons (pv 4) pa_nil)) (pe_lst pa_nil)) pa_nil))))) (pa_cons (pv 8) pa_nil)))))))))), ?_⟩
    obtain rfl : x1 = .int qq.2 := hx1
    have hcl : wd.piles.length + wd.reserves.length ≤ 5 := by
      have := ok.np
      have := ok.nr
      omega
    walk_at "rd"
    refine ⟨d, f, p, r, wd, rfl, W, hcl, fun cl ncl => ?_⟩
    have e1 : Same H (upd H cl (.lst ((wd.piles ++ wd.reserves).map V.str))) := same_new ncl
    have hc1 : upd H cl (.lst ((wd.piles ++ wd.reserves).map V.str)) cl = some (.lst ((wd.piles ++ wd.reserves).map V.str)) := upd_same
    generalize upd H cl (.lst ((wd.piles ++ wd.reserves).map V.str)) = H1 at e1 hc1
    have hct : ((wd.piles ++ wd.reserves).map V.str)[0]? = some (.str (ctr wd)) := by
      have h := ok.cn
      unfold ctr
      match hp : wd.piles ++ wd.reserves, h with
      | x :: t, _ => rfl
    walk_at "rd"
    refine i_ixL0 (SqL.of hc1) hct ?_
    walk_at "rd"
    refine i_ixT1 (SqT.of (e1 _ _ ha)) rfl ?_
    walk_at "rd"
    refine ⟨show 2 ≤ sizeLine by decide, fun tp ntp => ?_⟩
    have e2 := e1.trans (same_new (o := .tup [.str (ctr wd), .int qq.2]) ntp)
    have htp : upd H1 tp (.tup [.str (ctr wd), .int qq.2]) tp = some (.tup [.str (ctr wd), .int qq.2]) := upd_same
    generalize upd H1 tp (.tup [.str (ctr wd), .int qq.2]) = H2 at e2 htp
    refine ⟨tp, [.str (ctr wd), .int qq.2], rfl, SqT.of htp, rfl, ?_⟩
    refine ⟨_, _, rfl, ⟨_, _, rfl, rfl, ?_⟩⟩
    walk_at "rd"
    refine ⟨z, rfl, .inl ⟨_, .inl (e2 _ _ hz)⟩, ?_⟩
    walk_at "rd"
    refine ⟨_, dgK (.inl (e2 _ _ hz)) ch_get, ?_⟩
    walk_at "rd"
    refine ⟨show 1 ≤ sizeLine by decide, fun nl nnl => ?_⟩
    have e3 := e2.trans (same_new (o := .lst [.int qq.2]) nnl)
    have hnl : upd H2 nl (.lst [.int qq.2]) nl = some (.lst [.int qq.2]) := upd_same
    generalize upd H2 nl (.lst [.int qq.2]) = H3 at e3 hnl
    walk_at "rd"
    refine ⟨_, _, rfl, ?_⟩
    refine i_seqW (fun σ H' => ∃ L c6, Same H H' ∧ H' L = some (.lst ((laterNums (chg o (ctr wd)) qq.2.toNat m).map fun k : Nat => V.int (k : Int))) ∧ σ = [some (.ref d), some (.int (m : Int)), some (.ref a), some (.ref z), some (.str (ctr wd)), some (.int qq.2), some c6, some (.ref L), none]) ?_ ?_
    · rintro σ H4 ⟨L, c6, e4, hL, rfl⟩
      walk_at "rd"
      refine ⟨_, rfl, L, rfl, ⟨_, SqL.of hL⟩, fun D nD => ?_⟩
      have hll : (laterNums (chg o (ctr wd)) qq.2.toNat m).length ≤ 21 := laterNums_len (by omega) hm
      refine lc_wm (walk_list (xs := (laterNums (chg o (ctr wd)) qq.2.toNat m).map fun k : Nat => V.int (k : Int))) rIdx (rTup2 rTupS rInt) (ys := laterNums (chg o (ctr wd)) qq.2.toNat m) (fun k : Nat => (behind wd qq.1 o (if k = 0 then [ctr wd] else []), (k : Int))) (by simp) (fun H' s => SqL.of (s _ _ hL)) (yat_of rIdx idx_paired) (by omega) nD (fun x => rfl) (fun x k G sm hx hm Q hQ => ?_) (fun H2 zs sm hz hp => ?_)
      · obtain rfl : x = .int (k : Int) := hx
        have eG := e4.trans sm
        obtain ⟨b, rfl, hb⟩ := hx0
        walk_at "rd"
        refine i_ixT0 (SqT.of (eG _ _ ha)) rfl ?_
        walk_at "rd"
        have fin : ∀ g G2 gl, Same G G2 → G2 gl = some (.lst (g.map V.str)) → g = (if k = 0 then [ctr wd] else []) → spLBehind [V.ref d, V.ref b, V.ref z, V.ref gl] G2 (fun v G3 => tCons (tVar 8) tNil [some (.ref d), some (.int (m : Int)), some (.ref a), some (.ref z), some (.str (ctr wd)), some (.int qq.2), some c6, some (.ref L), some (.int (k : Int))] G3 fun xs G4 => (v :: xs).length ≤ sizeLine ∧ ∀ p, G4 p = none → Q (.ref p) (upd G4 p (.tup (v :: xs)))) C8.E0 := by
          intro g G2 gl e2 hgl hg
          have e5 := eG.trans e2
          refine ⟨d, f, p, r, wd, _, _, _, qq.1, o, g, rfl, W.same e5, ok, ⟨b, rfl, e5 _ _ hb⟩, ⟨z, rfl, e5 _ _ hz⟩, ⟨gl, rfl, hgl⟩, fun v G3 e6 hv => ?_⟩
          refine ⟨_, rfl, show 2 ≤ sizeLine by decide, fun p6 np6 => hQ _ _ ((e2.trans e6).trans (same_new np6)) ⟨p6, _, _, rfl, upd_same, ?_, rfl⟩⟩
          rw [← hg]
          exact mono hv (same_new np6)
        by_cases hk : k = 0
        · rw [if_pos (decide_eq_true (by rw [hk]; rfl))]
          walk_at "rd"
          refine ⟨show 1 ≤ sizeLine by decide, fun p5 np5 => ?_⟩
          exact fin [ctr wd] _ p5 (same_new np5) upd_same (if_pos hk).symm
        · rw [if_neg (fun h => hk (by have := V.int.inj (of_decide_eq_true h); omega))]
          walk_at "rd"
          refine ⟨Nat.zero_le _, fun p5 np5 => ?_⟩
          exact fin [] _ p5 (same_new np5) upd_same (if_neg hk).symm
      · walk_at "rd"
        exact q _ _ (e4.trans sm) ⟨D, zs, rfl, hz, hp⟩
    · intro N hN
      have key : ∀ L H4 c6, Same H3 H4 → H4 L = some (.lst ((laterNums (chg o (ctr wd)) qq.2.toNat m).map fun k : Nat => V.int (k : Int))) → N [some (.ref d), some (.int (m : Int)), some (.ref a), some (.ref z), some (.str (ctr wd)), some (.int qq.2), some c6, some (.ref L), none] H4 := fun L H4 c6 e4 hL => hN _ _ ⟨L, c6, e3.trans e4, hL, rfl⟩
      have hqn : ((qq.2.toNat : Nat) : Int) = qq.2 := Int.toNat_of_nonneg hq0
      walk_at "rd"
      refine i_eq oc_scal ⟨_, rfl, ?_⟩
      rw [show decide ((Option.map Ch.v (chg o (ctr wd))).getD V.non = V.str "add") = decide (chg o (ctr wd) = some .add) from oc_add]
      by_cases h1 : chg o (ctr wd) = some .add
      · rw [if_pos (decide_eq_true h1)]
        rw [h1] at key
        walk_at "rd"
        refine ⟨_, _, rfl, rfl, _, rfl, ?_⟩
        by_cases hlt : qq.2 < (m : Int)
        · rw [if_pos (decide_eq_true hlt)]
          refine ⟨_, rfl, _, _, rfl, rfl, _, rfl, _, _, rfl, rfl, _, _, rfl, rfl, ?_⟩
          refine ⟨.of_le (by omega) (by omega) (by omega) (by omega), fun p1 np1 => key _ _ _ (same_new np1) ?_⟩
          rw [upd_same]
          unfold rgV laterNums
          dsimp only
          rw [if_pos (by omega), List.map_map, show ((m : Int) + 1 - (qq.2 + 1)).toNat = m - qq.2.toNat by omega]
          refine congrArg _ (congrArg _ (List.map_congr_left fun k _ => ?_))
          show V.int (qq.2 + 1 + (k : Nat)) = V.int ((qq.2.toNat + 1 + k : Nat) : Int)
          congr 1
          omega
        · rw [if_neg (fun h => hlt (of_decide_eq_true h))]
          walk_at "rd"
          refine ⟨show 1 ≤ sizeLine by decide, fun p1 np1 => key _ _ _ (same_new np1) ?_⟩
          rw [upd_same]
          unfold laterNums
          dsimp only
          rw [if_neg (by omega)]
          rfl
      · rw [if_neg (fun h => h1 (of_decide_eq_true h))]
        walk_at "rd"
        refine i_eq oc_scal ⟨_, rfl, ?_⟩
        rw [show decide ((Option.map Ch.v (chg o (ctr wd))).getD V.non = V.str "take") = decide (chg o (ctr wd) = some .take) from oc_take]
        by_cases h2 : chg o (ctr wd) = some .take
        · rw [if_pos (decide_eq_true h2)]
          rw [h2] at key
          refine ⟨_, rfl, _, rfl, ?_⟩
          refine ⟨.of_le (by omega) (by omega) (by omega) (by omega), fun p1 np1 => key _ _ _ (same_new np1) ?_⟩
          rw [upd_same]
          unfold rgV laterNums
          dsimp only
          rw [show (qq.2 - 0).toNat = qq.2.toNat by omega]
          refine congrArg _ (congrArg _ (List.map_congr_left fun k _ => ?_))
          show V.int (0 + (k : Nat)) = V.int (k : Int)
          rw [Int.zero_add]
        · rw [if_neg (fun h => h2 (of_decide_eq_true h))]
          walk_at "rd"
          refine i_eq oc_scal ⟨_, rfl, ?_⟩
          rw [show decide ((Option.map Ch.v (chg o (ctr wd))).getD V.non = V.str "empty") = decide (chg o (ctr wd) = some .empty) from oc_empty]
          by_cases h3 : chg o (ctr wd) = some .empty
          · rw [if_pos (decide_eq_true h3)]
            rw [h3] at key
            walk_at "rd"
            refine ⟨show 1 ≤ sizeLine by decide, fun p1 np1 => ?_⟩
            exact key _ _ _ (same_new np1) upd_same
          · rw [if_neg (fun h => h3 (of_decide_eq_true h))]
            walk_at "rd"
            refine key _ _ _ (Same.refl _) ?_
            rw [hnl]
            have hl : laterNums (chg o (ctr wd)) qq.2.toNat m = [qq.2.toNat] := by
              unfold laterNums
              split
              · rename_i h
                exact absurd h h1
              · rename_i h
                exact absurd h h2
              · rename_i h
                exact absurd h h3
              · rfl
            rw [hl, List.map_cons, hqn]
            rfl
/-- a list that H0 does not know -/
def rLstN {α : Type} (H0 : Hp) (R : Rep α) : Rep (List α) := fun H v l => ∃ a vs, v = .ref a ∧ H0 a = none ∧ H a = some (.lst vs) ∧ Paired (R H) vs l
instance {α : Type} {H0 : Hp} {R : Rep α} [Mono R] : Mono (rLstN H0 R) := ⟨fun e ⟨a, vs, h1, h2, h3, h4⟩ => ⟨a, vs, h1, h2, e.o h3, paired_monoE e h4⟩⟩
abbrev rPair : Rep (List Str × Int) := rTup2 rTupS rInt
abbrev rOffs (H0 : Hp) : Rep (List (List (List Str × Int))) := rLstN H0 (rLstN H0 rPair)
def offersA (w : Wd) (m : Nat) (q : List Str × Int) : List (List (List Str × Int)) := (possible w q.1).map fun a => a.2.outs.flatMap fun o => laterA w m q o
theorem laterA_len {w : Wd} {m : Nat} {q : List Str × Int} {o : Chg} (h0 : 0 ≤ q.2) (h1 : q.2 ≤ m) (hm : m ≤ 20) : (laterA w m q o).length ≤ 21 := by
  unfold laterA
  rw [List.length_map]
  exact laterNums_len (by omega) hm
theorem laterA_flat {w : Wd} {m : Nat} {q : List Str × Int} (h0 : 0 ≤ q.2) (h1 : q.2 ≤ m) (hm : m ≤ 20) : ∀ l : List Chg, (l.flatMap fun o => laterA w m q o).length ≤ l.length * 21
  | [] => Nat.zero_le _
  | o :: t => by
    rw [List.flatMap_cons, List.length_append, List.length_cons, Nat.succ_mul]
    have := laterA_len (w := w) (o := o) h0 h1 hm
    have := laterA_flat (w := w) h0 h1 hm t
    omega
def spLOffers : Sp := fun vs H Q _ => ∃ d f p r a w m y q, vs = [.ref d, .int ((m : Nat) : Int), y] ∧ LwAll H d f p r a w ∧ WdOk w ∧ m ≤ 20 ∧ rPair H y q ∧ 0 ≤ q.2 ∧ q.2 ≤ m ∧ ∀ v H', Same H H' → rOffs H H' v (offersA w m q) → Q v H'
theorem c_l_offers (T : Txt K mg c) : Cal P w K mg base 7 "_law_offers" (spLOffers) [] := by
    refine cal_of T.d_l_offers sc_l_offers (by walk_at "len") (fun f cdv A outer sh H vs Q E hr h => ?_)
    have nd := sc_l_offers.nd
    obtain ⟨d, f, p, r, ac, wd, m, _, qq, rfl, WA, ok, hm, ⟨a, x0, x1, rfl, ha, hx0, hx1⟩, hq0, hqm, q⟩ := h
    refine ⟨_, (pss_cons (ps_set (i := 3) nd rfl (.inl rfl) (pe_lst pa_nil))
        (pss_cons (ps_for PassesOwn.never rfl (pi_listK K rfl (pe_hide (C8.pe_c (c_l_possible T) hr (by first | decide | exact Nat.le_refl _ | omega) rfl (pa_cons (pv 0) (pa_cons (pe_ix (kIxT K rfl) (pv 2) pe_int (fun _ _ => rfl)) pa_nil))))) (pg_name (i := 4) nd rfl (.inl rfl)) (pss_cons (ps_set (i := 5) nd rfl (.inl rfl) (pe_lst pa_nil))
        (pss_cons (ps_for PassesOwn.never rfl (pi_listK K rfl (pe_ix (kIxL K rfl) (pv 4) pe_int (fun _ _ => rfl))) (pg_name (i := 6) nd rfl (.inl rfl)) (pss_one (ps_set (i := 5) nd rfl (.inl rfl) (pe_op op_cat (pv 5) (pe_hide (C8.pe_c (c_l_later T) hr (by first | decide | exact Nat.le_refl _ | omega) rfl (pa_cons (pv 0) (pa_cons (pv 1) (pa_cons (pv 2) (pa_cons (pv 6) pa_nil))))))))))
        (pss_one (ps_expr (pe_bmK K rfl PySem.F.plainAttrs_list PySem.F.slot_list_append PySem.F.type_list_append mt_append (pv 3) (pa_cons (pv 5) pa_nil)))))))
        (pss_one (ps_ret (pv 3))))), ?_⟩
    obtain rfl : x1 = .int qq.2 := hx1
    have hna := ok.na
    walk_at "rd"
    refine ⟨Nat.zero_le _, fun D nD => ?_⟩
    walk_at "rd"
    refine ⟨H, D, .lst [], rfl, nD, trivial, ?_⟩
    walk_at "rd"
    refine ⟨d, f, p, r, ac, wd, _, qq.1, rfl, WA, ok, hx0, fun v H1 e1 ⟨l, zs, ev, hl, hzs⟩ => ⟨trivial, fun nD1 => ?_⟩⟩
    subst ev
    have nlD : l ≠ D := ne_of_none hl nD1
    refine ⟨l, rfl, ⟨_, SqL.of (by rw [upd_ne nlD]; exact hl)⟩, ?_⟩
    have hzl := paired_len hzs
    have hfl : (possible wd qq.1).length ≤ 3 := Nat.le_trans (List.length_filter_le _ _) hna
    refine for_w (walk_list (xs := zs)) (fun i σ H' => ∃ G ws v4 v5 v6, H' = upd G D (.lst ws) ∧ G D = none ∧ Same H1 G ∧ Paired (rLstN H rPair G) ws (((possible wd qq.1).take i).map fun a => a.2.outs.flatMap fun o => laterA wd m qq o) ∧ σ = [some (.ref d), some (.int (m : Int)), some (.ref a), some (.ref D), v4, v5, v6]) ⟨H1, [], _, _, _, rfl, nD1, Same.refl _, .nil, rfl⟩ (fun i σ H' _ ⟨G, ws, _, _, _, eH, _, s, _⟩ => SqL.of (by rw [eH, upd_ne nlD]; exact s _ _ hl)) ?_ ?_
    · rintro i x σ H' H2 hi ⟨G, ws, v4, v5, v6, rfl, nDG, eG, hws, rfl⟩ ⟨rfl, hx⟩
      obtain ⟨A', hA, rx⟩ := paired_get hzs hx
      have hA2 : A' ∈ wd.acts := (List.mem_filter.mp (List.mem_of_getElem? hA)).1
      have hok := (ok.acts _ hA2).2
      obtain ⟨z, xn, xo, rfl, hz, hzt, hzo⟩ := mono rx eG
      obtain ⟨lo, os, rfl, hlo, hos⟩ := hzo
      have hwl := paired_len hws
      have hwl2 : ws.length ≤ 3 := by
        rw [hwl, List.length_map, List.length_take]
        omega
      walk_at "rd"
      refine ⟨Nat.zero_le _, fun p1 np1 => ?_⟩
      obtain ⟨np1G, np1D⟩ := none_of_upd np1
      rw [upd_swap' np1D]
      have eG1 : Same G (upd G p1 (.lst [])) := same_new np1G
      have hp1 : upd G p1 (.lst []) p1 = some (.lst []) := upd_same
      have nDG1 : upd G p1 (.lst []) D = none := by rw [upd_ne (Ne.symm np1D)]; exact nDG
      generalize upd G p1 (.lst []) = G1 at eG1 hp1 nDG1
      walk_at "rd"
      have nzD : z ≠ D := ne_of_none hz nDG
      have nloD : lo ≠ D := ne_of_none hlo nDG
      refine i_ixL (j := 2) (SqL.of (by rw [upd_ne nzD]; exact eG1 _ _ hz)) rfl ⟨lo, rfl, ⟨_, SqL.of (by rw [upd_ne nloD]; exact eG1 _ _ hlo)⟩, ?_⟩
      refine for_w (walk_list (xs := os)) (fun j σ H' => ∃ G2 p2 us v6, H' = upd G2 D (.lst ws) ∧ G2 D = none ∧ Same G1 G2 ∧ H p2 = none ∧ G2 p2 = some (.lst us) ∧ Paired (rPair G2) us ((A'.2.outs.take j).flatMap fun o => laterA wd m qq o) ∧ σ = [some (.ref d), some (.int (m : Int)), some (.ref a), some (.ref D), some (.ref z), some (.ref p2), v6]) ⟨G1, p1, [], _, rfl, nDG1, Same.refl _, none_back (e1.trans eG) np1G, hp1, .nil, rfl⟩ (fun j σ H' _ ⟨G2, _, _, _, eH, _, s, _⟩ => SqL.of (by rw [eH, upd_ne nloD]; exact s _ _ (eG1 _ _ hlo))) ?_ ?_
      · rintro j x σ H3 H4 hj ⟨G2, p2, us, v6, rfl, nD2, e2, np2, hp2, hus, rfl⟩ ⟨rfl, hx⟩
        obtain ⟨o, ho, rxo⟩ := paired_get hos hx
        have eG2 := eG1.trans e2
        have eH2 := e1.trans (eG.trans eG2)
        walk_at "rd"
        refine ⟨G2, D, .lst ws, rfl, nD2, trivial, ?_⟩
        walk_at "rd"
        refine ⟨d, f, p, r, wd, m, _, _, qq, o, rfl, WA.1.same eH2, ok.toLsOk, hm, ⟨a, x0, _, rfl, eH2 _ _ ha, mono hx0 eH2, rfl⟩, hq0, hqm, mono rxo eG2, fun v G3 e3 ⟨l3, zs3, ev, hl3, hz3⟩ => ⟨trivial, fun nD3 => ?_⟩⟩
        subst ev
        have n1 : p2 ≠ D := ne_of_none hp2 nD2
        have n2 : l3 ≠ D := ne_of_none hl3 nD3
        have len1 := paired_len hus
        have len2 := paired_len hz3
        have len3 := laterA_flat (w := wd) hq0 hqm hm (A'.2.outs.take j)
        have len4 := laterA_len (w := wd) (o := o) hq0 hqm hm
        have len5 : (A'.2.outs.take j).length ≤ 2 := by
          rw [List.length_take]
          have := hok.len
          omega
        refine i_cat (by rw [upd_ne n1]; exact e3 _ _ hp2) (by rw [upd_ne n2]; exact hl3) (by omega) fun p4 np4 => ?_
        obtain ⟨np4G, np4D⟩ := none_of_upd np4
        rw [upd_swap' np4D]
        have e4 : Same G3 (upd G3 p4 (.lst (us ++ zs3))) := same_new np4G
        refine ⟨_, p4, us ++ zs3, _, rfl, by rw [upd_ne (Ne.symm np4D)]; exact nD3, e2.trans (e3.trans e4), none_back (eH2.trans e3) np4G, upd_same, ?_, rfl⟩
        rw [flat_take ho]
        exact paired_append (paired_mono (e3.trans e4) hus) (paired_mono e4 hz3)
      · rintro σ H3 ⟨G2, p2, us, v6, rfl, nD2, e2, np2, hp2, hus, rfl⟩
        rw [paired_len hos, List.take_length] at hus
        walk_at "rd"
        refine ⟨.inl ⟨rfl, _, SqL.of upd_same⟩, ?_⟩
        walk_at "rd"
        refine i_append upd_same (by omega) ?_
        rw [upd_upd]
        refine ⟨G2, _, _, _, _, rfl, nD2, eG.trans (eG1.trans e2), ?_, rfl⟩
        rw [take_more (show (possible wd qq.1)[i]? = some A' from hA), List.map_append]
        exact paired_snoc (paired_mono (eG1.trans e2) hws) ⟨p2, us, rfl, np2, hp2, hus⟩
    · rintro σ H' ⟨G, ws, v4, v5, v6, rfl, nDG, eG, hws, rfl⟩
      rw [hzl, show (List.filter (fun q => fitsA wd qq.1 q.2) wd.acts) = possible wd qq.1 from rfl, List.take_length] at hws
      walk_at "rd"
      refine q _ _ ((e1.trans eG).trans (same_new nDG)) ⟨D, ws, rfl, nD, upd_same, paired_mono (same_new nDG) hws⟩
/-! ### the changes of an outcome, drawn -/
def ChI (w : Wd) (fr : Bool) (used : List Str) (o : Chg) : Prop := (o.map (·.1)).Sublist used ∧ (∀ p ∈ o, Fits w p) ∧ (fr = true → ∀ p ∈ o, p.1 ∈ w.reserves → p.2 ≠ .take)
theorem ChI.skip {w : Wd} {fr : Bool} {used : List Str} {o : Chg} {n : Str} (h : ChI w fr used o) : ChI w fr (used ++ [n]) o := ⟨h.1.trans (List.sublist_append_left _ _), h.2⟩
theorem ChI.put {w : Wd} {fr : Bool} {used : List Str} {o : Chg} {n : Str} {x : Ch} (h : ChI w fr used o) (f : Fits w (n, x)) (t : fr = true → n ∈ w.reserves → x ≠ .take) : ChI w fr (used ++ [n]) (o ++ [(n, x)]) := by
  refine ⟨by rw [List.map_append]; exact h.1.append (List.Sublist.refl _), fun p hp => ?_, fun hf p hp => ?_⟩
  · rcases List.mem_append.mp hp with hp | hp
    · exact h.2.1 p hp
    · rw [List.mem_singleton.mp hp]
      exact f
  · rcases List.mem_append.mp hp with hp | hp
    · exact h.2.2 hf p hp
    · rw [List.mem_singleton.mp hp]
      exact t hf
structure ChH (w : Wd) (fr : Bool) (used : List Str) (G0 : Hp) (s st D : Addr) (b : Nat) (o : Chg) (S : Strm) (G : Hp) : Prop where
  sa : SA G s st S b
  sb : SameBut D G0 G
  at_ : G D = some (.dK (chK o))
  ch : ChI w fr used o
theorem ChH.draw {w : Wd} {fr : Bool} {used : List Str} {G0 G G2 : Hp} {s st D : Addr} {b b2 : Nat} {o : Chg} {S S2 : Strm} (h : ChH w fr used G0 s st D b o S G) (e : Same G G2) (a : SA G2 s st S2 b2) : ChH w fr used G0 s st D b2 o S2 G2 := ⟨a, h.sb.trans (.of e), e _ _ h.at_, h.ch⟩
theorem ChH.skip {w : Wd} {fr : Bool} {used : List Str} {G0 G : Hp} {s st D : Addr} {b : Nat} {o : Chg} {S : Strm} {n : Str} (h : ChH w fr used G0 s st D b o S G) : ChH w fr (used ++ [n]) G0 s st D b o S G := ⟨h.sa, h.sb, h.at_, h.ch.skip⟩
theorem ChH.put {w : Wd} {fr : Bool} {used : List Str} {G0 G : Hp} {s st D : Addr} {b : Nat} {o : Chg} {S : Strm} {n : Str} {x : Ch} (h : ChH w fr used G0 s st D b o S G) (n1 : D ≠ s) (n2 : D ≠ st) (few : used.length ≤ 10) (nd : (used ++ [n]).Nodup) (f : Fits w (n, x)) (t : fr = true → n ∈ w.reserves → x ≠ .take) :
    ∃ H4, DPut (sH G s st S) D (.str n) x.v H4 ∧ ∃ G4, H4 = sH G4 s st S ∧ ChH w fr (used ++ [n]) G0 s st D b (o ++ [(n, x)]) S G4 ∧ SameBut D G G4 := by
  obtain ⟨e1, e2⟩ := h.sa.put (o := .dK (chK (o ++ [(n, x)]))) n1 n2
  have hn : n ∉ o.map (·.1) := fun z => by
    have := h.ch.1.subset z
    exact (List.nodup_append.mp nd).2.2 n this n (by simp) rfl
  have hl : (chK o).length < 100000 := by
    have := h.ch.1.length_le
    unfold chK
    rw [List.length_map] at this ⊢
    omega
  refine ⟨_, dpK (h.sa.lst h.at_) hl, _, by rw [ch_put hn]; exact e1, ⟨e2, h.sb.put, upd_same, h.ch.put f t⟩, SameBut.put (.of (Same.refl _))⟩
def spLChanges : Sp := fun vs H Q _ => ∃ st s d f p r w fr G S b, vs = [.ref st, .ref d, .bl fr] ∧ H = sH G s st S ∧ SA G s st S b ∧ b < 60000 ∧ LwAt G d f p r w ∧ LsOk w ∧ w.facts.length + w.piles.length + w.reserves.length ≤ 3 ∧
  ∀ v o S2 G2, Same G G2 → SA G2 s st S2 (b + 30) → rChg G2 v o → ChgOk o → (∀ p ∈ o, Fits w p) → (fr = true → ∀ p ∈ o, p.1 ∈ w.reserves → p.2 ≠ .take) → Q v (sH G2 s st S2)
theorem c_l_changes (T : Txt K mg c) : Cal P w K mg base 3 "_law_changes" (spLChanges) [] := by
    refine cal_of T.d_l_changes sc_l_changes (by walk_at "len") (fun f cdv A outer sh H vs Q E hr h => ?_)
    have nd := sc_l_changes.nd
    obtain ⟨st, s, d, f, p, r, wd, fr, G, S, b, rfl, rfl, hA, hb, W, ok, h3, q⟩ := h
    refine ⟨_, (pss_cons (ps_set (i := 3) nd rfl (.inl rfl) pe_dnewK)
        (pss_cons (ps_for PassesOwn.never rfl (pi_listK K rfl (C8.pe_c (c_l_mixed T) hr (by first | decide | exact Nat.le_refl _ | omega) rfl (pa_cons (pv 0) (pa_cons (pe_dget (by exact hu_of hr) (pv 1) pe_str (fun _ _ => rfl)) pa_nil)))) (pg_name (i := 4) nd rfl (.inl rfl)) (pss_cons (ps_set (i := 5) nd rfl (.inl rfl) (C8.pe_c (c_l_draw T) hr (by first | decide | exact Nat.le_refl _ | omega) rfl (pa_cons (pv 0) (pa_cons pe_int pa_nil))))
        (pss_one (ps_if (pt_cmpR op_lt (pv 5) pe_int (nomark _)) (pss_one (ps_dput (by exact hu_of hr) (pv 3) (pv 4) (pe_cmpR op_eq (pv 5) pe_int (nomark _)) rfl)) pss_nil))))
        (pss_cons (ps_for PassesOwn.never rfl (pi_listK K rfl (C8.pe_c (c_l_mixed T) hr (by first | decide | exact Nat.le_refl _ | omega) rfl (pa_cons (pv 0) (pa_cons (pe_dget (by exact hu_of hr) (pv 1) pe_str (fun _ _ => rfl)) pa_nil)))) (pg_name (i := 4) nd rfl (.inl rfl)) (pss_cons (ps_set (i := 5) nd rfl (.inl rfl) (C8.pe_c (c_l_draw T) hr (by first | decide | exact Nat.le_refl _ | omega) rfl (pa_cons (pv 0) (pa_cons pe_int pa_nil))))
        (pss_one (ps_if (pt_cmpR op_lt (pv 5) pe_int (nomark _)) (pss_one (ps_dput (by exact hu_of hr) (pv 3) (pv 4) (pe_ix (kIxL K rfl) (pe_lst (pa_cons pe_str (pa_cons pe_str (pa_cons pe_str (pa_cons pe_str pa_nil))))) (pv 5) (fun _ _ => rfl)) rfl)) pss_nil))))
        (pss_cons (ps_for PassesOwn.never rfl (pi_listK K rfl (pe_dget (by exact hu_of hr) (pv 1) pe_str (fun _ _ => rfl))) (pg_name (i := 4) nd rfl (.inl rfl)) (pss_cons (ps_set (i := 5) nd rfl (.inl rfl) (C8.pe_c (c_l_draw T) hr (by first | decide | exact Nat.le_refl _ | omega) rfl (pa_cons (pv 0) (pa_cons pe_int pa_nil))))
        (pss_one (ps_if (PW.pt (pw_and (pt_cmpR op_eq (pv 5) pe_int (nomark _)) (pw_and1 (pt_not (pt_val (pv 2)))))) (pss_one (ps_dput (by exact hu_of hr) (pv 3) (pv 4) pe_str rfl)) (pss_one (ps_if (pt_cmpR op_eq (pv 5) pe_int (nomark _)) (pss_one (ps_dput (by exact hu_of hr) (pv 3) (pv 4) pe_str rfl)) pss_nil))))))
        (pss_one (ps_ret (pv 3))))))), ?_⟩
    walk_at "rd"
    intro D nD
    obtain ⟨eN, e0, hA0⟩ := hA.new (o := .dK []) nD
    obtain ⟨nD1, nDst⟩ := none_of_upd nD
    obtain ⟨nDG, nDs⟩ := none_of_upd nD1
    rw [eN]
    have hc0 : ChH wd fr [] (upd G D (.dK [])) s st D b [] S (upd G D (.dK [])) := ⟨hA0, .of (Same.refl _), upd_same, List.Sublist.refl _, fun p hp => (by cases hp), fun _ p hp => (by cases hp)⟩
    have W0 := W.same e0
    generalize upd G D (.dK []) = G0 at e0 hA0 hc0 W0
    walk_at "rd"
    refine ⟨d, _, rfl, (W0.same hA0.same).gf, ?_⟩
    walk_at "rd"
    have nf := ok.nf
    have np := ok.np
    have nr := ok.nr
    have nd1 : wd.facts.Nodup := (List.nodup_append.mp (List.nodup_append.mp ok.nd).1).1
    refine ⟨st, s, _, wd.facts, G0, S, b, rfl, rfl, hA0, by omega, ⟨f, rfl, W0.fa⟩, by omega, fun v ms1 S1 G1 e1 hA1 ⟨l1, ev, hl1⟩ pm1 => ?_⟩
    subst ev
    have hc1 := hc0.draw e1 hA1
    have e01 := e0.trans e1
    have W1 := W0.same e1
    have n1D : l1 ≠ D := fun z => by rw [z, hc1.at_] at hl1; cases hl1
    have len1 := pm1.length_eq
    have keepL : ∀ {G2 : Hp} {a : Addr} {xs : List V}, G1 a = some (.lst xs) → SameBut D G1 G2 → G2 a = some (.lst xs) := fun {G2 a xs} h e => e _ _ (fun z => by rw [z, hc1.at_] at h; cases h) h
    have WB : ∀ {G2 : Hp}, SameBut D G1 G2 → LwAt G2 d f p r wd := fun {G2} e => by
      obtain ⟨⟨kvs, w1, w2, w3, w4⟩, wf, wp, wr⟩ := W1
      have ndD : d ≠ D := fun z => by
        rw [z] at w1
        rcases w1 with h | ⟨o, h⟩
        · rw [hc1.at_] at h
          have h := HO.dK.inj (Option.some.inj h)
          rw [← h] at w2
          cases w2
        · rw [hc1.at_] at h
          cases h
      exact ⟨⟨kvs, w1.elim (fun h => .inl (e _ _ ndD h)) (fun ⟨o, h⟩ => .inr ⟨o, e _ _ ndD h⟩), w2, w3, w4⟩, keepL wf e, keepL wp e, keepL wr e⟩
    refine ⟨l1, rfl, ⟨_, SqL.of (hA1.lst hl1)⟩, ?_⟩
    refine for_w (walk_list (xs := ms1.map V.str)) (fun i σ H' => ∃ G2 S2 o v4 v5, H' = sH G2 s st S2 ∧ ChH wd fr (ms1.take i) G0 s st D (b + 10 + i) o S2 G2 ∧ SameBut D G1 G2 ∧ σ = [some (.ref st), some (.ref d), some (.bl fr), some (.ref D), v4, v5]) ⟨G1, S1, [], _, _, rfl, by simpa using hc1, .of (Same.refl _), rfl⟩ (fun i σ H' _ ⟨G2, S2, o, _, _, eH, hc, sb, _⟩ => SqL.of (by rw [eH]; exact hc.sa.lst (keepL hl1 sb))) ?_ ?_
    · rintro i x σ H' H2 hi ⟨G2, S2, o, v4, v5, rfl, hc, sb, rfl⟩ ⟨rfl, hx⟩
      obtain ⟨n, hn, rx⟩ := paired_get (F := rStr G2) strs_paired hx
      obtain rfl : x = .str n := rx
      have il : i < ms1.length := (List.getElem?_eq_some_iff.mp hn).1
      walk_at "rd"
      refine i_draw (many := 4) hc.sa (by decide) (by decide) (by omega) fun dd S3 G3 e3 hA3 hd => ?_
      have hc3 := hc.draw e3 hA3
      walk_at "rd"
      refine ⟨_, _, rfl, rfl, _, rfl, ?_⟩
      have ndi : (ms1.take i ++ [n]).Nodup := by
        rw [← take_more hn]
        exact ((List.take_sublist _ _).nodup (pm1.nodup_iff.mpr nd1))
      have il2 : (ms1.take i).length ≤ 10 := by
        rw [List.length_take]
        omega
      have hnf : n ∈ wd.facts := pm1.mem_iff.mp (List.mem_of_getElem? hn)
      by_cases hlt : (dd : Int) < 2
      · rw [if_pos (decide_eq_true hlt)]
        have hv : V.bl (decide (V.int (dd : Int) = V.int 0)) = (if dd = 0 then Ch.yes else Ch.no).v := by
          by_cases z : dd = 0
          · rw [if_pos z, z]
            rfl
          · rw [if_neg z, decide_eq_false (fun h => z (by have := V.int.inj h; omega))]
            rfl
        obtain ⟨H4, hp, G4, rfl, hc4, sb4⟩ := hc3.put nDs nDst il2 ndi (x := if dd = 0 then Ch.yes else Ch.no) (.inl ⟨hnf, by by_cases z : dd = 0 <;> simp [z]⟩) (fun _ _ => by by_cases z : dd = 0 <;> simp [z])
        walk_at "rd"
        rw [hv]
        refine ⟨D, _, rfl, hp, G4, S3, _, _, _, rfl, by rw [take_more hn]; exact hc4, (sb.trans (.of e3)).trans sb4, rfl⟩
      · rw [if_neg (fun h => hlt (of_decide_eq_true h))]
        walk_at "rd"
        exact ⟨G3, S3, _, _, _, rfl, by rw [take_more hn]; exact hc3.skip, sb.trans (.of e3), rfl⟩
    · rintro σ H2 ⟨G2, S2, o, v4, v5, rfl, hc, sb, rfl⟩
      rw [List.length_map, List.take_length] at hc
      have W2 := WB sb
      walk_at "rd"
      refine ⟨d, _, rfl, (W2.same hc.sa.same).gp, ?_⟩
      walk_at "rd"
      refine ⟨st, s, _, wd.piles, G2, S2, _, rfl, rfl, hc.sa, by omega, ⟨p, rfl, W2.pi⟩, by omega, fun v ms2 S3 G3 e3 hA3 ⟨l2, ev, hl2⟩ pm2 => ?_⟩
      subst ev
      have hc3 := hc.draw e3 hA3
      have len2 := pm2.length_eq
      have n2D : l2 ≠ D := fun z => by rw [z, hc3.at_] at hl2; cases hl2
      have sb3 := sb.trans (.of e3)
      have ndm : (ms1 ++ ms2 ++ wd.reserves).Nodup := (((pm1.append pm2).append (List.Perm.refl _)).nodup_iff.mpr ok.nd)
      refine ⟨l2, rfl, ⟨_, SqL.of (hA3.lst hl2)⟩, ?_⟩
      refine for_w (walk_list (xs := ms2.map V.str)) (fun i σ H' => ∃ G4 S4 o v4 v5, H' = sH G4 s st S4 ∧ ChH wd fr (ms1 ++ ms2.take i) G0 s st D (b + 10 + ms1.length + 10 + i) o S4 G4 ∧ SameBut D G3 G4 ∧ σ = [some (.ref st), some (.ref d), some (.bl fr), some (.ref D), v4, v5]) ⟨G3, S3, o, _, _, rfl, by simpa using hc3, .of (Same.refl _), rfl⟩ (fun i σ H' _ ⟨G4, S4, o, _, _, eH, hc, sb, _⟩ => SqL.of (by rw [eH]; exact hc.sa.lst (sb _ _ n2D hl2))) ?_ ?_
      · rintro i x σ H' H2 hi ⟨G4, S4, o4, v4, v5, rfl, hc4, sb4, rfl⟩ ⟨rfl, hx⟩
        obtain ⟨n, hn, rx⟩ := paired_get (F := rStr G4) strs_paired hx
        obtain rfl : x = .str n := rx
        have il : i < ms2.length := (List.getElem?_eq_some_iff.mp hn).1
        walk_at "rd"
        refine i_draw (many := 7) hc4.sa (by decide) (by decide) (by omega) fun dd S5 G5 e5 hA5 hd => ?_
        have hc5 := hc4.draw e5 hA5
        walk_at "rd"
        refine ⟨_, _, rfl, rfl, _, rfl, ?_⟩
        have et : ms1 ++ ms2.take (i + 1) = (ms1 ++ ms2.take i) ++ [n] := by rw [take_more hn, List.append_assoc]
        have ndi : ((ms1 ++ ms2.take i) ++ [n]).Nodup := by
          rw [← et]
          exact ((List.Sublist.refl ms1).append (List.take_sublist _ _)).nodup (List.nodup_append.mp ndm).1
        have il2 : (ms1 ++ ms2.take i).length ≤ 10 := by
          rw [List.length_append, List.length_take]
          omega
        have hnp : n ∈ wd.piles := pm2.mem_iff.mp (List.mem_of_getElem? hn)
        by_cases hlt : (dd : Int) < 4
        · rw [if_pos (decide_eq_true hlt)]
          walk_at "rd"
          refine ⟨show 4 ≤ sizeLine by decide, fun pl npl => ?_⟩
          obtain ⟨eN, eL, hAL⟩ := hc5.sa.new npl
          rw [eN]
          have hc6 : ChH wd fr (ms1 ++ ms2.take i) G0 s st D (b + 10 + ms1.length + 10 + i + 1) o4 S5 _ := hc5.draw eL hAL
          have hpl : upd G5 pl (.lst [.str "take", .str "take", .str "add", .str "empty"]) pl = some (.lst [.str "take", .str "take", .str "add", .str "empty"]) := upd_same
          generalize upd G5 pl (.lst [.str "take", .str "take", .str "add", .str "empty"]) = G6 at eL hc6 hpl
          obtain ⟨x, hx1, hx2⟩ : ∃ x : Ch, ([V.str "take", V.str "take", V.str "add", V.str "empty"] : List V)[dd]? = some x.v ∧ (x = .add ∨ x = .take ∨ x = .empty) := by
            rcases dd with _ | _ | _ | _ | dd
            · exact ⟨.take, rfl, by simp⟩
            · exact ⟨.take, rfl, by simp⟩
            · exact ⟨.add, rfl, by simp⟩
            · exact ⟨.empty, rfl, by simp⟩
            · omega
          obtain ⟨H4, hp, G7, rfl, hc7, sb7⟩ := hc6.put nDs nDst il2 ndi (x := x) (.inr (.inl ⟨hnp, hx2⟩)) (fun _ hr _ => absurd rfl ((List.nodup_append.mp ok.nd).2.2 n (List.mem_append.mpr (.inr hnp)) n hr))
          refine ⟨_, rfl, i_ixL (SqL.of (hc6.sa.lst hpl)) hx1 ?_⟩
          walk_at "rd"
          exact ⟨D, _, rfl, hp, G7, S5, _, _, _, rfl, by rw [et]; exact hc7, (sb4.trans (.of (e5.trans eL))).trans sb7, rfl⟩
        · rw [if_neg (fun h => hlt (of_decide_eq_true h))]
          walk_at "rd"
          exact ⟨G5, S5, _, _, _, rfl, by rw [et]; exact hc5.skip, sb4.trans (.of e5), rfl⟩
      · rintro σ H2 ⟨G4, S4, o4, v4, v5, rfl, hc4, sb4, rfl⟩
        rw [List.length_map, List.take_length] at hc4
        have W4 := WB (sb3.trans sb4)
        walk_at "rd"
        refine ⟨_, _, rfl, (W4.same hc4.sa.same).gr, r, rfl, ⟨_, SqL.of (hc4.sa.lst W4.re)⟩, ?_⟩
        have nrD : r ≠ D := fun z => by have h := W4.re; rw [z, hc4.at_] at h; cases h
        refine for_w (walk_list (xs := wd.reserves.map V.str)) (fun i σ H' => ∃ G5 S5 o v4 v5, H' = sH G5 s st S5 ∧ ChH wd fr (ms1 ++ ms2 ++ wd.reserves.take i) G0 s st D (b + 10 + ms1.length + 10 + ms2.length + i) o S5 G5 ∧ SameBut D G4 G5 ∧ σ = [some (.ref st), some (.ref d), some (.bl fr), some (.ref D), v4, v5]) ⟨G4, S4, o4, _, _, rfl, by simpa using hc4, .of (Same.refl _), rfl⟩ (fun i σ H' _ ⟨G5, S5, o, _, _, eH, hc, sb, _⟩ => SqL.of (by rw [eH]; exact hc.sa.lst (sb _ _ nrD W4.re))) ?_ ?_
        · rintro i x σ H' H2 hi ⟨G5, S5, o5, v4, v5, rfl, hc5, sb5, rfl⟩ ⟨rfl, hx⟩
          obtain ⟨n, hn, rx⟩ := paired_get (F := rStr G5) strs_paired hx
          obtain rfl : x = .str n := rx
          have il : i < wd.reserves.length := (List.getElem?_eq_some_iff.mp hn).1
          have et : ms1 ++ ms2 ++ wd.reserves.take (i + 1) = (ms1 ++ ms2 ++ wd.reserves.take i) ++ [n] := by rw [take_more hn, List.append_assoc (ms1 ++ ms2)]
          have ndi : ((ms1 ++ ms2 ++ wd.reserves.take i) ++ [n]).Nodup := by
            rw [← et]
            exact ((List.Sublist.refl (ms1 ++ ms2)).append (List.take_sublist _ _)).nodup ndm
          have il2 : (ms1 ++ ms2 ++ wd.reserves.take i).length ≤ 10 := by
            rw [List.length_append, List.length_append, List.length_take]
            omega
          have hnr : n ∈ wd.reserves := List.mem_of_getElem? hn
          walk_at "rd"
          refine i_draw (many := 4) hc5.sa (by decide) (by decide) (by omega) fun dd S6 G6 e6 hA6 hd => ?_
          have hc6 := hc5.draw e6 hA6
          walk_at "rd"
          have skip : ∃ G7 S7 o7 v4 v5, sH G6 s st S6 = sH G7 s st S7 ∧ ChH wd fr (ms1 ++ ms2 ++ wd.reserves.take (i + 1)) G0 s st D (b + 10 + ms1.length + 10 + ms2.length + (i + 1)) o7 S7 G7 ∧ SameBut D G4 G7 ∧ ([some (V.ref st), some (.ref d), some (.bl fr), some (.ref D), some (.str n), some (.int (dd : Int))] : L2.St) = [some (.ref st), some (.ref d), some (.bl fr), some (.ref D), v4, v5] := ⟨G6, S6, _, _, _, rfl, by rw [et]; exact hc6.skip, sb5.trans (.of e6), rfl⟩
          have put : ∀ x : Ch, (x = .add ∨ x = .take) → (fr = true → x ≠ .take) → ∃ H4, DPut (sH G6 s st S6) D (.str n) x.v H4 ∧ ∃ G7 S7 o7 v4 v5, H4 = sH G7 s st S7 ∧ ChH wd fr (ms1 ++ ms2 ++ wd.reserves.take (i + 1)) G0 s st D (b + 10 + ms1.length + 10 + ms2.length + (i + 1)) o7 S7 G7 ∧ SameBut D G4 G7 ∧ ([some (V.ref st), some (.ref d), some (.bl fr), some (.ref D), some (.str n), some (.int (dd : Int))] : L2.St) = [some (.ref st), some (.ref d), some (.bl fr), some (.ref D), v4, v5] := by
            intro x hx hf
            obtain ⟨H4, hp, G7, rfl, hc7, sb7⟩ := hc6.put nDs nDst il2 ndi (x := x) (.inr (.inr ⟨hnr, hx⟩)) (fun h _ => hf h)
            exact ⟨_, hp, G7, S6, _, _, _, rfl, by rw [et]; exact hc7, (sb5.trans (.of e6)).trans sb7, rfl⟩
          by_cases h0 : dd = 0
          · rw [if_pos (decide_eq_true (by rw [h0]; rfl))]
            walk_at "rd"
            cases fr with
            | false =>
              walk_at "rd"
              obtain ⟨H4, hp, z⟩ := put .take (.inr rfl) (fun h => by cases h)
              exact ⟨D, H4, rfl, hp, z⟩
            | true =>
              walk_at "rd"
              refine ifF (decide_eq_false (fun h => by have := V.int.inj h; omega)) ?_
              walk_at "rd"
              exact skip
          · rw [if_neg (fun h => h0 (by have := V.int.inj (of_decide_eq_true h); omega))]
            walk_at "rd"
            by_cases h1 : dd = 1
            · rw [if_pos (decide_eq_true (by rw [h1]; rfl))]
              walk_at "rd"
              obtain ⟨H4, hp, z⟩ := put .add (.inl rfl) (fun _ h => by cases h)
              exact ⟨D, H4, rfl, hp, z⟩
            · rw [if_neg (fun h => h1 (by have := V.int.inj (of_decide_eq_true h); omega))]
              walk_at "rd"
              exact skip
        · rintro σ H2 ⟨G5, S5, o5, v4, v5, rfl, hc5, sb5, rfl⟩
          rw [List.length_map, List.take_length] at hc5
          walk_at "rd"
          refine q _ o5 _ _ (fun a x h => hc5.sb a x (ne_of_none h nDG) (e0 a x h)) (hc5.sa.more (by omega)) ⟨D, rfl, hc5.at_⟩ ⟨hc5.ch.1.nodup ndm, ?_, ?_⟩ hc5.ch.2.1 hc5.ch.2.2
          · have h1 := hc5.ch.1.length_le
            rw [List.length_map, List.length_append, List.length_append] at h1
            omega
          · intro pp hpp
            have hm : pp.1 ∈ ms1 ++ ms2 ++ wd.reserves := hc5.ch.1.subset (List.mem_map.mpr ⟨pp, hpp, rfl⟩)
            refine ok.nm _ ?_
            rcases List.mem_append.mp hm with hm | hm
            · rcases List.mem_append.mp hm with hm | hm
              · exact List.mem_append.mpr (.inl (List.mem_append.mpr (.inl (pm1.mem_iff.mp hm))))
              · exact List.mem_append.mpr (.inl (List.mem_append.mpr (.inr (pm2.mem_iff.mp hm))))
            · exact List.mem_append.mpr (.inr hm)
/-! ### an action, drawn -/
def spLAction : Sp := fun vs H Q _ => ∃ st s d f p r w nm G S b, vs = [.ref st, .ref d, .str nm, .int 2] ∧ H = sH G s st S ∧ SA G s st S b ∧ b < 50000 ∧ LwAt G d f p r w ∧ LsOk w ∧ w.facts.length + w.piles.length + w.reserves.length ≤ 3 ∧
  ∀ v A S2 G2, Same G G2 → SA G2 s st S2 (b + 200) → rLAct G2 v (nm, A) → ActOk w A → Q v (sH G2 s st S2)
theorem c_l_action (T : Txt K mg c) : Cal P w K mg base 6 "_law_action" (spLAction) [] := by
    refine cal_of T.d_l_action sc_l_action (by walk_at "len") (fun f cdv A outer sh H vs Q E hr h => ?_)
    have nd := sc_l_action.nd
    obtain ⟨st, s, d, f, p, r, wd, nm, G, S, b, rfl, rfl, hA, hb, W, ok, h3, q⟩ := h
    refine ⟨_, (pss_cons (ps_set (i := 4) nd rfl (.inl rfl) (pe_op op_add pe_int (C8.pe_c (c_l_draw T) hr (by first | decide | exact Nat.le_refl _ | omega) rfl (pa_cons (pv 0) (pa_cons (pv 3) pa_nil)))))
        (pss_cons (ps_set (i := 5) nd rfl (.inr rfl) (C8.pe_c (c_l_draw T) hr (by first | decide | exact Nat.le_refl _ | omega) rfl (pa_cons (pv 0) (pa_cons (pv 4) pa_nil))))
        (pss_cons (ps_set (i := 6) nd rfl (.inl rfl) (C8.pe_c (c_l_condition T 2) hr (by first | decide | exact Nat.le_refl _ | omega) rfl (pa_cons (pv 0) (pa_cons (C8.pe_c (c_l_seen T) hr (by first | decide | exact Nat.le_refl _ | omega) rfl (pa_cons (pv 1) pa_nil)) (pa_cons pe_int pa_nil)))))
        (pss_one (ps_ret (pe_lst (pa_cons (pv 2) (pa_cons (pv 6) (pa_cons (pe_lc (own := [("_law_k", 7)]) (g := gName 7) rfl nd (pi_range1 (by rfl) T.g_range (pa_cons (pv 4) pa_nil)) (blkOk_by (own := [("_law_k", 7)]) (N := N_l_action) (sc := fnScope s_l_action) (by decide +kernel)) (fun _ _ _ _ _ => (pg_name (i := 7) nd rfl (.inl rfl))) (fun _ _ _ _ _ => pts_nil) (fun _ _ _ _ _ => pe_hide (C8.pe_c (c_l_changes T) hr (by first | decide | exact Nat.le_refl _ | omega) rfl (pa_cons (pv 0) (pa_cons (pv 1) (pa_cons (pe_cmpR op_eq (pv 7) (pv 5) (nomark _)) pa_nil)))))) pa_nil))))))))), ?_⟩
    have nf := ok.nf
    have np := ok.np
    walk_at "rd"
    refine i_draw (many := 2) hA (by decide) (by decide) (by omega) fun d1 S1 G1 e1 hA1 hd1 => ?_
    refine ⟨_, _, rfl, rfl, ?_⟩
    walk_at "rd"
    rw [show ((fun i j : Int => V.int (i + j)) 1 (d1 : Int)) = V.int ((1 + d1 : Nat) : Int) from congrArg V.int (by omega)]
    refine i_draw (many := 1 + d1) hA1 (by omega) (by omega) (by omega) fun d2 S2 G2 e2 hA2 hd2 => ?_
    walk_at "rd"
    have W2 := W.same (e1.trans e2)
    refine ⟨d, f, p, r, wd, rfl, W2.same hA2.same, by omega, fun l nl => ?_⟩
    obtain ⟨eN, eL, hAL⟩ := hA2.new (o := .lst ((wd.facts ++ wd.piles).map V.str)) nl
    rw [eN]
    have hl : upd G2 l (.lst ((wd.facts ++ wd.piles).map V.str)) l = some (.lst ((wd.facts ++ wd.piles).map V.str)) := upd_same
    have W3 := W2.same eL
    have e3 := (e1.trans e2).trans eL
    generalize upd G2 l (.lst ((wd.facts ++ wd.piles).map V.str)) = G3 at eL hAL hl W3 e3
    walk_at "rd"
    refine ⟨st, s, _, 1, wd.facts ++ wd.piles, G3, S2, _, rfl, rfl, hAL, by omega, ⟨l, rfl, hl⟩, by rw [List.length_append]; omega, fun m hm => ok.nm m (List.mem_append.mpr (.inl hm)), by decide, by decide, fun v t S4 G4 e4 hA4 ht hdep hnm => ?_⟩
    walk_at "rd"
    have e04 := e3.trans e4
    have W4 := W3.same e4
    refine ⟨_, rfl, _, rfl, by omega, by omega, fun D nD => ?_⟩
    rw [show (((1 + d1 : Nat) : Int)).toNat = 1 + d1 by omega]
    refine lc_st (kb := 30) rChg (fun i o => ChgOk o ∧ (∀ p ∈ o, Fits wd p) ∧ (i = d2 → ∀ p ∈ o, p.1 ∈ wd.reserves → p.2 ≠ .take)) hA4 nD (by omega) (fun x => rfl) (fun i G5 S5 hi e5 hA5 Q hQ => ?_) (fun G5 S5 zs xs e5 hA5 hz hp hxl hP => ?_)
    · walk_at "rd"
      have hfr : V.bl (decide (V.int (i : Int) = V.int (d2 : Int))) = V.bl (decide (i = d2)) := by
        congr 1
        exact decide_eq_decide.mpr ⟨fun h => by have := V.int.inj h; omega, fun h => by rw [h]⟩
      rw [hfr]
      refine ⟨st, s, d, f, p, r, wd, _, G5, S5, _, rfl, rfl, hA5, by omega, W4.same e5, ok, h3, fun v o S6 G6 e6 hA6 ho hok hfit hfree => ?_⟩
      refine hQ v o G6 S6 e6 (hA6.more (by omega)) ho ⟨hok, hfit, fun hi => hfree (decide_eq_true hi)⟩
    · refine ⟨show 3 ≤ sizeLine by decide, fun pl npl => ?_⟩
      obtain ⟨eN2, eL2, hAL2⟩ := hA5.new (o := .lst [.str nm, v, .ref D]) npl
      rw [eN2]
      have hlen2 : xs.length ≤ 2 := by omega
      have hget : ∀ o ∈ xs, ∃ i, xs[i]? = some o := fun o ho => by
        obtain ⟨i, hi, rfl⟩ := List.getElem_of_mem ho
        exact ⟨i, List.getElem?_eq_getElem hi⟩
      refine q _ ⟨t, xs⟩ _ _ ((e04.trans e5).trans eL2) (hAL2.more (by omega)) ⟨pl, v, .ref D, rfl, upd_same, mono ht (e5.trans eL2), D, zs, rfl, eL2 _ _ hz, paired_mono eL2 hp⟩ ⟨?_, hlen2, hdep, hnm, fun o ho => ?_, fun o ho pp hpp => ?_, ?_⟩
      · intro z
        have z : xs = [] := z
        rw [z] at hxl
        simp at hxl
        omega
      · obtain ⟨i, hi⟩ := hget o ho
        exact (hP i o hi).1
      · obtain ⟨i, hi⟩ := hget o ho
        exact (hP i o hi).2.1 pp hpp
      · have hlt : d2 < xs.length := by omega
        refine ⟨xs[d2], List.getElem_mem hlt, fun rr hrr hch => ?_⟩
        have hm : (rr, Ch.take) ∈ xs[d2] := gt_mem (show gt xs[d2] rr = some Ch.take from hch)
        exact (hP d2 _ (List.getElem?_eq_getElem hlt)).2.2 rfl _ hm hrr rfl
/-! ### the law's world, drawn -/
/-- the law's world while it is made -/
def lwD (f p r a : Addr) : List (Key × V) := [(.inr "facts", .ref f), (.inr "piles", .ref p), (.inr "reserves", .ref r), (.inr "actions", .ref a)]
theorem ky_fp : ¬ (Sum.inr "facts" : Key) = .inr "piles" := by decide +kernel
theorem ky_fr : ¬ (Sum.inr "facts" : Key) = .inr "reserves" := by decide +kernel
theorem ky_fa : ¬ (Sum.inr "facts" : Key) = .inr "actions" := by decide +kernel
theorem ky_fg : ¬ (Sum.inr "facts" : Key) = .inr "goal" := by decide +kernel
theorem ky_fs : ¬ (Sum.inr "facts" : Key) = .inr "start" := by decide +kernel
theorem ky_pf : ¬ (Sum.inr "piles" : Key) = .inr "facts" := by decide +kernel
theorem ky_pr : ¬ (Sum.inr "piles" : Key) = .inr "reserves" := by decide +kernel
theorem ky_pa : ¬ (Sum.inr "piles" : Key) = .inr "actions" := by decide +kernel
theorem ky_pg : ¬ (Sum.inr "piles" : Key) = .inr "goal" := by decide +kernel
theorem ky_ps : ¬ (Sum.inr "piles" : Key) = .inr "start" := by decide +kernel
theorem ky_rf : ¬ (Sum.inr "reserves" : Key) = .inr "facts" := by decide +kernel
theorem ky_rp : ¬ (Sum.inr "reserves" : Key) = .inr "piles" := by decide +kernel
theorem ky_ra : ¬ (Sum.inr "reserves" : Key) = .inr "actions" := by decide +kernel
theorem ky_rg : ¬ (Sum.inr "reserves" : Key) = .inr "goal" := by decide +kernel
theorem ky_rs : ¬ (Sum.inr "reserves" : Key) = .inr "start" := by decide +kernel
theorem ky_af : ¬ (Sum.inr "actions" : Key) = .inr "facts" := by decide +kernel
theorem ky_ap : ¬ (Sum.inr "actions" : Key) = .inr "piles" := by decide +kernel
theorem ky_ar : ¬ (Sum.inr "actions" : Key) = .inr "reserves" := by decide +kernel
theorem ky_ag : ¬ (Sum.inr "actions" : Key) = .inr "goal" := by decide +kernel
theorem ky_as : ¬ (Sum.inr "actions" : Key) = .inr "start" := by decide +kernel
theorem ky_gf : ¬ (Sum.inr "goal" : Key) = .inr "facts" := by decide +kernel
theorem ky_gp : ¬ (Sum.inr "goal" : Key) = .inr "piles" := by decide +kernel
theorem ky_gr : ¬ (Sum.inr "goal" : Key) = .inr "reserves" := by decide +kernel
theorem ky_ga : ¬ (Sum.inr "goal" : Key) = .inr "actions" := by decide +kernel
theorem ky_gs : ¬ (Sum.inr "goal" : Key) = .inr "start" := by decide +kernel
theorem ky_sf : ¬ (Sum.inr "start" : Key) = .inr "facts" := by decide +kernel
theorem ky_sp : ¬ (Sum.inr "start" : Key) = .inr "piles" := by decide +kernel
theorem ky_sr : ¬ (Sum.inr "start" : Key) = .inr "reserves" := by decide +kernel
theorem ky_sa : ¬ (Sum.inr "start" : Key) = .inr "actions" := by decide +kernel
theorem ky_sg : ¬ (Sum.inr "start" : Key) = .inr "goal" := by decide +kernel
theorem lwD_merge (f p r a : Addr) : mergeK [] (lwD f p r a) = lwD f p r a := by
  unfold lwD mergeK
  simp only [List.foldl_cons, List.foldl_nil, putK, List.any_nil, List.any_cons, Bool.false_eq_true, if_false, List.nil_append, List.cons_append, decide_eq_false ky_fp, decide_eq_false ky_fr, decide_eq_false ky_fa, decide_eq_false ky_pr, decide_eq_false ky_pa, decide_eq_false ky_ra, Bool.or_false]
theorem lwD_f {f p r a : Addr} : valV (lwD f p r a) (.inr "facts") = some (.ref f) := valV_pos rfl
theorem lwD_p {f p r a : Addr} : valV (lwD f p r a) (.inr "piles") = some (.ref p) := (valV_neg ky_fp).trans (valV_pos rfl)
theorem lwD_r {f p r a : Addr} : valV (lwD f p r a) (.inr "reserves") = some (.ref r) := (valV_neg ky_fr).trans ((valV_neg ky_pr).trans (valV_pos rfl))
theorem lwD_a {f p r a : Addr} : valV (lwD f p r a) (.inr "actions") = some (.ref a) := (valV_neg ky_fa).trans ((valV_neg ky_pa).trans ((valV_neg ky_ra).trans (valV_pos rfl)))
theorem cut_lo {xs : List V} {k : Nat} : cutV xs none (some (k : Int)) = xs.take k := by
  unfold cutV
  rw [HT.sIx_none, HT.sIx_nat, List.drop_zero, Nat.sub_zero, ← List.take_eq_take_min]
theorem cut_mid {xs : List V} {j k : Nat} (h : j ≤ k) (hk : k ≤ xs.length) : cutV xs (some (j : Int)) (some (k : Int)) = (xs.drop j).take (k - j) := by
  unfold cutV
  rw [HT.sIx_nat, HT.sIx_nat, Nat.min_eq_left hk, Nat.min_eq_left (Nat.le_trans h hk)]
theorem cut_hi {xs : List V} {k : Nat} (hk : k ≤ xs.length) : cutV xs (some (k : Int)) none = xs.drop k := by
  unfold cutV
  rw [HT.sIx_nat, HT.sIx_none, Nat.min_eq_left hk, List.take_of_length_le (by rw [List.length_drop]; exact Nat.le_refl _)]
structure LwNew (G : Hp) (d f p r a : Addr) (w : Wd) : Prop where
  ob : G d = some (.dK (lwD f p r a))
  fa : G f = some (.lst (w.facts.map V.str))
  pi : G p = some (.lst (w.piles.map V.str))
  re : G r = some (.lst (w.reserves.map V.str))
  ac : G a = some (.lst [])
  ne : a ≠ f ∧ a ≠ p ∧ a ≠ r
def spLLists : Sp := fun vs H Q _ => ∃ st s fc pc rc G S b, vs = [.ref st, .int ((fc : Nat) : Int), .int ((pc : Nat) : Int), .int ((rc : Nat) : Int)] ∧ H = sH G s st S ∧ SA G s st S b ∧ b < 70000 ∧ fc + pc + rc ≤ 3 ∧ fc ≤ 2 ∧ pc ≤ 1 ∧ rc ≤ 1 ∧ 1 ≤ pc + rc ∧ 1 ≤ fc + pc ∧
  ∀ d f p r a w S2 G2, Same G G2 → SA G2 s st S2 (b + 60) → LwNew G2 d f p r a w → LsOk w → w.acts = [] → w.facts.length = fc → w.piles.length = pc → w.reserves.length = rc → G d = none → G a = none → Q (.ref d) (sH G2 s st S2)
theorem c_l_lists (T : Txt K mg c) : Cal P w K mg base 4 "_law_lists" (spLLists) [] := by
    refine cal_of T.d_l_lists sc_l_lists (by walk_at "len") (fun f cdv A outer sh H vs Q E hr h => ?_)
    have nd := sc_l_lists.nd
    obtain ⟨st, s, fc, pc, rc, G, S, b, rfl, rfl, hA, hb, h3, hf2, hp1, hr1, hc1, hs1, q⟩ := h
    refine ⟨_, (pss_cons (ps_set (i := 4) nd rfl (.inl rfl) (C8.pe_c (c_l_names T) hr (by first | decide | exact Nat.le_refl _ | omega) rfl (pa_cons (pv 0) (pa_cons (pe_op op_add (pe_op op_add (pv 1) (pv 2)) (pv 3)) (pa_cons (pe_lst pa_nil) pa_nil)))))
        (pss_one (ps_ret (pe_disp (pps_cons pe_str (pe_slice (kSlL K rfl) (pv 4) po_none (po_some (pv 1))) (pps_cons pe_str (pe_slice (kSlL K rfl) (pv 4) (po_some (pv 1)) (po_some (pe_op op_add (pv 1) (pv 2)))) (pps_cons pe_str (pe_slice (kSlL K rfl) (pv 4) (po_some (pe_op op_add (pv 1) (pv 2))) po_none) (pps_cons pe_str (pe_lst pa_nil) pps_nil)))) (by rfl) (by rfl) (fun z => by cases z) (by decide))))), ?_⟩
    walk_at "rd"
    refine ⟨_, _, rfl, rfl, _, rfl, _, _, rfl, rfl, ?_⟩
    walk_at "rd"
    refine ⟨Nat.zero_le _, fun el nel => ?_⟩
    obtain ⟨eN, e1, hA1⟩ := hA.new (o := .lst []) nel
    rw [eN]
    have hel : upd G el (.lst []) el = some (.lst []) := upd_same
    generalize upd G el (.lst []) = G1 at e1 hA1 hel
    rw [show ((fun i j : Int => V.int (i + j)) ((fc : Int) + (pc : Int)) (rc : Int)) = V.int ((fc + pc + rc : Nat) : Int) from congrArg V.int (by omega)]
    refine ⟨st, s, fc + pc + rc, _, [], G1, S, b, rfl, rfl, hA1, by omega, h3, ⟨el, rfl, hel⟩, by decide, fun v ns S2 G2 e2 hA2 ⟨nl, ev, hnl⟩ hlen hnd hnm => ?_⟩
    subst ev
    have hnd : ns.Nodup := hnd.elim id (fun h => absurd List.nodup_nil h)
    have hml : (ns.map V.str).length = fc + pc + rc := by rw [List.length_map]; exact hlen
    walk_at "rd"
    intro D nD
    obtain ⟨eN, e3, hA3⟩ := hA2.new (o := .dK []) nD
    obtain ⟨nD1, nDst⟩ := none_of_upd nD
    obtain ⟨nDG2, nDs⟩ := none_of_upd nD1
    rw [eN]
    have hD3 : upd G2 D (.dK []) D = some (.dK []) := upd_same
    have nDG : G D = none := none_back (e1.trans e2) nDG2
    generalize upd G2 D (.dK []) = G3 at e3 hA3 hD3
    have hnl3 := e3 _ _ hnl
    walk_at "rd"
    refine ⟨_, rfl, _, rfl, _, rfl, nl, ns.map V.str, rfl, SqL.of (hA3.lst hnl3), fun pf npf => ?_⟩
    obtain ⟨eN, e4, hA4⟩ := hA3.new (o := .lst (cutV (ns.map V.str) none (some (fc : Int)))) npf
    rw [eN]
    have hpf : upd G3 pf (.lst (cutV (ns.map V.str) none (some (fc : Int)))) pf = some (.lst ((ns.take fc).map V.str)) := by rw [upd_same, cut_lo, List.map_take]
    generalize upd G3 pf (.lst (cutV (ns.map V.str) none (some (fc : Int)))) = G4 at e4 hA4 hpf
    refine ⟨_, rfl, _, rfl, _, rfl, _, rfl, _, rfl, _, _, rfl, rfl, _, rfl, nl, ns.map V.str, rfl, SqL.of (hA4.lst (e4 _ _ hnl3)), fun pp npp => ?_⟩
    obtain ⟨eN, e5, hA5⟩ := hA4.new (o := .lst (cutV (ns.map V.str) (some (fc : Int)) (some ((fc : Int) + (pc : Int))))) npp
    rw [eN]
    have hpp : upd G4 pp (.lst (cutV (ns.map V.str) (some (fc : Int)) (some ((fc : Int) + (pc : Int))))) pp = some (.lst (((ns.drop fc).take pc).map V.str)) := by
      rw [upd_same, show (fc : Int) + (pc : Int) = ((fc + pc : Nat) : Int) by omega, cut_mid (by omega) (by omega), List.map_take, List.map_drop, show fc + pc - fc = pc by omega]
    generalize upd G4 pp (.lst (cutV (ns.map V.str) (some (fc : Int)) (some ((fc : Int) + (pc : Int))))) = G5 at e5 hA5 hpp
    refine ⟨_, rfl, _, rfl, _, rfl, _, _, rfl, rfl, _, rfl, nl, ns.map V.str, rfl, SqL.of (hA5.lst (e5 _ _ (e4 _ _ hnl3))), fun pr npr => ?_⟩
    obtain ⟨eN, e6, hA6⟩ := hA5.new (o := .lst (cutV (ns.map V.str) (some ((fc : Int) + (pc : Int))) none)) npr
    rw [eN]
    have hpr : upd G5 pr (.lst (cutV (ns.map V.str) (some ((fc : Int) + (pc : Int))) none)) pr = some (.lst ((ns.drop (fc + pc)).map V.str)) := by
      rw [upd_same, show (fc : Int) + (pc : Int) = ((fc + pc : Nat) : Int) by omega, cut_hi (by omega), List.map_drop]
    generalize upd G5 pr (.lst (cutV (ns.map V.str) (some ((fc : Int) + (pc : Int))) none)) = G6 at e6 hA6 hpr
    refine ⟨Nat.zero_le _, fun pa npa => ?_⟩
    obtain ⟨eN, e7, hA7⟩ := hA6.new (o := .lst []) npa
    obtain ⟨npa1, npast⟩ := none_of_upd npa
    obtain ⟨npaG, npas⟩ := none_of_upd npa1
    rw [eN]
    have hpa : upd G6 pa (.lst []) pa = some (.lst []) := upd_same
    have e37 := e4.trans (e5.trans (e6.trans e7))
    have npaG3 : G3 pa = none := none_back (e4.trans (e5.trans e6)) npaG
    have npaf : pa ≠ pf := Ne.symm (ne_of_none (e6 _ _ (e5 _ _ hpf)) npaG)
    have npap : pa ≠ pp := Ne.symm (ne_of_none (e6 _ _ hpp) npaG)
    have npar : pa ≠ pr := Ne.symm (ne_of_none hpr npaG)
    have npaD : pa ≠ D := Ne.symm (ne_of_none hD3 npaG3)
    generalize upd G6 pa (.lst []) = G7 at e7 hA7 hpa e37
    have hD7 := e37 _ _ hD3
    refine ⟨hA7.lst hD7, lwD pf pp pr pa, rfl, by show 4 ≤ 15; decide, ?_⟩
    rw [lwD_merge]
    obtain ⟨eP, hA8⟩ := hA7.put (o := .dK (lwD pf pp pr pa)) nDs nDst
    rw [eP]
    have keep : ∀ {a : Addr} {xs : List V}, G7 a = some (.lst xs) → upd G7 D (.dK (lwD pf pp pr pa)) a = some (.lst xs) := fun {a xs} h => by
      rw [upd_ne (fun z => by rw [z, hD7] at h; cases h)]
      exact h
    have hsplit : ns = ns.take fc ++ (ns.drop fc).take pc ++ ns.drop (fc + pc) := by
      rw [List.append_assoc, show ns.drop (fc + pc) = (ns.drop fc).drop pc by rw [List.drop_drop], List.take_append_drop, List.take_append_drop]
    refine q D pf pp pr pa ⟨ns.take fc, (ns.drop fc).take pc, ns.drop (fc + pc), []⟩ S2 _ (fun b o h => ?_) (hA8.more (by omega)) ⟨upd_same, keep (e7 _ _ (e6 _ _ (e5 _ _ hpf))), keep (e7 _ _ (e6 _ _ hpp)), keep (e7 _ _ hpr), keep hpa, npaf, npap, npar⟩ ⟨?_, ?_, ?_, ?_, ?_, ?_, ?_⟩ rfl ?_ ?_ ?_ nDG (none_back ((e1.trans e2).trans e3) npaG3)
    · rw [upd_ne (ne_of_none h nDG)]
      exact e37 _ _ (e3 _ _ (e2 _ _ (e1 _ _ h)))
    · show (ns.take fc).length ≤ 2
      rw [List.length_take]
      omega
    · show ((ns.drop fc).take pc).length ≤ 1
      rw [List.length_take]
      omega
    · show (ns.drop (fc + pc)).length ≤ 1
      rw [List.length_drop]
      omega
    · show (ns.take fc ++ (ns.drop fc).take pc ++ ns.drop (fc + pc)).Nodup
      rw [← hsplit]
      exact hnd
    · show ∀ n ∈ ns.take fc ++ (ns.drop fc).take pc ++ ns.drop (fc + pc), isName n = true
      rw [← hsplit]
      exact hnm
    · intro z
      have z := congrArg List.length (show ns.take fc ++ (ns.drop fc).take pc = [] from z)
      simp only [List.length_append, List.length_take, List.length_drop, List.length_nil] at z
      omega
    · intro z
      have z := congrArg List.length (show (ns.drop fc).take pc ++ ns.drop (fc + pc) = [] from z)
      simp only [List.length_append, List.length_take, List.length_drop, List.length_nil] at z
      omega
    · show (ns.take fc).length = fc
      rw [List.length_take]
      omega
    · show ((ns.drop fc).take pc).length = pc
      rw [List.length_take, List.length_drop]
      omega
    · show (ns.drop (fc + pc)).length = rc
      rw [List.length_drop]
      omega
/-! ### the package's world, made of the law's -/
theorem pk_none_of {α : Type} {F : V → α → Prop} {kvs : List (Key × V)} {l : List (Str × α)} {n : Str} (h : PK F kvs l) (hn : n ∉ l.map (·.1)) : valV kvs (Sum.inr n) = none := pk_none h (gt_none.mpr hn)
def spLMade (c : Cs) : Sp := fun vs H Q _ => ∃ d f p r a w, vs = [.ref d] ∧ LwAll H d f p r a w ∧ WdOk w ∧ w.acts ≠ [] ∧ ∀ v H', Same H H' → rWo c H' v w → Q v H'
theorem c_l_made (T : Txt K mg c) : Cal P w K mg base 10 "_law_made" (spLMade c) [] := by
    refine cal_of T.d_l_made sc_l_made (by walk_at "len") (fun f cdv A outer sh H vs Q E hr h => ?_)
    have nd := sc_l_made.nd
    obtain ⟨d, f, p, r, ac, wd, rfl, WA, ok, hne, q⟩ := h
    refine ⟨_, (pss_cons (ps_set (i := 1) nd rfl (.inl rfl) (C8.pe_mk (k_World3 T) hr (by first | decide | exact Nat.le_refl _ | omega) rfl (pa_cons (pe_dget (by exact hu_of hr) (pv 0) pe_str (fun _ _ => rfl)) (pa_cons (pe_callTy (kTup K rfl) (by rfl) T.g_tuple (by decide +kernel) (pa_cons (pe_dget (by exact hu_of hr) (pv 0) pe_str (fun _ _ => rfl)) pa_nil)) (pa_cons (pe_dget (by exact hu_of hr) (pv 0) pe_str (fun _ _ => rfl)) pa_nil)))))
        (pss_cons (ps_for PassesOwn.never rfl (pi_listK K rfl (pe_dget (by exact hu_of hr) (pv 0) pe_str (fun _ _ => rfl))) (pg_unl rfl (pgs_cons (pg_name (i := 2) nd rfl (.inl rfl)) (pgs_cons (pg_name (i := 3) nd rfl (.inl rfl)) (pgs_cons (pg_name (i := 4) nd rfl (.inl rfl)) pgs_nil)))) (pss_one (ps_asg (pe_hide (C8.pe_mk (k_Action T) hr (by first | decide | exact Nat.le_refl _ | omega) rfl (pa_cons (C8.pe_c (c_l_built T 3) hr (by first | decide | exact Nat.le_refl _ | omega) rfl (pa_cons (pv 3) pa_nil)) (pa_cons (pe_lc (own := [("_law_changes_here", 5)]) (g := gName 5) rfl nd (pi_listK K rfl (pv 4)) (blkOk_by (own := [("_law_changes_here", 5)]) (N := N_l_made) (sc := fnScope s_l_made) (by decide +kernel)) (fun _ _ _ _ _ => (pg_name (i := 5) nd rfl (.inl rfl))) (fun _ _ _ _ _ => pts_nil) (fun _ _ _ _ _ => pe_hide (C8.pe_mk (k_Outcome T) hr (by first | decide | exact Nat.le_refl _ | omega) rfl (pa_cons (pe_callTy call_dictD (by rfl) T.g_dict (by decide +kernel) (pa_cons (pv 5) pa_nil)) pa_nil)))) pa_nil)))) (pg_sub (pv 1) (pv 2) (set_own (m_World_setitem T) T.sqW hr (by first | decide | exact Nat.le_refl _ | omega))))))
        (pss_one (ps_ret (pv 1))))), ?_⟩
    have W := WA.1
    walk_at "rd"
    refine ⟨d, _, rfl, W.gf, ?_⟩
    walk_at "rd"
    refine ⟨d, _, rfl, W.gp, ?_⟩
    walk_at "rd"
    refine ⟨p, _, rfl, .inl ⟨SqL.of W.pi, fun tp ntp => ?_⟩⟩
    have e1 : Same H (upd H tp (.tup (wd.piles.map V.str))) := same_new ntp
    have htp : upd H tp (.tup (wd.piles.map V.str)) tp = some (.tup (wd.piles.map V.str)) := upd_same
    generalize upd H tp (.tup (wd.piles.map V.str)) = H1 at e1 htp
    have W1 := W.same e1
    walk_at "rd"
    refine ⟨d, _, rfl, W1.gr, ?_⟩
    walk_at "rd"
    intro x dx nx ndx ne
    have ok0 : LsOk { wd with acts := [] } := ⟨ok.nf, ok.np, ok.nr, ok.nd, ok.nm, ok.sn, ok.cn⟩
    refine ⟨x, dx, _, _, _, _, { wd with acts := [] }, H1, rfl, same_made nx ndx (Same.refl _), nx, upd_same, ⟨f, rfl, .inl W1.fa⟩, ⟨tp, rfl, .inr htp⟩, ⟨r, rfl, .inl W1.re⟩, ok0, Nat.zero_le _, List.nodup_nil, .inl ⟨rfl, rfl⟩, ?_⟩
    intro H2 f2 p2 r2 t2 kvs2 nt2 e2 W2 ht2 hk2
    refine ⟨rfl, ?_⟩
    obtain rfl : kvs2 = [] := by
      cases hk2
      rfl
    have g2 : Same H1 (off H2 t2) := fun b o h => by
      rw [off_ne (ne_of_none h nt2)]
      exact e2 _ _ h
    have Wo : WdAt c (off H2 t2) x dx f2 p2 r2 t2 { wd with acts := [] } := ⟨by rw [off_ne (fun z => by have h := W2.ob; rw [z, ht2] at h; cases h)]; exact W2.ob, by rw [off_ne (fun z => by have h := W2.fa; rw [z, ht2] at h; cases h)]; exact W2.fa, by rw [off_ne (fun z => by have h := W2.pi; rw [z, ht2] at h; cases h)]; exact W2.pi, by rw [off_ne (fun z => by have h := W2.re; rw [z, ht2] at h; cases h)]; exact W2.re⟩
    obtain ⟨_, zs, ez, hl, hzs⟩ := WA.2.2
    cases ez
    have hl1 := e1 _ _ hl
    have hzs1 := paired_mono e1 hzs
    have nac : ac ≠ t2 := ne_of_none hl1 nt2
    have hna := ok.na
    have hzl := paired_len hzs
    walk_at "rd"
    refine ⟨_, _, rfl, (WA.same (e1.trans e2)).ga, ac, rfl, ⟨_, SqL.of (e2 _ _ hl1)⟩, ?_⟩
    refine for_w (walk_list (xs := zs)) (fun i σ H' => ∃ G kvs v2 v3 v4 v5, H' = upd G t2 (.dK kvs) ∧ G t2 = none ∧ Same H1 G ∧ WdAt c G x dx f2 p2 r2 t2 { wd with acts := [] } ∧ PK (rAct c G) kvs (wd.acts.take i) ∧ σ = [some (.ref d), some (.ref x), v2, v3, v4, v5]) ⟨off H2 t2, [], _, _, _, _, off_self ht2, off_at, g2, Wo, .nil, rfl⟩ (fun i σ H' _ ⟨G, kvs, _, _, _, _, eH, _, s, _⟩ => SqL.of (by rw [eH, upd_ne nac]; exact s _ _ hl1)) ?_ ?_
    · rintro i y σ H3 H4 hi ⟨G, kvs, v2, v3, v4, v5, rfl, nG, eG, WG, hk, rfl⟩ ⟨rfl, hy⟩
      obtain ⟨A', hA, ry⟩ := paired_get hzs1 hy
      have hAm : A' ∈ wd.acts := List.mem_of_getElem? hA
      obtain ⟨hnm, hok⟩ := ok.acts _ hAm
      obtain ⟨z, xn, xo, rfl, hz, hzt, hzo⟩ := mono ry eG
      obtain ⟨lo, os, rfl, hlo, hos⟩ := hzo
      have nz : z ≠ t2 := ne_of_none hz nG
      refine ⟨z, _, rfl, SqL.of (by rw [upd_ne nz]; exact hz), rfl, ?_⟩
      refine ⟨_, _, rfl, ⟨_, _, rfl, ⟨_, _, rfl, rfl, ?_⟩⟩⟩
      walk_at "rd"
      refine ⟨G, t2, .dK kvs, rfl, nG, trivial, ?_⟩
      walk_at "rd"
      have nmo : ∀ m ∈ A'.2.need.names, isName m = true := fun m hm => ok.nm m (List.mem_append.mpr (.inl (hok.need m hm)))
      refine ⟨_, _, rfl, hzt, by have := hok.dep; omega, hok.dep, nmo, fun v G3 e3 rv => ?_⟩
      walk_at "rd"
      have hlo3 := e3 _ _ hlo
      have hos3 := paired_mono e3 hos
      refine ⟨_, rfl, lo, rfl, ⟨_, SqL.of hlo3⟩, fun D nD => ?_⟩
      have hol := hok.len
      refine lc_wm (walk_list (xs := os)) rChg (rOut c) (ys := A'.2.outs) id (paired_len hos3) (fun H' s => SqL.of (s _ _ hlo3)) (yat_of rChg hos3) (by omega) nD (fun x => rfl) (fun y o G5 sm hy hm Q hQ => ?_) (fun G5 us sm hus hp => ?_)
      · obtain ⟨dd, rfl, hdd⟩ := hy
        walk_at "rd"
        refine ⟨dd, _, rfl, .inl hdd, fun p6 np6 => ?_⟩
        walk_at "rd"
        exact i_mkO upd_same (hok.ok o hm) fun v H' s r => hQ v H' ((same_new np6).trans s) r
      · rw [List.map_id] at hp
        walk_at "rd"
        intro xa dxa nxa ndxa nea
        have hol5 : rLst (rOut c) G5 (.ref D) A'.2.outs := ⟨D, us, rfl, hus, hp⟩
        refine ⟨xa, dxa, v, .ref D, A'.2.need, A'.2.outs, G5, rfl, same_made nxa ndxa (Same.refl _), nxa, upd_same, mono rv sm, hol5, hok.ne, hok.len, fun G6 p6 e6 h1 h3 => ⟨rfl, trivial, fun n6 => ?_⟩⟩
        have r6 : rAct c G6 (.ref xa) A'.2 := ⟨xa, dxa, v, p6, rfl, h1, mono rv (sm.trans e6), h3, hok.ne, hok.len⟩
        have e36 := e3.trans (sm.trans e6)
        have WG6 := WG.mono (.of e36)
        have hnew : A'.1 ∉ (wd.acts.take i).map (·.1) := by
          rw [List.map_take]
          exact nodup_take_not ok.nda (by rw [List.getElem?_map, hA]; rfl)
        have hk6 := pk_mono e36 hk
        have hkl := pk_len hk
        refine ⟨_, rfl, _, rfl, x, dx, _, rfl, (by rw [upd_ne (ne_of_none WG6.ob n6)]; exact WG6.ob), ?_⟩
        refine ⟨x, dx, f2, p2, r2, t2, kvs, { wd with acts := [] }, A'.1, .ref xa, A'.2, G6, rfl, rfl, n6, WG6, ok0, hnm, r6, ⟨hok.ne, hok.len, hok.dep, hok.need, hok.ok, hok.fit, hok.free⟩, pk_none_of hk6 hnew, by rw [hkl, List.length_take]; omega, fun G7 v7 e7 n7 r7 => ?_⟩
        refine ⟨G7, _, _, _, _, _, rfl, n7, eG.trans (e36.trans e7), WG6.mono (.of e7), ?_, rfl⟩
        rw [take_more hA]
        exact (pk_put (F := rAct c G7) (pk_mono e7 hk6) hnew r7).2
    · rintro σ H3 ⟨G, kvs, v2, v3, v4, v5, rfl, nG, eG, WG, hk, rfl⟩
      rw [hzl, List.take_length] at hk
      walk_at "rd"
      have eF : Same G (upd G t2 (.dK kvs)) := same_new nG
      refine q _ _ (e1.trans (eG.trans eF)) ⟨x, dx, f2, p2, r2, t2, kvs, rfl, ⟨eF _ _ WG.ob, eF _ _ WG.fa, eF _ _ WG.pi, eF _ _ WG.re⟩, upd_same, pk_mono eF hk, ok⟩
/-! ### the task of the package -/
def spLSet (c : Cs) : Sp := fun vs H Q _ => ∃ d f p r a w ys yg sta gl, vs = [.ref d] ∧ LwAll H d f p r a w ∧ WdOk w ∧ w.acts ≠ [] ∧ (∃ kvs, Rd H d (.dK kvs) ∧ valV kvs (Sum.inr "start") = some ys ∧ valV kvs (Sum.inr "goal") = some yg) ∧ rTree H ys sta ∧ rTree H yg gl ∧ sta.depth ≤ 2 ∧ gl.depth ≤ 2 ∧ (∀ n ∈ sta.names, n ∈ w.seen) ∧ (∀ n ∈ gl.names, n ∈ w.seen) ∧ ∀ v H', Same H H' → rTk2 c H' v ⟨w, sta, gl⟩ → Q v H'
theorem c_l_set (T : Txt K mg c) : Cal P w K mg base 11 "_law_set" (spLSet c) [] := by
    refine cal_of T.d_l_set sc_l_set (by walk_at "len") (fun f cdv A outer sh H vs Q E hr h => ?_)
    have nd := sc_l_set.nd
    obtain ⟨d, f, p, r, ac, wd, ys, yg, sta, gl, rfl, WA, ok, hne, ⟨kvs, hk, hks, hkg⟩, hys, hyg, ds, dg, ns, ng, q⟩ := h
    refine ⟨_, (pss_one (ps_ret (C8.pe_mk (k_Task T) hr (by first | decide | exact Nat.le_refl _ | omega) rfl (pa_cons (C8.pe_c (c_l_made T) hr (by first | decide | exact Nat.le_refl _ | omega) rfl (pa_cons (pv 0) pa_nil)) (pa_cons (C8.pe_c (c_l_built T 3) hr (by first | decide | exact Nat.le_refl _ | omega) rfl (pa_cons (pe_dget (by exact hu_of hr) (pv 0) pe_str (fun _ _ => rfl)) pa_nil)) (pa_cons (C8.pe_c (c_l_built T 3) hr (by first | decide | exact Nat.le_refl _ | omega) rfl (pa_cons (pe_dget (by exact hu_of hr) (pv 0) pe_str (fun _ _ => rfl)) pa_nil)) pa_nil)))))), ?_⟩
    have nmo : ∀ n ∈ wd.seen, isName n = true := fun m hm => ok.nm m (List.mem_append.mpr (.inl hm))
    walk_at "rd"
    refine ⟨d, f, p, r, ac, wd, rfl, WA, ok, hne, fun v H1 e1 hv => ?_⟩
    walk_at "rd"
    refine ⟨d, _, rfl, dgK ((Ex.of e1).rd hk) hks, ?_⟩
    walk_at "rd"
    refine ⟨_, sta, rfl, mono hys e1, by omega, ds, fun m hm => nmo m (ns m hm), fun v2 H2 e2 hv2 => ?_⟩
    walk_at "rd"
    refine ⟨d, _, rfl, dgK ((Ex.of (e1.trans e2)).rd hk) hkg, ?_⟩
    walk_at "rd"
    refine ⟨_, gl, rfl, mono hyg (e1.trans e2), by omega, dg, fun m hm => nmo m (ng m hm), fun v3 H3 e3 hv3 => ?_⟩
    walk_at "rd"
    exact i_mkT (rWo_same hv (e2.trans e3)) hne (mono hv2 e3) hv3 ns ng fun v H' e r => q v H' ((e1.trans (e2.trans e3)).trans e) r
/-! ### the last comparison -/
theorem join_le (B : Nat) : ∀ ts : List Str, (∀ t ∈ ts, t.length ≤ B) → (Str.join ", " ts).length ≤ ts.length * (B + 2)
  | [], _ => Nat.zero_le _
  | t :: r, h => by
    have h1 := join_length_add (t :: r) (List.cons_ne_nil _ _)
    have h2 : ∀ l : List Str, (∀ t ∈ l, t.length ≤ B) → piled l ≤ l.length * (B + 2) := by
      intro l
      induction l with
      | nil => exact fun _ => Nat.zero_le _
      | cons x l ih =>
        intro hx
        rw [piled_cons, List.length_cons, Nat.succ_mul]
        have := hx x List.mem_cons_self
        have := ih fun y hy => hx y (List.mem_cons_of_mem _ hy)
        omega
    have h3 := h2 _ h
    omega
theorem name_len {s : Str} (h : isName s = true) : s.length ≤ 8 := by
  unfold isName at h
  simp only [Bool.and_eq_true, decide_eq_true_eq] at h
  exact h.1.1.2
theorem name_repr {s : Str} (h : isName s = true) : (reprText s).length ≤ 82 := by
  have h1 := name_len h
  have h2 := StrLaws.reprText_len s fun c hc => by
    have h3 := name_ok h
    unfold PyData.strOk at h3
    rw [Array.all_eq_true'] at h3
    have h4 := of_decide_eq_true (h3 c (Array.mem_toList_iff.mp hc))
    have : (16 : Nat) ^ 8 = 4294967296 := by decide
    omega
  omega
theorem shown_dS {s : List Str} (h : ∀ n ∈ s, isName n = true) (hl : s.length ≤ 3) : (dS s).shown.length ≤ 255 := by
  unfold dS
  rw [PyData.shown_tuple, PyData.shownAll_strs, Str.length_append, Str.length_append]
  have h1 := join_le 82 (s.map reprText) fun t ht => by
    obtain ⟨n, hn, rfl⟩ := List.mem_map.mp ht
    exact name_repr (h n hn)
  rw [List.length_map] at h1
  have h2 : (("(" : String) : Str).length = 1 := rfl
  have h3 : (((if (s.map PyData.str).length == 1 then ",)" else ")" : String)) : Str).length ≤ 2 := by split <;> decide
  omega
theorem shownAll_map {α : Type} (f : α → PyData) : ∀ l : List α, PyData.shownAll (l.map f) = l.map fun x => (f x).shown
  | [] => PyData.shownAll_nil
  | x :: r => by rw [List.map_cons, PyData.shownAll_cons, shownAll_map f r, List.map_cons]
theorem shown_dL {l : List (List Str)} (h : ∀ s ∈ l, (∀ n ∈ s, isName n = true) ∧ s.length ≤ 3) (hl : l.length ≤ 8) : (dL l).shown.length ≤ sizeLine := by
  unfold dL
  rw [PyData.shown_list, shownAll_map, Str.length_append, Str.length_append]
  have h1 := join_le 255 (l.map fun x => (dS x).shown) fun t ht => by
    obtain ⟨s, hs, rfl⟩ := List.mem_map.mp ht
    exact shown_dS (h s hs).1 (h s hs).2
  rw [List.length_map] at h1
  have h2 : (("[" : String) : Str).length = 1 := rfl
  have h3 : (("]" : String) : Str).length = 1 := rfl
  exact big5 (by omega)
theorem showAll_strs : ∀ s : List Str, PyData.showableAll (s.map .str) = true
  | [] => by simp only [List.map_nil, PyData.showableAll]
  | x :: r => by simp only [List.map_cons, PyData.showableAll, PyData.showable, showAll_strs r, Bool.and_self]
theorem show_dL : ∀ l : List (List Str), (dL l).showable = true := fun l => by
  have h : ∀ l : List (List Str), PyData.showableAll (l.map dS) = true := by
    intro l
    induction l with
    | nil => simp only [List.map_nil, PyData.showableAll]
    | cons s r ih => simp only [List.map_cons, PyData.showableAll, dS, PyData.showable, showAll_strs, ih, Bool.and_self]
  unfold dL
  simp only [PyData.showable, h]
theorem noDict_dL : ∀ l : List (List Str), (dL l).hasDict = false := fun l => by
  have h1 : ∀ s : List Str, PyData.hasDictAll (s.map .str) = false := by
    intro s
    induction s with
    | nil => simp only [List.map_nil, PyData.hasDictAll]
    | cons x r ih => simp only [List.map_cons, PyData.hasDictAll, PyData.hasDict, ih, Bool.or_self]
  have h : ∀ l : List (List Str), PyData.hasDictAll (l.map dS) = false := by
    intro l
    induction l with
    | nil => simp only [List.map_nil, PyData.hasDictAll]
    | cons s r ih => simp only [List.map_cons, PyData.hasDictAll, dS, PyData.hasDict, h1, ih, Bool.or_self]
  unfold dL
  simp only [PyData.hasDict, h]
theorem depth_dL (l : List (List Str)) : (dL l).depth ≤ 60 := by
  show PyData.depthAll (l.map dS) + 1 ≤ 60
  have := depth_list (f := dS) (k := 1) (l := l) fun s _ => by rw [depth_dS]; exact Nat.le_refl _
  omega
def spLSame : Sp := fun vs H Q _ => ∃ x y l, vs = [x, y] ∧ rLst rTupS H x l ∧ rLst rTupS H y l ∧ (∀ s ∈ l, (∀ n ∈ s, isName n = true) ∧ s.length ≤ 3) ∧ l.length ≤ 8 ∧ Q (.bl true) H
theorem b_l_same (T : Txt K mg c) : BodyG P w K mg base N_l_same "_law_same" s_l_same 0 spLSame := by
    intro f cdv A outer s H vs Q E hg hr h
    have nd := sc_l_same.nd
    have hgd : (A.deeper (envOfC "_law_same" (fnScope s_l_same) s.heap.objs.size f cdv)).guards = some [] := hg
    obtain ⟨x, y, l, rfl, hx, hy, h1, h2, q⟩ := h
    refine ⟨_, (pss_one (ps_ret (pe_cmpR op_eq (pe_callB (kRepr K rfl (by exact hgd) (by exact hu65 hr)) (by rfl) T.g_repr (by decide +kernel) (pa_cons (pv 0) pa_nil)) (pe_callB (kRepr K rfl (by exact hgd) (by exact hu65 hr)) (by rfl) T.g_repr (by decide +kernel) (pa_cons (pv 1) pa_nil)) (nomark _)))), ?_⟩
    have rx : ∃ a, x = .ref a := let ⟨a, _, e, _⟩ := hx; ⟨a, e⟩
    have ry : ∃ a, y = .ref a := let ⟨a, _, e, _⟩ := hy; ⟨a, e⟩
    walk_at "rd"
    refine ⟨x, dL l, rfl, rx, dp_L hx, show_dL l, noDict_dL l, depth_dL l, shown_dL h1 h2, ?_⟩
    walk_at "rd"
    refine ⟨y, dL l, rfl, ry, dp_L hy, show_dL l, noDict_dL l, depth_dL l, shown_dL h1 h2, ?_⟩
    walk_at "rd"
    rw [decide_eq_true rfl]
    exact q
/-! ### the plain law: the edges -/
def movesOf (k : Tk) (s : List Str) : List (List Edge) := (possible k.wd s).map fun a => edgesFor k.wd (goals k) s a.2
def frc (k : Tk) (p q : Edge → Bool) (ks : List (List Str)) (s : List Str) : Bool := (movesOf k s).any fun es => es.all fun e => p e || (!q e && tgtIn ks e)
def okE (p q : Edge → Bool) (ks : List (List Str)) : Option Edge → Bool
  | some e => p e || (!q e && tgtIn ks e)
  | none => false
theorem okAt_map {g : Gm} {p q : Edge → Bool} {ks : List (List Str)} {i : Nat} : okAt g (g.edges.map p) (g.edges.map q) ks i = okE p q ks g.edges[i]? := by
  unfold okAt
  rw [List.getD_eq_getElem?_getD, List.getD_eq_getElem?_getD, List.getElem?_map, List.getElem?_map]
  cases g.edges[i]? with
  | none => rfl
  | some e => rfl
theorem forced_frc {k : Tk} {g : Gm} (h : GmOk k g) {p q : Edge → Bool} {ks : List (List Str)} {s : List Str} (hs : s ∈ g.order) : forced g (g.edges.map p) (g.edges.map q) ks s = frc k p q ks s := by
  rw [← h.keys] at hs
  obtain ⟨x, hx, hm⟩ := gtT_mem hs
  have hc : Ch2 k.wd (goals k) s g.edges x (possible k.wd s) := h.ch _ hm
  have e1 : forced g (g.edges.map p) (g.edges.map q) ks s = (x.map fun q => q.2.map fun i => g.edges[i]?).any fun l => l.all (okE p q ks) := by
    unfold forced chOf
    rw [hx, List.any_map]
    show (x.any fun q' => q'.2.all _) = _
    congr 1
    funext r
    show r.2.all _ = (r.2.map _).all _
    rw [List.all_map]
    congr 1
    funext i
    exact okAt_map
  rw [e1]
  unfold Ch2 at hc
  rw [hc, List.any_map]
  unfold frc movesOf
  rw [List.any_map]
  congr 1
  funext a
  show ((edgesFor k.wd (goals k) s a.2).map some).all _ = _
  rw [List.all_map]
  rfl
def pB (c : Str) (T X : List (List Str)) (e : Edge) : Bool := e.tgt.isNone || (tgtIn T e || (lessE c e && tgtIn X e))
def qW (c : Str) (e : Edge) : Bool := decide (c ∈ e.added)
theorem ext_map {l : List Edge} {F : Nat → Bool} {f : Edge → Bool} (h : ∀ (i : Nat) (e : Edge), l[i]? = some e → F i = f e) : (List.range l.length).map F = l.map f := by
  apply List.ext_getElem
  · simp
  · intro i h1 h2
    have hi : i < l.length := by simpa using h1
    simpa using h i _ (List.getElem?_eq_getElem hi)
theorem better_map {g : Gm} {c : Str} {T X : List (List Str)} : betterL g (goodL g) (badL g) c T X = g.edges.map (pB c T X) := by
  unfold betterL
  refine ext_map fun i e h => ?_
  unfold betterAt goodL badL pB
  rw [List.getD_eq_getElem?_getD, List.getD_eq_getElem?_getD, List.getElem?_map, List.getElem?_map, h]
  simp
theorem worse_map {g : Gm} {c : Str} : worseL g (badL g) c = g.edges.map (qW c) := by
  unfold worseL
  refine ext_map fun i e h => ?_
  unfold worseAt badL qW
  rw [List.getD_eq_getElem?_getD, List.getElem?_map, h]
  simp
/-! ### the one counter -/
section
variable {k : Tk} {n : Str}
theorem one_ctr (hc : k.wd.counters = [n]) : (k.wd.piles = [n] ∧ k.wd.reserves = []) ∨ (k.wd.piles = [] ∧ k.wd.reserves = [n]) := by
  unfold Wd.counters at hc
  cases hp : k.wd.piles with
  | nil =>
    rw [hp] at hc
    exact .inr ⟨rfl, hc⟩
  | cons x r =>
    rw [hp] at hc
    have h := List.cons.inj hc
    have h2 := List.append_eq_nil_iff.mp h.2
    exact .inl ⟨by rw [h.1, h2.1], h2.2⟩
theorem ctr_eq (hc : k.wd.counters = [n]) : ctr k.wd = n := by
  unfold ctr
  rw [show k.wd.piles ++ k.wd.reserves = [n] from hc]
  rfl
theorem chg_mem {o : Chg} {x : Str} {y : Ch} (h : chg o x = some y) : (x, y) ∈ o := by
  unfold chg at h
  cases e : o.find? fun p => decide (p.1 = x) with
  | none => rw [e] at h; cases h
  | some p =>
    rw [e] at h
    have h1 := List.mem_of_find?_eq_some e
    have h2 := List.find?_some e
    have h2 : p.1 = x := of_decide_eq_true h2
    have h3 : p.2 = y := Option.some.inj h
    rw [← h2, ← h3]
    exact h1
theorem poss_ok {s : List Str} {a : Str × Act} (ok : WdOk k.wd) (h : a ∈ possible k.wd s) : ActOk k.wd a.2 ∧ fitsA k.wd s a.2 = true := by
  have h := List.mem_filter.mp h
  exact ⟨(ok.acts a h.1).2, h.2⟩
theorem take_pile {A : Act} {o : Chg} {x : Str} (ok : WdOk k.wd) (hA : ActOk k.wd A) (ho : o ∈ A.outs) (hx : x ∈ k.wd.seen) (h : chg o x = some .take) : x ∈ k.wd.piles := by
  rcases hA.fit o ho _ (chg_mem h) with ⟨_, h | h⟩ | ⟨h, _⟩ | ⟨h, _⟩
  · cases h
  · cases h
  · exact h
  · have d := (List.nodup_append.mp ok.nd).2.2
    exact absurd rfl (d x hx x h)
theorem behind_gone {w : Wd} {s : List Str} {o : Chg} {g g' : List Str} (h : ∀ x ∈ w.seen, chg o x = some .take → (x ∈ g ↔ x ∈ g')) : behind w s o g = behind w s o g' := by
  unfold behind
  refine List.filter_congr fun x hx => ?_
  unfold heldA
  cases hc : chg o x with
  | none => rfl
  | some y =>
    cases y with
    | take =>
      show (!decide (x ∈ g)) = !decide (x ∈ g')
      rw [decide_eq_decide.mpr (h x hx hc)]
    | yes => rfl
    | no => rfl
    | add => rfl
    | empty => rfl
def gones (w : Wd) (o : Chg) : List (List Str) := subs (w.piles.filter fun p => decide (chg o p = some .take))
theorem gones_pile {o : Chg} (hp : k.wd.piles = [n]) (h : chg o n = some .take) : gones k.wd o = [[], [n]] := by
  unfold gones
  rw [hp]
  simp [h, subs]
theorem gones_not {o : Chg} (hp : k.wd.piles = [n]) (h : chg o n ≠ some .take) : gones k.wd o = [[]] := by
  unfold gones
  rw [hp]
  simp [h, subs]
theorem gones_res {o : Chg} (hp : k.wd.piles = []) : gones k.wd o = [[]] := by
  unfold gones
  rw [hp]
  rfl
def mkE (k : Tk) (s : List Str) (o : Chg) (g : List Str) : Edge := ⟨if behind k.wd s o g ∈ goals k then none else some (behind k.wd s o g), shT k.wd s o, shA k.wd o⟩
theorem edge_of {s : List Str} {A : Act} {e : Edge} (h : e ∈ edgesFor k.wd (goals k) s A) : ∃ o ∈ A.outs, ∃ g ∈ gones k.wd o, e = mkE k s o g := by
  obtain ⟨q, hq, rfl⟩ := List.mem_map.mp h
  obtain ⟨hi, h1, h2⟩ := results_mem hq
  have e : A.outs.getD q.1 [] = A.outs[q.1] := by simp [List.getD_eq_getElem?_getD, hi]
  refine ⟨A.outs[q.1], List.getElem_mem hi, q.2.1, h2, ?_⟩
  unfold edgeOf mkE
  rw [e, h1]
theorem of_edge {s : List Str} {A : Act} {o : Chg} {g : List Str} (ho : o ∈ A.outs) (hg : g ∈ gones k.wd o) : mkE k s o g ∈ edgesFor k.wd (goals k) s A := by
  obtain ⟨i, hi, e⟩ := List.getElem_of_mem ho
  have e' : A.outs.getD i [] = o := by simp [List.getD_eq_getElem?_getD, hi, e]
  refine List.mem_map.mpr ⟨(i, g, behind k.wd s o g), List.mem_flatMap.mpr ⟨i, List.mem_range.mpr hi, ?_⟩, ?_⟩
  · rw [e']
    exact List.mem_map.mpr ⟨g, hg, rfl⟩
  · unfold edgeOf mkE
    rw [e']
theorem mem_shT (hc : k.wd.counters = [n]) {s : List Str} {o : Chg} : n ∈ shT k.wd s o ↔ chg o n = some .take ∨ (chg o n = some .empty ∧ n ∈ s) := by
  unfold shT
  rw [hc]
  simp
theorem mem_shA (hc : k.wd.counters = [n]) {o : Chg} : n ∈ shA k.wd o ↔ chg o n = some .add := by
  unfold shA
  rw [hc]
  simp
theorem later_edge (ok : WdOk k.wd) (hc : k.wd.counters = [n]) {A : Act} {o : Chg} {s : List Str} (hA : ActOk k.wd A) (ho : o ∈ A.outs) (j' : Nat) : ∃ g ∈ gones k.wd o, behind k.wd s o (if j' = 0 then [n] else []) = behind k.wd s o g := by
  rcases one_ctr hc with ⟨hp, hr⟩ | ⟨hp, hr⟩
  · by_cases ht : chg o n = some .take
    · refine ⟨if j' = 0 then [n] else [], ?_, rfl⟩
      rw [gones_pile hp ht]
      split <;> simp
    · refine ⟨[], by rw [gones_not hp ht]; simp, behind_gone fun x hx hxt => ?_⟩
      have h := take_pile ok hA ho hx hxt
      rw [hp] at h
      rw [List.mem_singleton.mp h] at hxt
      exact absurd hxt ht
  · refine ⟨[], by rw [gones_res hp]; simp, behind_gone fun x hx hxt => ?_⟩
    have h := take_pile ok hA ho hx hxt
    rw [hp] at h
    cases h
theorem mem_behind {s : List Str} {o : Chg} {g : List Str} {x : Str} (hx : x ∈ k.wd.seen) : x ∈ behind k.wd s o g ↔ heldA s o g x = true := by
  unfold behind
  rw [List.mem_filter]
  exact ⟨fun h => h.2, fun h => ⟨hx, h⟩⟩
theorem filter_states (p : Str → Bool) : ∀ (ns : List Str) (l : List (List Str)) (s : List Str), s ∈ l → s ++ ns.filter p ∈ ns.foldl (fun l n => l.flatMap fun s => [s, s ++ [n]]) l
  | [], l, s, h => by simpa using h
  | x :: r, l, s, h => by
    rw [List.foldl_cons, List.filter_cons]
    cases hx : p x with
    | true =>
      rw [if_pos rfl, show s ++ x :: r.filter p = (s ++ [x]) ++ r.filter p from by simp]
      exact filter_states p r _ _ (List.mem_flatMap.mpr ⟨s, h, by simp⟩)
    | false =>
      rw [if_neg Bool.false_ne_true]
      exact filter_states p r _ _ (List.mem_flatMap.mpr ⟨s, h, by simp⟩)
theorem behind_states {s : List Str} {o : Chg} {g : List Str} : behind k.wd s o g ∈ statesOf k.wd.seen := filter_states _ k.wd.seen [[]] [] (by simp)
/-! ### pairs -/
theorem mem_pairs {w : Wd} {m j : Nat} {s : List Str} : (s, (j : Int)) ∈ pairsOf w m ↔ s ∈ statesOf w.seen ∧ j ≤ m ∧ okPair w s j = true := by
  unfold pairsOf pairsTo
  rw [List.mem_flatMap]
  constructor
  · rintro ⟨t, ht, h⟩
    obtain ⟨i, hi, e⟩ := List.mem_map.mp h
    obtain ⟨h1, h2⟩ := List.mem_filter.mp hi
    have e1 : t = s := congrArg Prod.fst e
    have e2 : (i : Int) = (j : Int) := congrArg Prod.snd e
    have e3 : i = j := by omega
    subst e1 e3
    exact ⟨ht, by have := List.mem_range.mp h1; omega, h2⟩
  · rintro ⟨hs, hj, ho⟩
    exact ⟨s, hs, List.mem_map.mpr ⟨j, List.mem_filter.mpr ⟨List.mem_range.mpr (by omega), ho⟩, rfl⟩⟩
theorem pair_nat {w : Wd} {m : Nat} {q : List Str × Int} (h : q ∈ pairsOf w m) : ∃ j : Nat, q = (q.1, (j : Int)) ∧ q.1 ∈ statesOf w.seen ∧ j ≤ m ∧ okPair w q.1 j = true := by
  unfold pairsOf pairsTo at h
  obtain ⟨t, ht, h⟩ := List.mem_flatMap.mp h
  obtain ⟨i, hi, rfl⟩ := List.mem_map.mp h
  exact ⟨i, rfl, mem_pairs.mp (List.mem_flatMap.mpr ⟨t, ht, List.mem_map.mpr ⟨i, hi, rfl⟩⟩)⟩
theorem mem_later {m : Nat} {s : List Str} {j : Nat} {o : Chg} (hc : k.wd.counters = [n]) {q : List Str × Int} : q ∈ laterA k.wd m (s, (j : Int)) o ↔ ∃ j' ∈ laterNums (chg o n) j m, q = (behind k.wd s o (if j' = 0 then [n] else []), (j' : Int)) := by
  unfold laterA
  rw [ctr_eq hc, List.mem_map]
  constructor
  · rintro ⟨j', h, e⟩
    exact ⟨j', h, e.symm⟩
  · rintro ⟨j', h, e⟩
    exact ⟨j', h, e.symm⟩
theorem ok_pile {s : List Str} {j : Nat} (hp : k.wd.piles = [n]) (hr : k.wd.reserves = []) : okPair k.wd s j = true ↔ (0 < j ↔ n ∈ s) := by
  unfold okPair
  rw [hp, hr]
  by_cases h1 : 0 < j <;> by_cases h2 : n ∈ s <;> simp [h1, h2] <;> omega
theorem ok_res {s : List Str} {j : Nat} (hr : k.wd.reserves = [n]) : okPair k.wd s j = true := by
  unfold okPair
  rw [hr]
  simp
theorem seen_pile (hp : k.wd.piles = [n]) : n ∈ k.wd.seen := by
  unfold Wd.seen
  rw [hp]
  simp
/-- what lies behind is a pair again -/
theorem later_pair (ok : WdOk k.wd) (hc : k.wd.counters = [n]) {m j j' : Nat} {s : List Str} {A : Act} {o : Chg} (hA : ActOk k.wd A) (ho : o ∈ A.outs) (hm : 1 ≤ m) (hj : j ≤ m) (hok : okPair k.wd s j = true) (h : j' ∈ laterNums (chg o n) j m) : (behind k.wd s o (if j' = 0 then [n] else []), (j' : Int)) ∈ pairsOf k.wd m := by
  have fit : ∀ y, chg o n = some y → Fits k.wd (n, y) := fun y hy => hA.fit o ho _ (chg_mem hy)
  have hl : j' ≤ m := by
    unfold laterNums at h
    split at h
    · split at h
      · obtain ⟨i, hi, rfl⟩ := List.mem_map.mp h
        have := List.mem_range.mp hi
        omega
      · simp at h
        omega
    · have := List.mem_range.mp h
      omega
    · simp at h
      omega
    · simp at h
      omega
  refine mem_pairs.mpr ⟨behind_states, hl, ?_⟩
  rcases one_ctr hc with ⟨hp, hr⟩ | ⟨hp, hr⟩
  · have hs := seen_pile hp
    rw [ok_pile hp hr] at hok ⊢
    rw [mem_behind hs]
    have hnf : n ∉ k.wd.facts := fun hf => by
      have d := ok.toLsOk.nd
      rw [hp] at d
      have d := (List.nodup_append.mp d).1
      exact (List.nodup_append.mp d).2.2 n hf n (by simp) rfl
    unfold heldA
    unfold laterNums at h
    cases hch : chg o n with
    | none =>
      rw [hch] at h
      simp only [List.mem_singleton] at h
      subst h
      simpa using hok
    | some y =>
      rw [hch] at h
      cases y with
      | yes =>
        rcases fit _ hch with ⟨hf, _⟩ | ⟨_, h | h | h⟩ | ⟨_, h | h⟩
        · exact absurd hf hnf
        all_goals cases h
      | no =>
        rcases fit _ hch with ⟨hf, _⟩ | ⟨_, h | h | h⟩ | ⟨_, h | h⟩
        · exact absurd hf hnf
        all_goals cases h
      | add =>
        simp only at h
        split at h
        · obtain ⟨i, hi, rfl⟩ := List.mem_map.mp h
          simp
          omega
        · simp at h
          simp
          omega
      | take =>
        simp only at h ⊢
        by_cases z : j' = 0
        · simp [z]
        · simp [z]
          omega
      | empty =>
        simp only [List.mem_singleton] at h
        simp [h]
  · exact ok_res hr
/-! ### the two games -/
structure LawWon (k : Tk) (m : Nat) (won : List (List Str × Int)) : Prop where
  goal : ∀ q ∈ pairsOf k.wd m, k.goal.holds q.1 = true → q ∈ won
  step : ∀ q ∈ pairsOf k.wd m, ∀ a ∈ possible k.wd q.1, (∀ o ∈ a.2.outs, ∀ q' ∈ laterA k.wd m q o, q' ∈ won) → q ∈ won
  least : ∀ P : List Str × Int → Prop, (∀ q ∈ pairsOf k.wd m, k.goal.holds q.1 = true → P q) → (∀ q ∈ pairsOf k.wd m, k.goal.holds q.1 = false → ∀ a ∈ possible k.wd q.1, (∀ o ∈ a.2.outs, ∀ q' ∈ laterA k.wd m q o, P q') → P q) → ∀ q ∈ won, P q
theorem mem_goals {s : List Str} : s ∈ goals k ↔ s ∈ statesOf k.wd.seen ∧ k.goal.holds s = true := by
  unfold goals
  rw [List.mem_filter]
theorem act_step (ok : WdOk k.wd) (hc : k.wd.counters = [n]) {m j : Nat} {won : List (List Str × Int)} (hw : LawWon k m won) (hm : 1 ≤ m) {s : List Str} {a : Str × Act} (ha : a ∈ possible k.wd s) (hj : (s, (j : Int)) ∈ pairsOf k.wd m)
    (h : ∀ o ∈ a.2.outs, ∀ j' ∈ laterNums (chg o n) j m, ∀ g ∈ gones k.wd o, behind k.wd s o g ∉ goals k → (behind k.wd s o g, (j' : Int)) ∈ pairsOf k.wd m → (behind k.wd s o g, (j' : Int)) ∈ won) : (s, (j : Int)) ∈ won := by
  refine hw.step _ hj a ha fun o ho q' hq' => ?_
  obtain ⟨j', hj', rfl⟩ := (mem_later hc).mp hq'
  obtain ⟨hA, _⟩ := poss_ok ok ha
  obtain ⟨hs, hjm, hok⟩ := mem_pairs.mp hj
  have hp := later_pair ok hc (s := s) hA ho hm hjm hok hj'
  obtain ⟨g, hg, e⟩ := later_edge ok hc (s := s) hA ho j'
  rw [e] at hp ⊢
  by_cases hu : behind k.wd s o g ∈ goals k
  · exact hw.goal _ hp (mem_goals.mp hu).2
  · exact h o ho j' hj' g hg hu hp
theorem mkE_some {s : List Str} {o : Chg} {g : List Str} (hu : behind k.wd s o g ∉ goals k) : (mkE k s o g).tgt = some (behind k.wd s o g) := if_neg hu
theorem tgtIn_mk {s : List Str} {o : Chg} {g : List Str} {ks : List (List Str)} (hu : behind k.wd s o g ∉ goals k) : tgtIn ks (mkE k s o g) = decide (behind k.wd s o g ∈ ks) := by
  unfold tgtIn
  rw [mkE_some hu]
theorem less_num (hc : k.wd.counters = [n]) (ok : WdOk k.wd) {s : List Str} {m j j' : Nat} {A : Act} {o : Chg} {g : List Str} (hA : ActOk k.wd A) (ho : o ∈ A.outs) (hok : okPair k.wd s j = true) (hl : lessE n (mkE k s o g) = true) (h : j' ∈ laterNums (chg o n) j m) (hs : s ∈ statesOf k.wd.seen) : j' < j := by
  unfold lessE at hl
  simp only [Bool.and_eq_true, decide_eq_true_eq] at hl
  rcases (mem_shT hc).mp hl.1 with ht | ⟨he, hn⟩
  · rw [ht] at h
    exact List.mem_range.mp h
  · rw [he] at h
    simp only [laterNums, List.mem_singleton] at h
    subst h
    rcases one_ctr hc with ⟨hp, hr⟩ | ⟨hp, hr⟩
    · exact ((ok_pile hp hr).mp hok).mpr hn
    · have := (states_sub hs).subset hn
      have d := (List.nodup_append.mp ok.nd).2.2
      exact absurd rfl (d n this n (by rw [hr]; simp))
theorem noadd_num {m j j' : Nat} {x : Option Ch} (hx : x ≠ some .add) (h : j' ∈ laterNums x j m) : j' ≤ j := by
  unfold laterNums at h
  split at h
  · exact absurd rfl hx
  · have := List.mem_range.mp h
    omega
  · simp at h
    omega
  · simp at h
    omega
/-- what the program wins is won at every number -/
theorem won_all {g : Gm} {T : List (List Str)} (ok : WdOk k.wd) (hc : k.wd.counters = [n]) (hg : GmOk k g) (hT : WonP g (goodL g) (badL g) n T) {m : Nat} (hm : 1 ≤ m) {won : List (List Str × Int)} (hw : LawWon k m won) : ∀ s ∈ T, ∀ j : Nat, (s, (j : Int)) ∈ pairsOf k.wd m → (s, (j : Int)) ∈ won := by
  refine hT.least (fun s => ∀ j : Nat, (s, (j : Int)) ∈ pairsOf k.wd m → (s, (j : Int)) ∈ won) (fun us hus s hs hf j hj => ?_) (fun T' R hT' hF s hs => ?_)
  · have hf : forced g (g.edges.map fun e => e.tgt.isNone) (g.edges.map fun _ => false) us s = true := hf
    rw [forced_frc hg hs] at hf
    obtain ⟨es, he, hall⟩ := List.any_eq_true.mp hf
    obtain ⟨a, ha, rfl⟩ := List.mem_map.mp he
    refine act_step ok hc hw hm ha hj fun o ho j' hj' g' hg' hu hp => ?_
    have h : ((mkE k s o g').tgt.isNone || !false && tgtIn us (mkE k s o g')) = true := List.all_eq_true.mp hall _ (of_edge ho hg')
    rw [mkE_some hu, tgtIn_mk hu] at h
    exact hus _ (by simpa using h) j' hp
  · obtain ⟨nn, X, _, _, hst, hRX⟩ := hF
    have key : ∀ N j : Nat, j < N → ∀ s ∈ R, (s, (j : Int)) ∈ pairsOf k.wd m → (s, (j : Int)) ∈ won := by
      intro N
      induction N with
      | zero => intro j hj; exact absurd hj (Nat.not_lt_zero _)
      | succ N ih =>
        intro j hj s hs
        have h := hst.least (fun s => s ∈ R ∧ ((s, (j : Int)) ∈ pairsOf k.wd m → (s, (j : Int)) ∈ won)) (fun _ z => by cases z) (fun us hus s hs hf => ?_) s hs
        · exact h.2
        · rw [better_map, worse_map, forced_frc hg hs] at hf
          obtain ⟨es, he, hall⟩ := List.any_eq_true.mp hf
          obtain ⟨a, ha, rfl⟩ := List.mem_map.mp he
          refine ⟨?_, fun hjp => ?_⟩
          · by_cases hin : s ∈ R
            · exact hin
            · have hcl := hst.cl s hs hin
              rw [better_map, worse_map, forced_frc hg hs] at hcl
              refine absurd ?_ (Bool.eq_false_iff.mp hcl)
              refine List.any_eq_true.mpr ⟨_, List.mem_map.mpr ⟨a, ha, rfl⟩, List.all_eq_true.mpr fun e hee => ?_⟩
              have h := List.all_eq_true.mp hall e hee
              rcases Bool.or_eq_true_iff.mp h with h | h
              · rw [h]
                rfl
              · obtain ⟨h1, h2⟩ := Bool.and_eq_true_iff.mp h
                rw [h1]
                have : tgtIn R e = true := by
                  unfold tgtIn at h2 ⊢
                  cases ht : e.tgt with
                  | none => rw [ht] at h2; exact h2
                  | some u =>
                    rw [ht] at h2
                    exact decide_eq_true (hus u (of_decide_eq_true h2)).1
                rw [this]
                simp
          · refine act_step ok hc hw hm ha hjp fun o ho j' hj' g' hg' hu hp => ?_
            have h := List.all_eq_true.mp hall _ (of_edge ho hg')
            obtain ⟨hA, _⟩ := poss_ok ok ha
            obtain ⟨hss, hjm, hok⟩ := mem_pairs.mp hjp
            unfold pB at h
            rw [mkE_some hu, tgtIn_mk hu, tgtIn_mk hu, tgtIn_mk hu] at h
            simp only [Option.isNone_some, Bool.false_or, Bool.or_eq_true_iff, Bool.and_eq_true_iff, decide_eq_true_eq, Bool.not_eq_true'] at h
            rcases h with (h | ⟨h1, h2⟩) | ⟨h1, h2⟩
            · exact hT' _ h j' hp
            · have hlt := less_num hc ok hA ho hok h1 hj' hss
              exact ih j' (by omega) _ ((hRX _).mpr h2) hp
            · have hna : chg o n ≠ some .add := fun z => by
                have : n ∈ (mkE k s o g').added := (mem_shA hc).mpr z
                unfold qW at h1
                rw [decide_eq_true this] at h1
                cases h1
              have hle := noadd_num hna hj'
              by_cases e : j' = j
              · subst e
                exact (hus _ h2).2 hp
              · exact ih j' (by omega) _ (hus _ h2).1 hp
    exact fun j => key (j + 1) j (Nat.lt_succ_self j) s hs
/-! ### and the rest is lost -/
theorem chain_fun {step : List (List Str) → List (List Str) → Prop} {X0 : List (List Str)} : ∀ {d : Nat} {X : List (List Str)}, Chain step X0 d X → ∃ f : Nat → List (List Str), f 0 = X0 ∧ f d = X ∧ ∀ i, i < d → step (f i) (f (i + 1)) := by
  intro d X h
  induction h with
  | zero => exact ⟨fun _ => X0, rfl, rfl, fun i hi => absurd hi (Nat.not_lt_zero _)⟩
  | @succ d X Y _ hs ih =>
    obtain ⟨f, h0, h1, h2⟩ := ih
    refine ⟨fun i => if i ≤ d then f i else Y, ?_, ?_, fun i hi => ?_⟩
    · simp [h0]
    · simp [show ¬ d + 1 ≤ d by omega]
    · by_cases e : i = d
      · subst e
        simpa [h1, show ¬ i + 1 ≤ i by omega] using hs
      · have : i < d := by omega
        simp [show i ≤ d by omega, show i + 1 ≤ d by omega, h2 i this]
theorem least_at {p : Nat → Prop} [DecidablePred p] : ∀ d : Nat, p d → ∃ l, l ≤ d ∧ p l ∧ ∀ i, i < l → ¬ p i := by
  intro d
  induction d using Nat.strongRecOn with
  | ind d ih =>
    intro h
    by_cases z : ∃ i, i < d ∧ p i
    · obtain ⟨i, hi, hp⟩ := z
      obtain ⟨l, hl, h1, h2⟩ := ih i hi hp
      exact ⟨l, by omega, h1, h2⟩
    · exact ⟨d, Nat.le_refl _, h, fun i hi hp => z ⟨i, hi, hp⟩⟩
def startNum (w : Wd) (m : Nat) (s : List Str) : Nat := if w.piles.all (fun p => decide (p ∈ s)) then m else 0
theorem lost_start {g : Gm} {T : List (List Str)} (ok : WdOk k.wd) (hc : k.wd.counters = [n]) (hg : GmOk k g) (hT : WonP g (goodL g) (badL g) n T) {m : Nat} (hm : g.order.length ≤ m) {won : List (List Str × Int)} (hw : LawWon k m won) {s : List Str} (hs : s ∈ g.order) (hsT : s ∉ T) : (s, (startNum k.wd m s : Int)) ∉ won := by
  obtain ⟨R, ⟨d, X, hch, hd, hst, hRX⟩, hRT⟩ := hT.fall
  obtain ⟨f, hf0, hfd, hfs⟩ := chain_fun hch
  have out : ∀ u, u ∉ T → u ∉ f d := fun u hu z => hu (hRT u ((hRX u).mpr (hfd ▸ z)))
  let Bd : List Str × Int → Prop := fun q => ∃ j : Nat, q.2 = (j : Int) ∧ q.1 ∈ g.order ∧ q.1 ∉ T ∧ ((∃ l, l ≤ j ∧ l ≤ d ∧ q.1 ∉ f l) ∨ ((∃ p ∈ k.wd.piles, p ∉ q.1) ∧ j = 0))
  have ing : ∀ u, u ∈ statesOf k.wd.seen → u ∉ goals k → u ∈ g.order := fun u h1 h2 => by
    rw [hg.order]
    exact List.mem_filter.mpr ⟨h1, by simp [h2]⟩
  have nog : ∀ u, u ∈ g.order → u ∉ goals k ∧ u ∈ statesOf k.wd.seen := fun u h => by
    rw [hg.order] at h
    have h := List.mem_filter.mp h
    exact ⟨by simpa using h.2, h.1⟩
  have main : ∀ q ∈ won, ¬ Bd q := by
    refine hw.least (fun q => ¬ Bd q) (fun q hq hgl hb => ?_) (fun q hq hgl a ha hall hb => ?_)
    · obtain ⟨j, _, h1, _⟩ := hb
      have := nog _ h1
      exact this.1 (mem_goals.mpr ⟨this.2, hgl⟩)
    · obtain ⟨j, hj, ho, hnT, halt⟩ := hb
      obtain ⟨s, y⟩ := q
      have hj : y = (j : Int) := hj
      subst hj
      obtain ⟨l, hld, hl, hmin⟩ := least_at (p := fun i => s ∉ f i) d (out s hnT)
      cases l with
      | zero =>
        rw [hf0] at hl
        exact hl ho
      | succ l =>
        have hin : s ∈ f l := Decidable.not_not.mp (hmin l (Nat.lt_succ_self _))
        have hcl := (hfs l (by omega)).cl s ho hl
        rw [better_map, worse_map, forced_frc hg ho] at hcl
        have h := List.any_eq_false.mp hcl _ (List.mem_map.mpr ⟨a, ha, rfl⟩)
        rw [List.all_eq_true] at h
        have h : ∃ e ∈ edgesFor k.wd (goals k) s a.2, (pB n T (f l) e || (!qW n e && tgtIn (f (l + 1)) e)) = false := by
          refine Classical.byContradiction fun z => h fun e he => ?_
          cases hb : (pB n T (f l) e || (!qW n e && tgtIn (f (l + 1)) e)) with
          | true => rfl
          | false => exact absurd ⟨e, he, hb⟩ z
        obtain ⟨e, he, hne⟩ := h
        obtain ⟨o, hoo, gn, hgn, rfl⟩ := edge_of he
        obtain ⟨hA, hfit⟩ := poss_ok ok ha
        have hu : behind k.wd s o gn ∉ goals k := fun z => by
          unfold pB at hne
          rw [show (mkE k s o gn).tgt = none from if_pos z] at hne
          simp at hne
        unfold pB qW at hne
        rw [mkE_some hu, tgtIn_mk hu, tgtIn_mk hu, tgtIn_mk hu] at hne
        simp only [Option.isNone_some, Bool.false_or, Bool.or_eq_false_iff, Bool.and_eq_false_iff, decide_eq_false_iff_not, Bool.not_eq_false', decide_eq_true_eq] at hne
        obtain ⟨⟨huT, hless⟩, hadd⟩ := hne
        have hadd : n ∈ (mkE k s o gn).added ∨ behind k.wd s o gn ∉ f (l + 1) := hadd
        have huo := ing _ behind_states hu
        -- the number that the opponent takes
        have bad : ∀ j' : Nat, j' ∈ laterNums (chg o n) j m → behind k.wd s o (if j' = 0 then [n] else []) = behind k.wd s o gn → ((∃ l, l ≤ j' ∧ l ≤ d ∧ behind k.wd s o gn ∉ f l) ∨ ((∃ p ∈ k.wd.piles, p ∉ behind k.wd s o gn) ∧ j' = 0)) → False := fun j' hj' e alt => by
          refine hall o hoo _ ((mem_later hc).mpr ⟨j', hj', rfl⟩) ?_
          rw [e]
          exact ⟨j', rfl, huo, huT, alt⟩
        have hbg : ∀ g' : List Str, chg o n ≠ some .take → behind k.wd s o g' = behind k.wd s o gn := fun g' hnt => behind_gone fun x hx hxt => by
          have h := take_pile ok hA hoo hx hxt
          rcases one_ctr hc with ⟨hp, _⟩ | ⟨hp, _⟩
          · rw [hp] at h
            rw [List.mem_singleton.mp h] at hxt
            exact absurd hxt hnt
          · rw [hp] at h
            cases h
        have hpl : ∀ p, p ∈ k.wd.piles → p = n := fun p hp => by
          rcases one_ctr hc with ⟨h, _⟩ | ⟨h, _⟩
          · rw [h] at hp
            exact List.mem_singleton.mp hp
          · rw [h] at hp
            cases hp
        have hje : (∃ p ∈ k.wd.piles, p ∉ s) ∧ j = 0 ∨ l + 1 ≤ j := by
          rcases halt with ⟨i, hi, _, hni⟩ | h
          · refine .inr (Nat.le_trans ?_ hi)
            exact Nat.le_of_not_lt fun z => hmin i z hni
          · exact .inl h
        have hlow : ∀ {c : Option Ch}, chg o n = c → c ≠ some .take → c ≠ some .empty → c ≠ some .add → False := fun {c} hch h1 h2 h3 => by
          have hln : j ∈ laterNums (chg o n) j m := by
            rw [hch]
            unfold laterNums
            split
            · exact absurd rfl h3
            · exact absurd rfl h1
            · exact absurd rfl h2
            · simp
          have hul : behind k.wd s o gn ∉ f (l + 1) := hadd.resolve_left fun z => h3 (by rw [← hch]; exact (mem_shA hc).mp z)
          refine bad j hln (hbg _ (by rw [hch]; exact h1)) ?_
          rcases hje with ⟨⟨p, hp, hps⟩, hj0⟩ | hj
          · refine .inr ⟨⟨p, hp, ?_⟩, hj0⟩
            have hpn := hpl p hp
            subst hpn
            have hsn : p ∈ k.wd.seen := List.mem_append.mpr (.inr hp)
            rw [mem_behind hsn]
            unfold heldA
            have nf : p ∉ k.wd.facts := fun hf => (List.nodup_append.mp (List.nodup_append.mp ok.toLsOk.nd).1).2.2 p hf p hp rfl
            rw [hch]
            cases c with
            | none => simpa using hps
            | some y =>
              cases y with
              | take => exact absurd rfl h1
              | add => exact absurd rfl h3
              | empty => exact absurd rfl h2
              | yes =>
                rcases hA.fit o hoo _ (chg_mem hch) with ⟨hf, _⟩ | ⟨_, h | h | h⟩ | ⟨_, h | h⟩
                · exact absurd hf nf
                all_goals cases h
              | no =>
                rcases hA.fit o hoo _ (chg_mem hch) with ⟨hf, _⟩ | ⟨_, h | h | h⟩ | ⟨_, h | h⟩
                · exact absurd hf nf
                all_goals cases h
          · exact .inl ⟨l + 1, hj, hld, hul⟩
        cases hch : chg o n with
        | none => exact hlow hch (fun z => nomatch z) (fun z => nomatch z) (fun z => nomatch z)
        | some y =>
          cases y with
          | yes => exact hlow hch (fun z => nomatch z) (fun z => nomatch z) (fun z => nomatch z)
          | no => exact hlow hch (fun z => nomatch z) (fun z => nomatch z) (fun z => nomatch z)
          | add =>
            refine bad m ?_ (hbg _ (by rw [hch]; exact fun z => nomatch z)) (.inl ⟨d, by omega, Nat.le_refl _, out _ huT⟩)
            rw [hch]
            show m ∈ if j < m then _ else _
            split
            · exact List.mem_map.mpr ⟨m - j - 1, List.mem_range.mpr (by omega), by omega⟩
            · simp
          | empty =>
            have hp : n ∈ k.wd.piles := by
              rcases hA.fit o hoo _ (chg_mem hch) with ⟨_, h | h⟩ | ⟨h, _⟩ | ⟨_, h | h⟩
              · cases h
              · cases h
              · exact h
              · cases h
              · cases h
            refine bad 0 (by rw [hch]; simp [laterNums]) (hbg _ (by rw [hch]; exact fun z => nomatch z)) (.inr ⟨⟨n, hp, ?_⟩, rfl⟩)
            rw [mem_behind (List.mem_append.mpr (.inr hp))]
            unfold heldA
            rw [hch]
            simp
          | take =>
            have hlt : lessE n (mkE k s o gn) = true := by
              unfold lessE
              have h1 : n ∈ (mkE k s o gn).taken := (mem_shT hc).mpr (.inl hch)
              have h2 : n ∉ (mkE k s o gn).added := fun z => by
                have := (mem_shA hc).mp z
                rw [hch] at this
                cases this
              rw [decide_eq_true h1, decide_eq_false h2]
              rfl
            have hul : behind k.wd s o gn ∉ f l := hless.resolve_left fun z => by rw [hlt] at z; cases z
            have hnl : 1 ≤ l := by
              cases l with
              | zero =>
                rw [hf0] at hul
                exact absurd huo hul
              | succ l => omega
            have hj : l + 1 ≤ j := by
              rcases hje with ⟨⟨p, hp, hps⟩, _⟩ | h
              · unfold fitsA at hfit
                have h := (Bool.and_eq_true_iff.mp hfit).2
                have h := List.all_eq_true.mp h o hoo
                rw [Bool.not_eq_true', List.any_eq_false] at h
                have h := h p hp
                rw [hpl p hp] at h hps
                rw [hch] at h
                simp [hps] at h
              · exact h
            rcases one_ctr hc with ⟨hp, hr⟩ | ⟨hp, hr⟩
            · rw [gones_pile hp hch] at hgn
              simp only [List.mem_cons, List.not_mem_nil, or_false] at hgn
              rcases hgn with rfl | rfl
              · refine bad (j - 1) (by rw [hch]; exact List.mem_range.mpr (by omega)) ?_ (.inl ⟨l, by omega, by omega, hul⟩)
                rw [if_neg (by omega)]
              · refine bad 0 (by rw [hch]; exact List.mem_range.mpr (by omega)) (by rw [if_pos rfl]) (.inr ⟨⟨n, by rw [hp]; simp, ?_⟩, rfl⟩)
                rw [mem_behind (seen_pile hp)]
                unfold heldA
                rw [hch]
                simp
            · refine bad (j - 1) (by rw [hch]; exact List.mem_range.mpr (by omega)) (behind_gone fun x hx hxt => ?_) (.inl ⟨l, by omega, by omega, hul⟩)
              have h := take_pile ok hA hoo hx hxt
              rw [hp] at h
              cases h
  refine fun hin => main _ hin ⟨startNum k.wd m s, rfl, hs, hsT, ?_⟩
  unfold startNum
  by_cases h : k.wd.piles.all (fun p => decide (p ∈ s)) = true
  · rw [if_pos h]
    exact .inl ⟨d, by omega, Nat.le_refl _, out s hsT⟩
  · rw [if_neg h]
    refine .inr ⟨Classical.byContradiction fun z => h (List.all_eq_true.mpr fun p hp => decide_eq_true (Classical.byContradiction fun w => z ⟨p, hp, w⟩)), rfl⟩
theorem start_pair (ok : WdOk k.wd) (hc : k.wd.counters = [n]) {m : Nat} (hm : 1 ≤ m) {s : List Str} (hs : s ∈ statesOf k.wd.seen) : (s, (startNum k.wd m s : Int)) ∈ pairsOf k.wd m := by
  have hle : startNum k.wd m s ≤ m := by
    unfold startNum
    split <;> omega
  refine mem_pairs.mpr ⟨hs, hle, ?_⟩
  rcases one_ctr hc with ⟨hp, hr⟩ | ⟨hp, hr⟩
  · rw [ok_pile hp hr]
    unfold startNum
    rw [hp]
    by_cases h : n ∈ s <;> simp [h]
    omega
  · exact ok_res hr
/-- the plain law -/
theorem plain_law {g : Gm} {T : List (List Str)} (ok : WdOk k.wd) (hc : k.wd.counters = [n]) (hg : GmOk k g) (hT : WonP g (goodL g) (badL g) n T) {m : Nat} (h1 : 1 ≤ m) (hm : g.order.length ≤ m) {won : List (List Str × Int)} (hw : LawWon k m won) : wonL k T = (statesOf k.wd.seen).filter fun s => decide ((s, (startNum k.wd m s : Int)) ∈ won) := by
  unfold wonL
  refine List.filter_congr fun s hs => ?_
  rw [← Bool.decide_or]
  refine decide_eq_decide.mpr ⟨fun h => ?_, fun h => ?_⟩
  · have hp := start_pair ok hc h1 hs
    rcases h with h | h
    · exact hw.goal _ hp (mem_goals.mp h).2
    · exact won_all ok hc hg hT h1 hw s h _ hp
  · by_cases hgl : s ∈ goals k
    · exact .inl hgl
    · refine .inr (Classical.byContradiction fun z => ?_)
      have ho : s ∈ g.order := by
        rw [hg.order]
        exact List.mem_filter.mpr ⟨hs, by simp [hgl]⟩
      exact lost_start ok hc hg hT hm hw ho z h
end
/-! ### the search of the law -/
section
variable {k : Tk} {n : Str} {m : Nat}
def Mz (ps won : List (List Str × Int)) : Nat := (ps.filter fun q => !decide (q ∈ won)).length
theorem mz_put {ps won : List (List Str × Int)} {q : List Str × Int} (h : q ∈ ps) (n : q ∉ won) : Mz ps (won ++ [q]) < Mz ps won := by
  unfold Mz
  induction ps with
  | nil => cases h
  | cons p t ih =>
    have le : ∀ t : List (List Str × Int), (t.filter fun r => !decide (r ∈ won ++ [q])).length ≤ (t.filter fun r => !decide (r ∈ won)).length := by
      intro t
      induction t with
      | nil => exact Nat.le_refl _
      | cons r t ih =>
        rw [List.filter_cons, List.filter_cons]
        by_cases z : r ∈ won
        · simp [z] at ih ⊢
          exact ih
        · by_cases y : r = q
          · simp [z, y] at ih ⊢
            rw [← y]
            simp [z]
            rw [y]
            omega
          · simp [z, y] at ih ⊢
            exact ih
    rw [List.filter_cons, List.filter_cons]
    by_cases e : p = q
    · subst e
      have := le t
      simp [n] at this ⊢
      omega
    · have hq : q ∈ t := by
        rcases List.mem_cons.mp h with h | h
        · exact absurd h.symm e
        · exact h
      have := ih hq
      by_cases z : p ∈ won
      · simp [z] at this ⊢
        exact this
      · simp [z, e] at this ⊢
        exact this
/-- the ways at a pair that lead to won pairs only -/
def sureA (w : Wd) (m : Nat) (T : List (List Str × Int)) (q : List Str × Int) : List (List (List Str × Int)) := (offersA w m q).filter fun led => led.all fun r => decide (r ∈ T)
structure WI (k : Tk) (m : Nat) (T : List (List Str × Int)) : Prop where
  inc : ∀ q ∈ pairsOf k.wd m, k.goal.holds q.1 = true → q ∈ T
  least : ∀ P : List Str × Int → Prop, (∀ q ∈ pairsOf k.wd m, k.goal.holds q.1 = true → P q) → (∀ q ∈ pairsOf k.wd m, k.goal.holds q.1 = false → ∀ a ∈ possible k.wd q.1, (∀ o ∈ a.2.outs, ∀ q' ∈ laterA k.wd m q o, P q') → P q) → ∀ q ∈ T, P q
  sub : ∀ q ∈ T, q ∈ pairsOf k.wd m
  len : T.length + Mz (pairsOf k.wd m) T ≤ (pairsOf k.wd m).length
theorem len_split {α : Type} (f : α → Bool) : ∀ l : List α, (l.filter f).length + (l.filter fun q => !f q).length = l.length
  | [] => rfl
  | q :: t => by
    have := len_split f t
    rw [List.filter_cons, List.filter_cons]
    cases h : f q <;> simp <;> omega
theorem WI.start : WI k m ((pairsOf k.wd m).filter fun q => k.goal.holds q.1) := by
  refine ⟨fun q h g => List.mem_filter.mpr ⟨h, g⟩, fun P h _ q hq => h q (List.mem_filter.mp hq).1 (List.mem_filter.mp hq).2, fun q h => (List.mem_filter.mp h).1, ?_⟩
  have h := len_split (fun q => k.goal.holds q.1) (pairsOf k.wd m)
  have e : Mz (pairsOf k.wd m) ((pairsOf k.wd m).filter fun q => k.goal.holds q.1) = ((pairsOf k.wd m).filter fun q => !k.goal.holds q.1).length := by
    unfold Mz
    congr 1
    refine List.filter_congr fun q hq => ?_
    congr 1
    cases hg : k.goal.holds q.1 with
    | true => exact decide_eq_true (List.mem_filter.mpr ⟨hq, hg⟩)
    | false =>
      refine decide_eq_false fun z => ?_
      have := (List.mem_filter.mp z).2
      rw [hg] at this
      cases this
  omega
theorem WI.put {T : List (List Str × Int)} {q : List Str × Int} (h : WI k m T) (hq : q ∈ pairsOf k.wd m) (hn : q ∉ T) (hs : sureA k.wd m T q ≠ []) : WI k m (T ++ [q]) := by
  have hg : k.goal.holds q.1 = false := by
    cases hg : k.goal.holds q.1 with
    | true => exact absurd (h.inc q hq hg) hn
    | false => rfl
  obtain ⟨led, hl⟩ := List.exists_mem_of_ne_nil _ hs
  unfold sureA offersA at hl
  obtain ⟨hm, ha⟩ := List.mem_filter.mp hl
  obtain ⟨a, hap, rfl⟩ := List.mem_map.mp hm
  have hall : ∀ o ∈ a.2.outs, ∀ q' ∈ laterA k.wd m q o, q' ∈ T := fun o ho q' hq' => of_decide_eq_true (List.all_eq_true.mp ha q' (List.mem_flatMap.mpr ⟨o, ho, hq'⟩))
  refine ⟨fun r hr g => List.mem_append.mpr (.inl (h.inc r hr g)), fun P h1 h2 r hr => ?_, fun r hr => ?_, ?_⟩
  · rcases List.mem_append.mp hr with hr | hr
    · exact h.least P h1 h2 r hr
    · rw [List.mem_singleton.mp hr]
      exact h2 q hq hg a hap fun o ho q' hq' => h.least P h1 h2 q' (hall o ho q' hq')
  · rcases List.mem_append.mp hr with hr | hr
    · exact h.sub r hr
    · rw [List.mem_singleton.mp hr]
      exact hq
  · have := mz_put hq hn
    have := h.len
    rw [List.length_append]
    show T.length + 1 + _ ≤ _
    omega
theorem WI.won {T : List (List Str × Int)} (h : WI k m T) (hc : ∀ q ∈ pairsOf k.wd m, q ∉ T → sureA k.wd m T q = []) : LawWon k m T := by
  refine ⟨h.inc, fun q hq a ha hall => Classical.byContradiction fun z => ?_, h.least⟩
  have e := hc q hq z
  have hm : (a.2.outs.flatMap fun o => laterA k.wd m q o) ∈ sureA k.wd m T q := by
    refine List.mem_filter.mpr ⟨List.mem_map.mpr ⟨a, ha, rfl⟩, List.all_eq_true.mpr fun r hr => ?_⟩
    obtain ⟨o, ho, hr⟩ := List.mem_flatMap.mp hr
    exact decide_eq_true (hall o ho r hr)
  rw [e] at hm
  cases hm
theorem pairs_len (hs : k.wd.seen.length ≤ 3) (hm : m ≤ 20) : (pairsOf k.wd m).length ≤ 168 := by
  have h := pairsTo_flat k.wd (m + 1) (statesOf k.wd.seen)
  have h1 : (statesOf k.wd.seen).length ≤ 8 := by
    rw [states_len]
    exact Nat.pow_le_pow_right (by decide) hs
  have h2 := Nat.mul_le_mul h1 (show m + 1 ≤ 21 by omega)
  unfold pairsOf
  omega
theorem start_num {s : List Str} (hc : k.wd.counters = [n]) : startNum k.wd m s = if k.wd.piles ≠ [] ∧ k.wd.piles.headD "" ∉ s then 0 else m := by
  unfold startNum
  rcases one_ctr hc with ⟨hp, _⟩ | ⟨hp, _⟩
  · rw [hp]
    by_cases h : n ∈ s <;> simp [h]
  · rw [hp]
    simp
/-- from what one list stands apart -/
theorem rPair_but {H H' : Hp} {D : Addr} {ws : List V} {v : V} {q : List Str × Int} (r : rPair H v q) (sb : SameBut D H H') (hD : H D = some (.lst ws)) : rPair H' v q := pairS_but r sb hD
end
/-! ### the two defs that the law calls in another way -/
theorem c_won_states (T : Txt K mg c) : ∃ b : Addr, Cal P w K mg base 14 "won_states" (spWonS K c) [.ref b] ∧ ∀ H', SqT K H' b ([].map V.str) := by
  obtain ⟨f, fd, b, F, B, ob, n, lk, h1, h2⟩ := T.d_won_states.ex
  refine ⟨b, C8.cal0 F B (.cons rfl .nil) sc_won_states (by walk_at "len") (b_won_states T f), fun H' => .inr ⟨ob, #[], n, lk, h1, h2, Nat.zero_le _, .nil⟩⟩
theorem c_l_same (T : Txt K mg c) : ∃ (f : Addr) (fd : FuncData) (ps : List Str), FnG P w K mg base 1 f fd ps spLSame ∧ mg "_law_same" = some (.ref f) ∧ PySem.W.keepIn K (.ref f) = true ∧ Binds K fd ps [] := by
  obtain ⟨f, fd, F, B⟩ := T.d_l_same.ex
  exact ⟨f, fd, _, fnG_of F.fn sc_l_same (by walk_at "len") (b_l_same T), F.mgf, F.kp, B⟩
/-! ### the law's dict is put to -/
theorem rTree_butK {H H' : Hp} {d : Addr} {kvs : List (Key × V)} (hd : H d = some (.dK kvs)) (e : SameBut d H H') : ∀ (t : Tree) (v : V), rTree H v t → rTree H' v t := by
  have go : ∀ {a : Addr} {xs : List V}, H a = some (.tup xs) → H' a = some (.tup xs) := fun {a xs} h => e _ _ (fun z => by rw [z, hd] at h; cases h) h
  intro t
  induction t with
  | is s => exact fun v ⟨a, h1, h2⟩ => ⟨a, h1, go h2⟩
  | not t ih => exact fun v ⟨a, x, h1, h2, h3⟩ => ⟨a, x, h1, go h2, ih x h3⟩
  | and t u ih1 ih2 => exact fun v ⟨a, x, y, h1, h2, h3, h4⟩ => ⟨a, x, y, h1, go h2, ih1 x h3, ih2 y h4⟩
  | or t u ih1 ih2 => exact fun v ⟨a, x, y, h1, h2, h3, h4⟩ => ⟨a, x, y, h1, go h2, ih1 x h3, ih2 y h4⟩
  | always => exact fun v ⟨a, h1, h2⟩ => ⟨a, h1, go h2⟩
  | never => exact fun v ⟨a, h1, h2⟩ => ⟨a, h1, go h2⟩
theorem rChg_butK {H H' : Hp} {d fa : Addr} {kvs : List (Key × V)} (hd : H d = some (.dK kvs)) (hf : valV kvs (Sum.inr "facts") = some (.ref fa)) (e : SameBut d H H') {v : V} {o : Chg} (h : rChg H v o) : rChg H' v o := by
  obtain ⟨b, rfl, hb⟩ := h
  refine ⟨b, rfl, e _ _ (fun z => ?_) hb⟩
  rw [z, hd] at hb
  have hb := HO.dK.inj (Option.some.inj hb)
  rw [hb, ch_get] at hf
  cases hc : chg o "facts" with
  | none => rw [hc] at hf; cases hf
  | some x => rw [hc] at hf; cases x <;> cases hf
theorem rLAct_butK {H H' : Hp} {d fa : Addr} {kvs : List (Key × V)} (hd : H d = some (.dK kvs)) (hf : valV kvs (Sum.inr "facts") = some (.ref fa)) (e : SameBut d H H') {v : V} {q : Str × Act} (h : rLAct H v q) : rLAct H' v q := by
  obtain ⟨a, x, y, rfl, ha, ht, l, zs, rfl, hl, hz⟩ := h
  have go : ∀ {a : Addr} {xs : List V}, H a = some (.lst xs) → H' a = some (.lst xs) := fun {a xs} h => e _ _ (fun z => by rw [z, hd] at h; cases h) h
  exact ⟨a, x, _, rfl, go ha, rTree_butK hd e _ _ ht, l, zs, rfl, go hl, paired_imp (fun v o r => rChg_butK hd hf e r) hz⟩
theorem sH_none {G : Hp} {s st b : Addr} {S : Strm} (h : sH G s st S b = none) : G b = none := (none_of_upd (none_of_upd h).1).1
theorem sH_off {G : Hp} {s st b : Addr} {S : Strm} (h : G b = none) (n1 : b ≠ s) (n2 : b ≠ st) : sH G s st S b = none := by
  unfold sH
  rw [upd_ne n2, upd_ne n1]
  exact h
/-- the law's world while its dict grows -/
structure LwUp (G : Hp) (d f p r a : Addr) (kvs : List (Key × V)) (w : Wd) : Prop where
  ob : G d = some (.dK kvs)
  kf : valV kvs (Sum.inr "facts") = some (.ref f)
  kp : valV kvs (Sum.inr "piles") = some (.ref p)
  kr : valV kvs (Sum.inr "reserves") = some (.ref r)
  ka : valV kvs (Sum.inr "actions") = some (.ref a)
  fa : G f = some (.lst (w.facts.map V.str))
  pi : G p = some (.lst (w.piles.map V.str))
  re : G r = some (.lst (w.reserves.map V.str))
  ac : ∃ zs, G a = some (.lst zs) ∧ Paired (rLAct G) zs w.acts
theorem LwUp.same {G G' : Hp} {d f p r a : Addr} {kvs : List (Key × V)} {w : Wd} (h : LwUp G d f p r a kvs w) (e : Same G G') : LwUp G' d f p r a kvs w := by
  obtain ⟨zs, h1, h2⟩ := h.ac
  exact ⟨e _ _ h.ob, h.kf, h.kp, h.kr, h.ka, e _ _ h.fa, e _ _ h.pi, e _ _ h.re, zs, e _ _ h1, paired_mono e h2⟩
theorem LwUp.all {G : Hp} {d f p r a : Addr} {kvs : List (Key × V)} {w : Wd} (h : LwUp G d f p r a kvs w) : LwAll G d f p r a w := by
  obtain ⟨zs, h1, h2⟩ := h.ac
  exact ⟨⟨⟨kvs, .inl h.ob, h.kf, h.kp, h.kr⟩, h.fa, h.pi, h.re⟩, ⟨kvs, .inl h.ob, h.ka⟩, a, zs, rfl, h1, h2⟩
theorem putK_le {kvs : List (Key × V)} {k : Key} {v : V} : (putK kvs k v).length ≤ kvs.length + 1 := by
  unfold putK
  split
  · rw [List.length_map]
    exact Nat.le_succ _
  · rw [List.length_append]
    exact Nat.le_refl _
theorem LwUp.put {G : Hp} {d f p r a : Addr} {kvs : List (Key × V)} {w : Wd} {n : Str} {v : V} (h : LwUp G d f p r a kvs w) (n1 : ¬ (Sum.inr "facts" : Key) = .inr n) (n2 : ¬ (Sum.inr "piles" : Key) = .inr n) (n3 : ¬ (Sum.inr "reserves" : Key) = .inr n) (n4 : ¬ (Sum.inr "actions" : Key) = .inr n) :
    LwUp (upd G d (.dK (putK kvs (Sum.inr n) v))) d f p r a (putK kvs (Sum.inr n) v) w ∧ SameBut d G (upd G d (.dK (putK kvs (Sum.inr n) v))) := by
  have sb : SameBut d G (upd G d (.dK (putK kvs (Sum.inr n) v))) := (SameBut.of (Same.refl _)).put
  have go : ∀ {a : Addr} {xs : List V}, G a = some (.lst xs) → upd G d (.dK (putK kvs (Sum.inr n) v)) a = some (.lst xs) := fun {a xs} q => sb _ _ (fun z => by rw [z, h.ob] at q; cases q) q
  obtain ⟨zs, h1, h2⟩ := h.ac
  exact ⟨⟨upd_same, by rw [valV_put, if_neg n1]; exact h.kf, by rw [valV_put, if_neg n2]; exact h.kp, by rw [valV_put, if_neg n3]; exact h.kr, by rw [valV_put, if_neg n4]; exact h.ka, go h.fa, go h.pi, go h.re, zs, go h1, paired_imp (fun v q r => rLAct_butK h.ob h.kf sb r) h2⟩, sb⟩
/-! ### lists of pairs beside the won ones -/
theorem same_off' {H H' : Hp} {D : Addr} (n : H D = none) (e : Same H H') : Same H (off H' D) := fun b x h => by
  rw [off_ne (ne_of_none h n)]
  exact e _ _ h
theorem leds_back {H0 H G : Hp} (e : Same H0 G) {v : V} {l : List (List Str × Int)} (h : rLstN G rPair H v l) : rLstN H0 rPair H v l := by
  obtain ⟨a, vs, h1, h2, h3, h4⟩ := h
  exact ⟨a, vs, h1, none_back e h2, h3, h4⟩
theorem offs_back {H0 H G : Hp} (e : Same H0 G) {v : V} {l : List (List (List Str × Int))} (h : rOffs G H v l) : rOffs H0 H v l := by
  obtain ⟨a, vs, h1, h2, h3, h4⟩ := h
  exact ⟨a, vs, h1, none_back e h2, h3, paired_imp (fun v x r => leds_back e r) h4⟩
theorem leds_but {H0 H H' : Hp} {D : Addr} {ws : List V} (sb : SameBut D H H') (hD : H D = some (.lst ws)) (h0 : H0 D ≠ none) {v : V} {l : List (List Str × Int)} (h : rLstN H0 rPair H v l) : rLstN H0 rPair H' v l := by
  obtain ⟨a, vs, h1, h2, h3, h4⟩ := h
  exact ⟨a, vs, h1, h2, sb _ _ (fun z => h0 (z ▸ h2)) h3, paired_imp (fun v x r => pairS_but r sb hD) h4⟩
theorem offs_but {H0 H H' : Hp} {D : Addr} {ws : List V} (sb : SameBut D H H') (hD : H D = some (.lst ws)) (h0 : H0 D ≠ none) {v : V} {l : List (List (List Str × Int))} (h : rOffs H0 H v l) : rOffs H0 H' v l := by
  obtain ⟨a, vs, h1, h2, h3, h4⟩ := h
  exact ⟨a, vs, h1, h2, sb _ _ (fun z => h0 (z ▸ h2)) h3, paired_imp (fun v x r => leds_but sb hD h0 r) h4⟩
abbrev rOffer (H0 : Hp) : Rep ((List Str × Int) × List (List (List Str × Int))) := rTup2 rPair (rOffs H0)
theorem offer_but {H0 H H' : Hp} {D : Addr} {ws : List V} (sb : SameBut D H H') (hD : H D = some (.lst ws)) (h0 : H0 D ≠ none) {v : V} {p : (List Str × Int) × List (List (List Str × Int))} (h : rOffer H0 H v p) : rOffer H0 H' v p := by
  obtain ⟨a, x, y, rfl, ha, hx, hy⟩ := h
  exact ⟨a, x, y, rfl, sb _ _ (fun z => by rw [z, hD] at ha; cases ha) ha, pairS_but hx sb hD, offs_but sb hD h0 hy⟩
def dLed (l : List (List Str × Int)) : PyData := .list (l.map dQ)
theorem depth_dQ2 (p : List Str × Int) : PyData.depth (dQ p) ≤ 2 := by
  show max (PyData.depth (dS p.1)) (max 0 0) + 1 ≤ 2
  rw [depth_dS]
  decide
theorem dp_led {K : PySem.W.Frag} {H H0 : Hp} {v : V} {l : List (List Str × Int)} (h : rLstN H0 rPair H v l) : Dp K H v (dLed l) := by
  obtain ⟨a, vs, rfl, _, ha, hp⟩ := h
  exact .lst (SqL.of ha) (dp_all (fun v x r => dp_Q r) hp)
theorem ne_leds {K : PySem.W.Frag} {H H0 : Hp} {a b : Addr} {zs : List V} {ls : List (List (List Str × Int))} {Q : VK} (ha : H a = some (.lst zs)) (hp : Paired (rLstN H0 rPair H) zs ls) (hb : H b = some (.lst [])) (ok : ∀ l ∈ ls, ∀ q ∈ l, ∀ n ∈ q.1, PyData.strOk n = true) (q : Q (.bl (!decide (ls = []))) H) : rNeD K (.ref a) (.ref b) H Q := by
  refine ⟨.list (ls.map dLed), .list [], .lst (SqL.of ha) (dp_all (fun v x r => dp_led r) hp), .lst (SqL.of hb) .nil, shaped_list fun l hl => ⟨shaped_list fun q hq => ⟨shaped_dQ (ok l hl q hq), depth_dQ q⟩, ?_⟩, rfl, ?_⟩
  · show PyData.depthAll (l.map dQ) + 1 ≤ 10
    have := depth_list (f := dQ) (k := 2) (l := l) fun q _ => depth_dQ2 q
    omega
  · have e : PyData.eqv (.list (ls.map dLed)) (.list []) = decide (ls = []) := by
      cases ls with
      | nil => rfl
      | cons x t => rfl
    rw [e]
    exact q
theorem offers_ok {w : Wd} {m : Nat} {q : List Str × Int} (ok : LsOk w) : ∀ l ∈ offersA w m q, ∀ r ∈ l, ∀ n ∈ r.1, PyData.strOk n = true := by
  intro l hl r hr
  unfold offersA at hl
  obtain ⟨a, _, rfl⟩ := List.mem_map.mp hl
  obtain ⟨o, _, hr⟩ := List.mem_flatMap.mp hr
  unfold laterA at hr
  obtain ⟨j, _, rfl⟩ := List.mem_map.mp hr
  exact ok.okS (filter_states _ w.seen [[]] [] (by simp))
/-! ### the law -/
/-- a comprehension's scope inside another's -/
def relS (sc o : Scope) : Scope := { sc with names := sc.names.map fun (n, k) => if (k == .free && o.kind == .function && o.names.lookup n == some .cell) then (n, .cell) else (n, k) }
theorem b_law (T : Txt K mg c) : BodyG P w K mg base N_law "law" s_law 14 (spLaw K) := by
    intro f cdv A outer s0 H vs Q E hg hr h
    have nd := sc_law.nd
    have hgd : (A.deeper (envOfC "law" (fnScope s_law) s0.heap.objs.size f cdv)).guards = some [] := hg
    obtain ⟨a, ns, rfl, ha, hns, q⟩ := h
    obtain ⟨bw, cW, hbw⟩ := c_won_states (P := P) (w := w) (base := base) T
    obtain ⟨fS, fdS, psS, FS, mS, kS, bS⟩ := c_l_same (P := P) (w := w) (base := base) T
    refine ⟨_, (pss_cons (ps_set (i := 1) nd rfl (.inl rfl) (pe_lst (pa_cons (pe_callTy (kList K rfl) (by rfl) T.g_list (by decide +kernel) (pa_cons (pv 0) pa_nil)) (pa_cons pe_int (pa_cons pe_int (pa_cons pe_int pa_nil))))))
        (pss_cons (ps_set (i := 2) nd rfl (.inl rfl) (C8.pe_c (c_l_draw T) hr (by first | decide | exact Nat.le_refl _ | omega) rfl (pa_cons (pv 1) (pa_cons pe_int pa_nil))))
        (pss_cons (ps_set (i := 3) nd rfl (.inr rfl) (C8.pe_c (c_l_lists T) hr (by first | decide | exact Nat.le_refl _ | omega) rfl (pa_cons (pv 1) (pa_cons (pe_op op_sub pe_int (pv 2)) (pa_cons (pv 2) (pa_cons (pe_op op_sub pe_int (pv 2)) pa_nil))))))
        (pss_cons (ps_for PassesOwn.never rfl (pi_listK K rfl (C8.pe_c (c_l_names T) hr (by first | decide | exact Nat.le_refl _ | omega) rfl (pa_cons (pv 1) (pa_cons (pe_op op_add pe_int (C8.pe_c (c_l_draw T) hr (by first | decide | exact Nat.le_refl _ | omega) rfl (pa_cons (pv 1) (pa_cons pe_int pa_nil)))) (pa_cons (pe_lst pa_nil) pa_nil))))) (pg_name (i := 4) nd rfl (.inl rfl)) (pss_one (ps_expr (pe_bmK K rfl PySem.F.plainAttrs_list PySem.F.slot_list_append PySem.F.type_list_append mt_append (pe_dget (by exact hu_of hr) (pv 3) pe_str (fun _ _ => rfl)) (pa_cons (pe_hide (C8.pe_c (c_l_action T) hr (by first | decide | exact Nat.le_refl _ | omega) rfl (pa_cons (pv 1) (pa_cons (pv 3) (pa_cons (pv 4) (pa_cons pe_int pa_nil)))))) pa_nil)))))
        (pss_cons (ps_dput (by exact hu_of hr) (pv 3) pe_str (C8.pe_c (c_l_condition T 2) hr (by first | decide | exact Nat.le_refl _ | omega) rfl (pa_cons (pv 1) (pa_cons (C8.pe_c (c_l_seen T) hr (by first | decide | exact Nat.le_refl _ | omega) rfl (pa_cons (pv 3) pa_nil)) (pa_cons pe_int pa_nil)))) rfl)
        (pss_cons (ps_dput (by exact hu_of hr) (pv 3) pe_str (pe_tup (pa_cons pe_str pa_nil)) rfl)
        (pss_cons (ps_set (i := 5) nd rfl (.inr rfl) (pe_op op_add (pe_op op_sub (pe_callB (kLen K rfl) (by rfl) T.g_len PySem.boot_len (pa_cons (C8.pe_c (c_l_states T) hr (by first | decide | exact Nat.le_refl _ | omega) rfl (pa_cons (pv 3) pa_nil)) pa_nil)) (pe_callB (kLen K rfl) (by rfl) T.g_len PySem.boot_len (pa_cons (C8.pe_c (c_l_where T) hr (by first | decide | exact Nat.le_refl _ | omega) rfl (pa_cons (pv 3) (pa_cons (pe_dget (by exact hu_of hr) (pv 3) pe_str (fun _ _ => rfl)) pa_nil))) pa_nil))) pe_int))
        (pss_cons (ps_set (i := 6) nd rfl (.inl rfl) (C8.pe_c (c_l_pairs T) hr (by first | decide | exact Nat.le_refl _ | omega) rfl (pa_cons (pv 3) (pa_cons (pv 5) pa_nil))))
        (pss_cons (ps_set (i := 8) nd rfl (.inr rfl) (pe_lc (own := [("_law_pair", 7)]) (g := gName 7) rfl nd (pi_listK K rfl (pv 6)) (blkOk_by (own := [("_law_pair", 7)]) (N := N_law) (sc := fnScope s_law) (by decide +kernel)) (fun _ _ _ _ _ => (pg_name (i := 7) nd rfl (.inl rfl))) (fun _ _ _ _ _ => pts_one (pt_hide (pt_val (C8.pe_c (c_l_holds T 3) hr (by first | decide | exact Nat.le_refl _ | omega) rfl (pa_cons (pe_dget (by exact hu_of hr) (pv 3) pe_str (fun _ _ => rfl)) (pa_cons (pe_ix (kIxT K rfl) (pv 7) pe_int (fun _ _ => rfl)) pa_nil)))))) (fun _ _ _ _ _ => pe_hide (pv 7))))
        (pss_cons (ps_setLc (i := 9) (own := [("_law_pair", 7)]) (g := gName 7) (by rfl) nd rfl rfl (sw_true rfl rfl rfl (by decide +kernel)) (pi_listK K rfl (pv 6)) (blkOk_by (own := [("_law_pair", 7)]) (N := N_law) (sc := fnScope s_law) (by decide +kernel)) (fun _ _ _ _ _ => (pg_name (i := 7) nd rfl (.inl rfl))) (fun _ _ _ _ _ => pts_one (pt_hide (pt_cmpR (kNotInD K rfl (by exact hu65 hr)) (pv 7) (pv 8) (by rfl)))) (fun _ _ _ _ _ => pe_hide (pe_tup (pa_cons (pv 7) (pa_cons (C8.pe_c (c_l_offers T) hr (by first | decide | exact Nat.le_refl _ | omega) rfl (pa_cons (pv 3) (pa_cons (pv 5) (pa_cons (pv 7) pa_nil)))) pa_nil)))))
        (pss_cons (ps_set (i := 10) nd rfl (.inl rfl) pe_bl)
        (pss_cons (ps_while PassesOwn.never (pt_val (pv 10)) (pss_cons (ps_set (i := 10) nd rfl (.inl rfl) pe_bl)
        (pss_one (ps_for PassesOwn.never rfl (pi_listK K rfl (pv 9)) (pg_tupK K rfl rfl (pgs_cons (pg_name (i := 7) nd rfl (.inl rfl)) (pgs_cons (pg_name (i := 11) nd rfl (.inl rfl)) pgs_nil))) (pss_cons (ps_setLc (i := 12) (own := [("_law_led", 16)]) (g := gName 16) (by rfl) nd rfl rfl (sw_true rfl rfl rfl (by decide +kernel)) (pi_listK K rfl (pv 11)) (blkOk_by (own := [("_law_led", 16)]) (N := N_law) (sc := fnScope s_law) (by decide +kernel)) (fun _ _ _ _ _ => (pg_name (i := 16) nd rfl (.inl rfl))) (fun _ _ _ _ _ => pts_one (pt_hide (pt_val (pe_callB (kAll K rfl rfl) (by rfl) T.g_all (by decide +kernel) (pa_cons (pe_lc (own := [("_law_later_here", 17)]) (g := gName 17) rfl nd (pi_listK K rfl (pv 16)) (blkOk_by (own := [("_law_later_here", 17)]) (N := N_law) (sc := relS { kind := .function, names := [(".0", .local), ("_law_led", .local), ("all", .globalImplicit), ("_law_won", .free)], isGenerator := false, isCoroutine := false } (fnScope s_law)) (by decide +kernel)) (fun _ _ _ _ _ => (pg_name (i := 17) nd rfl (.inl rfl))) (fun _ _ _ _ _ => pts_nil) (fun _ _ _ _ _ => pe_hide (pe_cmpR (kInD K rfl (by exact hu65 hr)) (pv 17) (pv 8) (by rfl)))) pa_nil))))) (fun _ _ _ _ _ => pe_hide (pv 16)))
        (pss_one (ps_if (PW.pt (pw_and (pt_cmpR (kNotInD K rfl (by exact hu65 hr)) (pv 7) (pv 8) (by rfl)) (pw_and1 (pt_cmpR (kNeD K rfl (by exact hr.units)) (pv 12) (pe_lst pa_nil) (nomark _))))) (pss_cons (ps_expr (pe_bmK K rfl PySem.F.plainAttrs_list PySem.F.slot_list_append PySem.F.type_list_append mt_append (pv 8) (pa_cons (pv 7) pa_nil)))
        (pss_one (ps_set (i := 10) nd rfl (.inl rfl) pe_bl))) pss_nil)))))))
        (pss_cons (ps_set (i := 13) nd rfl (.inl rfl) (pe_lst pa_nil))
        (pss_cons (ps_for PassesOwn.never rfl (pi_listK K rfl (C8.pe_c (c_l_states T) hr (by first | decide | exact Nat.le_refl _ | omega) rfl (pa_cons (pv 3) pa_nil))) (pg_name (i := 14) nd rfl (.inl rfl)) (pss_cons (ps_set (i := 15) nd rfl (.inl rfl) (pv 5))
        (pss_cons (ps_if (PW.pt (pw_and (pt_cmpR (kNeD K rfl (by exact hr.units)) (pe_dget (by exact hu_of hr) (pv 3) pe_str (fun _ _ => rfl)) (pe_lst pa_nil) (nomark _)) (pw_and1 (pt_cmpR (kNotInS K rfl) (pe_ix (kIxL K rfl) (pe_dget (by exact hu_of hr) (pv 3) pe_str (fun _ _ => rfl)) pe_int (fun _ _ => rfl)) (pv 14) (by rfl))))) (pss_one (ps_set (i := 15) nd rfl (.inl rfl) pe_int)) pss_nil)
        (pss_one (ps_if (pt_cmpR (kInD K rfl (by exact hu65 hr)) (pe_tup (pa_cons (pv 14) (pa_cons (pv 15) pa_nil))) (pv 8) (by rfl)) (pss_one (ps_expr (pe_bmK K rfl PySem.F.plainAttrs_list PySem.F.slot_list_append PySem.F.type_list_append mt_append (pv 13) (pa_cons (pv 14) pa_nil)))) pss_nil)))))
        (pss_one (ps_ret (pe_callG hgd FS hr (by omega) rfl mS kS bS (pa_cons (C8.pe_c cW hr (by omega) rfl (pa_cons (C8.pe_c (c_l_set T) hr (by omega) rfl (pa_cons (pv 3) pa_nil)) pa_nil)) (pa_cons (pv 13) pa_nil))))))))))))))))))), ?_⟩
    walk_at "rd"
    refine ⟨a, _, rfl, .inl ha, fun s ns0 => ?_⟩
    walk_at "rd"
    refine ⟨show 4 ≤ sizeLine by decide, fun st nst => ?_⟩
    obtain ⟨nst0, nsst⟩ := none_of_upd nst
    have hA0 : SA H s st ⟨ns, 0, 0, 0⟩ 0 := ⟨ns0, nst0, Ne.symm nsst, Int.le_refl _, Int.le_refl _, Int.le_refl _, Int.le_refl _, (by decide : (0 : Int) < 2147483647), Nat.le_succ_of_le hns⟩
    rw [show upd (upd H s (.lst (ns.map V.int))) st (.lst [.ref s, .int 0, .int 0, .int 0]) = sH H s st ⟨ns, 0, 0, 0⟩ from rfl]
    walk_at "rd"
    refine i_draw (many := 2) hA0 (by decide) (by decide) (by omega) fun d1 S1 G1 e1 hA1 hd1 => ?_
    walk_at "rd"
    refine ⟨_, _, rfl, rfl, ?_⟩
    walk_at "rd"
    refine ⟨_, _, rfl, rfl, ?_⟩
    walk_at "rd"
    rw [show ((fun i j : Int => V.int (i - j)) 2 (d1 : Int)) = V.int ((2 - d1 : Nat) : Int) from congrArg V.int (by omega), show ((fun i j : Int => V.int (i - j)) 1 (d1 : Int)) = V.int ((1 - d1 : Nat) : Int) from congrArg V.int (by omega)]
    refine ⟨st, s, 2 - d1, d1, 1 - d1, G1, S1, _, rfl, rfl, hA1, by omega, by omega, by omega, by omega, by omega, by omega, by omega, fun d fl pl rl ac wd S2 G2 e2 hA2 WN ok0 hacts hlf hlp hlr nd1 nac1 => ?_⟩
    walk_at "rd"
    refine i_draw (many := 3) hA2 (by decide) (by decide) (by omega) fun d2 S3 G3 e3 hA3 hd2 => ?_
    refine ⟨_, _, rfl, rfl, ?_⟩
    walk_at "rd"
    rw [show ((fun i j : Int => V.int (i + j)) 1 (d2 : Int)) = V.int ((1 + d2 : Nat) : Int) from congrArg V.int (by omega)]
    refine ⟨Nat.zero_le _, fun el nel => ?_⟩
    obtain ⟨eN, e4, hA4⟩ := hA3.new (o := .lst []) nel
    rw [eN]
    have hel : upd G3 el (.lst []) el = some (.lst []) := upd_same
    generalize upd G3 el (.lst []) = G4 at e4 hA4 hel
    refine ⟨st, s, 1 + d2, _, [], G4, S3, _, rfl, rfl, hA4, by omega, by omega, ⟨el, rfl, hel⟩, by decide, fun v nms S5 G5 e5 hA5 ⟨nl, ev, hnl⟩ hnlen hnnd hnnm => ?_⟩
    subst ev
    have hnnd : nms.Nodup := hnnd.elim id (fun h => absurd List.nodup_nil h)
    have e25 := e3.trans (e4.trans e5)
    have hac5 := e25 _ _ WN.ac
    have nals : ac ≠ s := ne_of_none hac5 hA5.ns
    have nalst : ac ≠ st := ne_of_none hac5 hA5.nst
    have nlac : nl ≠ ac := fun z => by
      rw [z, hac5] at hnl
      have h := congrArg List.length (HO.lst.inj (Option.some.inj hnl))
      rw [List.length_map] at h
      simp at h
      omega
    have hbd : wd.facts.length + wd.piles.length + wd.reserves.length ≤ 3 := by omega
    refine ⟨nl, rfl, ⟨_, SqL.of (hA5.lst hnl)⟩, ?_⟩
    have hd5 := e25 _ _ WN.ob
    have hf5 := e25 _ _ WN.fa
    have hp5 := e25 _ _ WN.pi
    have hr5 := e25 _ _ WN.re
    have ndac : d ≠ ac := fun z => by rw [z, hac5] at hd5; cases hd5
    have hd0 : off G5 ac d = some (.dK (lwD fl pl rl ac)) := by rw [off_ne ndac]; exact hd5
    have W0 : LwAt (off G5 ac) d fl pl rl wd := ⟨⟨_, .inl (by rw [off_ne (fun z => by rw [z, hac5] at hd5; cases hd5)]; exact hd5), lwD_f, lwD_p, lwD_r⟩, by rw [off_ne (Ne.symm WN.ne.1)]; exact hf5, by rw [off_ne (Ne.symm WN.ne.2.1)]; exact hp5, by rw [off_ne (Ne.symm WN.ne.2.2)]; exact hr5⟩
    have hA0' : SA (off G5 ac) s st S5 122 := ⟨by rw [off_ne (Ne.symm nals)]; exact hA5.ns, by rw [off_ne (Ne.symm nalst)]; exact hA5.nst, hA5.nss, (hA5.more (by omega)).ok⟩
    refine for_w (walk_list (xs := nms.map V.str)) (fun i σ H' => ∃ G S zs acts v4, H' = upd (sH G s st S) ac (.lst zs) ∧ G ac = none ∧ Same (off G5 ac) G ∧ SA G s st S (122 + 200 * i) ∧ Paired (rLAct G) zs acts ∧ acts.map (·.1) = nms.take i ∧ (∀ q ∈ acts, ActOk wd q.2) ∧ σ = [some (.ref a), some (.ref st), some (.int (d1 : Int)), some (.ref d), v4, none, none, none, none, none, none, none, none, none, none, none, none, none]) ⟨off G5 ac, S5, [], [], none, ?_, off_at, Same.refl _, by simpa using hA0', .nil, by simp, (fun q h => by cases h), rfl⟩ (fun i σ H' _ ⟨G, S, zs, acts, v4, eH, nG, eG, hA', _⟩ => SqL.of (by rw [eH, upd_ne nlac]; exact hA'.lst (eG _ _ (by rw [off_ne nlac]; exact hnl)))) ?_ ?_
    · rw [(hA0'.put nals nalst).1, ← off_self hac5]
    · rintro i x σ H' H6 hi ⟨G, S, zs, acts, v4, rfl, nG, eG, hA', hz, hnm, hac, rfl⟩ ⟨rfl, hx⟩
      obtain ⟨n, hn, rx⟩ := paired_get (F := rStr G) strs_paired hx
      obtain rfl : x = .str n := rx
      have il : i < nms.length := (List.getElem?_eq_some_iff.mp hn).1
      have hzl := paired_len hz
      have hal : acts.length = i := by
        have h := congrArg List.length hnm
        rw [List.length_map, List.length_take] at h
        omega
      have W6 := W0.same eG
      walk_at "rd"
      refine ⟨d, _, rfl, dgK (kvs := lwD fl pl rl ac) (.inl (by rw [upd_ne ndac]; exact hA'.lst (eG _ _ hd0))) lwD_a, .inl ⟨rfl, _, SqL.of upd_same⟩, ?_⟩
      refine ⟨sH G s st S, ac, .lst zs, rfl, sH_off nG nals nalst, trivial, ?_⟩
      walk_at "rd"
      refine ⟨st, s, d, fl, pl, rl, wd, n, G, S, _, rfl, rfl, hA', by omega, W6, ok0, hbd, fun v A6 S7 G7 e7 hA7 hv hok => ⟨trivial, fun nac7 => ?_⟩⟩
      walk_at "rd"
      refine i_append upd_same (by omega) ?_
      rw [upd_upd]
      refine ⟨G7, S7, _, acts ++ [(n, A6)], _, rfl, sH_none nac7, eG.trans e7, hA7.more (by omega), paired_snoc (paired_mono e7 hz) hv, by rw [List.map_append, hnm, take_more hn]; rfl, fun q hq => ?_, rfl⟩
      rcases List.mem_append.mp hq with hq | hq
      · exact hac q hq
      · rw [List.mem_singleton.mp hq]
        exact hok
    · rintro σ H' ⟨G, S, zs, acts, v4, rfl, nG, eG, hA', hz, hnm, hac, rfl⟩
      rw [List.length_map, List.take_length] at hnm
      obtain ⟨eN, hA6⟩ := hA'.put (o := .lst zs) nals nalst
      rw [eN]
      have hal : acts.length = 1 + d2 := by
        have h := congrArg List.length hnm
        rw [List.length_map] at h
        omega
      have U6 : LwUp (upd G ac (.lst zs)) d fl pl rl ac (lwD fl pl rl ac) { wd with acts := acts } := ⟨by rw [upd_ne ndac]; exact eG _ _ hd0, lwD_f, lwD_p, lwD_r, lwD_a, by rw [upd_ne (Ne.symm WN.ne.1)]; exact eG _ _ W0.fa, by rw [upd_ne (Ne.symm WN.ne.2.1)]; exact eG _ _ W0.pi, by rw [upd_ne (Ne.symm WN.ne.2.2)]; exact eG _ _ W0.re, zs, upd_same, paired_mono (same_new nG) hz⟩
      have okD : WdOk { wd with acts := acts } := ⟨⟨ok0.nf, ok0.np, ok0.nr, ok0.nd, ok0.nm, ok0.sn, ok0.cn⟩, fun p hp => ⟨hnnm p.1 (by rw [← hnm]; exact List.mem_map.mpr ⟨p, hp, rfl⟩), let h := hac p hp; ⟨h.ne, h.len, h.dep, h.need, h.ok, h.fit, h.free⟩⟩, by show acts.length ≤ 3; omega, by show (acts.map (·.1)).Nodup; rw [hnm]; exact hnnd⟩
      have hne : ({ wd with acts := acts } : Wd).acts ≠ [] := fun z => by
        have z : acts = [] := z
        rw [z] at hal
        simp at hal
        omega
      obtain ⟨cn, hcn⟩ : ∃ cn, ({ wd with acts := acts } : Wd).counters = [cn] := by
        have h : (wd.piles ++ wd.reserves).length = 1 := by
          rw [List.length_append]
          omega
        exact List.length_eq_one_iff.mp h
      have hA6 := hA6.more (show _ ≤ 722 by rw [List.length_map]; omega)
      clear hz eN
      generalize upd G ac (.lst zs) = G6 at U6 hA6
      generalize ({ wd with acts := acts } : Wd) = w2 at U6 okD hne hcn
      have hsl := okD.toLsOk.seenLen
      have hsl2 : w2.facts.length + w2.piles.length ≤ 3 := by
        rw [← List.length_append]
        exact hsl
      walk_at "rd"
      refine ⟨d, fl, pl, rl, w2, rfl, (U6.all.1).same hA6.same, by omega, fun l nl => ?_⟩
      obtain ⟨eN, e7, hA7⟩ := hA6.new (o := .lst ((w2.facts ++ w2.piles).map V.str)) nl
      rw [eN]
      have hl : upd G6 l (.lst ((w2.facts ++ w2.piles).map V.str)) l = some (.lst ((w2.facts ++ w2.piles).map V.str)) := upd_same
      have U7 := U6.same e7
      generalize upd G6 l (.lst ((w2.facts ++ w2.piles).map V.str)) = G7 at U7 hA7 hl
      walk_at "rd"
      refine ⟨st, s, _, 1, w2.facts ++ w2.piles, G7, S, _, rfl, rfl, hA7, by omega, ⟨l, rfl, hl⟩, by rw [List.length_append]; omega, fun m hm => okD.nm m (List.mem_append.mpr (.inl hm)), by decide, by decide, fun yg gl S8 G8 e8 hA8 hyg hgd hgn => ?_⟩
      have U8 := U7.same e8
      have nds : d ≠ s := ne_of_none U8.ob hA8.ns
      have ndst : d ≠ st := ne_of_none U8.ob hA8.nst
      walk_at "rd"
      refine ⟨d, _, rfl, dpK (hA8.lst U8.ob) (by show 4 < 100000; decide), ?_⟩
      obtain ⟨U9, sb9⟩ := U8.put (n := "goal") (v := yg) ky_fg ky_pg ky_rg ky_ag
      obtain ⟨eP, hA9⟩ := hA8.put (o := .dK (putK (lwD fl pl rl ac) (Sum.inr "goal") yg)) nds ndst
      rw [eP]
      have hyg9 := rTree_butK U8.ob sb9 _ _ hyg
      have kg9 : valV (putK (lwD fl pl rl ac) (Sum.inr "goal") yg) (Sum.inr "goal") = some yg := by rw [valV_put, if_pos rfl]
      have len9 := putK_le (kvs := lwD fl pl rl ac) (k := Sum.inr "goal") (v := yg)
      rw [show (lwD fl pl rl ac).length = 4 from rfl] at len9
      clear eP
      generalize putK (lwD fl pl rl ac) (Sum.inr "goal") yg = kv9 at U9 hA9 hyg9 kg9 len9 sb9
      generalize upd G8 d (.dK kv9) = G9 at U9 hA9 hyg9 sb9
      walk_at "rd"
      refine ⟨show 1 ≤ sizeLine by decide, fun ts nts => ?_⟩
      obtain ⟨eN, e10, hA10⟩ := hA9.new (o := .tup [.str "always"]) nts
      rw [eN]
      have hts : upd G9 ts (.tup [.str "always"]) ts = some (.tup [.str "always"]) := upd_same
      have U10 := U9.same e10
      have hyg10 := mono hyg9 e10
      generalize upd G9 ts (.tup [.str "always"]) = G10 at U10 hA10 hts hyg10
      walk_at "rd"
      refine ⟨d, _, rfl, dpK (hA10.lst U10.ob) (by omega), ?_⟩
      obtain ⟨U11, sb11⟩ := U10.put (n := "start") (v := .ref ts) ky_fs ky_ps ky_rs ky_as
      obtain ⟨eP, hA11⟩ := hA10.put (o := .dK (putK kv9 (Sum.inr "start") (.ref ts))) nds ndst
      rw [eP]
      have hyg11 := rTree_butK U10.ob sb11 _ _ hyg10
      have hys11 := rTree_butK U10.ob sb11 .always (.ref ts) ⟨ts, rfl, hts⟩
      have kg11 : valV (putK kv9 (Sum.inr "start") (.ref ts)) (Sum.inr "goal") = some yg := by rw [valV_put, if_neg ky_gs, kg9]
      have ks11 : valV (putK kv9 (Sum.inr "start") (.ref ts)) (Sum.inr "start") = some (.ref ts) := by rw [valV_put, if_pos rfl]
      have WA := U11.all.same hA11.same
      have hdd := hA11.same _ _ U11.ob
      have hyg := mono hyg11 hA11.same
      have hys := mono hys11 hA11.same
      clear eP hA11 hyg11 hys11 sb11 U11
      generalize sH (upd G10 d (.dK (putK kv9 (Sum.inr "start") (.ref ts)))) s st S8 = HH at WA hdd hyg hys
      generalize putK kv9 (Sum.inr "start") (.ref ts) = kvs at kg11 ks11 hdd
      have oks := okD.toLsOk
      walk_at "rd"
      refine ⟨d, fl, pl, rl, w2, rfl, WA.1, hsl2, fun v H1 f1 ⟨l1, vs1, ev, hl1, hp1⟩ => ?_⟩
      subst ev
      walk_at "rd"
      refine ⟨l1, _, rfl, .inl (SqL.of hl1), ?_⟩
      walk_at "rd"
      refine ⟨d, _, rfl, dgK (.inl (f1 _ _ hdd)) kg11, ?_⟩
      walk_at "rd"
      refine ⟨d, fl, pl, rl, w2, yg, gl, rfl, WA.1.same f1, oks, mono hyg f1, hgd, fun v H2 f2 ⟨l2, vs2, ev, hl2, hp2⟩ => ?_⟩
      subst ev
      walk_at "rd"
      refine ⟨l2, _, rfl, .inl (SqL.of hl2), ?_⟩
      walk_at "rd"
      refine ⟨_, _, rfl, rfl, ?_⟩
      walk_at "rd"
      have hn1 := paired_len hp1
      have hn2 := paired_len hp2
      have hfle : ((statesOf w2.seen).filter fun s => gl.holds s).length ≤ (statesOf w2.seen).length := List.length_filter_le _ _
      have hN8 : (statesOf w2.seen).length ≤ 8 := by
        rw [states_len]
        exact Nat.pow_le_pow_right (by decide) hsl
      obtain ⟨m, hm⟩ : ∃ m, m = (statesOf w2.seen).length - ((statesOf w2.seen).filter fun s => gl.holds s).length + 1 := ⟨_, rfl⟩
      have hm20 : m ≤ 20 := by omega
      refine ⟨_, _, rfl, rfl, ?_⟩
      rw [show (fun i j : Int => V.int (i + j)) ((vs1.length : Int) - (vs2.length : Int)) 1 = V.int ((m : Nat) : Int) from congrArg V.int (by
        have hn1 : vs1.length = (statesOf w2.seen).length := hn1
        have hn2 : vs2.length = ((statesOf w2.seen).filter fun s => gl.holds s).length := hn2
        omega)]
      walk_at "rd"
      have f12 := f1.trans f2
      refine ⟨d, fl, pl, rl, w2, m, rfl, WA.1.same f12, oks, hm20, fun v H3 f3 ⟨l3, vs3, ev, hl3, hp3⟩ => ?_⟩
      subst ev
      have f13 := f12.trans f3
      have hpl : (pairsOf w2 m).length ≤ 168 := pairs_len (k := ⟨w2, .always, gl⟩) hsl hm20
      walk_at "rd"
      refine ⟨_, rfl, l3, rfl, ⟨_, SqL.of hl3⟩, fun W nW => ?_⟩
      refine lc_w (walk_list (xs := vs3)) rPair rPair (ys := pairsOf w2 m) (fun q => gl.holds q.1) id (paired_len hp3) (fun H' s => SqL.of (s _ _ hl3)) (yat_of rPair hp3) (by omega) nW (fun x => rfl) (fun x u G sm hx hu Q hQ => ?_) (fun x u G sm hx hu hk Q hQ => ?_) (fun H4 ws0 f4 hW4 hws0 => ?_)
      · obtain ⟨pa, x0, x1, rfl, hpa, hx0, hx1⟩ := id hx
        have hpa' := SqT.of (K := K) hpa
        walk_at "rd"
        refine ⟨d, _, rfl, dgK (.inl ((f13.trans sm) _ _ hdd)) kg11, ?_⟩
        walk_at "rd"
        exact ⟨yg, x0, gl, u.1, rfl, mono hyg (f13.trans sm), hx0, by omega, fun H' e => ⟨_, rfl, hQ _ e⟩⟩
      · walk_at "rd"
        exact hQ _ _ (Same.refl _) hx
      rw [List.map_id] at hws0
      have WI0 : WI ⟨w2, .always, gl⟩ m ((pairsOf w2 m).filter fun q => gl.holds q.1) := WI.start
      generalize hT0 : ((pairsOf w2 m).filter fun q => gl.holds q.1) = T0 at hws0 WI0
      have f04 := f13.trans f4
      have okT : ∀ {T : List (List Str × Int)}, WI ⟨w2, .always, gl⟩ m T → ∀ t ∈ T, ∀ n ∈ t.1, PyData.strOk n = true := fun {T} wi t ht => by
        obtain ⟨j, e, hs, _⟩ := pair_nat (wi.sub t ht)
        exact oks.okS hs
      have okP : ∀ q ∈ pairsOf w2 m, ∀ n ∈ q.1, PyData.strOk n = true := fun q hq => by
        obtain ⟨j, e, hs, _⟩ := pair_nat hq
        exact oks.okS hs
      walk_at "rd"
      refine ⟨_, rfl, l3, rfl, ⟨_, SqL.of (f4 _ _ hl3)⟩, fun O nO => ?_⟩
      refine lc_w (walk_list (xs := vs3)) rPair (rOffer H4) (ys := pairsOf w2 m) (fun q => !decide (q ∈ T0)) (fun q => (q, offersA w2 m q)) (paired_len hp3) (fun H' s => SqL.of (s _ _ (f4 _ _ hl3))) (yat_of rPair (paired_mono f4 hp3)) (by omega) nO (fun x => rfl) (fun x u G sm hx hu Q hQ => ?_) (fun x u G sm hx hu hk Q hQ => ?_) (fun H5 os f5 hO5 hos => ?_)
      · walk_at "rd"
        exact i_notInQ hx ⟨W, ws0, rfl, sm _ _ hW4, paired_mono sm hws0⟩ (okP u hu) (okT WI0) ⟨_, rfl, hQ _ (Same.refl _)⟩
      · obtain ⟨j, ej, hs, hjm, _⟩ := pair_nat hu
        have ej : u.2 = (j : Int) := congrArg Prod.snd ej
        walk_at "rd"
        refine ⟨d, fl, pl, rl, ac, w2, m, x, u, rfl, WA.same (f04.trans sm), okD, hm20, hx, by omega, by omega, fun v G2 e2 hv => ?_⟩
        walk_at "rd"
        refine ⟨show 2 ≤ sizeLine by decide, fun pp npp => ?_⟩
        exact hQ _ _ (e2.trans (same_new npp)) ⟨pp, x, v, rfl, upd_same, mono hx (e2.trans (same_new npp)), mono (offs_back sm hv) (same_new npp)⟩
      have f35 := f4.trans f5
      have fB : Same H3 (off H5 W) := same_off' nW f35
      have hW5 := f5 _ _ hW4
      have nOW : O ≠ W := Ne.symm (ne_of_none hW4 nO)
      have h4W : H4 W ≠ none := by rw [hW4]; exact fun z => by cases z
      have hOB : off H5 W O = some (.lst os) := by rw [off_ne nOW]; exact hO5
      have hosB := paired_imp (fun v x r => offer_but (D := W) (H' := off H5 W) off_same hW5 h4W r) hos
      have hwsB := paired_imp (fun v x r => pairS_but (D := W) (H' := off H5 W) r off_same hW5) (paired_mono f5 hws0)
      have hofl : (((pairsOf w2 m).filter fun q => !decide (q ∈ T0)).map fun q => (q, offersA w2 m q)).length ≤ 168 := by
        rw [List.length_map]
        exact Nat.le_trans (List.length_filter_le _ _) hpl
      have hosl := paired_len hos
      have eH5 : H5 = upd (off H5 W) W (.lst ws0) := off_self hW5
      have nBW : off H5 W W = none := off_at
      rw [eH5]
      generalize off H5 W = B at fB hOB hosB hwsB nBW
      walk_at "rd"
      refine i_while ⟨fun n σ H' => ∃ G ws T b v7 v11 v12, H' = upd G W (.lst ws) ∧ G W = none ∧ Same B G ∧ Paired (rPair G) ws T ∧ WI ⟨w2, .always, gl⟩ m T ∧ (b = false → ∀ q ∈ ((pairsOf w2 m).filter fun q => !decide (q ∈ T0)), q ∉ T → sureA w2 m T q = []) ∧ σ = [some (.ref a), some (.ref st), some (.int (d1 : Int)), some (.ref d), v4, some (.int (m : Int)), some (.ref l3), v7, some (.ref W), some (.ref O), some (.bl b), v11, v12, none, none, none, none, none] ∧ n = 2 * Mz (pairsOf w2 m) T + (if b = true then 1 else 0), ⟨_, B, ws0, T0, true, _, _, _, rfl, nBW, Same.refl _, hwsB, WI0, (fun z => by cases z), rfl, rfl⟩, ?_⟩
      rintro n σ H' ⟨G, ws, T1, b, v7, v11, v12, rfl, nG, eG, hws, wi, hcl, rfl, rfl⟩
      walk_at "rd"
      cases b with
      | false =>
        have won : LawWon ⟨w2, .always, gl⟩ m T1 := wi.won fun q hq hn => hcl rfl q (List.mem_filter.mpr ⟨hq, by
          rw [decide_eq_false (fun z => ?_)]
          · rfl
          · rw [← hT0] at z
            exact hn (wi.inc q hq (List.mem_filter.mp z).2)⟩) hn
        walk_at "rd"
        refine ⟨Nat.zero_le _, fun Du nDu => ?_⟩
        have f06 : Same HH (upd G W (.lst ws)) := f13.trans (fB.trans (eG.trans (same_new nG)))
        have hW6 : upd G W (.lst ws) W = some (.lst ws) := upd_same
        have hws6 := paired_mono (same_new (o := .lst ws) nG) hws
        generalize upd G W (.lst ws) = H6 at f06 hW6 hws6 nDu
        have eDu : Same H6 (upd H6 Du (.lst [])) := same_new nDu
        have hDu : upd H6 Du (.lst []) Du = some (.lst []) := upd_same
        generalize upd H6 Du (.lst []) = H6' at eDu hDu
        walk_at "rd"
        refine ⟨d, fl, pl, rl, w2, rfl, WA.1.same (f06.trans eDu), hsl2, fun v H7 f7 ⟨lS, vsS, ev, hlS, hpS⟩ => ?_⟩
        subst ev
        have hD7 := f7 _ _ hDu
        have hSl := paired_len hpS
        have nSD : lS ≠ Du := fun z => by
          rw [z, hD7] at hlS
          have h := HO.lst.inj (Option.some.inj hlS)
          rw [← h] at hSl
          have h2 := states_len (w2.facts ++ w2.piles)
          rw [← hSl] at h2
          exact absurd h2 (Nat.ne_of_lt (Nat.pow_pos (by decide)))
        refine ⟨lS, rfl, ⟨_, SqL.of hlS⟩, ?_⟩
        have f67 : Same H6 (off H7 Du) := same_off' nDu (eDu.trans f7)
        have hlS7 : off H7 Du lS = some (.lst vsS) := by rw [off_ne nSD]; exact hlS
        have hpS7 : Paired (rTupS (off H7 Du)) vsS (statesOf w2.seen) := paired_imp (fun v x r => tupS_but (D := Du) (H' := off H7 Du) r off_same hD7) hpS
        have eH7 : H7 = upd (off H7 Du) Du (.lst []) := off_self hD7
        have n7 : off H7 Du Du = none := off_at
        rw [eH7]
        generalize off H7 Du = G7 at f67 hlS7 hpS7 n7
        refine for_w (walk_list (xs := vsS)) (fun i σ H' => ∃ G us v14 v15, H' = upd G Du (.lst us) ∧ G Du = none ∧ Same G7 G ∧ Paired (rTupS G) us (((statesOf w2.seen).take i).filter fun s => decide ((s, (startNum w2 m s : Int)) ∈ T1)) ∧ σ = [some (.ref a), some (.ref st), some (.int (d1 : Int)), some (.ref d), v4, some (.int (m : Int)), some (.ref l3), v7, some (.ref W), some (.ref O), some (.bl false), v11, v12, some (.ref Du), v14, v15, none, none]) ⟨G7, [], _, _, rfl, n7, Same.refl _, .nil, rfl⟩ (fun i σ H' _ ⟨G, us, _, _, eH, _, e, _⟩ => SqL.of (by rw [eH, upd_ne nSD]; exact e _ _ hlS7)) ?_ ?_
        · rintro i x σ H' H'' hi ⟨G8, us, v14, v15, rfl, nG8, eG8, hus, rfl⟩ ⟨rfl, hx⟩
          obtain ⟨sx, hs, rx⟩ := paired_get hpS7 hx
          have hsm : sx ∈ statesOf w2.seen := List.mem_of_getElem? hs
          obtain ⟨b, rfl, hb⟩ := mono rx eG8
          have hul : us.length ≤ 8 := by
            rw [paired_len hus]
            exact Nat.le_trans (List.length_filter_le _ _) (Nat.le_trans (by rw [List.length_take]; exact Nat.min_le_right _ _) hN8)
          refine i_gname ?_
          refine i_seq ?_
          refine i_asg ?_
          refine i_var (by rfl) ?_
          refine i_seqW (fun σ' H' => ∃ G9, H' = upd G9 Du (.lst us) ∧ G9 Du = none ∧ Same G8 G9 ∧ σ' = [some (.ref a), some (.ref st), some (.int (d1 : Int)), some (.ref d), v4, some (.int (m : Int)), some (.ref l3), v7, some (.ref W), some (.ref O), some (.bl false), v11, v12, some (.ref Du), some (.ref b), some (.int ((startNum w2 m sx : Nat) : Int)), none, none]) ?_ ?_
          · rintro σ' H' ⟨G9, rfl, n9, e9, rfl⟩
            walk_at "rd"
            refine ⟨show 2 ≤ sizeLine by decide, fun tp ntp => ?_⟩
            obtain ⟨ntp9, ntpD⟩ := none_of_upd ntp
            have e10 : Same G9 (upd G9 tp (.tup [.ref b, .int ((startNum w2 m sx : Nat) : Int)])) := same_new ntp9
            have htp : upd G9 tp (.tup [.ref b, .int ((startNum w2 m sx : Nat) : Int)]) tp = some (.tup [.ref b, .int ((startNum w2 m sx : Nat) : Int)]) := upd_same
            have n10 : upd G9 tp (.tup [.ref b, .int ((startNum w2 m sx : Nat) : Int)]) Du = none := by rw [upd_ne (Ne.symm ntpD)]; exact n9
            rw [upd_swap' ntpD]
            generalize upd G9 tp (.tup [.ref b, .int ((startNum w2 m sx : Nat) : Int)]) = G10 at e10 htp n10
            have eD : Same G10 (upd G10 Du (.lst us)) := same_new n10
            have f6 := f67.trans (eG8.trans (e9.trans (e10.trans eD)))
            walk_at "rd"
            refine i_inQ (s := (sx, ((startNum w2 m sx : Nat) : Int))) ⟨tp, _, _, rfl, eD _ _ htp, ⟨b, rfl, ((e9.trans e10).trans eD) _ _ hb⟩, rfl⟩ ⟨W, ws, rfl, f6 _ _ hW6, paired_mono f6 hws6⟩ (oks.okS hsm) (okT wi) ⟨_, rfl, ?_⟩
            have ht : (statesOf w2.seen).take (i + 1) = (statesOf w2.seen).take i ++ [sx] := take_more hs
            by_cases hw : (sx, ((startNum w2 m sx : Nat) : Int)) ∈ T1
            · rw [decide_eq_true hw]
              walk_at "rd"
              refine ⟨.inl ⟨rfl, _, SqL.of upd_same⟩, ?_⟩
              walk_at "rd"
              refine i_append upd_same (by omega) ?_
              rw [upd_upd]
              refine ⟨G10, _, _, _, rfl, n10, eG8.trans (e9.trans e10), ?_, rfl⟩
              rw [ht, List.filter_append, filter_one, if_pos (decide_eq_true hw)]
              exact paired_snoc (paired_mono (e9.trans e10) hus) ⟨b, rfl, (e9.trans e10) _ _ hb⟩
            · rw [decide_eq_false hw]
              walk_at "rd"
              refine ⟨G10, us, _, _, rfl, n10, eG8.trans (e9.trans e10), ?_, rfl⟩
              rw [ht, List.filter_append, filter_one, if_neg (fun z => hw (of_decide_eq_true z)), List.append_nil]
              exact paired_mono (e9.trans e10) hus
          · intro N hN
            have f08 : Same HH (upd G8 Du (.lst us)) := f06.trans (f67.trans (eG8.trans (same_new nG8)))
            have W8 := (WA.same f08).1
            walk_at "rd"
            refine ⟨d, _, rfl, W8.gp, ?_⟩
            walk_at "rd"
            refine ⟨Nat.zero_le _, fun el nel => ?_⟩
            obtain ⟨nel8, nelD⟩ := none_of_upd nel
            have e9 : Same G8 (upd G8 el (.lst [])) := same_new nel8
            have hel : upd G8 el (.lst []) el = some (.lst []) := upd_same
            have n9 : upd G8 el (.lst []) Du = none := by rw [upd_ne (Ne.symm nelD)]; exact nG8
            rw [upd_swap' nelD]
            generalize upd G8 el (.lst []) = G9 at e9 hel n9
            have eD : Same G9 (upd G9 Du (.lst us)) := same_new n9
            have f09 : Same HH (upd G9 Du (.lst us)) := f06.trans (f67.trans (eG8.trans (e9.trans eD)))
            have W9 := (WA.same f09).1
            walk_at "rd"
            refine ne_strs (s := w2.piles) (t := []) ⟨pl, rfl, W9.pi⟩ ⟨el, rfl, eD _ _ hel⟩ (fun n hn => name_ok (okD.nm n (List.mem_append.mpr (.inl (List.mem_append.mpr (.inr hn)))))) (by simp) ⟨_, rfl, ?_⟩
            by_cases hpi : w2.piles = []
            · rw [decide_eq_true hpi]
              walk_at "rd"
              refine hN _ _ ⟨G9, rfl, n9, e9, ?_⟩
              rw [show startNum w2 m sx = m by unfold startNum; rw [hpi]; rfl]
              rfl
            · rw [decide_eq_false hpi]
              obtain ⟨pn, hpn⟩ : ∃ pn, w2.piles = [pn] := by
                have h1 := okD.np
                match hp : w2.piles, h1, hpi with
                | [pn], _, _ => exact ⟨pn, rfl⟩
                | [], _, h => exact absurd rfl h
              walk_at "rd"
              refine ⟨d, _, rfl, W9.gp, ?_⟩
              walk_at "rd"
              refine i_ixL0 (SqL.of W9.pi) (by rw [hpn]; rfl) ?_
              walk_at "rd"
              refine i_notInT (.inl (SqT.of ((e9.trans eD) _ _ hb))) ⟨_, rfl, ?_⟩
              by_cases hin : pn ∈ sx
              · rw [decide_eq_true hin]
                walk_at "rd"
                refine hN _ _ ⟨G9, rfl, n9, e9, ?_⟩
                rw [show startNum w2 m sx = m by unfold startNum; rw [hpn]; simp [hin]]
                rfl
              · rw [decide_eq_false hin]
                walk_at "rd"
                refine hN _ _ ⟨G9, rfl, n9, e9, ?_⟩
                rw [show startNum w2 m sx = 0 by unfold startNum; rw [hpn]; simp [hin]]
                rfl
        · rintro σ H' ⟨G8, us, v14, v15, rfl, nG8, eG8, hus, rfl⟩
          rw [hSl, show statesOf (w2.facts ++ w2.piles) = statesOf w2.seen from rfl, List.take_length] at hus
          walk_at "rd"
          have f09 : Same HH (upd G8 Du (.lst us)) := f06.trans (f67.trans (eG8.trans (same_new nG8)))
          refine ⟨d, fl, pl, rl, ac, w2, .ref ts, yg, .always, gl, rfl, WA.same f09, okD, hne, ⟨kvs, .inl (f09 _ _ hdd), ks11, kg11⟩, mono hys f09, mono hyg f09, by decide, hgd, (fun m hm => by cases hm), hgn, fun v9 H9 e9 hv9 => ?_⟩
          walk_at "rd"
          refine ⟨v9, bw, ⟨w2, .always, gl⟩, cn, rfl, hv9, hbw, hcn, fun v10 H10 T' g e10 hv10 hgm hok hT => ?_⟩
          walk_at "rd"
          have hmo : g.order.length ≤ m := by
            have h1 := len_split (fun s => gl.holds s) (statesOf w2.seen)
            have h2 : g.order.length = ((statesOf w2.seen).filter fun s => !gl.holds s).length := by
              rw [hgm.order]
              congr 1
              refine List.filter_congr fun s hs => ?_
              congr 1
              cases hh : gl.holds s with
              | true => exact decide_eq_true (mem_goals.mpr ⟨hs, hh⟩)
              | false =>
                refine decide_eq_false fun z => ?_
                have := (mem_goals.mp z).2
                rw [show (Tk.goal ⟨w2, .always, gl⟩) = gl from rfl, hh] at this
                cases this
            omega
          rw [plain_law okD hcn hgm hT (by omega) hmo won] at hv10
          refine ⟨v10, .ref Du, _, rfl, hv10, ⟨Du, us, rfl, e10 _ _ (e9 _ _ upd_same), paired_mono ((same_new nG8).trans (e9.trans e10)) hus⟩, fun s hs => ?_, Nat.le_trans (List.length_filter_le _ _) hN8, q _⟩
          have hs := states_sub (List.mem_filter.mp hs).1
          exact ⟨fun n hn => okD.nm n (List.mem_append.mpr (.inl (hs.subset hn))), Nat.le_trans hs.length_le hsl⟩
      | true =>
        refine i_if1 ⟨fun σ H' => ∃ G ws T b v7 v11 v12, H' = upd G W (.lst ws) ∧ G W = none ∧ Same B G ∧ Paired (rPair G) ws T ∧ WI ⟨w2, .always, gl⟩ m T ∧ (b = false → (∀ q ∈ ((pairsOf w2 m).filter fun q => !decide (q ∈ T0)), q ∉ T → sureA w2 m T q = []) ∧ T = T1) ∧ (b = true → Mz (pairsOf w2 m) T < Mz (pairsOf w2 m) T1) ∧ σ = [some (.ref a), some (.ref st), some (.int (d1 : Int)), some (.ref d), v4, some (.int (m : Int)), some (.ref l3), v7, some (.ref W), some (.ref O), some (.bl b), v11, v12, none, none, none, none, none], ?_, ?_⟩
        · rintro σ' H' ⟨G', ws', T', b, u7, u11, u12, rfl, nG', eG', hws', wi', hf, ht, rfl⟩
          refine ⟨_, ?_, G', ws', T', b, u7, u11, u12, rfl, nG', eG', hws', wi', fun z => (hf z).1, rfl, rfl⟩
          cases b with
          | false =>
            rw [(hf rfl).2]
            simp
          | true =>
            have := ht rfl
            simp
            omega
        · walk_at "rd"
          have hOG := eG _ _ hOB
          refine ⟨O, rfl, ⟨_, SqL.of (by rw [upd_ne nOW]; exact hOG)⟩, ?_⟩
          refine for_w (walk_list (xs := os)) (fun i σ H' => ∃ G ws T b v7 v11 v12, H' = upd G W (.lst ws) ∧ G W = none ∧ Same B G ∧ Paired (rPair G) ws T ∧ WI ⟨w2, .always, gl⟩ m T ∧ (b = false → (∀ q ∈ ((pairsOf w2 m).filter fun q => !decide (q ∈ T0)).take i, q ∉ T → sureA w2 m T q = []) ∧ T = T1) ∧ (b = true → Mz (pairsOf w2 m) T < Mz (pairsOf w2 m) T1) ∧ σ = [some (.ref a), some (.ref st), some (.int (d1 : Int)), some (.ref d), v4, some (.int (m : Int)), some (.ref l3), v7, some (.ref W), some (.ref O), some (.bl b), v11, v12, none, none, none, none, none]) ⟨G, ws, T1, false, _, _, _, rfl, nG, eG, hws, wi, (fun _ => ⟨by simp, rfl⟩), (fun z => by cases z), rfl⟩ (fun i σ H' _ ⟨G, ws, _, _, _, _, _, eH, _, e, _⟩ => SqL.of (by rw [eH, upd_ne nOW]; exact e _ _ hOB)) ?_ ?_
          · rintro i x σ H' H'' hi ⟨G2, ws2, T2, b, u7, u11, u12, rfl, nG2, eG2, hws2, wi2, hf2, ht2, rfl⟩ ⟨rfl, hx⟩
            obtain ⟨⟨u, ofs⟩, hu, rx⟩ := paired_get hosB hx
            obtain ⟨u, hu0, hu1⟩ : ∃ u', ((pairsOf w2 m).filter fun q => !decide (q ∈ T0))[i]? = some u' ∧ (u', offersA w2 m u') = (u, ofs) := by
              rw [List.getElem?_map] at hu
              cases hh : ((pairsOf w2 m).filter fun q => !decide (q ∈ T0))[i]? with
              | none => rw [hh] at hu; cases hu
              | some u' => rw [hh] at hu; exact ⟨u', rfl, Option.some.inj hu⟩
            cases hu1
            have hup : u ∈ pairsOf w2 m := (List.mem_filter.mp (List.mem_of_getElem? hu0)).1
            obtain ⟨xa, x0, x1, rfl, hxa, hx0, hx1⟩ := mono rx eG2
            have nxW : xa ≠ W := ne_of_none hxa nG2
            have eU : Same G2 (upd G2 W (.lst ws2)) := same_new nG2
            refine ⟨xa, [x0, x1], rfl, SqT.of (by rw [upd_ne nxW]; exact hxa), rfl, ?_⟩
            refine ⟨_, _, rfl, ⟨_, _, rfl, rfl, ?_⟩⟩
            walk_at "rd"
            obtain ⟨wl, lds, rfl, nwl, hwl, hlds⟩ := mono hx1 eU
            have hx0' := mono hx0 eU
            have hW2 : upd G2 W (.lst ws2) W = some (.lst ws2) := upd_same
            have hwsU := paired_mono eU hws2
            refine ⟨_, rfl, wl, rfl, ⟨_, SqL.of hwl⟩, fun D nD => ?_⟩
            have hofs : (offersA w2 m u).length ≤ 3 := by
              unfold offersA
              rw [List.length_map]
              exact Nat.le_trans (List.length_filter_le _ _) okD.na
            refine lc_w (walk_list (xs := lds)) (rLstN H4 rPair) (rLstN H4 rPair) (ys := offersA w2 m u) (fun led => led.all fun r => decide (r ∈ T2)) id (paired_len hlds) (fun H' s => SqL.of (s _ _ hwl)) (yat_of (rLstN H4 rPair) hlds) (by omega) nD (fun x => rfl) (fun x led G3 sm hx hld Q hQ => ?_) (fun x led G3 sm hx hld hk Q hQ => ?_) (fun H7 zs f7 hz7 hp7 => ?_)
            · obtain ⟨la, rs, rfl, nla, hla, hrs⟩ := id hx
              walk_at "rd"
              refine ⟨_, rfl, la, rfl, ⟨_, SqL.of hla⟩, fun D2 nD2 => ?_⟩
              have hll : led.length < 100000 := by
                obtain ⟨a', ha', rfl⟩ := List.mem_map.mp hld
                obtain ⟨j, ej, hs, hjm, _⟩ := pair_nat hup
                have ej : u.2 = (j : Int) := congrArg Prod.snd ej
                have h1 := laterA_flat (w := w2) (m := m) (q := u) (by omega) (by omega) hm20 a'.2.outs
                have h2 := (okD.acts a' (List.mem_filter.mp ha').1).2.len
                omega
              refine lc_wm (walk_list (xs := rs)) rPair rBool (ys := led) (fun r => decide (r ∈ T2)) (paired_len hrs) (fun H' s => SqL.of (s _ _ hla)) (yat_of rPair hrs) hll nD2 (fun x => rfl) (fun x r G4 sm4 hx4 hr4 Q hQ => ?_) (fun H8 zs8 sm8 hz8 hp8 => ?_)
              · walk_at "rd"
                exact i_inQ hx4 ⟨W, ws2, rfl, (sm.trans sm4) _ _ hW2, paired_mono (sm.trans sm4) hwsU⟩ (offers_ok oks led hld r hr4) (okT wi2) (hQ _ _ (Same.refl _) rfl)
              · walk_at "rd"
                exact i_all hz8 hp8 ⟨_, rfl, hQ _ sm8⟩
            · walk_at "rd"
              exact hQ _ _ (Same.refl _) hx
            rw [List.map_id] at hp7
            have hW7 := f7 _ _ hW2
            walk_at "rd"
            have hkeep : ∀ H8, Same H7 H8 → H8 = upd (off H8 W) W (.lst ws2) ∧ Same G2 (off H8 W) := fun H8 f8 => ⟨off_self (f8 _ _ hW7), same_off nG2 (f7.trans f8)⟩
            have hskip : ∀ H8, Same H7 H8 → (u ∉ T2 → sureA w2 m T2 u = []) → ∃ G ws T b' v7 v11 v12, H8 = upd G W (.lst ws) ∧ G W = none ∧ Same B G ∧ Paired (rPair G) ws T ∧ WI ⟨w2, .always, gl⟩ m T ∧ (b' = false → (∀ q ∈ ((pairsOf w2 m).filter fun q => !decide (q ∈ T0)).take (i + 1), q ∉ T → sureA w2 m T q = []) ∧ T = T1) ∧ (b' = true → Mz (pairsOf w2 m) T < Mz (pairsOf w2 m) T1) ∧ ([some (V.ref a), some (.ref st), some (.int (d1 : Int)), some (.ref d), v4, some (.int (m : Int)), some (.ref l3), some x0, some (.ref W), some (.ref O), some (.bl b), some (.ref wl), some (.ref D), none, none, none, none, none] : L2.St) = [some (.ref a), some (.ref st), some (.int (d1 : Int)), some (.ref d), v4, some (.int (m : Int)), some (.ref l3), v7, some (.ref W), some (.ref O), some (.bl b'), v11, v12, none, none, none, none, none] := by
              intro H8 f8 hno
              obtain ⟨k1, k2⟩ := hkeep H8 f8
              refine ⟨off H8 W, ws2, T2, b, _, _, _, k1, off_at, eG2.trans k2, paired_mono k2 hws2, wi2, fun z => ⟨fun q hq hn => ?_, (hf2 z).2⟩, ht2, rfl⟩
              rw [take_more hu0] at hq
              rcases List.mem_append.mp hq with hq | hq
              · exact (hf2 z).1 q hq hn
              · rw [List.mem_singleton.mp hq] at hn ⊢
                exact hno hn
            refine i_notInQ (mono hx0' f7) ⟨W, ws2, rfl, hW7, paired_mono f7 hwsU⟩ (okP u hup) (okT wi2) ⟨_, rfl, ?_⟩
            by_cases hin : u ∈ T2
            · rw [decide_eq_true hin]
              walk_at "rd"
              exact hskip H7 (Same.refl _) fun z => absurd hin z
            · rw [decide_eq_false hin]
              walk_at "rd"
              refine ⟨Nat.zero_le _, fun el nel => ?_⟩
              walk_at "rd"
              have fe : Same H7 (upd H7 el (.lst [])) := same_new nel
              refine ne_leds (H0 := H4) (fe _ _ hz7) (paired_mono fe hp7) upd_same (fun l hl => offers_ok oks l (List.mem_filter.mp hl).1) ⟨_, rfl, ?_⟩
              by_cases hsu : sureA w2 m T2 u = []
              · rw [show decide (List.filter (fun led => List.all led fun r => decide (r ∈ T2)) (offersA w2 m u) = []) = true from decide_eq_true hsu]
                walk_at "rd"
                exact hskip _ fe fun _ => hsu
              · rw [show decide (List.filter (fun led => List.all led fun r => decide (r ∈ T2)) (offersA w2 m u) = []) = false from decide_eq_false hsu]
                walk_at "rd"
                refine ⟨.inl ⟨rfl, _, SqL.of (fe _ _ hW7)⟩, ?_⟩
                walk_at "rd"
                have hwl2 := paired_len hws2
                have hTl := wi2.len
                refine i_append (fe _ _ hW7) (by rw [hwl2]; exact Nat.lt_of_le_of_lt (Nat.le_trans (Nat.le_add_right _ _) hTl) (Nat.lt_of_le_of_lt hpl (by decide))) ?_
                walk_at "rd"
                obtain ⟨k1, k2⟩ := hkeep _ fe
                refine ⟨off (upd H7 el (.lst [])) W, ws2 ++ [x0], T2 ++ [u], true, _, _, _, upd_off.symm, off_at, eG2.trans k2, paired_snoc (paired_mono k2 hws2) (mono hx0 k2), wi2.put hup hin hsu, (fun z => by cases z), fun _ => ?_, rfl⟩
                have h1 := mz_put hup hin
                cases b with
                | false =>
                  rw [(hf2 rfl).2] at h1 ⊢
                  exact h1
                | true =>
                  have := ht2 rfl
                  omega
          · rintro σ H' ⟨G2, ws2, T2, b, u7, u11, u12, rfl, nG2, eG2, hws2, wi2, hf2, ht2, rfl⟩
            rw [hosl, List.length_map, List.take_length] at hf2
            walk_at "rd"
            exact ⟨G2, ws2, T2, b, _, _, _, rfl, nG2, eG2, hws2, wi2, hf2, ht2, rfl⟩
end
end Nos
theorem PySem.Challenge.cw_noneorsome_k53_whole_one_counter_by_numb_holds : PySem.Challenge.rw_noneorsome_k53_whole_one_counter_by_numb.Holds := by
  exact Nos.held_of fun T => Nos.b_law T
