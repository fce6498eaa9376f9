import PyProof.Rows.All
import Wide.All
import OpenK.AllK
import Wide.FinOn
import KE.KStateDown
import Lean
import HandS.ForMost
import HandS.Exc
import HandS.TryOnly
import HandS.ExcOwn
import HandS.WordsExc
import HandS.ExcInit
import HandS.ExcField
import HandS.CallSlots
import HandS.StrMore
import HandS.DictComp
import HandS.Defaults
import HandS.Conv
import HandS.RaiseMore
import HandS.IsInst
import HandS.Flow
import HandS.Style
import HandS.Wide
import HandS.ClsMeth
import HandS.Evl
import HandS.Small
import HandS.Zip
import HandS.Head0
import HandS.Head1
import HandS.Head2
import HandS.HeadEnd
import HandS.HeadHook1
import HandS.HeadHook2
import PyProof.EqAt
import PyProof.NeKinds
import PySem.Challenge.RW_alljourneys_k81_whole_first_wrong_places
import PyProof.StrLawsLast
import PyProof.StrLawsIn
import PyProof.Rows.StrCut
import HandS.Text
import PyProof.StrLawsChain
import PyProof.StrLawsTight
import PyProof.Rows.StrItems
import PyProof.Rows.StrSplitCount
import PyProof.FitsReplace
import HandS.Replace
import HandS.ReplaceLit
import HandS.ReplaceDef
set_option Elab.async false
set_option linter.all false
set_option maxRecDepth 100000
set_option maxHeartbeats 4000000
/-! Rules and words of my own over the hand layer: a class's __init__ called by its base's name, attributes as targets of a tuple, defs as one fact (Ok), frames (Kp), data that stays (Dp). -/
namespace Lx
open PySem PySem.Spec PyProof.Rows L2
theorem pe_jinit {X : Cx} {J : Addr} {e : Expr} {es : List Expr} {ta : TA} {x : Str} {p1 p2 pos : Pos} {pl : Sem Bool} (hg : Gl X x) (hm : X.mg x = some (.ref J)) (r : ClX.CRead X.K J (.type "type"))
    (vV : PySem.W.findCls X.K (.ref J) (.type "type") "__init__" = some (.val (.builtin "ValueError.__init__"))) (ha : PA X (e :: es) ta)
    (hc : eval (.Call (.Attribute (.Name x p1) "__init__" p2) (e :: es) [] pos) X.env = (do
      let ov ← eval (.Name x p1) X.env
      standAt p2.atName
      let (f, first) ← holding [ov] (getMethod ov "__init__" pl)
      callWith pos f first (backTo pos (starEach (e :: es) X.env)) (backToKw pos (keywordEach [] X.env))) := by rfl)
    (hdb : (x == ("__debug__" : Str)) = false := by decide)
    (he : starEach (e :: es) X.env = (false, eval e X.env) :: starEach es X.env := by rfl) (hpl : (backTo pos (starEach es X.env)).any (·.1) = false := by rfl) :
    PE X (.Call (.Attribute (.Name x p1) "__init__" p2) (e :: es) [] pos) (tVeI X.K ta) := by
  refine ⟨fun pins s σ H Q I h => ?_⟩
  refine PySem.W.methodCall_KW (ld_glob I hg hm ?_ hdb) hc
  refine PySem.W.method_cls I.kIn r.ga ?_
  refine PySem.W.cls_value I.kIn r.rd vV (by rfl) ?_
  show wpAny _ _ (callWith pos (Value.builtin "ValueError.__init__") [] (backTo pos (starEach (e :: es) X.env)) []) _ _ _
  refine PyProof.Rows.callWith_method1 (thn (ha.run pos pins _ σ H _ (I.tok _) h) fun us s1 ⟨vs, H1, I1, r1, a, C, ws, ev, hl, T, ea, q⟩ => ?_) he hpl
  subst ev
  cases r1 with
  | @cons _ u0 _ ur ra rw' =>
    obtain rfl : u0 = Value.ref a := ra
    have hlen : ur.length ≤ sizeLine := by
      rw [← Paired.length rw', sizeLine_eq]
      omega
    exact oinit_ok T I1 ea hlen fun s' J => ⟨.non, H1, J, rfl, q⟩
/-- o.f as a target among others -/
def gFld (K : PySem.W.Frag) (to : TE) (f : Str) : TG := fun v σ H Q => to σ H fun x H1 => ∃ a C dx fs, x = .ref a ∧ H1 a = some (.ins C dx fs) ∧ Cls K C ∧ NoAttr K C f ∧ fs.length < 1000 ∧ Q σ (upd H1 a (.ins C dx (putF f v fs)))
theorem pg_fld {X : Cx} {o : Expr} {f : Str} {pos : Pos} {to : TE} (ho : PE X o to)
    (ha : ∀ v, assign (.Attribute o f pos) X.env v = (do
      let ov ← holding [v] (eval o X.env)
      standAt pos.atName
      holding [v, ov] (setAttr ov f v)
      release [v, ov] []) := by intro _; rfl) : PG X (.Attribute o f pos) (gFld X.K to f) := by
  refine ⟨fun pins s σ H v u Q I r h => ?_⟩
  rw [ha]
  refine wpAny_bind (wpAny_holding (thn (ho.run pins s σ H _ I h) fun ov s1 ⟨x, H1, I1, r1, a, C, dx, fs, ex, ea, c, n, l, q1⟩ => ?_))
  subst ex
  obtain rfl : ov = Value.ref a := r1
  refine wpAny_bind (wpAny_standAt (wpAny_bind (wpAny_holding (setattr_ok I1 ea c n l r fun s3 I3 => ?_))))
  exact wpAny_release ⟨σ, _, I3, q1⟩

/-! ### a def, its promise -/
structure Ok (P : Program) (w : World) (K : PySem.W.Frag) (mg : Str → Option Value) (base : Heap) (k : Nat) (f : Addr) (ps : List Str) (dvs : List V) (sp : Sp) : Prop where
  ex : ∃ fd ds, FnOk P w K mg base (L2.CX P w) k f fd ps sp ∧ Binds K fd ps ds ∧ Vals dvs ds
  kp : PySem.W.keepIn K (.ref f) = true
theorem Ok.imp {P : Program} {w : World} {K : PySem.W.Frag} {mg : Str → Option Value} {base : Heap} {k : Nat} {f : Addr} {ps : List Str} {dvs : List V} {sp sp' : Sp} (F : Ok P w K mg base k f ps dvs sp) (h : ∀ vs H Q E, sp' vs H Q E → sp vs H Q E) :
    Ok P w K mg base k f ps dvs sp' := by
  obtain ⟨⟨fd, ds, F1, b, d⟩, kp⟩ := F
  exact ⟨⟨fd, ds, F1.imp h, b, d⟩, kp⟩
section
variable {X : Cx} {k : Nat} {f C : Addr} {ps : List Str} {sp : Sp} {dvs : List V} {E : XK} {x m : Str} {p pos apos : Pos} {e o : Expr} {es : List Expr} {ta : TE} {t : TA}
theorem po_call (F : Ok X.prog X.w X.K X.mg X.base k f ps dvs sp) (hr : Room k X.A) (hg : Gl X x) (hm : X.mg x = some (.ref f)) (hx : Passes (L2.CX X.prog X.w) X E)
    (ha : PA X (e :: es) t) (hdb : (x == ("__debug__" : Str)) = false := by decide) (he : starEach (e :: es) X.env = (false, eval e X.env) :: starEach es X.env := by rfl) (hpl : (backTo pos (starEach es X.env)).any (·.1) = false := by rfl) :
    PE X (.Call (.Name x p) (e :: es) [] pos) (tCall sp dvs E t) := by
  obtain ⟨⟨fd, ds, F1, b, d⟩, kp⟩ := F
  exact pe_call F1 hr hg hm kp b d hx ha hdb he hpl
theorem po_call0 (F : Ok X.prog X.w X.K X.mg X.base k f ps dvs sp) (hr : Room k X.A) (hg : Gl X x) (hm : X.mg x = some (.ref f)) (hx : Passes (L2.CX X.prog X.w) X E)
    (hdb : (x == ("__debug__" : Str)) = false := by decide) : PE X (.Call (.Name x p) [] [] pos) (tCall sp dvs E tNil) := by
  obtain ⟨⟨fd, ds, F1, b, d⟩, kp⟩ := F
  exact pe_call0 F1 hr hg hm kp b d hx hdb
theorem po_meth {pl : Sem Bool} (he : PE X o ta) (c : Cls X.K C) (hm : Meth X.K C m f) (F : Ok X.prog X.w X.K X.mg X.base k f ps dvs sp) (hr : Room k X.A) (hx : Passes (L2.CX X.prog X.w) X E) (ha : PA X (e :: es) t)
    (hst : starEach (e :: es) X.env = (false, eval e X.env) :: starEach es X.env := by rfl) (hpl : (backTo pos (starEach es X.env)).any (·.1) = false := by rfl)
    (ht : eval (.Call (.Attribute o m apos) (e :: es) [] pos) X.env = (do
      let ov ← eval o X.env
      standAt apos.atName
      let (f, first) ← holding [ov] (getMethod ov m pl)
      callWith pos f first (backTo pos (starEach (e :: es) X.env)) (backToKw pos (keywordEach [] X.env))) := by rfl) :
    PE X (.Call (.Attribute o m apos) (e :: es) [] pos) (tMeth C m sp dvs E ta t) := by
  obtain ⟨⟨fd, ds, F1, b, d⟩, kp⟩ := F
  exact pe_meth he c hm F1 hr b d hx ha hst hpl ht
theorem po_meth0 {pl : Sem Bool} (he : PE X o ta) (c : Cls X.K C) (hm : Meth X.K C m f) (F : Ok X.prog X.w X.K X.mg X.base k f ps dvs sp) (hr : Room k X.A) (hx : Passes (L2.CX X.prog X.w) X E)
    (ht : eval (.Call (.Attribute o m apos) [] [] pos) X.env = (do
      let ov ← eval o X.env
      standAt apos.atName
      let (f, first) ← holding [ov] (getMethod ov m pl)
      callWith pos f first (backTo pos (starEach [] X.env)) (backToKw pos (keywordEach [] X.env))) := by rfl) :
    PE X (.Call (.Attribute o m apos) [] [] pos) (tMeth C m sp dvs E ta tNil) := by
  obtain ⟨⟨fd, ds, F1, b, d⟩, kp⟩ := F
  exact pe_meth0 he c hm F1 hr b d hx ht
theorem po_make (M : Mk X.K C f) (F : Ok X.prog X.w X.K X.mg X.base k f ps dvs sp) (hr : Room (k + 1) X.A) (hg : Gl X x) (hm : X.mg x = some (.ref C)) (hx : Passes (L2.CX X.prog X.w) X E)
    (ha : PA X (e :: es) t) (hdb : (x == ("__debug__" : Str)) = false := by decide) (he : starEach (e :: es) X.env = (false, eval e X.env) :: starEach es X.env := by rfl) (hpl : (backTo pos (starEach es X.env)).any (·.1) = false := by rfl) :
    PE X (.Call (.Name x p) (e :: es) [] pos) (tMake C sp dvs E t) := by
  obtain ⟨⟨fd, ds, F1, b, d⟩, kp⟩ := F
  exact pe_make M F1 hr hg hm b d hx ha hdb he hpl
/-- C(..), what is raised is wished for at the caller's slots -/
def tMakeS (C : Addr) (sp : Sp) (dvs : List V) (E : L2.St → XK) (t : TA) : TE := fun σ H Q => t σ H fun vs H1 => ∀ x dx, H1 x = none → H1 dx = none → dx ≠ x →
  sp (.ref x :: (vs ++ dvs)) (upd (upd H1 dx (.own x)) x (.ins C dx [])) (fun v H2 => v = .non ∧ Q (.ref x) H2) (E σ)
theorem po_makeS {E : L2.St → XK} (M : Mk X.K C f) (F : Ok X.prog X.w X.K X.mg X.base k f ps dvs sp) (hr : Room (k + 1) X.A) (hg : Gl X x) (hm : X.mg x = some (.ref C)) (hx : ∀ σ, PassesAt (L2.CX X.prog X.w) X σ (E σ))
    (ha : PA X (e :: es) t) (hdb : (x == ("__debug__" : Str)) = false := by decide) (he : starEach (e :: es) X.env = (false, eval e X.env) :: starEach es X.env := by rfl) (hpl : (backTo pos (starEach es X.env)).any (·.1) = false := by rfl) :
    PE X (.Call (.Name x p) (e :: es) [] pos) (tMakeS C sp dvs E t) := by
  obtain ⟨⟨fd, ds, F1, hb, hd⟩, kp⟩ := F
  refine ⟨fun pins s σ H Q I h => ?_⟩
  refine wpAny_Call_Name_kw (ld_glob I hg hm ?_ hdb)
  refine PySem.W.callWith_K (h₀ := X.base) I.ok.mod.kin M.kp (thn (ha.run pos pins s σ H _ I h) fun us s1 ⟨vs, H1, I1, r, q⟩ => ⟨I1.kIn, ?_⟩) he hpl
  have hq := q (s1.heap.objs.size + 1) s1.heap.objs.size (I1.hok.fresh (Nat.le_succ _)) (I1.hok.fresh (Nat.le_refl _)) (Nat.ne_of_lt (Nat.lt_succ_self _))
  have I2 := Inv.made (C := C) I1
  have r2 : Vals (V.ref (s1.heap.objs.size + 1) :: (vs ++ dvs)) (Value.ref (s1.heap.objs.size + 1) :: (us ++ ds)) := .cons rfl (r.append hd)
  have hl : (Value.ref (s1.heap.objs.size + 1) :: us ++ ds).length = ps.length := by
    have e := r2.length
    rw [F1.len _ _ _ _ hq] at e
    exact e.symm
  refine wpAny_call (make_map (f := f) I1.kIn M.makes M.init (beq_iff_eq.mp M.fn) (codeAny_mono (F1.run _ X.stack _ _ ⟨Value.ref (s1.heap.objs.size + 1) :: us, []⟩ (Value.ref (s1.heap.objs.size + 1) :: (us ++ ds)) _ _ (E σ) (hr.make C us [])
    (I2.env0.make C us []) (hb _ (Value.ref (s1.heap.objs.size + 1) :: us) I2.kIn hl) r2 hq) fun r s' hq' => ?_))
  cases r with
  | error e => exact hx σ pins _ _ e s' I2 hq'
  | ok fl =>
    cases fl with
    | ret u =>
      obtain ⟨v, H', I3, rv, ev, q3⟩ := I2.after hq'
      subst ev
      exact ⟨rv, ⟨V.ref (s1.heap.objs.size + 1), H', I3, rfl, q3⟩⟩
    | next => exact False.elim hq'
    | brk => exact False.elim hq'
    | cont => exact False.elim hq'
/-- C(e, ..) as what is raised -/
theorem po_exc (T : OexC X.K C) (iC : PySem.W.findIn X.K (.ref C) "__init__" = some (some (.ref f))) (tI : PySem.W.typeIn X.K (.ref f) = some (.type "function"))
    (F : Ok X.prog X.w X.K X.mg X.base k f ps dvs sp) (hr : Room (k + 1) X.A) (hx : Passes (L2.CX X.prog X.w) X E0) (hg : Gl X x) (hm : X.mg x = some (.ref C)) (ha : PA X (e :: es) t)
    (hdb : (x == ("__debug__" : Str)) = false := by decide) (he : starEach (e :: es) X.env = (false, eval e X.env) :: starEach es X.env := by rfl) (hpl : (backTo pos (starEach es X.env)).any (·.1) = false := by rfl) :
    PMk X (.Call (.Name x p) (e :: es) [] pos) (tMkO C sp dvs t) := by
  obtain ⟨⟨fd, ds, F1, b, d⟩, kp⟩ := F
  exact pmk_oex T iC tI F1 hr b d hx hg hm ha hdb he hpl
end
section
variable {P : Program} {w : World} {K : PySem.W.Frag} {mg : Str → Option Value} {base : Heap} {x qual : Str} {params : Arguments} {body : List Stmt} {scope : Scope} {dvs : List V} {f : Addr} {N ps : List Str} {k : Nat} {sp : Sp}
/-- a def without defaults -/
theorem ok_mk (F : ∃ fd, FunD K x qual params body scope [] [] f fd) (S : FnScope N ps scope) (len : ∀ vs H Q E, sp vs H Q E → vs.length = ps.length)
    (hb : ∀ (kV doc pm : Value) (an : Option Addr) (cdv ct : Value) (us : List Value), us.length = ps.length → bindArgs (PySem.W.fnOf x qual params body scope .none kV doc pm an cdv ct) ⟨us, []⟩ = pure (ps.zip us))
    (hbody : ∀ (cdv : Value) (A : Around) (outer : List Env) (s : Shared) (H : Hp) (vs : List V) (Q : VK) (E : XK), Room k (A.deeper (envOfC qual scope s.heap.objs.size f cdv)) → sp vs H Q E →
      ∃ t, PSs (cxOf (L2.CX P w) P w K mg base N qual scope f cdv A outer s H E) body t ∧ t { nx := fun _ H' => Q .non H', rt := Q } (start N vs) H) : Ok P w K mg base (k + 1) f ps [] sp := by
  obtain ⟨fd, F⟩ := F
  exact ⟨⟨fd, [], F.ok S len hbody, F.bindsN hb, .nil⟩, F.kp⟩
/-- a def with defaults: n values are written at each call, the last j defaults fill up -/
theorem ok_mkD (n j : Nat) (F : ∃ fd, FunD K x qual params body scope dvs [] f fd) (S : FnScope N ps scope) (len : ∀ vs H Q E, sp vs H Q E → vs.length = ps.length) (hd : dvs ≠ []) (hn : n + (dvs.length - j) = ps.length)
    (h : ∀ (T : Addr) (kV doc pm : Value) (an : Option Addr) (cdv ct : Value) (us its : List Value), us.length = n → its.length = dvs.length →
      ∃ k, bindArgs (PySem.W.fnOf x qual params body scope (.ref T) kV doc pm an cdv ct) ⟨us, []⟩ = seqItems? (.ref T) >>= k ∧ k (some its.toArray) = pure (ps.zip (us ++ its.drop j)))
    (hbody : ∀ (cdv : Value) (A : Around) (outer : List Env) (s : Shared) (H : Hp) (vs : List V) (Q : VK) (E : XK), Room k (A.deeper (envOfC qual scope s.heap.objs.size f cdv)) → sp vs H Q E →
      ∃ t, PSs (cxOf (L2.CX P w) P w K mg base N qual scope f cdv A outer s H E) body t ∧ t { nx := fun _ H' => Q .non H', rt := Q } (start N vs) H) : Ok P w K mg base (k + 1) f ps (dvs.drop j) sp := by
  obtain ⟨fd, F⟩ := F
  obtain ⟨ds, r, b⟩ := F.binds1 n j hd hn h
  exact ⟨⟨fd, ds, F.ok S len hbody, b, r⟩, F.kp⟩
end
theorem hu1 {k : Nat} {A : Around} (r : Room k A) : A.units + 1 < cLine := by have := r.un; omega
/-! ### frames -/
abbrev Ex := Evl.Ex
/-- all but what stands at ms is kept -/
def Kp (ms : List Addr) (H H' : Hp) : Prop := ∀ a o, a ∉ ms → H a = some o → H' a = some o
theorem Kp.refl (ms : List Addr) (H : Hp) : Kp ms H H := fun _ _ _ h => h
theorem Kp.trans {ms : List Addr} {H H1 H2 : Hp} (a : Kp ms H H1) (b : Kp ms H1 H2) : Kp ms H H2 := fun x o m h => b x o m (a x o m h)
theorem Kp.mono {ms ns : List Addr} {H H' : Hp} (h : Kp ms H H') (s : ∀ a ∈ ms, a ∈ ns) : Kp ns H H' := fun a o m e => h a o (fun z => m (s a z)) e
theorem Kp.of {ms : List Addr} {H H' : Hp} (h : Ex H H') : Kp ms H H' := fun a o _ e => h a o e
theorem Kp.new {ms : List Addr} {H H' : Hp} {p : Addr} {o : HO} (h : Kp ms H H') (n : H p = none) : Kp ms H (upd H' p o) := fun a u m e => by
  rw [upd_ne (ne_of_none e n)]
  exact h a u m e
theorem Kp.put {ms : List Addr} {H H' : Hp} {p : Addr} {o : HO} (h : Kp ms H H') (n : p ∈ ms) : Kp ms H (upd H' p o) := fun a u m e => by
  rw [upd_ne (fun z => m (by rw [z]; exact n))]
  exact h a u m e
theorem Kp.new2 {ms : List Addr} {H H' : Hp} {p : Addr} {o : HO} (h : Kp ms H H') (n : H' p = none) : Kp ms H (upd H' p o) := fun a u m e => by
  have e2 := h a u m e
  rw [upd_ne (ne_of_none e2 n)]
  exact e2
/-- what was not there may change -/
theorem Kp.out {ns : List Addr} {H H1 H2 : Hp} {q : Addr} (a : Kp ns H H1) (b : Kp [q] H1 H2) (n : H q = none) : Kp ns H H2 := fun x o m e => b x o (fun z => by
  rw [List.mem_singleton.mp z, n] at e
  cases e) (a x o m e)
theorem Kp.ex {H H' : Hp} (h : Kp [] H H') : Ex H H' := fun a o e => h a o (by simp) e
theorem fresh {H H' : Hp} {ms : List Addr} {p : Addr} (h : Kp ms H H') (n : H' p = none) (m : p ∉ ms) : H p = none := by
  cases e : H p with
  | none => rfl
  | some o =>
    rw [h p o m e] at n
    cases n
/-! ### data that stays -/
section
variable {K : PySem.W.Frag} {H H' : Hp}
theorem sl_mono (e : Ex H H') {a : Addr} {xs : List V} (h : SqL K H a xs) : SqL K H' a xs := Evl.ex_l e h
theorem st_mono (e : Ex H H') {a : Addr} {xs : List V} (h : SqT K H a xs) : SqT K H' a xs := Evl.ex_t e h
mutual
theorem dp_mono (e : Ex H H') : ∀ {v : V} {d : PyData}, Dp K H v d → Dp K H' v d
  | _, _, .non => .non
  | _, _, .bl b => .bl b
  | _, _, .int i => .int i
  | _, _, .str x => .str x
  | _, _, .lst h a => .lst (sl_mono e h) (dpa_mono e a)
  | _, _, .tup h a => .tup (st_mono e h) (dpa_mono e a)
theorem dpa_mono (e : Ex H H') : ∀ {vs : List V} {ds : List PyData}, DpAll K H vs ds → DpAll K H' vs ds
  | _, _, .nil => .nil
  | _, _, .cons a b => .cons (dp_mono e a) (dpa_mono e b)
end
end
end Lx
set_option Elab.async false
set_option linter.all false
set_option maxRecDepth 100000
set_option maxHeartbeats 4000000
/-! The head's facts, with own exception classes (their base's __init__ called by name). -/
namespace Lx
open PySem PySem.Spec PyProof.Rows L2
/-- an own exception class over ValueError with an __init__ of its own -/
structure ExF (K : PySem.W.Frag) (C : Addr) : Prop where
  oex : OexC K C
  xf : XfC K C
  iC : PySem.W.findIn K (.ref C) "__init__" = some (some (.ref (He.ma K C "__init__")))
  tI : PySem.W.typeIn K (.ref (He.ma K C "__init__")) = some (.type "function")
def exclsB (K : PySem.W.Frag) (C : Addr) : Bool := match K.lookup C with
  | some ⟨.type "type", _, .cls cd, sl⟩ => (match cd.mro, sl.toList with
    | .ref C' :: bm, [_, _, _, _, some (.builtin n), _] => C' == C && n == "ValueError.__new__" && !cd.hasDel && cd.hasDict && PySem.HandSPX.refsVE bm
    | _, _ => false)
  | _ => false
theorem excls_ok {K : PySem.W.Frag} {C : Addr} (q : exclsB K C = true) : ∃ nm q N bs bm sn sub ab col dd k0 k1 k2 k3 k5, K.lookup C = some (excClassObj nm q C N bs bm true sn sub ab col dd k0 k1 k2 k3 k5 "ValueError.__new__") ∧ PySem.HandSPX.refsVE bm = true := by
  unfold exclsB at q
  split at q
  · rename_i dd cd sl ho
    split at q
    · rename_i C' bm k0 k1 k2 k3 n k5 hm hs
      simp only [Bool.and_eq_true, beq_iff_eq, Bool.not_eq_true'] at q
      obtain ⟨⟨⟨⟨rfl, rfl⟩, hdel⟩, hdi⟩, ht⟩ := q
      obtain ⟨nm, bs, mro, ns, qn, hd, sn, sub, ab, col, del⟩ := cd
      dsimp only at hm hdel hdi
      subst hm hdel hdi
      have hsl : sl = #[k0, k1, k2, k3, some (.builtin "ValueError.__new__"), k5] := by
        obtain ⟨l⟩ := sl
        simp only at hs
        rw [hs]
      subst hsl
      exact ⟨nm, qn, ns, bs, bm, sn, sub, ab, col, dd, k0, k1, k2, k3, k5, ho, ht⟩
    · cases q
  · cases q
def exfB (x : Str) (K : PySem.W.Frag) : Bool :=
  exclsB K (He.ga K x) && (xfB K (He.ga K x) && (He.eqO (PySem.W.findIn K (.ref (He.ga K x)) "__setattr__") (some (some (.builtin "object.__setattr__"))) &&
  (decide (PySem.W.subIn K (.ref (He.ga K x)) (.type "BaseException") = some true) && (decide (PySem.W.typeIn K (.ref (He.ga K x)) = some (.type "type")) && (PySem.W.keepIn K (.ref (He.ga K x)) &&
  (He.eqO (PySem.W.findIn K (.ref (He.ga K x)) "__init__") (some (some (.ref (He.ma K (He.ga K x) "__init__")))) && decide (PySem.W.typeIn K (.ref (He.ma K (He.ga K x) "__init__")) = some (.type "function"))))))))
theorem exf_ok {K : PySem.W.Frag} {x : Str} (h : exfB x K = true) : ExF K (He.ga K x) := by
  obtain ⟨h1, h⟩ := He.ba h
  obtain ⟨h2, h⟩ := He.ba h
  obtain ⟨h3, h⟩ := He.ba h
  obtain ⟨h4, h⟩ := He.ba h
  obtain ⟨h5, h⟩ := He.ba h
  obtain ⟨h6, h⟩ := He.ba h
  obtain ⟨h7, h8⟩ := He.ba h
  exact ⟨⟨excls_ok h1, He.eqO_ok h3, of_decide_eq_true h4, of_decide_eq_true h5, h6⟩, xfB_ok h2, He.eqO_ok h7, of_decide_eq_true h8⟩
/-- the class x reads its base's __init__ -/
structure JIn (K : PySem.W.Frag) (J : Addr) : Prop where
  rd : ClX.CRead K J (.type "type")
  at_ : PySem.W.findCls K (.ref J) (.type "type") "__init__" = some (.val (.builtin "ValueError.__init__"))
def jinB (x : Str) (K : PySem.W.Frag) : Bool := PySem.W.readsIn K (He.ga K x) (.type "type") && (He.eqO (PySem.W.specialIn K (.ref (He.ga K x)) "__getattribute__") (some (some (.builtin "type.__getattribute__"))) &&
  (match PySem.W.findCls K (.ref (He.ga K x)) (.type "type") "__init__" with
    | some (.val (.builtin n)) => decide (n = "ValueError.__init__")
    | _ => false))
theorem jin_ok {K : PySem.W.Frag} {x : Str} (h : jinB x K = true) : JIn K (He.ga K x) := by
  obtain ⟨h1, h⟩ := He.ba h
  obtain ⟨h2, h3⟩ := He.ba h
  refine ⟨⟨h1, He.eqO_ok h2⟩, ?_⟩
  split at h3
  · rename_i n e
    rw [e, of_decide_eq_true h3]
  · cases h3
/-- the exceptions of the class x have no attribute f of their own class -/
def noxB (x f : Str) (K : PySem.W.Frag) : Bool := He.eqO (PySem.W.findIn K (.ref (He.ga K x)) f) (some none)
theorem nox_ok {K : PySem.W.Frag} {x f : Str} (h : noxB x f K = true) : PySem.W.findIn K (.ref (He.ga K x)) f = some none := He.eqO_ok h
/-! ### the Hook -/
def asX (g : Addr → Option Obj) (n : Nat) : List Addr := He.asD g n ++ [cStatics]
abbrev AlX : Type := Bool × He.AlD
def obsX (ex : List (PySem.W.Frag → Bool)) (fa : List He.Fa) (fn : List He.DefD) (K : PySem.W.Frag) : AlX := (ex.all fun b => b K, He.obsD fa fn K)
def valX (fn : List He.DefD) : AlX := (true, He.valD fn)
def SaysX (ex : List (PySem.W.Frag → Bool)) (fa : List He.Fa) (fn : List He.DefD) (K : PySem.W.Frag) : Prop := obsX ex fa fn K = valX fn
def obsXG (n : Nat) (ex : List (PySem.W.Frag → Bool)) (fa : List He.Fa) (fn : List He.DefD) (g : Addr → Option Obj) : AlX := obsX ex fa fn (He.frG g (asX g n))
def hookX (n : Nat) (ex : List (PySem.W.Frag → Bool)) (fa : List He.Fa) (fn : List He.DefD) : PySem.W.Hook where
  α := AlX
  obs := fun s => obsXG n ex fa fn s.heap.get?
  val := fun _ => valX fn
  says := fun _ h => ∃ K : PySem.W.Frag, K.In h ∧ SaysX ex fa fn K
  of := fun _ _ e => ⟨_, He.frG_in, e⟩
  keeps := fun _ _ _ ⟨K, hK, c⟩ k => ⟨K, PySem.W.Frag.In.keeps hK k, c⟩
theorem obsXG_eq {n : Nat} {ex : List (PySem.W.Frag → Bool)} {fa : List He.Fa} {fn : List He.DefD} {g : Addr → Option Obj} {s : Shared} (h : ∀ a, g a = s.heap.get? a) : obsXG n ex fa fn g = (hookX n ex fa fn).obs s := by
  have e : g = s.heap.get? := funext h
  rw [e] <;> rfl
section
variable {ex : List (PySem.W.Frag → Bool)} {fa : List He.Fa} {fn : List He.DefD} {K : PySem.W.Frag} {mg : Str → Option Value} {base : Heap}
theorem SaysX.d (c : SaysX ex fa fn K) : He.SaysD fa fn K := congrArg (fun z : AlX => z.2) c
theorem SaysX.more (c : SaysX ex fa fn K) (i : Nat) {b : PySem.W.Frag → Bool} (h : ex[i]? = some b := by rfl) : b K = true := by
  have c1 : (ex.all fun b => b K) = true := congrArg (fun z : AlX => z.1) c
  exact List.all_eq_true.mp c1 b (List.mem_of_getElem? h)
/-- what a walk leans on -/
structure Tx (ex : List (PySem.W.Frag → Bool)) (fa : List He.Fa) (fn : List He.DefD) (K : PySem.W.Frag) (mg : Str → Option Value) (base : Heap) : Prop where
  X : K.In base
  G : base.Ns mainGlobals mg
  c : SaysX ex fa fn K
theorem Tx.glo (T : Tx ex fa fn K mg base) (i : Nat) {x : Str} (h : fa[i]? = some (.glo x) := by rfl) : mg x = some (.ref (He.ga K x)) := He.glo_ok T.X T.G (T.c.d.fact i h)
theorem Tx.free (T : Tx ex fa fn K mg base) (i : Nat) {x : Str} (h : fa[i]? = some (.free x) := by rfl) : mg x = none := He.free_ok T.X T.G (T.c.d.fact i h)
theorem Tx.int (T : Tx ex fa fn K mg base) (i : Nat) {x : Str} {z : Int} (h : fa[i]? = some (.int x z) := by rfl) : ∃ u, mg x = some u ∧ RelV (.int z) u := by
  obtain ⟨t, e⟩ := He.int_ok T.X T.G (T.c.d.fact i h)
  exact ⟨_, e, t, rfl⟩
theorem Tx.str (T : Tx ex fa fn K mg base) (i : Nat) {x z : Str} (h : fa[i]? = some (.str x z) := by rfl) : ∃ u, mg x = some u ∧ RelV (.str z) u := by
  obtain ⟨t, e⟩ := He.str_ok T.X T.G (T.c.d.fact i h)
  exact ⟨_, e, t, rfl⟩
theorem Tx.cls (T : Tx ex fa fn K mg base) (i : Nat) {x : Str} (h : fa[i]? = some (.cls x) := by rfl) : Cls K (He.ga K x) := He.cls_ok (T.c.d.fact i h)
theorem Tx.noat (T : Tx ex fa fn K mg base) (i : Nat) {x f : Str} (h : fa[i]? = some (.noat x f) := by rfl) : NoAttr K (He.ga K x) f := He.noat_ok (T.c.d.fact i h)
theorem Tx.meth (T : Tx ex fa fn K mg base) (i : Nat) {x m : Str} (h : fa[i]? = some (.meth x m) := by rfl) : Meth K (He.ga K x) m (He.ma K (He.ga K x) m) := He.meth_ok (T.c.d.fact i h)
theorem Tx.mkr (T : Tx ex fa fn K mg base) (i : Nat) {x : Str} (h : fa[i]? = some (.mkr x) := by rfl) : Mk K (He.ga K x) (He.ma K (He.ga K x) "__init__") := He.mkr_ok (T.c.d.fact i h)
theorem Tx.keep (T : Tx ex fa fn K mg base) (i : Nat) {x : Str} (h : fa[i]? = some (.keep x) := by rfl) : PySem.W.keepIn K (.ref (He.ga K x)) = true := He.keep_ok (T.c.d.fact i h)
theorem Tx.exm (T : Tx ex fa fn K mg base) (i : Nat) {x y : Str} {b : Bool} (h : fa[i]? = some (.exm x y b) := by rfl) : PySem.W.exmOne K (.ref (He.ga K x)) (.ref (He.ga K y)) = some b := He.exm_ok (T.c.d.fact i h)
end
section
variable {X : Cx} {x : Str} {v : V} {pos : Pos}
theorem po_glob (hm : ∃ u, X.mg x = some u ∧ RelV v u) (hg : Gl X x := by rfl) (hd : (x == ("__debug__" : Str)) = false := by decide) : PE X (.Name x pos) (tC v) := by
  obtain ⟨u, e, r⟩ := hm
  exact pe_glob hg e r hd
end
end Lx
set_option Elab.async false
set_option linter.all false
set_option maxRecDepth 100000
set_option maxHeartbeats 4000000
/-! Further rules: a list compared with an empty one (whatever its items), d[k] as a target among others, text lists as data. -/
namespace Lx
open PySem PySem.Spec PyProof.Rows L2
section
variable {X : Cx}
/-- xs == [], xs != [] -/
def rNilL (K : PySem.W.Frag) (neg : Bool) : R2 := fun x y H Q => ∃ a b xs, x = .ref a ∧ y = .ref b ∧ SqL K H a xs ∧ SqL K H b [] ∧ Q (.bl (if neg then !xs.isEmpty else xs.isEmpty)) H
theorem op_eqNil (hu : X.A.units < cLine) : OpR X (compareOp .Eq) (rNilL X.K false) := by
  intro pins s σ H x y v u Q I rx ry h
  obtain ⟨a, b, xs, rfl, rfl, ha, hb, q⟩ := h
  cases rx
  cases ry
  obtain ⟨its, r1, p1, _⟩ := I.list ha
  obtain ⟨its2, r2, p2, _⟩ := I.list hb
  cases r2
  cases r1 with
  | nil => exact SeqAt.eq_listAt (e := fun _ => true) p1.isList p2.isList rfl hu (fun j h1 _ => absurd h1 (by simp)) ⟨.bl true, H, I, rfl, q⟩
  | cons ra rr => exact SeqAt.eq_list_lengthsAt p1.isList p2.isList (by simp) hu ⟨.bl false, H, I, rfl, q⟩
theorem op_neNil (hu : X.A.units < cLine) : OpR X (compareOp .NotEq) (rNilL X.K true) := by
  intro pins s σ H x y v u Q I rx ry h
  obtain ⟨a, b, xs, rfl, rfl, ha, hb, q⟩ := h
  cases rx
  cases ry
  obtain ⟨its, r1, p1, _⟩ := I.list ha
  obtain ⟨its2, r2, p2, _⟩ := I.list hb
  cases r2
  cases r1 with
  | nil => exact SeqAt.RcNeAt.lists (e := fun _ => true) p1.isList p2.isList rfl hu (fun j h1 _ => absurd h1 (by simp)) _ _ _ _ ⟨.bl false, H, I, rfl, q⟩
  | cons ra rr => exact SeqAt.RcNeAt.lists_lengths p1.isList p2.isList (by simp) hu _ _ _ _ ⟨.bl true, H, I, rfl, q⟩
/-- t == (), t != () -/
def rNilT (K : PySem.W.Frag) (neg : Bool) : R2 := fun x y H Q => ∃ a b xs, x = .ref a ∧ y = .ref b ∧ SqT K H a xs ∧ SqT K H b [] ∧ Q (.bl (if neg then !xs.isEmpty else xs.isEmpty)) H
theorem op_eqNilT (hu : X.A.units < cLine) : OpR X (compareOp .Eq) (rNilT X.K false) := by
  intro pins s σ H x y v u Q I rx ry h
  obtain ⟨a, b, xs, rfl, rfl, ha, hb, q⟩ := h
  cases rx
  cases ry
  obtain ⟨its, r1, p1, _⟩ := I.tuple ha
  obtain ⟨its2, r2, p2, _⟩ := I.tuple hb
  cases r2
  cases r1 with
  | nil => exact SeqAt.eq_tupleAt (e := fun _ => true) p1 p2 hu (fun j h1 _ => absurd h1 (by simp)) ⟨.bl true, H, I, rfl, q⟩
  | cons ra rr => exact SeqAt.eq_tupleAt (e := fun _ => true) p1 p2 hu (fun j _ h2 => absurd h2 (by simp)) ⟨.bl false, H, I, by simp [L2.RelV], q⟩
theorem op_neNilT (hu : X.A.units < cLine) : OpR X (compareOp .NotEq) (rNilT X.K true) := by
  intro pins s σ H x y v u Q I rx ry h
  obtain ⟨a, b, xs, rfl, rfl, ha, hb, q⟩ := h
  cases rx
  cases ry
  obtain ⟨its, r1, p1, _⟩ := I.tuple ha
  obtain ⟨its2, r2, p2, _⟩ := I.tuple hb
  cases r2
  cases r1 with
  | nil => exact SeqAt.RcNeAt.tuples (e := fun _ => true) p1 p2 hu (fun j h1 _ => absurd h1 (by simp)) _ _ _ _ ⟨.bl false, H, I, rfl, q⟩
  | cons ra rr => exact SeqAt.RcNeAt.tuples (e := fun _ => true) p1 p2 hu (fun j _ h2 => absurd h2 (by simp)) _ _ _ _ ⟨.bl true, H, I, by simp [L2.RelV], q⟩
/-- d[k] = .. among other targets -/
def rSetD : V → V → V → Hp → (Hp → Prop) → Prop := fun o i v H Q => ∃ a H', o = .ref a ∧ DPut H a i v H' ∧ Q H'
theorem set_dK (hu : X.A.units + 1 < cLine) : PSet X rSetD := by
  intro pins s σ H o i v ov iv u Q I ro ri rv h
  obtain ⟨a, H', rfl, g, q⟩ := h
  obtain rfl : ov = Value.ref a := ro
  exact d_setItem hu I g ri rv fun s4 I4 => ⟨H', I4, q⟩
end
/-! ### text lists -/
theorem inV_strs {x : Str} : ∀ ws : List Str, inV (.str x) (ws.map V.str) = decide (x ∈ ws)
  | [] => by simp [inV]
  | w :: ws => by
    have ih := inV_strs (x := x) ws
    unfold inV at ih ⊢
    rw [List.map_cons, List.any_cons, ih]
    by_cases h : w = x
    · subst h; simp [eqV]
    · have h1 : eqV (.str w) (.str x) = false := by
        show (w == x) = false
        simpa using h
      rw [h1, Bool.false_or]
      have : x ≠ w := fun q => h q.symm
      by_cases h2 : x ∈ ws
      · rw [decide_eq_true h2, decide_eq_true (List.mem_cons_of_mem _ h2)]
      · rw [decide_eq_false h2, decide_eq_false (by simp [this, h2])]
theorem flat_strs (ws : List Str) : (ws.map V.str).all flatV = true := by
  rw [List.all_map, List.all_eq_true]
  intro x _
  rfl
theorem empty_map {α β : Type} {f : α → β} {l : List α} : (l.map f).isEmpty = l.isEmpty := by cases l <;> rfl
end Lx
set_option Elab.async false
set_option linter.all false
set_option maxRecDepth 100000
set_option maxHeartbeats 4000000
/-! Comprehensions whose tests and elements are values of the item. -/
namespace Lx
open PySem PySem.Spec PyProof.Rows L2
theorem take_succ_of {α : Type} : ∀ {l : List α} {i : Nat} {x : α}, l[i]? = some x → l.take (i + 1) = l.take i ++ [x] := fun {l i x} h => by
  obtain ⟨h1, h2⟩ := List.getElem?_eq_some_iff.mp h
  rw [List.take_succ_eq_append_getElem h1, h2]
theorem fm_succ {α β : Type} {l : List α} {i : Nat} {x : α} (f : α → Bool) (v : α → β) (h : l[i]? = some x) : ((l.take (i + 1)).filter f).map v = ((l.take i).filter f).map v ++ (if f x = true then [v x] else []) := by
  rw [take_succ_of h, List.filter_append, List.map_append]
  congr 1
  cases hf : f x with
  | true => simp [hf]
  | false => simp [hf]
section
variable {K : PySem.W.Frag} {a : Addr} {xs : List V} {j : Nat} {tt : TT} {te : TE} {vs : List Nat} {σ : L2.St} {H1 : Hp} {D : Addr} {Qd : Hp → Prop}
def FmP (H1 : Hp) (D : Addr) (xs : List V) (f : V → Bool) (v : V → V) (i : Nat) (H' : Hp) : Prop := Ex H1 H' ∧ H' D = some (.lst (((xs.take i).filter f).map v))
theorem fm_turn {f : V → Bool} {v : V → V} {i : Nat} {x : V} {H' : Hp} {σ2 : L2.St} (hD : H1 D = none) (hz : xs.length ≤ 4000000) (hx : xs[i]? = some x) (p : FmP H1 D xs f v i H') (ht : Evl.EvT tt σ2 H1 (f x)) (he : f x = true → Evl.Ev te σ2 H1 (v x)) :
    tt σ2 H' fun b H3 => if b = true then te σ2 H3 fun y H4 => ∃ acc, H4 D = some (.lst acc) ∧ acc.length < sizeLine ∧ FmP H1 D xs f v (i + 1) (upd H4 D (.lst (acc ++ [y]))) else FmP H1 D xs f v (i + 1) H3 := by
  obtain ⟨p1, p2⟩ := p
  have hi := (List.getElem?_eq_some_iff.mp hx).1
  refine ht H' p1 _ fun H3 e3 => ?_
  cases hf : f x with
  | true =>
    refine iteT (he hf H3 (p1.trans e3) _ fun H4 e4 => ⟨_, e4 D _ (e3 D _ p2), ?_, ?_, ?_⟩)
    · have h1 := List.length_filter_le f (xs.take i)
      rw [List.length_map]
      rw [List.length_take] at h1
      exact Nat.lt_of_le_of_lt (show _ ≤ 4000000 by omega) (by decide)
    · intro b o e
      rw [upd_ne (ne_of_none e hD)]
      exact e4 b o (e3 b o (p1 b o e))
    · rw [upd_same, fm_succ f v hx, hf]
      rfl
  | false =>
    refine iteF ⟨p1.trans e3, ?_⟩
    rw [fm_succ f v hx, hf]
    show H3 D = some (.lst (_ ++ []))
    rw [List.append_nil]
    exact e3 D _ p2
theorem lc_fm (f : V → Bool) (v : V → V) (hS : SqL K H1 a xs) (hD : H1 D = none) (hz : xs.length ≤ 4000000) (hw : ∀ x, wipe ((wipe σ vs).set j (some x)) vs = wipe σ vs)
    (ht : ∀ x ∈ xs, Evl.EvT tt ((wipe σ vs).set j (some x)) H1 (f x)) (he : ∀ x ∈ xs, f x = true → Evl.Ev te ((wipe σ vs).set j (some x)) H1 (v x)) (hd : ∀ H', Ex H1 H' → H' D = some (.lst ((xs.filter f).map v)) → Qd H') :
    ∃ W : Nat → Nat → Hp → Prop, (∃ m, W 0 m (upd H1 D (.lst []))) ∧ ∀ i m H, W i m H →
      ((Itl K a).stop i H ∧ Qd H) ∨ ((Itl K a).go i H ∧ ∃ Nx : Hp → Prop, (∀ H', Nx H' → ∃ m', m' < m ∧ W (i + 1) m' H') ∧ ∀ x H', (Itl K a).yld i H x H' → gName j x (wipe σ vs) H' fun σ2 H2 => wipe σ2 vs = wipe σ vs ∧ tt σ2 H2 fun b H3 =>
        if b = true then te σ2 H3 fun y H4 => ∃ xs, H4 D = some (.lst xs) ∧ xs.length < sizeLine ∧ Nx (upd H4 D (.lst (xs ++ [y]))) else Nx H3) :=
  lc_list (K := K) (a := a) (xs := xs) (FmP H1 D xs f v) ⟨fun b o e => by rw [upd_ne (ne_of_none e hD)]; exact e, upd_same⟩ (fun i H' _ p => sl_mono p.1 hS)
    (fun i x H' hx p => ⟨hw x, fm_turn hD hz hx p (ht x (List.mem_of_getElem? hx)) (he x (List.mem_of_getElem? hx))⟩)
    (fun H' p => hd H' p.1 (by have q := p.2; rw [List.take_length] at q; exact q))
theorem lcT_fm (f : V → Bool) (v : V → V) (hS : SqT K H1 a xs) (hD : H1 D = none) (hz : xs.length ≤ 4000000) (hw : ∀ x, wipe ((wipe σ vs).set j (some x)) vs = wipe σ vs)
    (ht : ∀ x ∈ xs, Evl.EvT tt ((wipe σ vs).set j (some x)) H1 (f x)) (he : ∀ x ∈ xs, f x = true → Evl.Ev te ((wipe σ vs).set j (some x)) H1 (v x)) (hd : ∀ H', Ex H1 H' → H' D = some (.lst ((xs.filter f).map v)) → Qd H') :
    ∃ W : Nat → Nat → Hp → Prop, (∃ m, W 0 m (upd H1 D (.lst []))) ∧ ∀ i m H, W i m H →
      ((Itt K a).stop i H ∧ Qd H) ∨ ((Itt K a).go i H ∧ ∃ Nx : Hp → Prop, (∀ H', Nx H' → ∃ m', m' < m ∧ W (i + 1) m' H') ∧ ∀ x H', (Itt K a).yld i H x H' → gName j x (wipe σ vs) H' fun σ2 H2 => wipe σ2 vs = wipe σ vs ∧ tt σ2 H2 fun b H3 =>
        if b = true then te σ2 H3 fun y H4 => ∃ xs, H4 D = some (.lst xs) ∧ xs.length < sizeLine ∧ Nx (upd H4 D (.lst (xs ++ [y]))) else Nx H3) :=
  lc_tup (K := K) (a := a) (xs := xs) (FmP H1 D xs f v) ⟨fun b o e => by rw [upd_ne (ne_of_none e hD)]; exact e, upd_same⟩ (fun i H' _ p => st_mono p.1 hS)
    (fun i x H' hx p => ⟨hw x, fm_turn hD hz hx p (ht x (List.mem_of_getElem? hx)) (he x (List.mem_of_getElem? hx))⟩)
    (fun H' p => hd H' p.1 (by have q := p.2; rw [List.take_length] at q; exact q))
/-- .. over a range -/
def rgs (lo : Int) (n : Nat) : List V := (List.range n).map fun (k : Nat) => V.int (lo + (k : Int))
theorem rgs_at {lo : Int} {n i : Nat} (h : i < n) : (rgs lo n)[i]? = some (.int (lo + (i : Int))) := by
  unfold rgs
  rw [List.getElem?_map, List.getElem?_range h]
  rfl
theorem rgs_len (lo : Int) (n : Nat) : (rgs lo n).length = n := by simp [rgs]
theorem lcR_fm {lo : Int} {n : Nat} (f : V → Bool) (v : V → V) (hD : H1 D = none) (hz : n ≤ 4000000) (hw : ∀ x, wipe ((wipe σ vs).set j (some x)) vs = wipe σ vs)
    (ht : ∀ x ∈ rgs lo n, Evl.EvT tt ((wipe σ vs).set j (some x)) H1 (f x)) (he : ∀ x ∈ rgs lo n, f x = true → Evl.Ev te ((wipe σ vs).set j (some x)) H1 (v x)) (hd : ∀ H', Ex H1 H' → H' D = some (.lst (((rgs lo n).filter f).map v)) → Qd H') :
    ∃ W : Nat → Nat → Hp → Prop, (∃ m, W 0 m (upd H1 D (.lst []))) ∧ ∀ i m H, W i m H →
      ((Itr lo n).stop i H ∧ Qd H) ∨ ((Itr lo n).go i H ∧ ∃ Nx : Hp → Prop, (∀ H', Nx H' → ∃ m', m' < m ∧ W (i + 1) m' H') ∧ ∀ x H', (Itr lo n).yld i H x H' → gName j x (wipe σ vs) H' fun σ2 H2 => wipe σ2 vs = wipe σ vs ∧ tt σ2 H2 fun b H3 =>
        if b = true then te σ2 H3 fun y H4 => ∃ xs, H4 D = some (.lst xs) ∧ xs.length < sizeLine ∧ Nx (upd H4 D (.lst (xs ++ [y]))) else Nx H3) :=
  lc_range (lo := lo) (n := n) (FmP H1 D (rgs lo n) f v) ⟨fun b o e => by rw [upd_ne (ne_of_none e hD)]; exact e, upd_same⟩
    (fun i H' hi p => ⟨hw _, fm_turn hD (by rw [rgs_len]; exact hz) (rgs_at hi) p (ht _ (List.mem_of_getElem? (rgs_at hi))) (he _ (List.mem_of_getElem? (rgs_at hi)))⟩)
    (fun H' p => hd H' p.1 (by have q := p.2; rw [List.take_of_length_le (by rw [rgs_len]; exact Nat.le_refl _)] at q; exact q))
theorem ev_yes : Evl.EvT tYes σ H1 true := fun H2 _ Q q => q H2 (Evl.Ex.refl H2)
end
/-! ### comprehensions whose parts' readings name the place -/
section
variable {X : Cx}
theorem pe_lcB (s0 : Shared) (H0 : Hp) {elt tg iter : Expr} {ifs : List Expr} {scope : Scope} {own : List (Str × Nat)} {pos : Pos} {wi : TI} {g : Shared → Hp → Addr → List (Str × Addr) → List Addr → TG} {tt : Shared → Hp → Addr → List (Str × Addr) → List Addr → TT} {te : Shared → Hp → Addr → List (Str × Addr) → List Addr → TE} (hc : X.calm = true) (hN : X.N.Nodup) (hi : PI X tg iter wi) (ok : BlkOk X.N X.env.scope scope own)
    (hg : ∀ (s : Shared) (H : Hp) (C : Addr) (cl : List (Str × Addr)) (fp : List Addr), PG (X.blk s H scope (compEnvC scope cl C X.env) fp) tg (g s H C cl fp)) (ht : ∀ (s : Shared) (H : Hp) (C : Addr) (cl : List (Str × Addr)) (fp : List Addr), PTs (X.blk s H scope (compEnvC scope cl C X.env) fp) ifs (tt s H C cl fp)) (he : ∀ (s : Shared) (H : Hp) (C : Addr) (cl : List (Str × Addr)) (fp : List Addr), PE (X.blk s H scope (compEnvC scope cl C X.env) fp) elt (te s H C cl fp))
    (eg : ∀ (s : Shared) (H : Hp) (C : Addr) (cl : List (Str × Addr)) (fp : List Addr), g s H C cl fp = g s0 H0 0 [] [] := by intros; rfl) (et : ∀ (s : Shared) (H : Hp) (C : Addr) (cl : List (Str × Addr)) (fp : List Addr), tt s H C cl fp = tt s0 H0 0 [] [] := by intros; rfl) (ee : ∀ (s : Shared) (H : Hp) (C : Addr) (cl : List (Str × Addr)) (fp : List Addr), te s H C cl fp = te s0 H0 0 [] [] := by intros; rfl)
    (hs : ∀ x, foldedSetIterable iter X.env x = pure x := by intro _; rfl) :
    PE X (.ListComp elt [⟨tg, iter, ifs, 0⟩] scope pos) (tLc wi (g s0 H0 0 [] []) (tt s0 H0 0 [] []) (te s0 H0 0 [] []) (own.map (·.2))) :=
  pe_lc hc hN hi ok (fun s H C cl fp => by rw [← eg s H C cl fp]; exact hg s H C cl fp) (fun s H C cl fp => by rw [← et s H C cl fp]; exact ht s H C cl fp) (fun s H C cl fp => by rw [← ee s H C cl fp]; exact he s H C cl fp) hs
theorem ps_setLcB (s0 : Shared) (H0 : Hp) {i : Nat} {y : Str} {py : Pos} {elt tg iter : Expr} {ifs : List Expr} {scope : Scope} {own : List (Str × Nat)} {pos spos : Pos} {wi : TI} {g : Shared → Hp → Addr → List (Str × Addr) → List Addr → TG} {tt : Shared → Hp → Addr → List (Str × Addr) → List Addr → TT} {te : Shared → Hp → Addr → List (Str × Addr) → List Addr → TE} (hc : X.calm = true) (hN : X.N.Nodup) (hy : X.N[i]? = some y) (hyl : X.env.scope.names.lookup y = some .local)
    (hsw : swapsWith (.ListComp elt [⟨tg, iter, ifs, 0⟩] scope pos) (some (.Name y py)) spos.line X.env = pure true) (hi : PI X tg iter wi) (ok : BlkOk X.N X.env.scope scope own)
    (hg : ∀ (s : Shared) (H : Hp) (C : Addr) (cl : List (Str × Addr)) (fp : List Addr), PG (X.blk s H scope (compEnvC scope cl C X.env) fp) tg (g s H C cl fp)) (ht : ∀ (s : Shared) (H : Hp) (C : Addr) (cl : List (Str × Addr)) (fp : List Addr), PTs (X.blk s H scope (compEnvC scope cl C X.env) fp) ifs (tt s H C cl fp)) (he : ∀ (s : Shared) (H : Hp) (C : Addr) (cl : List (Str × Addr)) (fp : List Addr), PE (X.blk s H scope (compEnvC scope cl C X.env) fp) elt (te s H C cl fp))
    (eg : ∀ (s : Shared) (H : Hp) (C : Addr) (cl : List (Str × Addr)) (fp : List Addr), g s H C cl fp = g s0 H0 0 [] [] := by intros; rfl) (et : ∀ (s : Shared) (H : Hp) (C : Addr) (cl : List (Str × Addr)) (fp : List Addr), tt s H C cl fp = tt s0 H0 0 [] [] := by intros; rfl) (ee : ∀ (s : Shared) (H : Hp) (C : Addr) (cl : List (Str × Addr)) (fp : List Addr), te s H C cl fp = te s0 H0 0 [] [] := by intros; rfl)
    (hs : ∀ x, foldedSetIterable iter X.env x = pure x := by intro _; rfl) :
    PS X (.Assign [.Name y py] (.ListComp elt [⟨tg, iter, ifs, 0⟩] scope pos) spos) (tAsg (tLc wi (g s0 H0 0 [] []) (tt s0 H0 0 [] []) (te s0 H0 0 [] []) (own.map (·.2))) (gName i)) :=
  ps_setLc hc hN hy hyl hsw hi ok (fun s H C cl fp => by rw [← eg s H C cl fp]; exact hg s H C cl fp) (fun s H C cl fp => by rw [← et s H C cl fp]; exact ht s H C cl fp) (fun s H C cl fp => by rw [← ee s H C cl fp]; exact he s H C cl fp) hs
theorem pe_dcB (s0 : Shared) (H0 : Hp) {kx vx tg iter : Expr} {ifs : List Expr} {scope : Scope} {own : List (Str × Nat)} {pos : Pos} {wi : TI} {g : Shared → Hp → Addr → List (Str × Addr) → List Addr → TG} {tt : Shared → Hp → Addr → List (Str × Addr) → List Addr → TT} {tk tv : Shared → Hp → Addr → List (Str × Addr) → List Addr → TE} (hc : X.calm = true) (hN : X.N.Nodup) (hi : PI X tg iter wi) (ok : BlkOk X.N X.env.scope scope own)
    (hg : ∀ (s : Shared) (H : Hp) (C : Addr) (cl : List (Str × Addr)) (fp : List Addr), PG (X.blk s H scope (compEnvC scope cl C X.env) fp) tg (g s H C cl fp)) (ht : ∀ (s : Shared) (H : Hp) (C : Addr) (cl : List (Str × Addr)) (fp : List Addr), PTs (X.blk s H scope (compEnvC scope cl C X.env) fp) ifs (tt s H C cl fp)) (hk : ∀ (s : Shared) (H : Hp) (C : Addr) (cl : List (Str × Addr)) (fp : List Addr), PE (X.blk s H scope (compEnvC scope cl C X.env) fp) kx (tk s H C cl fp)) (he : ∀ (s : Shared) (H : Hp) (C : Addr) (cl : List (Str × Addr)) (fp : List Addr), PE (X.blk s H scope (compEnvC scope cl C X.env) fp) vx (tv s H C cl fp))
    (eg : ∀ (s : Shared) (H : Hp) (C : Addr) (cl : List (Str × Addr)) (fp : List Addr), g s H C cl fp = g s0 H0 0 [] [] := by intros; rfl) (et : ∀ (s : Shared) (H : Hp) (C : Addr) (cl : List (Str × Addr)) (fp : List Addr), tt s H C cl fp = tt s0 H0 0 [] [] := by intros; rfl) (ek : ∀ (s : Shared) (H : Hp) (C : Addr) (cl : List (Str × Addr)) (fp : List Addr), tk s H C cl fp = tk s0 H0 0 [] [] := by intros; rfl) (ee : ∀ (s : Shared) (H : Hp) (C : Addr) (cl : List (Str × Addr)) (fp : List Addr), tv s H C cl fp = tv s0 H0 0 [] [] := by intros; rfl)
    (hs : ∀ x, foldedSetIterable iter X.env x = pure x := by intro _; rfl) :
    PE X (.DictComp kx vx [⟨tg, iter, ifs, 0⟩] scope pos) (tDc wi (g s0 H0 0 [] []) (tt s0 H0 0 [] []) (tk s0 H0 0 [] []) (tv s0 H0 0 [] []) (own.map (·.2))) :=
  pe_dc hc hN hi ok (fun s H C cl fp => by rw [← eg s H C cl fp]; exact hg s H C cl fp) (fun s H C cl fp => by rw [← et s H C cl fp]; exact ht s H C cl fp) (fun s H C cl fp => by rw [← ek s H C cl fp]; exact hk s H C cl fp) (fun s H C cl fp => by rw [← ee s H C cl fp]; exact he s H C cl fp) hs
end
end Lx
set_option Elab.async false
set_option linter.all false
set_option maxRecDepth 100000
set_option maxHeartbeats 4000000
/-! Values that stay, more. -/
namespace Lx
open PySem PySem.Spec PyProof.Rows L2
inductive All2 {α β : Type} (R : α → β → Prop) : List α → List β → Prop where
  | nil : All2 R [] []
  | cons {a : α} {b : β} {as : List α} {bs : List β} : R a b → All2 R as bs → All2 R (a :: as) (b :: bs)
theorem All2.imp {α β : Type} {R S : α → β → Prop} (h : ∀ a b, R a b → S a b) {as : List α} {bs : List β} (x : All2 R as bs) : All2 S as bs := by
  induction x with
  | nil => exact .nil
  | cons a _ ih => exact .cons (h _ _ a) ih
theorem All2.app {α β : Type} {R : α → β → Prop} {as cs : List α} {bs ds : List β} (x : All2 R as bs) (y : All2 R cs ds) : All2 R (as ++ cs) (bs ++ ds) := by
  induction x with
  | nil => exact y
  | cons a _ ih => exact .cons a ih
theorem All2.len {α β : Type} {R : α → β → Prop} {as : List α} {bs : List β} (x : All2 R as bs) : as.length = bs.length := by
  induction x with
  | nil => rfl
  | cons a _ ih => rw [List.length_cons, List.length_cons, ih]
theorem All2.get {α β : Type} {R : α → β → Prop} {as : List α} {bs : List β} (x : All2 R as bs) {i : Nat} {a : α} (e : as[i]? = some a) : ∃ b, bs[i]? = some b ∧ R a b := by
  induction x generalizing i with
  | nil => cases e
  | cons h1 _ ih =>
    cases i with
    | zero =>
      cases e
      exact ⟨_, rfl, h1⟩
    | succ i => exact ih e
theorem All2.mem {α β : Type} {R : α → β → Prop} {as : List α} {bs : List β} (x : All2 R as bs) {a : α} (e : a ∈ as) : ∃ b, b ∈ bs ∧ R a b := by
  obtain ⟨i, hi, rfl⟩ := List.getElem_of_mem e
  obtain ⟨b, h1, h2⟩ := x.get (List.getElem?_eq_getElem hi)
  exact ⟨b, List.mem_of_getElem? h1, h2⟩
section
variable {K : PySem.W.Frag} {σ : L2.St} {H : Hp} {ta tb te : TE} {t u : TT}
/-- the attribute f of what x is -/
def fldOf (H : Hp) (f : Str) (x : V) : V := match x with
  | .ref a => match H a with
    | some (.ins _ _ fs) => (fs.lookup f).getD .non
    | _ => .non
  | _ => .non
theorem fldOf_ins {H : Hp} {f : Str} {a C dx : Addr} {fs : List (Str × V)} (h : H a = some (.ins C dx fs)) : fldOf H f (.ref a) = (fs.lookup f).getD .non := by
  show (match H a with | some (.ins _ _ fs) => (fs.lookup f).getD .non | _ => .non) = _
  rw [h]
theorem ev_fld {i : Nat} {a C : Addr} {dx : Addr} {fs : List (Str × V)} {f : Str} {v : V} (hs : σ[i]? = some (some (.ref a))) (h : H a = some (.ins C dx fs)) (c : Cls K C) (n : NoAttr K C f) (l : fs.lookup f = some v) : Evl.Ev (tFld K (tVar i) f) σ H v :=
  fun H1 e Q q => ⟨_, hs, a, C, dx, fs, v, rfl, e _ _ h, c, n, l, q H1 (Evl.Ex.refl H1)⟩
theorem ev_fldE {a C : Addr} {dx : Addr} {fs : List (Str × V)} {f : Str} {v : V} (hs : Evl.Ev te σ H (.ref a)) (h : H a = some (.ins C dx fs)) (c : Cls K C) (n : NoAttr K C f) (l : fs.lookup f = some v) : Evl.Ev (tFld K te f) σ H v :=
  fun H1 e Q q => hs H1 e _ fun H2 e2 => ⟨a, C, dx, fs, v, rfl, e2 _ _ (e _ _ h), c, n, l, q H2 e2⟩
/-- xs == [], xs != [] as a test -/
theorem et_nil {i : Nat} {a : Addr} {xs : List V} (neg : Bool) (hs : σ[i]? = some (some (.ref a))) (h : SqL K H a xs) : Evl.EvT (tTest (tOp (rNilL K neg) (tVar i) (tLst tNil))) σ H (if neg then !xs.isEmpty else xs.isEmpty) :=
  fun H1 e Q q => ⟨_, hs, by decide, fun p hp => ⟨a, p, xs, rfl, rfl, sl_mono (e.trans (Evl.Ex.new hp)) h, SqL.of upd_same, _, rfl, q _ (Evl.Ex.new hp)⟩⟩
theorem el_if {b : Bool} {xs : List V} (h : Evl.EvT t σ H b) (h1 : b = true → Evl.EvL ta σ H xs) (h2 : b = false → Evl.EvL tb σ H xs) : Evl.EvL (tIf t ta tb) σ H xs := fun H1 e Q q => h H1 e _ fun H2 e2 => by
  cases b with
  | true =>
    show ta σ H2 Q
    exact h1 rfl H2 (e.trans e2) Q fun p H3 n e3 => q p H3 (Evl.fresh_back e2 n) (e2.trans e3)
  | false =>
    show tb σ H2 Q
    exact h2 rfl H2 (e.trans e2) Q fun p H3 n e3 => q p H3 (Evl.fresh_back e2 n) (e2.trans e3)
theorem eu_if {b : Bool} {xs : List V} (h : Evl.EvT t σ H b) (h1 : b = true → Evl.EvU ta σ H xs) (h2 : b = false → Evl.EvU tb σ H xs) : Evl.EvU (tIf t ta tb) σ H xs := fun H1 e Q q => h H1 e _ fun H2 e2 => by
  cases b with
  | true =>
    show ta σ H2 Q
    exact h1 rfl H2 (e.trans e2) Q fun p H3 n e3 => q p H3 (Evl.fresh_back e2 n) (e2.trans e3)
  | false =>
    show tb σ H2 Q
    exact h2 rfl H2 (e.trans e2) Q fun p H3 n e3 => q p H3 (Evl.fresh_back e2 n) (e2.trans e3)
/-- len(xs) < n and the like, as a test -/
theorem et_len {i : Nat} {a : Addr} {xs : List V} {n : Int} {g : Int → Int → Bool} (hs : σ[i]? = some (some (.ref a))) (h : SqL K H a xs) : Evl.EvT (tTest (tOp (rI0 fun i j => V.bl (g i j)) (tCB (Evl.rLenS K) (tCons (tVar i) tNil)) (tC (.int n)))) σ H (g (xs.length : Int) n) :=
  Evl.et_test (Evl.ev_op (Evl.ev_len (Evl.ev_var hs) h) Evl.ev_c Evl.rv_I0)
theorem rc_str {n : Int} (h : n.natAbs.log2 < 1920) : Evl.RC (fun xs H Q => ∃ i : Int, xs = [.int i] ∧ i.natAbs.log2 < 1920 ∧ Q (.str (toString i)) H) [.int n] H (.str (toString n)) := fun H1 _ Q q => ⟨n, rfl, h, q H1 (Evl.Ex.refl H1)⟩
theorem et_notN {v : V} (h : Evl.Ev te σ H v) : Evl.EvT (tTest (tOp (fun x y H Q => y = .non ∧ Q (.bl (!decide (x = .non))) H) te (tC .non))) σ H (!decide (v = .non)) := fun H1 e Q q =>
  h H1 e _ fun H2 e2 => ⟨rfl, _, rfl, q H2 e2⟩
theorem et_isN {v : V} (h : Evl.Ev te σ H v) : Evl.EvT (tTest (tOp (fun x y H Q => y = .non ∧ Q (.bl (decide (x = .non))) H) te (tC .non))) σ H (decide (v = .non)) := fun H1 e Q q =>
  h H1 e _ fun H2 e2 => ⟨rfl, _, rfl, q H2 e2⟩
/-! comprehensions as new lists -/
section
variable {tl : TE} {tt : TT} {a : Addr} {xs ys : List V} {j : Nat} {vs : List Nat}
theorem el_lcT (f : V → Bool) (v : V → V) (h : Evl.Ev tl σ H (.ref a)) (hS : SqT K H a xs) (hz : xs.length ≤ 4000000) (hw : ∀ x, wipe ((wipe σ vs).set j (some x)) vs = wipe σ vs)
    (ht : ∀ x ∈ xs, Evl.EvT tt ((wipe σ vs).set j (some x)) H (f x)) (he : ∀ x ∈ xs, f x = true → Evl.Ev te ((wipe σ vs).set j (some x)) H (v x)) : Evl.EvL (tLc (iTup K tl) (gName j) tt te vs) σ H ((xs.filter f).map v) := fun H1 e Q q =>
  h H1 e _ fun H2 e2 => ⟨a, rfl, ⟨xs, st_mono (e.trans e2) hS⟩, fun D hD => lcT_fm f v (st_mono (e.trans e2) hS) hD hz hw (fun x hx => (ht x hx).mono (e.trans e2)) (fun x hx hf => (he x hx hf).mono (e.trans e2))
    (fun H3 e3 h3 => q D H3 (Evl.fresh_back e2 hD) (e2.trans e3) h3)⟩
theorem el_lcL (f : V → Bool) (v : V → V) (h : Evl.Ev tl σ H (.ref a)) (hS : SqL K H a xs) (hz : xs.length ≤ 4000000) (hw : ∀ x, wipe ((wipe σ vs).set j (some x)) vs = wipe σ vs)
    (ht : ∀ x ∈ xs, Evl.EvT tt ((wipe σ vs).set j (some x)) H (f x)) (he : ∀ x ∈ xs, f x = true → Evl.Ev te ((wipe σ vs).set j (some x)) H (v x)) : Evl.EvL (tLc (iList K tl) (gName j) tt te vs) σ H ((xs.filter f).map v) := fun H1 e Q q =>
  h H1 e _ fun H2 e2 => ⟨a, rfl, ⟨xs, sl_mono (e.trans e2) hS⟩, fun D hD => lc_fm f v (sl_mono (e.trans e2) hS) hD hz hw (fun x hx => (ht x hx).mono (e.trans e2)) (fun x hx hf => (he x hx hf).mono (e.trans e2))
    (fun H3 e3 h3 => q D H3 (Evl.fresh_back e2 hD) (e2.trans e3) h3)⟩
/-- every item, one by one -/
theorem mp_turn {H1 : Hp} {D : Addr} {i : Nat} {x y : V} {H' : Hp} {σ2 : L2.St} (hD : H1 D = none) (hz : ys.length ≤ 4000000) (hy : ys[i]? = some y) (p : Ex H1 H' ∧ H' D = some (.lst (ys.take i))) (he : Evl.Ev te σ2 H1 y) :
    tYes σ2 H' fun b H3 => if b = true then te σ2 H3 fun y H4 => ∃ acc, H4 D = some (.lst acc) ∧ acc.length < sizeLine ∧ (Ex H1 (upd H4 D (.lst (acc ++ [y]))) ∧ (upd H4 D (.lst (acc ++ [y]))) D = some (.lst (ys.take (i + 1)))) else (Ex H1 H3 ∧ H3 D = some (.lst (ys.take (i + 1)))) := by
  obtain ⟨p1, p2⟩ := p
  refine ev_yes (σ := σ2) (H1 := H1) H' p1 _ fun H3 e3 => iteT (he H3 (p1.trans e3) _ fun H4 e4 => ⟨_, e4 D _ (e3 D _ p2), ?_, ?_, ?_⟩)
  · rw [List.length_take]
    exact Nat.lt_of_le_of_lt (show _ ≤ 4000000 by omega) (by decide)
  · intro b o e
    rw [upd_ne (ne_of_none e hD)]
    exact e4 b o (e3 b o (p1 b o e))
  · rw [upd_same, take_succ_of hy]
theorem el_mapT (h : Evl.Ev tl σ H (.ref a)) (hS : SqT K H a xs) (hl : ys.length = xs.length) (hz : ys.length ≤ 4000000) (hw : ∀ x, wipe ((wipe σ vs).set j (some x)) vs = wipe σ vs)
    (he : ∀ (i : Nat) (x y : V), xs[i]? = some x → ys[i]? = some y → Evl.Ev te ((wipe σ vs).set j (some x)) H y) : Evl.EvL (tLc (iTup K tl) (gName j) tYes te vs) σ H ys := fun H1 e Q q =>
  h H1 e _ fun H2 e2 => ⟨a, rfl, ⟨xs, st_mono (e.trans e2) hS⟩, fun D hD => lc_tup (fun i H' => Ex H2 H' ∧ H' D = some (.lst (ys.take i))) ⟨fun b o e => by rw [upd_ne (ne_of_none e hD)]; exact e, upd_same⟩ (fun i H' _ p => st_mono p.1 (st_mono (e.trans e2) hS))
    (fun i x H' hx p => ⟨hw x, by
      have hi := (List.getElem?_eq_some_iff.mp hx).1
      obtain ⟨y, hy⟩ : ∃ y, ys[i]? = some y := ⟨_, List.getElem?_eq_getElem (show i < ys.length by omega)⟩
      exact mp_turn (x := x) hD hz hy p ((he i x _ hx hy).mono (e.trans e2))⟩)
    (fun H' p => q D H' (Evl.fresh_back e2 hD) (e2.trans p.1) (by have q := p.2; rw [← hl, List.take_length] at q; exact q))⟩
theorem el_mapL (h : Evl.Ev tl σ H (.ref a)) (hS : SqL K H a xs) (hl : ys.length = xs.length) (hz : ys.length ≤ 4000000) (hw : ∀ x, wipe ((wipe σ vs).set j (some x)) vs = wipe σ vs)
    (he : ∀ (i : Nat) (x y : V), xs[i]? = some x → ys[i]? = some y → Evl.Ev te ((wipe σ vs).set j (some x)) H y) : Evl.EvL (tLc (iList K tl) (gName j) tYes te vs) σ H ys := fun H1 e Q q =>
  h H1 e _ fun H2 e2 => ⟨a, rfl, ⟨xs, sl_mono (e.trans e2) hS⟩, fun D hD => lc_list (fun i H' => Ex H2 H' ∧ H' D = some (.lst (ys.take i))) ⟨fun b o e => by rw [upd_ne (ne_of_none e hD)]; exact e, upd_same⟩ (fun i H' _ p => sl_mono p.1 (sl_mono (e.trans e2) hS))
    (fun i x H' hx p => ⟨hw x, by
      have hi := (List.getElem?_eq_some_iff.mp hx).1
      obtain ⟨y, hy⟩ : ∃ y, ys[i]? = some y := ⟨_, List.getElem?_eq_getElem (show i < ys.length by omega)⟩
      exact mp_turn (x := x) hD hz hy p ((he i x _ hx hy).mono (e.trans e2))⟩)
    (fun H' p => q D H' (Evl.fresh_back e2 hD) (e2.trans p.1) (by have q := p.2; rw [← hl, List.take_length] at q; exact q))⟩
end
theorem rv_addS {x y : Str} (h : x.length + y.length ≤ 4000000) : Evl.RV (fun x y H Q => ∃ i j : Str, x = .str i ∧ y = .str j ∧ i.length + j.length ≤ sizeLine ∧ Q (.str (i ++ j)) H) (.str x) (.str y) H (.str (x ++ y)) := fun H1 _ Q q => ⟨x, y, rfl, rfl, Nat.le_trans h (by decide), q H1 (Evl.Ex.refl H1)⟩
theorem el_cat {xs ys : List V} (ha : Evl.EvL ta σ H xs) (hb : Evl.EvL tb σ H ys) (hl : xs.length + ys.length ≤ 4000000) : Evl.EvL (tOp rCat ta tb) σ H (xs ++ ys) := fun H1 e Q q =>
  ha H1 e _ fun p H2 np e2 h2 => hb H2 (e.trans e2) _ fun p2 H3 n2 e3 h3 => ⟨p, p2, xs, ys, rfl, rfl, e3 _ _ h2, h3, Nat.le_trans hl (by decide), fun r hr => q r _ (Evl.fresh_back (e2.trans e3) hr) ((e2.trans e3).trans (Evl.Ex.new hr)) upd_same⟩
/-- an own list variable + a new list -/
theorem el_catV {xs ys : List V} {a : Addr} (ha : Evl.Ev ta σ H (.ref a)) (h1 : H a = some (.lst xs)) (hb : Evl.EvL tb σ H ys) (hl : xs.length + ys.length ≤ 4000000) : Evl.EvL (tOp rCat ta tb) σ H (xs ++ ys) := fun H1 e Q q =>
  ha H1 e _ fun H2 e2 => hb H2 (e.trans e2) _ fun p2 H3 n2 e3 h3 => ⟨a, p2, xs, ys, rfl, rfl, e3 _ _ (e2 _ _ (e _ _ h1)), h3, Nat.le_trans hl (by decide), fun r hr => q r _ (Evl.fresh_back (e2.trans e3) hr) ((e2.trans e3).trans (Evl.Ex.new hr)) upd_same⟩
end
section
variable {K : PySem.W.Frag} {H : Hp} {σ : L2.St} {te ta : TE}
theorem rc_lenT {p : Addr} {ys : List V} (h : SqT K H p ys) : Evl.RC (Evl.rLenS K) [.ref p] H (.int (ys.length : Int)) := fun H1 e Q q => ⟨p, ys, rfl, .inr (st_mono e h), q H1 (Evl.Ex.refl H1)⟩
theorem rc_lenL {p : Addr} {ys : List V} (h : SqL K H p ys) : Evl.RC (Evl.rLenS K) [.ref p] H (.int (ys.length : Int)) := fun H1 e Q q => ⟨p, ys, rfl, .inl (sl_mono e h), q H1 (Evl.Ex.refl H1)⟩
/-- len(e) against n -/
theorem et_lenT {p : Addr} {ys : List V} {n : Int} {g : Int → Int → Bool} (he : Evl.Ev te σ H (.ref p)) (h : SqT K H p ys) : Evl.EvT (tTest (tOp (rI0 fun i j => V.bl (g i j)) (tCB (Evl.rLenS K) (tCons te tNil)) (tC (.int n)))) σ H (g (ys.length : Int) n) :=
  Evl.et_test (Evl.ev_op (Evl.ev_cb (Evl.ea_cons he Evl.ea_nil) (rc_lenT h)) Evl.ev_c Evl.rv_I0)
theorem et_lenL {p : Addr} {ys : List V} {n : Int} {g : Int → Int → Bool} (he : Evl.Ev te σ H (.ref p)) (h : SqL K H p ys) : Evl.EvT (tTest (tOp (rI0 fun i j => V.bl (g i j)) (tCB (Evl.rLenS K) (tCons te tNil)) (tC (.int n)))) σ H (g (ys.length : Int) n) :=
  Evl.et_test (Evl.ev_op (Evl.ev_cb (Evl.ea_cons he Evl.ea_nil) (rc_lenL h)) Evl.ev_c Evl.rv_I0)
end
section
variable {X : Cx}
/-- str(x), x an int or a text -/
def rStrQ : List V → Hp → VK → Prop := fun xs H Q => (∃ i : Int, xs = [.int i] ∧ i.natAbs.log2 < 1920 ∧ Q (.str (toString i)) H) ∨ ∃ a, xs = [.str a] ∧ Q (.str a) H
theorem call_str_q : CallR X (.type "str") rStrQ := fun pins s σ H xs us Q I r h => by
  rcases h with h | h
  · exact call_str_int pins s σ H xs us Q I r h
  · exact SkE.call_str_str pins s σ H xs us Q I r h
end
def strQ (x : V) : V := match x with
  | .int n => .str (toString n)
  | v => v
end Lx
set_option Elab.async false
set_option linter.all false
set_option maxRecDepth 100000
set_option maxHeartbeats 4000000
/-! tuple(dict); comprehensions over a dict's keys. -/
namespace Lx
open PySem PySem.Spec PyProof.Rows L2
section
variable {prog : Program} {w : World} {A : Around} {E : Value → Shared → Prop} {s : Shared} {r d : Addr} {n : Nat} {P : Nat → Value → Prop} {OK : Heap → Prop}
theorem collect_kdl {Q : List Value → Shared → Prop} (K : PySem.W.KdlSrc prog w "dict" r d n P OK) (hh : A.handled = none) (hok : OK s.heap) (hlen : n ≤ sizeLine)
    (hQ : ∀ (h' : Heap) (tk : Nat) (acc : Array Value), (∀ b o, s.heap.get? b = some o → h'.get? b = some o) → ItemsOf P acc n → Q acc.toList { s with heap := h', toks := tk }) :
    wpAny (model prog w) A (collect (.ref r)) Q E s := by
  unfold collect
  refine wpAny_bind (wpAny_runValue (codeAny_builtin F.entry_proto_collect ?_))
  rw [Around.under_plainId F.plain_proto_collect _]
  show wpAny _ A.in1 (newList [] >>= fun l => again (.builtin "list.__iadd__" ⟨[l, .ref r], []⟩)) _ _ s
  refine wpAny_bind (wpAny_newObj_type ?_)
  refine wpAny_pure ⟨plainId_quiet F.plain_list_iadd _, codeAny_builtin F.entry_list_iadd ?_⟩
  rw [Around.under_plainId F.plain_list_iadd _]
  show wpAny _ A.in1 (Builtin.List.listExtendWith (.ref s.heap.objs.size) (.ref r) (.ref s.heap.objs.size)) _ _ _
  have hS : (s.heap.push { cls := .type "list", data := .seq ([] : List Value).toArray }).get? s.heap.objs.size = some { cls := .type "list", data := .seq #[] 0 } := Heap.get?_push_size _ rfl
  have hlt := K.there _ hok
  refine wpAny_mono (PySem.W.kdl_extend (A := A) (R := fun rr s' => rr = .ok (.ret (.ref s.heap.objs.size)) ∧ ∃ (h' : Heap) (tk : Nat) (acc : Array Value) (c' : Nat), s' = { s with heap := h', toks := tk } ∧
      (∀ b o, s.heap.get? b = some o → h'.get? b = some o) ∧ h'.get? s.heap.objs.size = some { cls := .type "list", dict := none, data := .seq acc c', slots := #[] } ∧ ItemsOf P acc n)
    (s := { s with heap := s.heap.push { cls := .type "list", data := .seq ([] : List Value).toArray } }) K hh (K.keep _ _ hok fun b _ o e => Heap.get?_push_of_some _ e) _ (Nat.ne_of_gt hlt.1) (Nat.ne_of_gt hlt.2) _ 0 hS
    (fun h' tk acc c' hk e hi => ⟨rfl, h', tk, acc, c', rfl, fun b o q => hk b o (Nat.ne_of_lt (Heap.lt_size q)) (Heap.get?_push_of_some _ q), e, hi⟩) hlen) (fun fin s' h => ?_) (fun e s' h => ?_)
  · cases fin with
    | done f =>
      obtain ⟨e, h', tk, acc, c', rfl, hk, hS', hi⟩ := h
      cases e
      show wpAny _ A (load s.heap.objs.size >>= _) _ _ _
      exact wpAny_bind (wpAny_load hS' (wpAny_pure (hQ h' tk acc hk hi)))
    | again c' =>
      refine ⟨h.1, codeAny_mono h.2 fun rr s'' hr' => ?_⟩
      obtain ⟨rfl, h', tk, acc, c', rfl, hk, hS', hi⟩ := hr'
      show wpAny _ A (load s.heap.objs.size >>= _) _ _ _
      exact wpAny_bind (wpAny_load hS' (wpAny_pure (hQ h' tk acc hk hi)))
  · exact absurd h.1 (by simp)
theorem code_tuple_new_kdl {Q₁ : Value → Shared → Prop} (K : PySem.W.KdlSrc prog w "dict" r d n P OK) (hh : A.handled = none) (hok : OK s.heap) (hlen : n ≤ sizeLine)
    (h : ∀ (h' : Heap) (tk : Nat) (acc : Array Value), (∀ b o, s.heap.get? b = some o → h'.get? b = some o) → ItemsOf P acc n →
      Q₁ (.ref h'.objs.size) { s with heap := h'.push { cls := .type "tuple", data := .seq acc }, toks := tk }) :
    codeAny (model prog w) A (.call (.builtin "tuple.__new__") ⟨[.type "tuple", .ref r], []⟩) (wants Q₁ E) s := by
  refine codeAny_of_tree ?_
  show wpAny _ A.in1 (do checkBuiltinCall "tuple.__new__" ⟨[.type "tuple", .ref r], []⟩; again (.builtin "tuple.__new__" ⟨[.type "tuple", .ref r], []⟩)) _ _ s
  refine wpAny_bind (wpAny_of_eq (F.newCall_tuple_1 _) (wpAny_pure ⟨plainId_quiet F.plain_tuple_new _, codeAny_builtin F.entry_tuple_new ?_⟩))
  rw [Around.under_plainId F.plain_tuple_new _]
  have hsub := sub_tuple_self
  have hinit := init_tuple_lookup
  have hmh := madeHere_tuple
  have hTI : s.TypeIs (.ref r) "dict" := K.type s hok
  have hh1 : A.in1.handled = none := hh
  wp_walk using wpAny_typeOf hTI, collect_kdl (A := A.in1) K hh1 hok hlen
  intro h' tk acc hk hacc
  show wpAny _ _ (Builtin.Tuple.tupleExact acc.toList.toArray >>= fun v => ret v) _ _ _
  unfold Builtin.Tuple.tupleExact
  refine wpAny_bind (wpAny_newObj_type ?_ (by show acc.toList.toArray.size ≤ sizeLine; simp only [Array.toArray_toList]; rw [hacc.1]; exact hlen))
  refine wpAny_pure ?_
  have e : acc.toList.toArray = acc := by simp
  rw [e]
  exact h h' tk acc hk hacc
theorem call_tuple_kdl {Q : Value → Shared → Prop} (K : PySem.W.KdlSrc prog w "dict" r d n P OK) (hh : A.handled = none) (hok : OK s.heap) (hlen : n ≤ sizeLine)
    (hQ : ∀ (h' : Heap) (tk : Nat) (acc : Array Value), (∀ b o, s.heap.get? b = some o → h'.get? b = some o) → ItemsOf P acc n →
      Q (.ref h'.objs.size) { s with heap := h'.push { cls := .type "tuple", data := .seq acc }, toks := tk }) :
    wpAny (model prog w) A (call (.type "tuple") [.ref r]) Q E s := by
  refine callType_codes (Q₁ := fun obj s₁ => s₁.TypeIs obj "tuple" ∧ Q obj s₁) F.called_tuple (F.typeCall_tuple_1 _) F.entry_object_init
    (code_tuple_new_kdl (A := A.in1) K hh hok hlen fun h' tk acc hk hacc => ⟨⟨_, Heap.get?_push_size _ rfl, rfl⟩, hQ h' tk acc hk hacc⟩) fun obj s₁ h₁ => ?_
  exact ⟨h₁.1, F.args_object_init_2 obj _, object_init_meets F.called_tuple.init.lookup F.called_tuple.made (by decide) prog w A.in1 _ s₁ ⟨h₁.1, rfl, h₁.2⟩⟩
end
def rTupD : List V → Hp → VK → Prop := fun xs H Q => ∃ p kvs, xs = [.ref p] ∧ H p = some (.dK kvs) ∧ ∀ q, H q = none → Q (.ref q) (upd H q (.tup (kvs.map fun kv => kV kv.1)))
theorem call_tuple_dict {X : Cx} (hc : X.calm = true) : CallR X (.type "tuple") rTupD := by
  intro pins s σ H xs us Q I r h
  obtain ⟨p, kvs, e, hk, q⟩ := h
  subst e
  obtain ⟨u, eu, rx⟩ := vals1 r
  subst eu
  obtain rfl : u = Value.ref p := rx
  obtain ⟨z, lo, vs, rk, hd⟩ := (show ObjOk X.prog X.w H s.heap p (.dK kvs) from I.hok p _ hk)
  obtain ⟨ep, hat⟩ := hd.dictAt
  have hl : kvs.length = vs.length := Paired.length rk
  refine call_tuple_kdl (PySem.W.kdl_dict (knd := mixKind X.prog X.w) (kvs := vs) (ep := ep) lo) (I.ok.hd hc) hat (by rw [← hl]; exact z) fun h' tk acc' hkeep hacc => ?_
  have I1 : Inv X pins σ H { s with heap := h', toks := tk } := I.kept (t' := tk) hkeep
  have el : acc'.toList.length = acc'.size := by simp
  have rv : Vals (kvs.map fun kv => kV kv.1) acc'.toList := by
    refine vals_of_at (by rw [List.length_map, el, hacc.1, hl]) fun j x w h1 h2 => ?_
    obtain ⟨k, y, hky, hi⟩ := hacc.2 j w (by rw [← Array.getElem?_toList]; exact h2)
    have e1 : (kvs.map (·.1))[j]? = some k := by
      rw [KV.keys rk, List.getElem?_map, hky] <;> rfl
    have e2 : (kvs.map fun kv => kV kv.1)[j]? = some (kV k) := by
      have e3 : (kvs.map fun kv => kV kv.1) = (kvs.map (·.1)).map kV := by rw [List.map_map] <;> rfl
      rw [e3, List.getElem?_map, e1] <;> rfl
    rw [e2] at h1
    cases h1
    exact keyIs_rel hi
  have I2 : Inv X pins σ (upd H h'.objs.size (.tup (kvs.map fun kv => kV kv.1))) { s with heap := h'.push { cls := .type "tuple", data := .seq acc' }, toks := tk } :=
    I1.laid (t' := tk) (fun b o e => Heap.get?_push_of_some _ e) (Nat.le_refl _) (show ObjOk X.prog X.w _ _ _ (.tup (kvs.map fun kv => kV kv.1)) from ⟨by rw [List.length_map]; exact z, acc'.toList, rv, by rw [Array.toArray_toList]; exact IsTup.new _ _⟩)
  exact ⟨.ref h'.objs.size, _, I2, rfl, q _ (I1.hok.fresh (Nat.le_refl _))⟩
section
variable {K : PySem.W.Frag} {d : Addr} {o : Obj} {kvs : List (Key × V)} {g : TG} {tt : TT} {te : TE} {vs : List Nat} {σ : L2.St} {H1 : Hp} {D : Addr} {Qd : Hp → Prop} {j : Nat}
theorem lc_keys (Pv : Nat → Hp → Prop) (h0 : Pv 0 (upd H1 D (.lst []))) (hl : ∀ i H, i ≤ kvs.length → Pv i H → H d = some (.frz o (.dK kvs)))
    (hs : ∀ i x H, (kvs.map fun kv => kV kv.1)[i]? = some x → Pv i H → g x (wipe σ vs) H fun σ2 H2 => wipe σ2 vs = wipe σ vs ∧ tt σ2 H2 fun b H3 =>
      if b = true then te σ2 H3 fun y H4 => ∃ acc, H4 D = some (.lst acc) ∧ acc.length < sizeLine ∧ Pv (i + 1) (upd H4 D (.lst (acc ++ [y]))) else Pv (i + 1) H3) (hd : ∀ H, Pv kvs.length H → Qd H) :
    ∃ W : Nat → Nat → Hp → Prop, (∃ m, W 0 m (upd H1 D (.lst []))) ∧ ∀ i m H, W i m H →
      ((Itk d o kvs).stop i H ∧ Qd H) ∨ ((Itk d o kvs).go i H ∧ ∃ Nx : Hp → Prop, (∀ H', Nx H' → ∃ m', m' < m ∧ W (i + 1) m' H') ∧ ∀ x H', (Itk d o kvs).yld i H x H' → g x (wipe σ vs) H' fun σ2 H2 => wipe σ2 vs = wipe σ vs ∧ tt σ2 H2 fun b H3 =>
        if b = true then te σ2 H3 fun y H4 => ∃ acc, H4 D = some (.lst acc) ∧ acc.length < sizeLine ∧ Nx (upd H4 D (.lst (acc ++ [y]))) else Nx H3) := by
  refine ⟨fun i m H => m = kvs.length - i ∧ i ≤ kvs.length ∧ Pv i H, ⟨kvs.length, by simp, Nat.zero_le _, h0⟩, ?_⟩
  rintro i m H ⟨rfl, hi, p⟩
  have q := hl i H hi p
  by_cases hlt : i < kvs.length
  · refine .inr ⟨⟨q, hlt⟩, Pv (i + 1), fun H' p' => ⟨kvs.length - (i + 1), by omega, rfl, hlt, p'⟩, fun x H' y => ?_⟩
    obtain ⟨rfl, k, v, hkv, rfl⟩ := y
    exact hs i _ _ (by rw [List.getElem?_map, hkv]; rfl) p
  · have e : i = kvs.length := by omega
    subst e
    exact .inl ⟨⟨q, Nat.le_refl _⟩, hd H p⟩
theorem lcK_fm {tt : TT} {te : TE} (f : V → Bool) (v : V → V) (hS : H1 d = some (.frz o (.dK kvs))) (hD : H1 D = none) (hz : kvs.length ≤ 4000000) (hw : ∀ x, wipe ((wipe σ vs).set j (some x)) vs = wipe σ vs)
    (ht : ∀ x ∈ kvs.map (fun kv => kV kv.1), Evl.EvT tt ((wipe σ vs).set j (some x)) H1 (f x)) (he : ∀ x ∈ kvs.map (fun kv => kV kv.1), f x = true → Evl.Ev te ((wipe σ vs).set j (some x)) H1 (v x)) (hd : ∀ H', Ex H1 H' → H' D = some (.lst (((kvs.map fun kv => kV kv.1).filter f).map v)) → Qd H') :
    ∃ W : Nat → Nat → Hp → Prop, (∃ m, W 0 m (upd H1 D (.lst []))) ∧ ∀ i m H, W i m H →
      ((Itk d o kvs).stop i H ∧ Qd H) ∨ ((Itk d o kvs).go i H ∧ ∃ Nx : Hp → Prop, (∀ H', Nx H' → ∃ m', m' < m ∧ W (i + 1) m' H') ∧ ∀ x H', (Itk d o kvs).yld i H x H' → gName j x (wipe σ vs) H' fun σ2 H2 => wipe σ2 vs = wipe σ vs ∧ tt σ2 H2 fun b H3 =>
        if b = true then te σ2 H3 fun y H4 => ∃ xs, H4 D = some (.lst xs) ∧ xs.length < sizeLine ∧ Nx (upd H4 D (.lst (xs ++ [y]))) else Nx H3) :=
  lc_keys (d := d) (o := o) (kvs := kvs) (FmP H1 D (kvs.map fun kv => kV kv.1) f v) ⟨fun b o e => by rw [upd_ne (ne_of_none e hD)]; exact e, upd_same⟩ (fun i H' _ p => p.1 d _ hS)
    (fun i x H' hx p => ⟨hw x, fm_turn hD (by rw [List.length_map]; exact hz) hx p (ht x (List.mem_of_getElem? hx)) (he x (List.mem_of_getElem? hx))⟩)
    (fun H' p => hd H' p.1 (by have q := p.2; rw [List.take_of_length_le (by rw [List.length_map]; exact Nat.le_refl _)] at q; exact q))
end
section
variable {σ : L2.St} {H : Hp}
theorem ev_dgetF {i j : Nat} {d : Addr} {kvs : List (Key × V)} {k : Key} {v : V} (h1 : σ[i]? = some (some (.ref d))) (h2 : σ[j]? = some (some (kV k))) (hd : Rd H d (.dK kvs)) (hv : valV kvs k = some v) : Evl.Ev (tDGet (tVar i) (tVar j)) σ H v :=
  fun H1 e Q q => ⟨_, h1, _, h2, d, v, rfl, .inl ⟨kvs, k, Evl.ex_rd e hd, rfl, hv.symm⟩, q H1 (Evl.Ex.refl H1)⟩
theorem ev_dnotin {i j : Nat} {d : Addr} {kvs : List (Key × V)} {k : Key} (h1 : σ[j]? = some (some (.ref d))) (h2 : σ[i]? = some (some (kV k))) (hd : Rd H d (.dK kvs)) : Evl.Ev (tDNotIn (tVar i) (tVar j)) σ H (.bl (!(valV kvs k).isSome)) :=
  fun H1 e Q q => ⟨_, h2, _, h1, d, valV kvs k, rfl, .inl ⟨kvs, k, Evl.ex_rd e hd, rfl, rfl⟩, q H1 (Evl.Ex.refl H1)⟩
end
theorem val_some_iff {kvs : List (Key × V)} {k : Key} : (valV kvs k).isSome = true ↔ k ∈ kvs.map Prod.fst := by
  induction kvs with
  | nil => exact ⟨fun h => (by cases h), fun h => (by cases h)⟩
  | cons p r ih =>
    rw [List.map_cons, List.mem_cons]
    by_cases e : p.1 = k
    · rw [valV_pos e]
      exact ⟨fun _ => .inl e.symm, fun _ => rfl⟩
    · rw [valV_neg e, ih]
      exact ⟨.inr, fun h => h.resolve_left fun q => e q.symm⟩
theorem fm_pos {i j : Int} (h : 0 < j) : 0 ≤ i.fmod j ∧ i.fmod j < j := ⟨Int.fmod_nonneg_of_pos i h, Int.fmod_lt_of_pos i h⟩
/-- one key's value is another one -/
theorem putK_len {kvs : List (Key × V)} {k : Key} {v x : V} (h : valV kvs k = some x) : (putK kvs k v).length = kvs.length := by
  have h2 := valV_any k kvs
  rw [h] at h2
  have h2 : (kvs.any fun kv => decide (kv.1 = k)) = true := h2
  unfold putK
  rw [if_pos h2, List.length_map]
theorem put_same {kvs : List (Key × V)} {k : Key} {v : V} : valV (putK kvs k v) k = some v := by rw [valV_put, if_pos rfl]
theorem put_other {kvs : List (Key × V)} {k j : Key} {v : V} (h : ¬ j = k) : valV (putK kvs k v) j = valV kvs j := by rw [valV_put, if_neg h]
end Lx
set_option Elab.async false
set_option linter.all false
set_option maxRecDepth 100000
set_option maxHeartbeats 4000000
/-! Dicts by text keys, as values. -/
namespace Lx
open PySem PySem.Spec PyProof.Rows L2
section
variable {K : PySem.W.Frag} {σ : L2.St} {H : Hp} {te tv : TE} {D : Ends}
theorem ev_dk {d : Addr} {kvs : List (Key × V)} {k : Str} {v : V} (h1 : Evl.Ev te σ H (.ref d)) (hd : Rd H d (.dK kvs)) (hv : valV kvs (.inr k) = some v) : Evl.Ev (tDGet te (tC (.str k))) σ H v :=
  fun H1 e Q q => h1 H1 e _ fun H2 e2 => ⟨d, v, rfl, .inl ⟨kvs, .inr k, Evl.ex_rd e2 (Evl.ex_rd e hd), rfl, hv.symm⟩, q H2 e2⟩
theorem s_dput {i : Nat} {d : Addr} {kvs : List (Key × V)} {k : Str} {v : V} (hs : σ[i]? = some (some (.ref d))) (hv : Evl.Ev tv σ H v) (hd : H d = some (.dK kvs)) (hl : kvs.length < sizeLine) (n : ∀ H1, Ex H H1 → D.nx σ (upd H1 d (.dK (putK kvs (.inr k) v)))) :
    sDPut (tVar i) (tC (.str k)) tv D σ H := hv H (Evl.Ex.refl H) _ fun H1 e => ⟨_, hs, d, _, rfl, .inl ⟨kvs, .inr k, e _ _ hd, rfl, hl, rfl⟩, n H1 e⟩
/-- the same with another statement behind it -/
theorem q_dput {i : Nat} {d : Addr} {kvs : List (Key × V)} {k : Str} {v : V} {tz : TS} (hs : σ[i]? = some (some (.ref d))) (hv : Evl.Ev tv σ H v) (hd : H d = some (.dK kvs)) (hl : kvs.length < sizeLine) (n : ∀ H1, Ex H H1 → tz D σ (upd H1 d (.dK (putK kvs (.inr k) v)))) :
    tSeq (sDPut (tVar i) (tC (.str k)) tv) tz D σ H := s_dput (D := { D with nx := tz D }) hs hv hd hl n
theorem rc_int {i : Int} : Evl.RC (fun xs H Q => (∃ i, xs = [V.int i] ∧ Q (V.int i) H) ∨ ∃ k : Bool, xs = [V.bl k] ∧ Q (V.int (if k = true then 1 else 0)) H) [.int i] H (.int i) := fun H1 _ Q q => .inl ⟨i, rfl, q H1 (Evl.Ex.refl H1)⟩
theorem rc_intB {b : Bool} : Evl.RC (fun xs H Q => (∃ i, xs = [V.int i] ∧ Q (V.int i) H) ∨ ∃ k : Bool, xs = [V.bl k] ∧ Q (V.int (if k = true then 1 else 0)) H) [.bl b] H (.int (if b = true then 1 else 0)) := fun H1 _ Q q => .inr ⟨b, rfl, q H1 (Evl.Ex.refl H1)⟩
end
theorem seqIx {d n : Nat} (h : d < n) : seqIndex? (d : Int) n = some d := by
  have c1 : ¬ ((d : Int) < 0) := by omega
  have c2 : decide ((0 : Int) ≤ (d : Int)) = true := decide_eq_true (by omega)
  have c3 : decide ((d : Int) < ((n : Nat) : Int)) = true := decide_eq_true (by omega)
  unfold seqIndex?
  rw [if_neg c1]
  show (if (decide ((0 : Int) ≤ (d : Int)) && decide ((d : Int) < ((n : Nat) : Int))) = true then some (d : Int).toNat else none) = some d
  rw [c2, c3]
  rfl
theorem erase_perm {α : Type} : ∀ {l : List α} {i : Nat} (h : i < l.length), (l[i] :: l.eraseIdx i).Perm l
  | a :: l, 0, _ => List.Perm.refl _
  | a :: l, i + 1, h => by
    have h2 : i < l.length := Nat.lt_of_succ_lt_succ h
    have ih := erase_perm (l := l) (i := i) h2
    show (l[i] :: a :: l.eraseIdx i).Perm (a :: l)
    exact (List.Perm.swap a l[i] _).trans (ih.cons a)
section
variable {K : PySem.W.Frag} {σ : L2.St} {H : Hp} {te : TE}
theorem ev_joinL {sep : Str} {ys : List Str} (h : Evl.EvL te σ H (ys.map V.str)) (hb : (ys.map (·.length)).sum + ys.length * sep.length ≤ 16777216) :
    Evl.Ev (tM1 (fun x xs H Q => ∃ a p, ∃ ys : List Str, x = .str a ∧ xs = [.ref p] ∧ (SqL K H p (ys.map V.str) ∨ SqT K H p (ys.map V.str)) ∧ (ys.map (·.length)).sum + ys.length * a.length ≤ 16777216 ∧ Q (.str (Txt.join a ys)) H) (tC (.str sep)) te) σ H (.str (Txt.join sep ys)) :=
  fun H1 e Q q => ⟨⟨_, rfl⟩, h H1 e _ fun p H2 np e2 h2 => ⟨sep, p, ys, rfl, rfl, .inl (SqL.of h2), hb, q H2 e2⟩⟩
end
theorem yesT {σ : L2.St} {H : Hp} {A B : Hp → Prop} (h : A H) : tYes σ H (fun b H3 => if b = true then A H3 else B H3) := by
  show (if true = true then A H else B H)
  rw [if_pos rfl]
  exact h
section
variable {K : PySem.W.Frag} {σ : L2.St} {H : Hp} {te tl : TE} {tt : TT} {a : Addr} {xs : List V} {j : Nat} {vs : List Nat} {β : Type} {R : V → β → Prop} {ys : List β}
/-- a comprehension over a list whose items are told by R -/
theorem el_lcRel (f : β → Bool) (v : β → V) (h : Evl.Ev tl σ H (.ref a)) (hS : SqL K H a xs) (al : All2 R xs ys) (hz : xs.length ≤ 4000000) (hw : ∀ x, wipe ((wipe σ vs).set j (some x)) vs = wipe σ vs)
    (ht : ∀ x y, R x y → y ∈ ys → Evl.EvT tt ((wipe σ vs).set j (some x)) H (f y)) (he : ∀ x y, R x y → y ∈ ys → f y = true → Evl.Ev te ((wipe σ vs).set j (some x)) H (v y)) : Evl.EvL (tLc (iList K tl) (gName j) tt te vs) σ H ((ys.filter f).map v) := fun H0 e Q q =>
  h H0 e _ fun H1 e1 => ⟨a, rfl, ⟨xs, sl_mono (e.trans e1) hS⟩, fun D hD => lc_list (fun i H' => Ex H1 H' ∧ H' D = some (.lst (((ys.take i).filter f).map v))) ⟨Evl.Ex.new hD, upd_same⟩ (fun i H' _ p => sl_mono p.1 (sl_mono (e.trans e1) hS))
    (fun i x H' hx p => ⟨hw x, by
      obtain ⟨y, hy, r⟩ := al.get hx
      have hi := (List.getElem?_eq_some_iff.mp hy).1
      have hl := al.len
      have hm := List.mem_of_getElem? hy
      obtain ⟨p1, p2⟩ := p
      refine (ht x y r hm).mono (e.trans e1) H' p1 _ fun H3 e3 => ?_
      cases hf : f y with
      | true =>
        refine iteT (((he x y r hm hf).mono (e.trans e1)) H3 (p1.trans e3) _ fun H4 e4 => ⟨_, e4 D _ (e3 D _ p2), ?_, ?_, ?_⟩)
        · have h1 := List.length_filter_le f (ys.take i)
          rw [List.length_map]
          rw [List.length_take] at h1
          exact Nat.lt_of_le_of_lt (show _ ≤ 4000000 by omega) (by decide)
        · exact ((p1.trans e3).trans e4).mut hD
        · rw [upd_same, fm_succ f v hy, hf]
          rfl
      | false =>
        refine iteF ⟨p1.trans e3, ?_⟩
        rw [fm_succ f v hy, hf]
        show H3 D = some (.lst (_ ++ []))
        rw [List.append_nil]
        exact e3 D _ p2⟩)
    (fun H' p => q D H' (Evl.fresh_back e1 hD) (e1.trans p.1) (by have q := p.2; rw [al.len, List.take_length] at q; exact q))⟩
end
end Lx
set_option Elab.async false
set_option linter.all false
set_option maxRecDepth 100000
set_option maxHeartbeats 4000000
/-! Lists times a bool, as new lists. -/
namespace Lx
open PySem PySem.Spec PyProof.Rows L2
section
variable {K : PySem.W.Frag} {σ : L2.St} {H : Hp} {ta tb te : TE}
theorem el_rep {xs : List V} {n : Int} (ha : Evl.EvL ta σ H xs) (hb : Evl.Ev tb σ H (.int n)) (h0 : 0 ≤ n ∧ n ≤ 1000) (hz : xs.length * n.toNat ≤ 4000000) : Evl.EvL (tOp rRep ta tb) σ H (List.replicate n.toNat xs).flatten := fun H1 e Q q =>
  ha H1 e _ fun p H2 np e2 h2 => hb H2 (e.trans e2) _ fun H3 e3 => ⟨p, n, xs, rfl, rfl, e3 _ _ h2, by omega, by omega, Nat.le_trans hz (by decide), fun r hr => q r _ (Evl.fresh_back (e2.trans e3) hr) ((e2.trans e3).trans (Evl.Ex.new hr)) upd_same⟩
/-- xs * int(b) -/
theorem el_repB {xs : List V} {b : Bool} (ha : Evl.EvL ta σ H xs) (hb : Evl.Ev tb σ H (.bl b)) (hz : xs.length ≤ 4000000) :
    Evl.EvL (tOp rRep ta (tCB (fun xs H Q => (∃ i, xs = [V.int i] ∧ Q (V.int i) H) ∨ ∃ k : Bool, xs = [V.bl k] ∧ Q (V.int (if k = true then 1 else 0)) H) (tCons tb tNil))) σ H (if b = true then xs else []) := by
  have h := el_rep ha (Evl.ev_cb (Evl.ea_cons hb Evl.ea_nil) (rc_intB (H := H))) (by cases b <;> decide) (by cases b <;> simp <;> omega)
  cases b with
  | true =>
    have e : (List.replicate ((if true = true then (1 : Int) else 0)).toNat xs).flatten = xs := by simp
    rw [e] at h
    exact h
  | false => exact h
/-- xs != [], xs == [] as a value -/
theorem ev_nil {i : Nat} {a : Addr} {xs : List V} (neg : Bool) (hs : σ[i]? = some (some (.ref a))) (h : SqL K H a xs) : Evl.Ev (tOp (rNilL K neg) (tVar i) (tLst tNil)) σ H (.bl (if neg then !xs.isEmpty else xs.isEmpty)) :=
  fun H1 e Q q => ⟨_, hs, by decide, fun p hp => ⟨a, p, xs, rfl, rfl, sl_mono (e.trans (Evl.Ex.new hp)) h, SqL.of upd_same, q _ (Evl.Ex.new hp)⟩⟩
end
end Lx
set_option Elab.async false
set_option linter.all false
set_option maxRecDepth 100000
set_option maxHeartbeats 4000000
namespace Lx
open PySem PySem.Spec PyProof.Rows L2
def top (i : Nat) : Stmt := PySem.Challenge.pw_alljourneys_k81_whole_first_wrong_places.main.body.getD i (.Pass ⟨0, 0, 0, 0⟩)
abbrev s_BadText___init__ : Stmt := inClass (top 3) 0
abbrev s_NoSpot___init__ : Stmt := inClass (top 4) 0
abbrev s_check_spot : Stmt := top 6
abbrev s_Reader___init__ : Stmt := inClass (top 11) 0
abbrev s_Reader_seen : Stmt := inClass (top 11) 1
abbrev s_Reader_wrong : Stmt := inClass (top 11) 2
abbrev s_Reader_skip : Stmt := inClass (top 11) 3
abbrev s_Reader_has_words : Stmt := inClass (top 11) 4
abbrev s_Reader_has_more : Stmt := inClass (top 11) 5
abbrev s_Reader_need_space : Stmt := inClass (top 11) 6
abbrev s_Reader_end_line : Stmt := inClass (top 11) 7
abbrev s_Reader_word_of : Stmt := inClass (top 11) 8
abbrev s_Reader_number_of : Stmt := inClass (top 11) 9
abbrev s_Reader_new_name : Stmt := inClass (top 11) 10
abbrev s_Reader_goes_on : Stmt := inClass (top 11) 11
abbrev s_Rule___init__ : Stmt := inClass (top 15) 0
abbrev s_read_condition : Stmt := top 16
abbrev s_read_rule : Stmt := top 17
abbrev s_line_told : Stmt := top 18
abbrev s_read_table : Stmt := top 19
abbrev s_Table___init__ : Stmt := inClass (top 20) 0
abbrev s_Road___init__ : Stmt := inClass (top 26) 0
abbrev s_Road___eq__ : Stmt := inClass (top 26) 1
abbrev s_line_of : Stmt := top 27
abbrev s_text_of : Stmt := top 28
abbrev s_read_shift : Stmt := top 29
abbrev s_read_road : Stmt := top 30
abbrev s_read_map : Stmt := top 31
abbrev s_Map___init__ : Stmt := inClass (top 32) 0
abbrev s_Map___eq__ : Stmt := inClass (top 32) 1
abbrev s_Map_roads_from : Stmt := inClass (top 32) 3
abbrev s__law_pen : Stmt := top 34
abbrev s__law_draw : Stmt := top 35
abbrev s__law_pick : Stmt := top 36
abbrev s__law_land_text : Stmt := top 37
abbrev s__law_shift : Stmt := top 38
abbrev s__law_shuffled : Stmt := top 39
abbrev s__law_condition : Stmt := top 40
abbrev s__law_spot_rules : Stmt := top 41
abbrev s__law_table_lines : Stmt := top 42
abbrev s__law_line_text : Stmt := top 43
abbrev s__law_table_text : Stmt := top 44
abbrev s__law_goals : Stmt := top 45
abbrev s__law_rules : Stmt := top 46
abbrev s__law_conditions_more : Stmt := top 47
abbrev s__law_seen : Stmt := top 48
abbrev s__law_word : Stmt := top 49
abbrev s__law_gap : Stmt := top 50
abbrev s__law_number : Stmt := top 51
abbrev s__law_conditions_read : Stmt := top 52
abbrev s__law_line_read : Stmt := top 53
abbrev s__law_due : Stmt := top 54
abbrev s__law_names_land : Stmt := top 55
abbrev s__law_changed : Stmt := top 56
abbrev s__law_right : Stmt := top 57
abbrev s_law : Stmt := top 58
def d_BadText___init__ : He.DefD := ⟨("BadText", some "__init__"), "__init__", "BadText.__init__", defArgs s_BadText___init__, defBody s_BadText___init__, defScope s_BadText___init__, [], []⟩
def d_NoSpot___init__ : He.DefD := ⟨("NoSpot", some "__init__"), "__init__", "NoSpot.__init__", defArgs s_NoSpot___init__, defBody s_NoSpot___init__, defScope s_NoSpot___init__, [], []⟩
def d_check_spot : He.DefD := ⟨("check_spot", none), "check_spot", "check_spot", defArgs s_check_spot, defBody s_check_spot, defScope s_check_spot, [], []⟩
def d_Reader___init__ : He.DefD := ⟨("Reader", some "__init__"), "__init__", "Reader.__init__", defArgs s_Reader___init__, defBody s_Reader___init__, defScope s_Reader___init__, [], []⟩
def d_Reader_seen : He.DefD := ⟨("Reader", some "seen"), "seen", "Reader.seen", defArgs s_Reader_seen, defBody s_Reader_seen, defScope s_Reader_seen, [], []⟩
def d_Reader_wrong : He.DefD := ⟨("Reader", some "wrong"), "wrong", "Reader.wrong", defArgs s_Reader_wrong, defBody s_Reader_wrong, defScope s_Reader_wrong, [], []⟩
def d_Reader_skip : He.DefD := ⟨("Reader", some "skip"), "skip", "Reader.skip", defArgs s_Reader_skip, defBody s_Reader_skip, defScope s_Reader_skip, [], []⟩
def d_Reader_has_words : He.DefD := ⟨("Reader", some "has_words"), "has_words", "Reader.has_words", defArgs s_Reader_has_words, defBody s_Reader_has_words, defScope s_Reader_has_words, [], []⟩
def d_Reader_has_more : He.DefD := ⟨("Reader", some "has_more"), "has_more", "Reader.has_more", defArgs s_Reader_has_more, defBody s_Reader_has_more, defScope s_Reader_has_more, [], []⟩
def d_Reader_need_space : He.DefD := ⟨("Reader", some "need_space"), "need_space", "Reader.need_space", defArgs s_Reader_need_space, defBody s_Reader_need_space, defScope s_Reader_need_space, [], []⟩
def d_Reader_end_line : He.DefD := ⟨("Reader", some "end_line"), "end_line", "Reader.end_line", defArgs s_Reader_end_line, defBody s_Reader_end_line, defScope s_Reader_end_line, [], []⟩
def d_Reader_word_of : He.DefD := ⟨("Reader", some "word_of"), "word_of", "Reader.word_of", defArgs s_Reader_word_of, defBody s_Reader_word_of, defScope s_Reader_word_of, [], []⟩
def d_Reader_number_of : He.DefD := ⟨("Reader", some "number_of"), "number_of", "Reader.number_of", defArgs s_Reader_number_of, defBody s_Reader_number_of, defScope s_Reader_number_of, [], []⟩
def d_Reader_new_name : He.DefD := ⟨("Reader", some "new_name"), "new_name", "Reader.new_name", defArgs s_Reader_new_name, defBody s_Reader_new_name, defScope s_Reader_new_name, [.bl true], []⟩
def d_Reader_goes_on : He.DefD := ⟨("Reader", some "goes_on"), "goes_on", "Reader.goes_on", defArgs s_Reader_goes_on, defBody s_Reader_goes_on, defScope s_Reader_goes_on, [], []⟩
def d_Rule___init__ : He.DefD := ⟨("Rule", some "__init__"), "__init__", "Rule.__init__", defArgs s_Rule___init__, defBody s_Rule___init__, defScope s_Rule___init__, [], []⟩
def d_read_condition : He.DefD := ⟨("read_condition", none), "read_condition", "read_condition", defArgs s_read_condition, defBody s_read_condition, defScope s_read_condition, [], []⟩
def d_read_rule : He.DefD := ⟨("read_rule", none), "read_rule", "read_rule", defArgs s_read_rule, defBody s_read_rule, defScope s_read_rule, [], []⟩
def d_line_told : He.DefD := ⟨("line_told", none), "line_told", "line_told", defArgs s_line_told, defBody s_line_told, defScope s_line_told, [], []⟩
def d_read_table : He.DefD := ⟨("read_table", none), "read_table", "read_table", defArgs s_read_table, defBody s_read_table, defScope s_read_table, [], []⟩
def d_Table___init__ : He.DefD := ⟨("Table", some "__init__"), "__init__", "Table.__init__", defArgs s_Table___init__, defBody s_Table___init__, defScope s_Table___init__, [], []⟩
def d_Road___init__ : He.DefD := ⟨("Road", some "__init__"), "__init__", "Road.__init__", defArgs s_Road___init__, defBody s_Road___init__, defScope s_Road___init__, [.non], []⟩
def d_Road___eq__ : He.DefD := ⟨("Road", some "__eq__"), "__eq__", "Road.__eq__", defArgs s_Road___eq__, defBody s_Road___eq__, defScope s_Road___eq__, [], []⟩
def d_line_of : He.DefD := ⟨("line_of", none), "line_of", "line_of", defArgs s_line_of, defBody s_line_of, defScope s_line_of, [], []⟩
def d_text_of : He.DefD := ⟨("text_of", none), "text_of", "text_of", defArgs s_text_of, defBody s_text_of, defScope s_text_of, [], []⟩
def d_read_shift : He.DefD := ⟨("read_shift", none), "read_shift", "read_shift", defArgs s_read_shift, defBody s_read_shift, defScope s_read_shift, [], []⟩
def d_read_road : He.DefD := ⟨("read_road", none), "read_road", "read_road", defArgs s_read_road, defBody s_read_road, defScope s_read_road, [.bl true], []⟩
def d_read_map : He.DefD := ⟨("read_map", none), "read_map", "read_map", defArgs s_read_map, defBody s_read_map, defScope s_read_map, [], []⟩
def d_Map___init__ : He.DefD := ⟨("Map", some "__init__"), "__init__", "Map.__init__", defArgs s_Map___init__, defBody s_Map___init__, defScope s_Map___init__, [.non], []⟩
def d_Map___eq__ : He.DefD := ⟨("Map", some "__eq__"), "__eq__", "Map.__eq__", defArgs s_Map___eq__, defBody s_Map___eq__, defScope s_Map___eq__, [], []⟩
def d_Map_roads_from : He.DefD := ⟨("Map", some "roads_from"), "roads_from", "Map.roads_from", defArgs s_Map_roads_from, defBody s_Map_roads_from, defScope s_Map_roads_from, [], []⟩
def d__law_pen : He.DefD := ⟨("_law_pen", none), "_law_pen", "_law_pen", defArgs s__law_pen, defBody s__law_pen, defScope s__law_pen, [], []⟩
def d__law_draw : He.DefD := ⟨("_law_draw", none), "_law_draw", "_law_draw", defArgs s__law_draw, defBody s__law_draw, defScope s__law_draw, [], []⟩
def d__law_pick : He.DefD := ⟨("_law_pick", none), "_law_pick", "_law_pick", defArgs s__law_pick, defBody s__law_pick, defScope s__law_pick, [], []⟩
def d__law_land_text : He.DefD := ⟨("_law_land_text", none), "_law_land_text", "_law_land_text", defArgs s__law_land_text, defBody s__law_land_text, defScope s__law_land_text, [], []⟩
def d__law_shift : He.DefD := ⟨("_law_shift", none), "_law_shift", "_law_shift", defArgs s__law_shift, defBody s__law_shift, defScope s__law_shift, [], []⟩
def d__law_shuffled : He.DefD := ⟨("_law_shuffled", none), "_law_shuffled", "_law_shuffled", defArgs s__law_shuffled, defBody s__law_shuffled, defScope s__law_shuffled, [], []⟩
def d__law_condition : He.DefD := ⟨("_law_condition", none), "_law_condition", "_law_condition", defArgs s__law_condition, defBody s__law_condition, defScope s__law_condition, [], []⟩
def d__law_spot_rules : He.DefD := ⟨("_law_spot_rules", none), "_law_spot_rules", "_law_spot_rules", defArgs s__law_spot_rules, defBody s__law_spot_rules, defScope s__law_spot_rules, [], []⟩
def d__law_table_lines : He.DefD := ⟨("_law_table_lines", none), "_law_table_lines", "_law_table_lines", defArgs s__law_table_lines, defBody s__law_table_lines, defScope s__law_table_lines, [], []⟩
def d__law_line_text : He.DefD := ⟨("_law_line_text", none), "_law_line_text", "_law_line_text", defArgs s__law_line_text, defBody s__law_line_text, defScope s__law_line_text, [], []⟩
def d__law_table_text : He.DefD := ⟨("_law_table_text", none), "_law_table_text", "_law_table_text", defArgs s__law_table_text, defBody s__law_table_text, defScope s__law_table_text, [], []⟩
def d__law_goals : He.DefD := ⟨("_law_goals", none), "_law_goals", "_law_goals", defArgs s__law_goals, defBody s__law_goals, defScope s__law_goals, [], []⟩
def d__law_rules : He.DefD := ⟨("_law_rules", none), "_law_rules", "_law_rules", defArgs s__law_rules, defBody s__law_rules, defScope s__law_rules, [], []⟩
def d__law_conditions_more : He.DefD := ⟨("_law_conditions_more", none), "_law_conditions_more", "_law_conditions_more", defArgs s__law_conditions_more, defBody s__law_conditions_more, defScope s__law_conditions_more, [], []⟩
def d__law_seen : He.DefD := ⟨("_law_seen", none), "_law_seen", "_law_seen", defArgs s__law_seen, defBody s__law_seen, defScope s__law_seen, [], []⟩
def d__law_word : He.DefD := ⟨("_law_word", none), "_law_word", "_law_word", defArgs s__law_word, defBody s__law_word, defScope s__law_word, [], []⟩
def d__law_gap : He.DefD := ⟨("_law_gap", none), "_law_gap", "_law_gap", defArgs s__law_gap, defBody s__law_gap, defScope s__law_gap, [], []⟩
def d__law_number : He.DefD := ⟨("_law_number", none), "_law_number", "_law_number", defArgs s__law_number, defBody s__law_number, defScope s__law_number, [], []⟩
def d__law_conditions_read : He.DefD := ⟨("_law_conditions_read", none), "_law_conditions_read", "_law_conditions_read", defArgs s__law_conditions_read, defBody s__law_conditions_read, defScope s__law_conditions_read, [], []⟩
def d__law_line_read : He.DefD := ⟨("_law_line_read", none), "_law_line_read", "_law_line_read", defArgs s__law_line_read, defBody s__law_line_read, defScope s__law_line_read, [], []⟩
def d__law_due : He.DefD := ⟨("_law_due", none), "_law_due", "_law_due", defArgs s__law_due, defBody s__law_due, defScope s__law_due, [], []⟩
def d__law_names_land : He.DefD := ⟨("_law_names_land", none), "_law_names_land", "_law_names_land", defArgs s__law_names_land, defBody s__law_names_land, defScope s__law_names_land, [], []⟩
def d__law_changed : He.DefD := ⟨("_law_changed", none), "_law_changed", "_law_changed", defArgs s__law_changed, defBody s__law_changed, defScope s__law_changed, [], []⟩
def d__law_right : He.DefD := ⟨("_law_right", none), "_law_right", "_law_right", defArgs s__law_right, defBody s__law_right, defScope s__law_right, [], []⟩
def d_law : He.DefD := ⟨("law", none), "law", "law", defArgs s_law, defBody s_law, defScope s_law, [], []⟩
def fn : List He.DefD := [d_BadText___init__, d_NoSpot___init__, d_check_spot, d_Reader___init__, d_Reader_seen, d_Reader_wrong, d_Reader_skip, d_Reader_has_words, d_Reader_has_more, d_Reader_need_space, d_Reader_end_line, d_Reader_word_of, d_Reader_number_of, d_Reader_new_name, d_Reader_goes_on, d_Rule___init__, d_read_condition, d_read_rule, d_line_told, d_read_table, d_Table___init__, d_Road___init__, d_Road___eq__, d_line_of, d_text_of, d_read_shift, d_read_road, d_read_map, d_Map___init__, d_Map___eq__, d_Map_roads_from, d__law_pen, d__law_draw, d__law_pick, d__law_land_text, d__law_shift, d__law_shuffled, d__law_condition, d__law_spot_rules, d__law_table_lines, d__law_line_text, d__law_table_text, d__law_goals, d__law_rules, d__law_conditions_more, d__law_seen, d__law_word, d__law_gap, d__law_number, d__law_conditions_read, d__law_line_read, d__law_due, d__law_names_land, d__law_changed, d__law_right, d_law]
def fa : List He.Fa := [.glo "check_spot",
  .glo "read_condition",
  .glo "read_rule",
  .glo "line_told",
  .glo "read_table",
  .glo "line_of",
  .glo "text_of",
  .glo "read_shift",
  .glo "read_road",
  .glo "read_map",
  .glo "_law_pen",
  .glo "_law_draw",
  .glo "_law_pick",
  .glo "_law_land_text",
  .glo "_law_shift",
  .glo "_law_shuffled",
  .glo "_law_condition",
  .glo "_law_spot_rules",
  .glo "_law_table_lines",
  .glo "_law_line_text",
  .glo "_law_table_text",
  .glo "_law_goals",
  .glo "_law_rules",
  .glo "_law_conditions_more",
  .glo "_law_seen",
  .glo "_law_word",
  .glo "_law_gap",
  .glo "_law_number",
  .glo "_law_conditions_read",
  .glo "_law_line_read",
  .glo "_law_due",
  .glo "_law_names_land",
  .glo "_law_changed",
  .glo "_law_right",
  .glo "law",
  .free "len",
  .free "range",
  .free "str",
  .free "int",
  .free "list",
  .free "tuple",
  .free "isinstance",
  .free "min",
  .free "ValueError",
  .str "LETTERS" "abcdefghijklmnopqrstuvwxyz",
  .str "SIGNS" "abcdefghijklmnopqrstuvwxyz0123456789",
  .int "MOST_SIGNS" 40,
  .int "MOST_RULES" 4,
  .int "MOST_CONDITIONS" 4,
  .int "MOST_SPOTS" 24,
  .int "MOST_ROADS" 160,
  .int "MOST_SHIFT" 9,
  .int "MOST_PRICE" 99,
  .glo "JourneyError",
  .keep "JourneyError",
  .glo "BadText",
  .keep "BadText",
  .glo "NoSpot",
  .keep "NoSpot",
  .glo "Reader",
  .keep "Reader",
  .cls "Reader",
  .meth "Reader" "seen",
  .meth "Reader" "wrong",
  .meth "Reader" "skip",
  .meth "Reader" "has_words",
  .meth "Reader" "has_more",
  .meth "Reader" "need_space",
  .meth "Reader" "end_line",
  .meth "Reader" "word_of",
  .meth "Reader" "number_of",
  .meth "Reader" "new_name",
  .meth "Reader" "goes_on",
  .mkr "Reader",
  .noat "Reader" "whole",
  .noat "Reader" "reached",
  .glo "Rule",
  .keep "Rule",
  .cls "Rule",
  .mkr "Rule",
  .noat "Rule" "conditions",
  .noat "Rule" "road",
  .glo "Table",
  .keep "Table",
  .cls "Table",
  .mkr "Table",
  .noat "Table" "land",
  .noat "Table" "goals",
  .noat "Table" "text",
  .noat "Table" "sections",
  .glo "Road",
  .keep "Road",
  .cls "Road",
  .meth "Road" "__eq__",
  .mkr "Road",
  .noat "Road" "name",
  .noat "Road" "start",
  .noat "Road" "end",
  .noat "Road" "shift",
  .noat "Road" "price",
  .noat "Road" "label",
  .glo "Map",
  .keep "Map",
  .cls "Map",
  .meth "Map" "__eq__",
  .meth "Map" "roads_from",
  .mkr "Map",
  .noat "Map" "text",
  .noat "Map" "by_name",
  .noat "Map" "by_start",
  .noat "Map" "spots",
  .noat "Map" "roads",
  .exm "BadText" "BadText" true]
def ex : List (PySem.W.Frag → Bool) := [jinB "JourneyError", exfB "BadText", noxB "BadText" "line", noxB "BadText" "column", exfB "NoSpot", noxB "NoSpot" "name"]
def loose0 : List PySem.Str := ["_wall", "JourneyError", "BadText", "NoSpot", "check_spot", "LETTERS", "SIGNS", "MOST_SIGNS", "Reader", "MOST_RULES", "MOST_CONDITIONS", "Rule", "read_condition", "read_rule", "line_told", "read_table", "Table", "MOST_SPOTS", "MOST_ROADS", "MOST_SHIFT", "MOST_PRICE", "Road", "line_of", "text_of", "read_shift", "read_road", "read_map", "Map", "_law_pen", "_law_draw"]
def loose1 : List PySem.Str := ["_law_pick", "_law_land_text", "_law_shift", "_law_shuffled", "_law_condition", "_law_spot_rules", "_law_table_lines", "_law_line_text", "_law_table_text", "_law_goals", "_law_rules", "_law_conditions_more", "_law_seen", "_law_word", "_law_gap", "_law_number", "_law_conditions_read", "_law_line_read", "_law_due", "_law_names_land", "_law_changed", "_law_right"]
def looseA : List PySem.Str := loose0 ++ loose1
abbrev TT (K : PySem.W.Frag) (mg : Str → Option Value) (base : Heap) : Prop := Tx ex fa fn K mg base
section
variable {K : PySem.W.Frag} {mg : Str → Option Value} {base : Heap}
theorem TT.g_check_spot (T : TT K mg base) : mg "check_spot" = some (.ref (He.ga K "check_spot")) := T.glo 0
theorem TT.g_read_condition (T : TT K mg base) : mg "read_condition" = some (.ref (He.ga K "read_condition")) := T.glo 1
theorem TT.g_read_rule (T : TT K mg base) : mg "read_rule" = some (.ref (He.ga K "read_rule")) := T.glo 2
theorem TT.g_line_told (T : TT K mg base) : mg "line_told" = some (.ref (He.ga K "line_told")) := T.glo 3
theorem TT.g_read_table (T : TT K mg base) : mg "read_table" = some (.ref (He.ga K "read_table")) := T.glo 4
theorem TT.g_line_of (T : TT K mg base) : mg "line_of" = some (.ref (He.ga K "line_of")) := T.glo 5
theorem TT.g_text_of (T : TT K mg base) : mg "text_of" = some (.ref (He.ga K "text_of")) := T.glo 6
theorem TT.g_read_shift (T : TT K mg base) : mg "read_shift" = some (.ref (He.ga K "read_shift")) := T.glo 7
theorem TT.g_read_road (T : TT K mg base) : mg "read_road" = some (.ref (He.ga K "read_road")) := T.glo 8
theorem TT.g_read_map (T : TT K mg base) : mg "read_map" = some (.ref (He.ga K "read_map")) := T.glo 9
theorem TT.g__law_pen (T : TT K mg base) : mg "_law_pen" = some (.ref (He.ga K "_law_pen")) := T.glo 10
theorem TT.g__law_draw (T : TT K mg base) : mg "_law_draw" = some (.ref (He.ga K "_law_draw")) := T.glo 11
theorem TT.g__law_pick (T : TT K mg base) : mg "_law_pick" = some (.ref (He.ga K "_law_pick")) := T.glo 12
theorem TT.g__law_land_text (T : TT K mg base) : mg "_law_land_text" = some (.ref (He.ga K "_law_land_text")) := T.glo 13
theorem TT.g__law_shift (T : TT K mg base) : mg "_law_shift" = some (.ref (He.ga K "_law_shift")) := T.glo 14
theorem TT.g__law_shuffled (T : TT K mg base) : mg "_law_shuffled" = some (.ref (He.ga K "_law_shuffled")) := T.glo 15
theorem TT.g__law_condition (T : TT K mg base) : mg "_law_condition" = some (.ref (He.ga K "_law_condition")) := T.glo 16
theorem TT.g__law_spot_rules (T : TT K mg base) : mg "_law_spot_rules" = some (.ref (He.ga K "_law_spot_rules")) := T.glo 17
theorem TT.g__law_table_lines (T : TT K mg base) : mg "_law_table_lines" = some (.ref (He.ga K "_law_table_lines")) := T.glo 18
theorem TT.g__law_line_text (T : TT K mg base) : mg "_law_line_text" = some (.ref (He.ga K "_law_line_text")) := T.glo 19
theorem TT.g__law_table_text (T : TT K mg base) : mg "_law_table_text" = some (.ref (He.ga K "_law_table_text")) := T.glo 20
theorem TT.g__law_goals (T : TT K mg base) : mg "_law_goals" = some (.ref (He.ga K "_law_goals")) := T.glo 21
theorem TT.g__law_rules (T : TT K mg base) : mg "_law_rules" = some (.ref (He.ga K "_law_rules")) := T.glo 22
theorem TT.g__law_conditions_more (T : TT K mg base) : mg "_law_conditions_more" = some (.ref (He.ga K "_law_conditions_more")) := T.glo 23
theorem TT.g__law_seen (T : TT K mg base) : mg "_law_seen" = some (.ref (He.ga K "_law_seen")) := T.glo 24
theorem TT.g__law_word (T : TT K mg base) : mg "_law_word" = some (.ref (He.ga K "_law_word")) := T.glo 25
theorem TT.g__law_gap (T : TT K mg base) : mg "_law_gap" = some (.ref (He.ga K "_law_gap")) := T.glo 26
theorem TT.g__law_number (T : TT K mg base) : mg "_law_number" = some (.ref (He.ga K "_law_number")) := T.glo 27
theorem TT.g__law_conditions_read (T : TT K mg base) : mg "_law_conditions_read" = some (.ref (He.ga K "_law_conditions_read")) := T.glo 28
theorem TT.g__law_line_read (T : TT K mg base) : mg "_law_line_read" = some (.ref (He.ga K "_law_line_read")) := T.glo 29
theorem TT.g__law_due (T : TT K mg base) : mg "_law_due" = some (.ref (He.ga K "_law_due")) := T.glo 30
theorem TT.g__law_names_land (T : TT K mg base) : mg "_law_names_land" = some (.ref (He.ga K "_law_names_land")) := T.glo 31
theorem TT.g__law_changed (T : TT K mg base) : mg "_law_changed" = some (.ref (He.ga K "_law_changed")) := T.glo 32
theorem TT.g__law_right (T : TT K mg base) : mg "_law_right" = some (.ref (He.ga K "_law_right")) := T.glo 33
theorem TT.g_law (T : TT K mg base) : mg "law" = some (.ref (He.ga K "law")) := T.glo 34
theorem TT.b_len (T : TT K mg base) : mg "len" = none := T.free 35
theorem TT.b_range (T : TT K mg base) : mg "range" = none := T.free 36
theorem TT.b_str (T : TT K mg base) : mg "str" = none := T.free 37
theorem TT.b_int (T : TT K mg base) : mg "int" = none := T.free 38
theorem TT.b_list (T : TT K mg base) : mg "list" = none := T.free 39
theorem TT.b_tuple (T : TT K mg base) : mg "tuple" = none := T.free 40
theorem TT.b_isinstance (T : TT K mg base) : mg "isinstance" = none := T.free 41
theorem TT.b_min (T : TT K mg base) : mg "min" = none := T.free 42
theorem TT.b_ValueError (T : TT K mg base) : mg "ValueError" = none := T.free 43
theorem TT.c_LETTERS (T : TT K mg base) : ∃ u, mg "LETTERS" = some u ∧ RelV (.str "abcdefghijklmnopqrstuvwxyz") u := T.str 44
theorem TT.c_SIGNS (T : TT K mg base) : ∃ u, mg "SIGNS" = some u ∧ RelV (.str "abcdefghijklmnopqrstuvwxyz0123456789") u := T.str 45
theorem TT.c_MOST_SIGNS (T : TT K mg base) : ∃ u, mg "MOST_SIGNS" = some u ∧ RelV (.int 40) u := T.int 46
theorem TT.c_MOST_RULES (T : TT K mg base) : ∃ u, mg "MOST_RULES" = some u ∧ RelV (.int 4) u := T.int 47
theorem TT.c_MOST_CONDITIONS (T : TT K mg base) : ∃ u, mg "MOST_CONDITIONS" = some u ∧ RelV (.int 4) u := T.int 48
theorem TT.c_MOST_SPOTS (T : TT K mg base) : ∃ u, mg "MOST_SPOTS" = some u ∧ RelV (.int 24) u := T.int 49
theorem TT.c_MOST_ROADS (T : TT K mg base) : ∃ u, mg "MOST_ROADS" = some u ∧ RelV (.int 160) u := T.int 50
theorem TT.c_MOST_SHIFT (T : TT K mg base) : ∃ u, mg "MOST_SHIFT" = some u ∧ RelV (.int 9) u := T.int 51
theorem TT.c_MOST_PRICE (T : TT K mg base) : ∃ u, mg "MOST_PRICE" = some u ∧ RelV (.int 99) u := T.int 52
theorem TT.g_JourneyError (T : TT K mg base) : mg "JourneyError" = some (.ref (He.ga K "JourneyError")) := T.glo 53
theorem TT.kp_JourneyError (T : TT K mg base) : PySem.W.keepIn K (.ref (He.ga K "JourneyError")) = true := T.keep 54
theorem TT.g_BadText (T : TT K mg base) : mg "BadText" = some (.ref (He.ga K "BadText")) := T.glo 55
theorem TT.kp_BadText (T : TT K mg base) : PySem.W.keepIn K (.ref (He.ga K "BadText")) = true := T.keep 56
theorem TT.g_NoSpot (T : TT K mg base) : mg "NoSpot" = some (.ref (He.ga K "NoSpot")) := T.glo 57
theorem TT.kp_NoSpot (T : TT K mg base) : PySem.W.keepIn K (.ref (He.ga K "NoSpot")) = true := T.keep 58
theorem TT.g_Reader (T : TT K mg base) : mg "Reader" = some (.ref (He.ga K "Reader")) := T.glo 59
theorem TT.kp_Reader (T : TT K mg base) : PySem.W.keepIn K (.ref (He.ga K "Reader")) = true := T.keep 60
theorem TT.k_Reader (T : TT K mg base) : Cls K (He.ga K "Reader") := T.cls 61
theorem TT.m_Reader_seen (T : TT K mg base) : Meth K (He.ga K "Reader") "seen" (He.ma K (He.ga K "Reader") "seen") := T.meth 62
theorem TT.m_Reader_wrong (T : TT K mg base) : Meth K (He.ga K "Reader") "wrong" (He.ma K (He.ga K "Reader") "wrong") := T.meth 63
theorem TT.m_Reader_skip (T : TT K mg base) : Meth K (He.ga K "Reader") "skip" (He.ma K (He.ga K "Reader") "skip") := T.meth 64
theorem TT.m_Reader_has_words (T : TT K mg base) : Meth K (He.ga K "Reader") "has_words" (He.ma K (He.ga K "Reader") "has_words") := T.meth 65
theorem TT.m_Reader_has_more (T : TT K mg base) : Meth K (He.ga K "Reader") "has_more" (He.ma K (He.ga K "Reader") "has_more") := T.meth 66
theorem TT.m_Reader_need_space (T : TT K mg base) : Meth K (He.ga K "Reader") "need_space" (He.ma K (He.ga K "Reader") "need_space") := T.meth 67
theorem TT.m_Reader_end_line (T : TT K mg base) : Meth K (He.ga K "Reader") "end_line" (He.ma K (He.ga K "Reader") "end_line") := T.meth 68
theorem TT.m_Reader_word_of (T : TT K mg base) : Meth K (He.ga K "Reader") "word_of" (He.ma K (He.ga K "Reader") "word_of") := T.meth 69
theorem TT.m_Reader_number_of (T : TT K mg base) : Meth K (He.ga K "Reader") "number_of" (He.ma K (He.ga K "Reader") "number_of") := T.meth 70
theorem TT.m_Reader_new_name (T : TT K mg base) : Meth K (He.ga K "Reader") "new_name" (He.ma K (He.ga K "Reader") "new_name") := T.meth 71
theorem TT.m_Reader_goes_on (T : TT K mg base) : Meth K (He.ga K "Reader") "goes_on" (He.ma K (He.ga K "Reader") "goes_on") := T.meth 72
theorem TT.mk_Reader (T : TT K mg base) : Mk K (He.ga K "Reader") (He.ma K (He.ga K "Reader") "__init__") := T.mkr 73
theorem TT.n_Reader_whole (T : TT K mg base) : NoAttr K (He.ga K "Reader") "whole" := T.noat 74
theorem TT.n_Reader_reached (T : TT K mg base) : NoAttr K (He.ga K "Reader") "reached" := T.noat 75
theorem TT.g_Rule (T : TT K mg base) : mg "Rule" = some (.ref (He.ga K "Rule")) := T.glo 76
theorem TT.kp_Rule (T : TT K mg base) : PySem.W.keepIn K (.ref (He.ga K "Rule")) = true := T.keep 77
theorem TT.k_Rule (T : TT K mg base) : Cls K (He.ga K "Rule") := T.cls 78
theorem TT.mk_Rule (T : TT K mg base) : Mk K (He.ga K "Rule") (He.ma K (He.ga K "Rule") "__init__") := T.mkr 79
theorem TT.n_Rule_conditions (T : TT K mg base) : NoAttr K (He.ga K "Rule") "conditions" := T.noat 80
theorem TT.n_Rule_road (T : TT K mg base) : NoAttr K (He.ga K "Rule") "road" := T.noat 81
theorem TT.g_Table (T : TT K mg base) : mg "Table" = some (.ref (He.ga K "Table")) := T.glo 82
theorem TT.kp_Table (T : TT K mg base) : PySem.W.keepIn K (.ref (He.ga K "Table")) = true := T.keep 83
theorem TT.k_Table (T : TT K mg base) : Cls K (He.ga K "Table") := T.cls 84
theorem TT.mk_Table (T : TT K mg base) : Mk K (He.ga K "Table") (He.ma K (He.ga K "Table") "__init__") := T.mkr 85
theorem TT.n_Table_land (T : TT K mg base) : NoAttr K (He.ga K "Table") "land" := T.noat 86
theorem TT.n_Table_goals (T : TT K mg base) : NoAttr K (He.ga K "Table") "goals" := T.noat 87
theorem TT.n_Table_text (T : TT K mg base) : NoAttr K (He.ga K "Table") "text" := T.noat 88
theorem TT.n_Table_sections (T : TT K mg base) : NoAttr K (He.ga K "Table") "sections" := T.noat 89
theorem TT.g_Road (T : TT K mg base) : mg "Road" = some (.ref (He.ga K "Road")) := T.glo 90
theorem TT.kp_Road (T : TT K mg base) : PySem.W.keepIn K (.ref (He.ga K "Road")) = true := T.keep 91
theorem TT.k_Road (T : TT K mg base) : Cls K (He.ga K "Road") := T.cls 92
theorem TT.m_Road___eq__ (T : TT K mg base) : Meth K (He.ga K "Road") "__eq__" (He.ma K (He.ga K "Road") "__eq__") := T.meth 93
theorem TT.mk_Road (T : TT K mg base) : Mk K (He.ga K "Road") (He.ma K (He.ga K "Road") "__init__") := T.mkr 94
theorem TT.n_Road_name (T : TT K mg base) : NoAttr K (He.ga K "Road") "name" := T.noat 95
theorem TT.n_Road_start (T : TT K mg base) : NoAttr K (He.ga K "Road") "start" := T.noat 96
theorem TT.n_Road_end (T : TT K mg base) : NoAttr K (He.ga K "Road") "end" := T.noat 97
theorem TT.n_Road_shift (T : TT K mg base) : NoAttr K (He.ga K "Road") "shift" := T.noat 98
theorem TT.n_Road_price (T : TT K mg base) : NoAttr K (He.ga K "Road") "price" := T.noat 99
theorem TT.n_Road_label (T : TT K mg base) : NoAttr K (He.ga K "Road") "label" := T.noat 100
theorem TT.g_Map (T : TT K mg base) : mg "Map" = some (.ref (He.ga K "Map")) := T.glo 101
theorem TT.kp_Map (T : TT K mg base) : PySem.W.keepIn K (.ref (He.ga K "Map")) = true := T.keep 102
theorem TT.k_Map (T : TT K mg base) : Cls K (He.ga K "Map") := T.cls 103
theorem TT.m_Map___eq__ (T : TT K mg base) : Meth K (He.ga K "Map") "__eq__" (He.ma K (He.ga K "Map") "__eq__") := T.meth 104
theorem TT.m_Map_roads_from (T : TT K mg base) : Meth K (He.ga K "Map") "roads_from" (He.ma K (He.ga K "Map") "roads_from") := T.meth 105
theorem TT.mk_Map (T : TT K mg base) : Mk K (He.ga K "Map") (He.ma K (He.ga K "Map") "__init__") := T.mkr 106
theorem TT.n_Map_text (T : TT K mg base) : NoAttr K (He.ga K "Map") "text" := T.noat 107
theorem TT.n_Map_by_name (T : TT K mg base) : NoAttr K (He.ga K "Map") "by_name" := T.noat 108
theorem TT.n_Map_by_start (T : TT K mg base) : NoAttr K (He.ga K "Map") "by_start" := T.noat 109
theorem TT.n_Map_spots (T : TT K mg base) : NoAttr K (He.ga K "Map") "spots" := T.noat 110
theorem TT.n_Map_roads (T : TT K mg base) : NoAttr K (He.ga K "Map") "roads" := T.noat 111
theorem TT.exm_BadText_BadText (T : TT K mg base) : PySem.W.exmOne K (.ref (He.ga K "BadText")) (.ref (He.ga K "BadText")) = some true := T.exm 112
theorem TT.jin_JourneyError (T : TT K mg base) : JIn K (He.ga K "JourneyError") := jin_ok (T.c.more 0)
theorem TT.exf_BadText (T : TT K mg base) : ExF K (He.ga K "BadText") := exf_ok (T.c.more 1)
theorem TT.nox_BadText_line (T : TT K mg base) : PySem.W.findIn K (.ref (He.ga K "BadText")) "line" = some none := nox_ok (T.c.more 2)
theorem TT.nox_BadText_column (T : TT K mg base) : PySem.W.findIn K (.ref (He.ga K "BadText")) "column" = some none := nox_ok (T.c.more 3)
theorem TT.exf_NoSpot (T : TT K mg base) : ExF K (He.ga K "NoSpot") := exf_ok (T.c.more 4)
theorem TT.nox_NoSpot_name (T : TT K mg base) : PySem.W.findIn K (.ref (He.ga K "NoSpot")) "name" = some none := nox_ok (T.c.more 5)
theorem TT.f_BadText___init__ (T : TT K mg base) : ∃ fd, FunD K "__init__" "BadText.__init__" (defArgs s_BadText___init__) (defBody s_BadText___init__) (defScope s_BadText___init__) (d_BadText___init__.dvs K) [] (He.ma K (He.ga K "BadText") "__init__") fd := T.c.d.def_ 0
theorem TT.f_NoSpot___init__ (T : TT K mg base) : ∃ fd, FunD K "__init__" "NoSpot.__init__" (defArgs s_NoSpot___init__) (defBody s_NoSpot___init__) (defScope s_NoSpot___init__) (d_NoSpot___init__.dvs K) [] (He.ma K (He.ga K "NoSpot") "__init__") fd := T.c.d.def_ 1
theorem TT.f_check_spot (T : TT K mg base) : ∃ fd, FunD K "check_spot" "check_spot" (defArgs s_check_spot) (defBody s_check_spot) (defScope s_check_spot) (d_check_spot.dvs K) [] (He.ga K "check_spot") fd := T.c.d.def_ 2
theorem TT.f_Reader___init__ (T : TT K mg base) : ∃ fd, FunD K "__init__" "Reader.__init__" (defArgs s_Reader___init__) (defBody s_Reader___init__) (defScope s_Reader___init__) (d_Reader___init__.dvs K) [] (He.ma K (He.ga K "Reader") "__init__") fd := T.c.d.def_ 3
theorem TT.f_Reader_seen (T : TT K mg base) : ∃ fd, FunD K "seen" "Reader.seen" (defArgs s_Reader_seen) (defBody s_Reader_seen) (defScope s_Reader_seen) (d_Reader_seen.dvs K) [] (He.ma K (He.ga K "Reader") "seen") fd := T.c.d.def_ 4
theorem TT.f_Reader_wrong (T : TT K mg base) : ∃ fd, FunD K "wrong" "Reader.wrong" (defArgs s_Reader_wrong) (defBody s_Reader_wrong) (defScope s_Reader_wrong) (d_Reader_wrong.dvs K) [] (He.ma K (He.ga K "Reader") "wrong") fd := T.c.d.def_ 5
theorem TT.f_Reader_skip (T : TT K mg base) : ∃ fd, FunD K "skip" "Reader.skip" (defArgs s_Reader_skip) (defBody s_Reader_skip) (defScope s_Reader_skip) (d_Reader_skip.dvs K) [] (He.ma K (He.ga K "Reader") "skip") fd := T.c.d.def_ 6
theorem TT.f_Reader_has_words (T : TT K mg base) : ∃ fd, FunD K "has_words" "Reader.has_words" (defArgs s_Reader_has_words) (defBody s_Reader_has_words) (defScope s_Reader_has_words) (d_Reader_has_words.dvs K) [] (He.ma K (He.ga K "Reader") "has_words") fd := T.c.d.def_ 7
theorem TT.f_Reader_has_more (T : TT K mg base) : ∃ fd, FunD K "has_more" "Reader.has_more" (defArgs s_Reader_has_more) (defBody s_Reader_has_more) (defScope s_Reader_has_more) (d_Reader_has_more.dvs K) [] (He.ma K (He.ga K "Reader") "has_more") fd := T.c.d.def_ 8
theorem TT.f_Reader_need_space (T : TT K mg base) : ∃ fd, FunD K "need_space" "Reader.need_space" (defArgs s_Reader_need_space) (defBody s_Reader_need_space) (defScope s_Reader_need_space) (d_Reader_need_space.dvs K) [] (He.ma K (He.ga K "Reader") "need_space") fd := T.c.d.def_ 9
theorem TT.f_Reader_end_line (T : TT K mg base) : ∃ fd, FunD K "end_line" "Reader.end_line" (defArgs s_Reader_end_line) (defBody s_Reader_end_line) (defScope s_Reader_end_line) (d_Reader_end_line.dvs K) [] (He.ma K (He.ga K "Reader") "end_line") fd := T.c.d.def_ 10
theorem TT.f_Reader_word_of (T : TT K mg base) : ∃ fd, FunD K "word_of" "Reader.word_of" (defArgs s_Reader_word_of) (defBody s_Reader_word_of) (defScope s_Reader_word_of) (d_Reader_word_of.dvs K) [] (He.ma K (He.ga K "Reader") "word_of") fd := T.c.d.def_ 11
theorem TT.f_Reader_number_of (T : TT K mg base) : ∃ fd, FunD K "number_of" "Reader.number_of" (defArgs s_Reader_number_of) (defBody s_Reader_number_of) (defScope s_Reader_number_of) (d_Reader_number_of.dvs K) [] (He.ma K (He.ga K "Reader") "number_of") fd := T.c.d.def_ 12
theorem TT.f_Reader_new_name (T : TT K mg base) : ∃ fd, FunD K "new_name" "Reader.new_name" (defArgs s_Reader_new_name) (defBody s_Reader_new_name) (defScope s_Reader_new_name) (d_Reader_new_name.dvs K) [] (He.ma K (He.ga K "Reader") "new_name") fd := T.c.d.def_ 13
theorem TT.f_Reader_goes_on (T : TT K mg base) : ∃ fd, FunD K "goes_on" "Reader.goes_on" (defArgs s_Reader_goes_on) (defBody s_Reader_goes_on) (defScope s_Reader_goes_on) (d_Reader_goes_on.dvs K) [] (He.ma K (He.ga K "Reader") "goes_on") fd := T.c.d.def_ 14
theorem TT.f_Rule___init__ (T : TT K mg base) : ∃ fd, FunD K "__init__" "Rule.__init__" (defArgs s_Rule___init__) (defBody s_Rule___init__) (defScope s_Rule___init__) (d_Rule___init__.dvs K) [] (He.ma K (He.ga K "Rule") "__init__") fd := T.c.d.def_ 15
theorem TT.f_read_condition (T : TT K mg base) : ∃ fd, FunD K "read_condition" "read_condition" (defArgs s_read_condition) (defBody s_read_condition) (defScope s_read_condition) (d_read_condition.dvs K) [] (He.ga K "read_condition") fd := T.c.d.def_ 16
theorem TT.f_read_rule (T : TT K mg base) : ∃ fd, FunD K "read_rule" "read_rule" (defArgs s_read_rule) (defBody s_read_rule) (defScope s_read_rule) (d_read_rule.dvs K) [] (He.ga K "read_rule") fd := T.c.d.def_ 17
theorem TT.f_line_told (T : TT K mg base) : ∃ fd, FunD K "line_told" "line_told" (defArgs s_line_told) (defBody s_line_told) (defScope s_line_told) (d_line_told.dvs K) [] (He.ga K "line_told") fd := T.c.d.def_ 18
theorem TT.f_read_table (T : TT K mg base) : ∃ fd, FunD K "read_table" "read_table" (defArgs s_read_table) (defBody s_read_table) (defScope s_read_table) (d_read_table.dvs K) [] (He.ga K "read_table") fd := T.c.d.def_ 19
theorem TT.f_Table___init__ (T : TT K mg base) : ∃ fd, FunD K "__init__" "Table.__init__" (defArgs s_Table___init__) (defBody s_Table___init__) (defScope s_Table___init__) (d_Table___init__.dvs K) [] (He.ma K (He.ga K "Table") "__init__") fd := T.c.d.def_ 20
theorem TT.f_Road___init__ (T : TT K mg base) : ∃ fd, FunD K "__init__" "Road.__init__" (defArgs s_Road___init__) (defBody s_Road___init__) (defScope s_Road___init__) (d_Road___init__.dvs K) [] (He.ma K (He.ga K "Road") "__init__") fd := T.c.d.def_ 21
theorem TT.f_Road___eq__ (T : TT K mg base) : ∃ fd, FunD K "__eq__" "Road.__eq__" (defArgs s_Road___eq__) (defBody s_Road___eq__) (defScope s_Road___eq__) (d_Road___eq__.dvs K) [] (He.ma K (He.ga K "Road") "__eq__") fd := T.c.d.def_ 22
theorem TT.f_line_of (T : TT K mg base) : ∃ fd, FunD K "line_of" "line_of" (defArgs s_line_of) (defBody s_line_of) (defScope s_line_of) (d_line_of.dvs K) [] (He.ga K "line_of") fd := T.c.d.def_ 23
theorem TT.f_text_of (T : TT K mg base) : ∃ fd, FunD K "text_of" "text_of" (defArgs s_text_of) (defBody s_text_of) (defScope s_text_of) (d_text_of.dvs K) [] (He.ga K "text_of") fd := T.c.d.def_ 24
theorem TT.f_read_shift (T : TT K mg base) : ∃ fd, FunD K "read_shift" "read_shift" (defArgs s_read_shift) (defBody s_read_shift) (defScope s_read_shift) (d_read_shift.dvs K) [] (He.ga K "read_shift") fd := T.c.d.def_ 25
theorem TT.f_read_road (T : TT K mg base) : ∃ fd, FunD K "read_road" "read_road" (defArgs s_read_road) (defBody s_read_road) (defScope s_read_road) (d_read_road.dvs K) [] (He.ga K "read_road") fd := T.c.d.def_ 26
theorem TT.f_read_map (T : TT K mg base) : ∃ fd, FunD K "read_map" "read_map" (defArgs s_read_map) (defBody s_read_map) (defScope s_read_map) (d_read_map.dvs K) [] (He.ga K "read_map") fd := T.c.d.def_ 27
theorem TT.f_Map___init__ (T : TT K mg base) : ∃ fd, FunD K "__init__" "Map.__init__" (defArgs s_Map___init__) (defBody s_Map___init__) (defScope s_Map___init__) (d_Map___init__.dvs K) [] (He.ma K (He.ga K "Map") "__init__") fd := T.c.d.def_ 28
theorem TT.f_Map___eq__ (T : TT K mg base) : ∃ fd, FunD K "__eq__" "Map.__eq__" (defArgs s_Map___eq__) (defBody s_Map___eq__) (defScope s_Map___eq__) (d_Map___eq__.dvs K) [] (He.ma K (He.ga K "Map") "__eq__") fd := T.c.d.def_ 29
theorem TT.f_Map_roads_from (T : TT K mg base) : ∃ fd, FunD K "roads_from" "Map.roads_from" (defArgs s_Map_roads_from) (defBody s_Map_roads_from) (defScope s_Map_roads_from) (d_Map_roads_from.dvs K) [] (He.ma K (He.ga K "Map") "roads_from") fd := T.c.d.def_ 30
theorem TT.f__law_pen (T : TT K mg base) : ∃ fd, FunD K "_law_pen" "_law_pen" (defArgs s__law_pen) (defBody s__law_pen) (defScope s__law_pen) (d__law_pen.dvs K) [] (He.ga K "_law_pen") fd := T.c.d.def_ 31
theorem TT.f__law_draw (T : TT K mg base) : ∃ fd, FunD K "_law_draw" "_law_draw" (defArgs s__law_draw) (defBody s__law_draw) (defScope s__law_draw) (d__law_draw.dvs K) [] (He.ga K "_law_draw") fd := T.c.d.def_ 32
theorem TT.f__law_pick (T : TT K mg base) : ∃ fd, FunD K "_law_pick" "_law_pick" (defArgs s__law_pick) (defBody s__law_pick) (defScope s__law_pick) (d__law_pick.dvs K) [] (He.ga K "_law_pick") fd := T.c.d.def_ 33
theorem TT.f__law_land_text (T : TT K mg base) : ∃ fd, FunD K "_law_land_text" "_law_land_text" (defArgs s__law_land_text) (defBody s__law_land_text) (defScope s__law_land_text) (d__law_land_text.dvs K) [] (He.ga K "_law_land_text") fd := T.c.d.def_ 34
theorem TT.f__law_shift (T : TT K mg base) : ∃ fd, FunD K "_law_shift" "_law_shift" (defArgs s__law_shift) (defBody s__law_shift) (defScope s__law_shift) (d__law_shift.dvs K) [] (He.ga K "_law_shift") fd := T.c.d.def_ 35
theorem TT.f__law_shuffled (T : TT K mg base) : ∃ fd, FunD K "_law_shuffled" "_law_shuffled" (defArgs s__law_shuffled) (defBody s__law_shuffled) (defScope s__law_shuffled) (d__law_shuffled.dvs K) [] (He.ga K "_law_shuffled") fd := T.c.d.def_ 36
theorem TT.f__law_condition (T : TT K mg base) : ∃ fd, FunD K "_law_condition" "_law_condition" (defArgs s__law_condition) (defBody s__law_condition) (defScope s__law_condition) (d__law_condition.dvs K) [] (He.ga K "_law_condition") fd := T.c.d.def_ 37
theorem TT.f__law_spot_rules (T : TT K mg base) : ∃ fd, FunD K "_law_spot_rules" "_law_spot_rules" (defArgs s__law_spot_rules) (defBody s__law_spot_rules) (defScope s__law_spot_rules) (d__law_spot_rules.dvs K) [] (He.ga K "_law_spot_rules") fd := T.c.d.def_ 38
theorem TT.f__law_table_lines (T : TT K mg base) : ∃ fd, FunD K "_law_table_lines" "_law_table_lines" (defArgs s__law_table_lines) (defBody s__law_table_lines) (defScope s__law_table_lines) (d__law_table_lines.dvs K) [] (He.ga K "_law_table_lines") fd := T.c.d.def_ 39
theorem TT.f__law_line_text (T : TT K mg base) : ∃ fd, FunD K "_law_line_text" "_law_line_text" (defArgs s__law_line_text) (defBody s__law_line_text) (defScope s__law_line_text) (d__law_line_text.dvs K) [] (He.ga K "_law_line_text") fd := T.c.d.def_ 40
theorem TT.f__law_table_text (T : TT K mg base) : ∃ fd, FunD K "_law_table_text" "_law_table_text" (defArgs s__law_table_text) (defBody s__law_table_text) (defScope s__law_table_text) (d__law_table_text.dvs K) [] (He.ga K "_law_table_text") fd := T.c.d.def_ 41
theorem TT.f__law_goals (T : TT K mg base) : ∃ fd, FunD K "_law_goals" "_law_goals" (defArgs s__law_goals) (defBody s__law_goals) (defScope s__law_goals) (d__law_goals.dvs K) [] (He.ga K "_law_goals") fd := T.c.d.def_ 42
theorem TT.f__law_rules (T : TT K mg base) : ∃ fd, FunD K "_law_rules" "_law_rules" (defArgs s__law_rules) (defBody s__law_rules) (defScope s__law_rules) (d__law_rules.dvs K) [] (He.ga K "_law_rules") fd := T.c.d.def_ 43
theorem TT.f__law_conditions_more (T : TT K mg base) : ∃ fd, FunD K "_law_conditions_more" "_law_conditions_more" (defArgs s__law_conditions_more) (defBody s__law_conditions_more) (defScope s__law_conditions_more) (d__law_conditions_more.dvs K) [] (He.ga K "_law_conditions_more") fd := T.c.d.def_ 44
theorem TT.f__law_seen (T : TT K mg base) : ∃ fd, FunD K "_law_seen" "_law_seen" (defArgs s__law_seen) (defBody s__law_seen) (defScope s__law_seen) (d__law_seen.dvs K) [] (He.ga K "_law_seen") fd := T.c.d.def_ 45
theorem TT.f__law_word (T : TT K mg base) : ∃ fd, FunD K "_law_word" "_law_word" (defArgs s__law_word) (defBody s__law_word) (defScope s__law_word) (d__law_word.dvs K) [] (He.ga K "_law_word") fd := T.c.d.def_ 46
theorem TT.f__law_gap (T : TT K mg base) : ∃ fd, FunD K "_law_gap" "_law_gap" (defArgs s__law_gap) (defBody s__law_gap) (defScope s__law_gap) (d__law_gap.dvs K) [] (He.ga K "_law_gap") fd := T.c.d.def_ 47
theorem TT.f__law_number (T : TT K mg base) : ∃ fd, FunD K "_law_number" "_law_number" (defArgs s__law_number) (defBody s__law_number) (defScope s__law_number) (d__law_number.dvs K) [] (He.ga K "_law_number") fd := T.c.d.def_ 48
theorem TT.f__law_conditions_read (T : TT K mg base) : ∃ fd, FunD K "_law_conditions_read" "_law_conditions_read" (defArgs s__law_conditions_read) (defBody s__law_conditions_read) (defScope s__law_conditions_read) (d__law_conditions_read.dvs K) [] (He.ga K "_law_conditions_read") fd := T.c.d.def_ 49
theorem TT.f__law_line_read (T : TT K mg base) : ∃ fd, FunD K "_law_line_read" "_law_line_read" (defArgs s__law_line_read) (defBody s__law_line_read) (defScope s__law_line_read) (d__law_line_read.dvs K) [] (He.ga K "_law_line_read") fd := T.c.d.def_ 50
theorem TT.f__law_due (T : TT K mg base) : ∃ fd, FunD K "_law_due" "_law_due" (defArgs s__law_due) (defBody s__law_due) (defScope s__law_due) (d__law_due.dvs K) [] (He.ga K "_law_due") fd := T.c.d.def_ 51
theorem TT.f__law_names_land (T : TT K mg base) : ∃ fd, FunD K "_law_names_land" "_law_names_land" (defArgs s__law_names_land) (defBody s__law_names_land) (defScope s__law_names_land) (d__law_names_land.dvs K) [] (He.ga K "_law_names_land") fd := T.c.d.def_ 52
theorem TT.f__law_changed (T : TT K mg base) : ∃ fd, FunD K "_law_changed" "_law_changed" (defArgs s__law_changed) (defBody s__law_changed) (defScope s__law_changed) (d__law_changed.dvs K) [] (He.ga K "_law_changed") fd := T.c.d.def_ 53
theorem TT.f__law_right (T : TT K mg base) : ∃ fd, FunD K "_law_right" "_law_right" (defArgs s__law_right) (defBody s__law_right) (defScope s__law_right) (d__law_right.dvs K) [] (He.ga K "_law_right") fd := T.c.d.def_ 54
theorem TT.f_law (T : TT K mg base) : ∃ fd, FunD K "law" "law" (defArgs s_law) (defBody s_law) (defScope s_law) (d_law.dvs K) [] (He.ga K "law") fd := T.c.d.def_ 55
end
abbrev nm_BadText___init__ : List Str := ["self", "line", "column"]
theorem sc_BadText___init__ : FnScope nm_BadText___init__ ["self", "line", "column"] (defScope s_BadText___init__) := ⟨rfl, rfl, rfl, by decide +kernel, rfl, by decide +kernel, by decide +kernel⟩
abbrev nm_NoSpot___init__ : List Str := ["self", "name"]
theorem sc_NoSpot___init__ : FnScope nm_NoSpot___init__ ["self", "name"] (defScope s_NoSpot___init__) := ⟨rfl, rfl, rfl, by decide +kernel, rfl, by decide +kernel, by decide +kernel⟩
abbrev nm_check_spot : List Str := ["land", "name"]
theorem sc_check_spot : FnScope nm_check_spot ["land", "name"] (defScope s_check_spot) := ⟨rfl, rfl, rfl, by decide +kernel, rfl, by decide +kernel, by decide +kernel⟩
abbrev nm_Reader___init__ : List Str := ["self", "text"]
theorem sc_Reader___init__ : FnScope nm_Reader___init__ ["self", "text"] (defScope s_Reader___init__) := ⟨rfl, rfl, rfl, by decide +kernel, rfl, by decide +kernel, by decide +kernel⟩
abbrev nm_Reader_seen : List Str := ["self"]
theorem sc_Reader_seen : FnScope nm_Reader_seen ["self"] (defScope s_Reader_seen) := ⟨rfl, rfl, rfl, by decide +kernel, rfl, by decide +kernel, by decide +kernel⟩
abbrev nm_Reader_wrong : List Str := ["self", "ahead"]
theorem sc_Reader_wrong : FnScope nm_Reader_wrong ["self"] (defScope s_Reader_wrong) := ⟨rfl, rfl, rfl, by decide +kernel, rfl, by decide +kernel, by decide +kernel⟩
abbrev nm_Reader_skip : List Str := ["self"]
theorem sc_Reader_skip : FnScope nm_Reader_skip ["self"] (defScope s_Reader_skip) := ⟨rfl, rfl, rfl, by decide +kernel, rfl, by decide +kernel, by decide +kernel⟩
abbrev nm_Reader_has_words : List Str := ["self"]
theorem sc_Reader_has_words : FnScope nm_Reader_has_words ["self"] (defScope s_Reader_has_words) := ⟨rfl, rfl, rfl, by decide +kernel, rfl, by decide +kernel, by decide +kernel⟩
abbrev nm_Reader_has_more : List Str := ["self", "rest"]
theorem sc_Reader_has_more : FnScope nm_Reader_has_more ["self"] (defScope s_Reader_has_more) := ⟨rfl, rfl, rfl, by decide +kernel, rfl, by decide +kernel, by decide +kernel⟩
abbrev nm_Reader_need_space : List Str := ["self"]
theorem sc_Reader_need_space : FnScope nm_Reader_need_space ["self"] (defScope s_Reader_need_space) := ⟨rfl, rfl, rfl, by decide +kernel, rfl, by decide +kernel, by decide +kernel⟩
abbrev nm_Reader_end_line : List Str := ["self"]
theorem sc_Reader_end_line : FnScope nm_Reader_end_line ["self"] (defScope s_Reader_end_line) := ⟨rfl, rfl, rfl, by decide +kernel, rfl, by decide +kernel, by decide +kernel⟩
abbrev nm_Reader_word_of : List Str := ["self", "words", "told", "left", "more", "fitting", "word"]
theorem sc_Reader_word_of : FnScope nm_Reader_word_of ["self", "words"] (defScope s_Reader_word_of) := ⟨rfl, rfl, rfl, by decide +kernel, rfl, by decide +kernel, by decide +kernel⟩
abbrev nm_Reader_number_of : List Str := ["self", "low", "high", "number"]
theorem sc_Reader_number_of : FnScope nm_Reader_number_of ["self", "low", "high"] (defScope s_Reader_number_of) := ⟨rfl, rfl, rfl, by decide +kernel, rfl, by decide +kernel, by decide +kernel⟩
abbrev nm_Reader_new_name : List Str := ["self", "taken", "dots", "told"]
theorem sc_Reader_new_name : FnScope nm_Reader_new_name ["self", "taken", "dots"] (defScope s_Reader_new_name) := ⟨rfl, rfl, rfl, by decide +kernel, rfl, by decide +kernel, by decide +kernel⟩
abbrev nm_Reader_goes_on : List Str := ["self", "told", "dots", "sign"]
theorem sc_Reader_goes_on : FnScope nm_Reader_goes_on ["self", "told", "dots"] (defScope s_Reader_goes_on) := ⟨rfl, rfl, rfl, by decide +kernel, rfl, by decide +kernel, by decide +kernel⟩
abbrev nm_Rule___init__ : List Str := ["self", "conditions", "road"]
theorem sc_Rule___init__ : FnScope nm_Rule___init__ ["self", "conditions", "road"] (defScope s_Rule___init__) := ⟨rfl, rfl, rfl, by decide +kernel, rfl, by decide +kernel, by decide +kernel⟩
abbrev nm_read_condition : List Str := ["reader", "word", "numbers", "low", "high"]
theorem sc_read_condition : FnScope nm_read_condition ["reader", "word"] (defScope s_read_condition) := ⟨rfl, rfl, rfl, by decide +kernel, rfl, by decide +kernel, by decide +kernel⟩
abbrev nm_read_rule : List Str := ["reader", "land", "spot", "conditions", "word", "words", "road"]
theorem sc_read_rule : FnScope nm_read_rule ["reader", "land", "spot"] (defScope s_read_rule) := ⟨rfl, rfl, rfl, by decide +kernel, rfl, by decide +kernel, by decide +kernel⟩
abbrev nm_line_told : List Str := ["spot", "rule", "words", "row", "item"]
theorem sc_line_told : FnScope nm_line_told ["spot", "rule"] (defScope s_line_told) := ⟨rfl, rfl, rfl, by decide +kernel, rfl, by decide +kernel, by decide +kernel⟩
abbrev nm_read_table : List Str := ["land", "text", "reader", "sections", "lines", "goal", "rules", "fresh", "spot", "free", "word", "rule"]
theorem sc_read_table : FnScope nm_read_table ["land", "text"] (defScope s_read_table) := ⟨rfl, rfl, rfl, by decide +kernel, rfl, by decide +kernel, by decide +kernel⟩
abbrev nm_Table___init__ : List Str := ["self", "land", "text", "lines", "line"]
theorem sc_Table___init__ : FnScope nm_Table___init__ ["self", "land", "text"] (defScope s_Table___init__) := ⟨rfl, rfl, rfl, by decide +kernel, rfl, by decide +kernel, by decide +kernel⟩
abbrev nm_Road___init__ : List Str := ["self", "name", "start", "end", "shift", "price", "label"]
theorem sc_Road___init__ : FnScope nm_Road___init__ ["self", "name", "start", "end", "shift", "price", "label"] (defScope s_Road___init__) := ⟨rfl, rfl, rfl, by decide +kernel, rfl, by decide +kernel, by decide +kernel⟩
abbrev nm_Road___eq__ : List Str := ["self", "other"]
theorem sc_Road___eq__ : FnScope nm_Road___eq__ ["self", "other"] (defScope s_Road___eq__) := ⟨rfl, rfl, rfl, by decide +kernel, rfl, by decide +kernel, by decide +kernel⟩
abbrev nm_line_of : List Str := ["road", "words"]
theorem sc_line_of : FnScope nm_line_of ["road"] (defScope s_line_of) := ⟨rfl, rfl, rfl, by decide +kernel, rfl, by decide +kernel, by decide +kernel⟩
abbrev nm_text_of : List Str := ["spots", "roads", "lines", "name", "road", "line"]
theorem sc_text_of : FnScope nm_text_of ["spots", "roads"] (defScope s_text_of) := ⟨rfl, rfl, rfl, by decide +kernel, rfl, by decide +kernel, by decide +kernel⟩
abbrev nm_read_shift : List Str := ["reader", "first"]
theorem sc_read_shift : FnScope nm_read_shift ["reader"] (defScope s_read_shift) := ⟨rfl, rfl, rfl, by decide +kernel, rfl, by decide +kernel, by decide +kernel⟩
abbrev nm_read_road : List Str := ["reader", "spots", "taken", "dots", "name", "start", "end", "shift", "price", "label"]
theorem sc_read_road : FnScope nm_read_road ["reader", "spots", "taken", "dots"] (defScope s_read_road) := ⟨rfl, rfl, rfl, by decide +kernel, rfl, by decide +kernel, by decide +kernel⟩
abbrev nm_read_map : List Str := ["text", "reader", "spots", "roads", "words", "word", "road"]
theorem sc_read_map : FnScope nm_read_map ["text"] (defScope s_read_map) := ⟨rfl, rfl, rfl, by decide +kernel, rfl, by decide +kernel, by decide +kernel⟩
abbrev nm_Map___init__ : List Str := ["self", "text", "made", "spots", "roads", "road", "spot"]
theorem sc_Map___init__ : FnScope nm_Map___init__ ["self", "text", "made"] (defScope s_Map___init__) := ⟨rfl, rfl, rfl, by decide +kernel, rfl, by decide +kernel, by decide +kernel⟩
abbrev nm_Map___eq__ : List Str := ["self", "other"]
theorem sc_Map___eq__ : FnScope nm_Map___eq__ ["self", "other"] (defScope s_Map___eq__) := ⟨rfl, rfl, rfl, by decide +kernel, rfl, by decide +kernel, by decide +kernel⟩
abbrev nm_Map_roads_from : List Str := ["self", "spot"]
theorem sc_Map_roads_from : FnScope nm_Map_roads_from ["self", "spot"] (defScope s_Map_roads_from) := ⟨rfl, rfl, rfl, by decide +kernel, rfl, by decide +kernel, by decide +kernel⟩
abbrev nm__law_pen : List Str := ["_law_script", "_law_fold", "_law_cell"]
theorem sc__law_pen : FnScope nm__law_pen ["_law_script"] (defScope s__law_pen) := ⟨rfl, rfl, rfl, by decide +kernel, rfl, by decide +kernel, by decide +kernel⟩
abbrev nm__law_draw : List Str := ["_law_pen_here", "_law_many", "_law_cell", "_law_digit", "_law_mixed"]
theorem sc__law_draw : FnScope nm__law_draw ["_law_pen_here", "_law_many"] (defScope s__law_draw) := ⟨rfl, rfl, rfl, by decide +kernel, rfl, by decide +kernel, by decide +kernel⟩
abbrev nm__law_pick : List Str := ["_law_pen_here", "_law_some"]
theorem sc__law_pick : FnScope nm__law_pick ["_law_pen_here", "_law_some"] (defScope s__law_pick) := ⟨rfl, rfl, rfl, by decide +kernel, rfl, by decide +kernel, by decide +kernel⟩
abbrev nm__law_land_text : List Str := ["_law_land", "_law_rows", "_law_name", "_law_start", "_law_end", "_law_shift_here", "_law_price", "_law_label", "_law_words"]
theorem sc__law_land_text : FnScope nm__law_land_text ["_law_land"] (defScope s__law_land_text) := ⟨rfl, rfl, rfl, by decide +kernel, rfl, by decide +kernel, by decide +kernel⟩
abbrev nm__law_shift : List Str := ["_law_pen_here", "_law_wide", "_law_one"]
theorem sc__law_shift : FnScope nm__law_shift ["_law_pen_here", "_law_wide"] (defScope s__law_shift) := ⟨rfl, rfl, rfl, by decide +kernel, rfl, by decide +kernel, by decide +kernel⟩
abbrev nm__law_shuffled : List Str := ["_law_pen_here", "_law_some", "_law_left", "_law_out", "_law_k"]
theorem sc__law_shuffled : FnScope nm__law_shuffled ["_law_pen_here", "_law_some"] (defScope s__law_shuffled) := ⟨rfl, rfl, rfl, by decide +kernel, rfl, by decide +kernel, by decide +kernel⟩
abbrev nm__law_condition : List Str := ["_law_pen_here", "_law_a", "_law_b", "_law_c"]
theorem sc__law_condition : FnScope nm__law_condition ["_law_pen_here"] (defScope s__law_condition) := ⟨rfl, rfl, rfl, by decide +kernel, rfl, by decide +kernel, by decide +kernel⟩
abbrev nm__law_spot_rules : List Str := ["_law_pen_here", "_law_land", "_law_spot", "_law_whole", "_law_roads", "_law_row", "_law_rules_here", "_law_k", "_law_more", "_law_j"]
theorem sc__law_spot_rules : FnScope nm__law_spot_rules ["_law_pen_here", "_law_land", "_law_spot", "_law_whole"] (defScope s__law_spot_rules) := ⟨rfl, rfl, rfl, by decide +kernel, rfl, by decide +kernel, by decide +kernel⟩
abbrev nm__law_table_lines : List Str := ["_law_pen_here", "_law_land", "_law_lines", "_law_goal", "_law_left", "_law_spot", "_law_rules_here", "_law_lap", "_law_row"]
theorem sc__law_table_lines : FnScope nm__law_table_lines ["_law_pen_here", "_law_land"] (defScope s__law_table_lines) := ⟨rfl, rfl, rfl, by decide +kernel, rfl, by decide +kernel, by decide +kernel⟩
abbrev nm__law_line_text : List Str := ["_law_line", "_law_words", "_law_row", "_law_item"]
theorem sc__law_line_text : FnScope nm__law_line_text ["_law_line"] (defScope s__law_line_text) := ⟨rfl, rfl, rfl, by decide +kernel, rfl, by decide +kernel, by decide +kernel⟩
abbrev nm__law_table_text : List Str := ["_law_lines", "_law_line"]
theorem sc__law_table_text : FnScope nm__law_table_text ["_law_lines"] (defScope s__law_table_text) := ⟨rfl, rfl, rfl, by decide +kernel, rfl, by decide +kernel, by decide +kernel⟩
abbrev nm__law_goals : List Str := ["_law_lines", "_law_line"]
theorem sc__law_goals : FnScope nm__law_goals ["_law_lines"] (defScope s__law_goals) := ⟨rfl, rfl, rfl, by decide +kernel, rfl, by decide +kernel, by decide +kernel⟩
abbrev nm__law_rules : List Str := ["_law_lines", "_law_goal", "_law_spot", "_law_found", "_law_section", "_law_line"]
theorem sc__law_rules : FnScope nm__law_rules ["_law_lines", "_law_goal", "_law_spot"] (defScope s__law_rules) := ⟨rfl, rfl, rfl, by decide +kernel, rfl, by decide +kernel, by decide +kernel⟩
abbrev nm__law_conditions_more : List Str := ["_law_pen_here", "_law_lines", "_law_found", "_law_line", "_law_many", "_law_k"]
theorem sc__law_conditions_more : FnScope nm__law_conditions_more ["_law_pen_here", "_law_lines"] (defScope s__law_conditions_more) := ⟨rfl, rfl, rfl, by decide +kernel, rfl, by decide +kernel, by decide +kernel⟩
abbrev nm__law_seen : List Str := ["_law_cur"]
theorem sc__law_seen : FnScope nm__law_seen ["_law_cur"] (defScope s__law_seen) := ⟨rfl, rfl, rfl, by decide +kernel, rfl, by decide +kernel, by decide +kernel⟩
abbrev nm__law_word : List Str := ["_law_cur", "_law_words", "_law_told", "_law_lap", "_law_more", "_law_word_here"]
theorem sc__law_word : FnScope nm__law_word ["_law_cur", "_law_words"] (defScope s__law_word) := ⟨rfl, rfl, rfl, by decide +kernel, rfl, by decide +kernel, by decide +kernel⟩
abbrev nm__law_gap : List Str := ["_law_cur", "_law_lap"]
theorem sc__law_gap : FnScope nm__law_gap ["_law_cur"] (defScope s__law_gap) := ⟨rfl, rfl, rfl, by decide +kernel, rfl, by decide +kernel, by decide +kernel⟩
abbrev nm__law_number : List Str := ["_law_cur", "_law_low", "_law_high", "_law_told", "_law_number_here"]
theorem sc__law_number : FnScope nm__law_number ["_law_cur", "_law_low", "_law_high"] (defScope s__law_number) := ⟨rfl, rfl, rfl, by decide +kernel, rfl, by decide +kernel, by decide +kernel⟩
abbrev nm__law_conditions_read : List Str := ["_law_cur", "_law_found", "_law_lap", "_law_word_here", "_law_row"]
theorem sc__law_conditions_read : FnScope nm__law_conditions_read ["_law_cur"] (defScope s__law_conditions_read) := ⟨rfl, rfl, rfl, by decide +kernel, rfl, by decide +kernel, by decide +kernel⟩
abbrev nm__law_line_read : List Str := ["_law_cur", "_law_land", "_law_lines", "_law_goals_here", "_law_fresh", "_law_spot", "_law_starts", "_law_road", "_law_free", "_law_word_here", "_law_conditions", "_law_row"]
theorem sc__law_line_read : FnScope nm__law_line_read ["_law_cur", "_law_land", "_law_lines"] (defScope s__law_line_read) := ⟨rfl, rfl, rfl, by decide +kernel, rfl, by decide +kernel, by decide +kernel⟩
abbrev nm__law_due : List Str := ["_law_land", "_law_text", "_law_cur", "_law_lines", "_law_lap", "_law_step", "_law_ahead"]
theorem sc__law_due : FnScope nm__law_due ["_law_land", "_law_text"] (defScope s__law_due) := ⟨rfl, rfl, rfl, by decide +kernel, rfl, by decide +kernel, by decide +kernel⟩
abbrev nm__law_names_land : List Str := ["_law_pen_here", "_law_spots", "_law_names", "_law_rows", "_law_k", "_law_start"]
theorem sc__law_names_land : FnScope nm__law_names_land ["_law_pen_here"] (defScope s__law_names_land) := ⟨rfl, rfl, rfl, by decide +kernel, rfl, by decide +kernel, by decide +kernel⟩
abbrev nm__law_changed : List Str := ["_law_pen_here", "_law_text", "_law_land", "_law_way", "_law_at", "_law_begun", "_law_rows", "_law_one", "_law_two", "_law_words", "_law_piece", "_law_road"]
theorem sc__law_changed : FnScope nm__law_changed ["_law_pen_here", "_law_text", "_law_land"] (defScope s__law_changed) := ⟨rfl, rfl, rfl, by decide +kernel, rfl, by decide +kernel, by decide +kernel⟩
abbrev nm__law_right : List Str := ["_law_here", "_law_land", "_law_text", "_law_due_here", "_law_found", "e"]
theorem sc__law_right : FnScope nm__law_right ["_law_here", "_law_land", "_law_text"] (defScope s__law_right) := ⟨rfl, rfl, rfl, by decide +kernel, rfl, by decide +kernel, by decide +kernel⟩
abbrev nm_law : List Str := ["_law_script", "_law_pen_here", "_law_land", "_law_here", "_law_written", "_law_lap", "_law_text", "_law_k"]
theorem sc_law : FnScope nm_law ["_law_script"] (defScope s_law) := ⟨rfl, rfl, rfl, by decide +kernel, rfl, by decide +kernel, by decide +kernel⟩
end Lx
set_option Elab.async false
set_option linter.all false
set_option maxRecDepth 100000
set_option maxHeartbeats 0
namespace Lx
open PySem PySem.Spec PyProof.Rows L2
abbrev RR : PySem.W.OpenRow := PySem.W.OpenLaw.row PySem.Challenge.rw_alljourneys_k81_whole_first_wrong_places
abbrev hk : PySem.W.Hook := hookX 5 ex fa fn
def ob (s : PySem.W.SharedT) : AlX := obsXG 5 ex fa fn (HandSHeadRun.getT s)
theorem ob_eq (s : PySem.W.SharedT) : ob s = hk.obs s.abs := obsXG_eq (HandSHeadRun.getT_eq s)
theorem run (w : World) : HandSHeadRun.RunEq RR (PySem.W.view RR.prog [58]) hk ob 4000 looseA w := by
  intro os
  kernel_rfl
end Lx
set_option Elab.async false
set_option linter.all false
set_option maxRecDepth 100000
set_option maxHeartbeats 4000000
/-! The reading of a text, in plain Lean: what the Reader and the law's own reader both compute. -/
namespace Pz
open PySem
abbrev Cs := List Nat
def cs (z : Str) : Cs := z.cps.toList
def sS (l : Cs) : Str := ⟨l.toArray⟩
theorem cs_sS (l : Cs) : cs (sS l) = l := by simp [cs, sS]
theorem sS_cs (z : Str) : sS (cs z) = z := by cases z; simp [cs, sS]
theorem cs_inj {a b : Str} (h : cs a = cs b) : a = b := by rw [← sS_cs a, ← sS_cs b, h]
theorem sS_inj {a b : Cs} (h : sS a = sS b) : a = b := by rw [← cs_sS a, ← cs_sS b, h]
theorem cs_len (z : Str) : (cs z).length = z.length := Array.length_toList
/-- the sign at i, as a text -/
def sg (z : Str) (i : Nat) : Str := sS ((cs z)[i]?).toList
theorem sg_some {z : Str} {i c : Nat} (h : (cs z)[i]? = some c) : sg z i = sS [c] := by unfold sg; rw [h]; rfl
theorem sg_none {z : Str} {i : Nat} (h : (cs z)[i]? = none) : sg z i = sS [] := by unfold sg; rw [h]; rfl
theorem cut_sg (z : Str) (i : Nat) : L2.cutS z (some (i : Int)) (some ((i : Int) + 1)) = sg z i := by
  unfold L2.cutS sg sS cs
  have hl : z.cps.toList.length = z.length := Array.length_toList
  have e1 : HT.sIx z.length 0 (some (i : Int)) = min i z.length := HT.sIx_nat _ _ _
  have e2 : HT.sIx z.length z.length (some ((i : Int) + 1)) = min (i + 1) z.length := HT.sIx_nat _ _ (i + 1)
  rw [e1, e2]
  congr 1
  by_cases h : i < z.length
  · have a1 : min i z.length = i := by omega
    have a2 : min (i + 1) z.length - i = 1 := by omega
    have h' : i < z.cps.toList.length := by omega
    rw [a1, a2, List.getElem?_eq_getElem h', List.drop_eq_getElem_cons h']
    rfl
  · have a1 : min i z.length = z.length := by omega
    have a2 : min (i + 1) z.length - z.length = 0 := by omega
    rw [a1, a2, List.getElem?_eq_none (by omega)]
    rfl
theorem sg_lt {z : Str} {i c : Nat} (h : (cs z)[i]? = some c) : i < z.length := by
  rw [← cs_len]; exact (List.getElem?_eq_some_iff.mp h).1
theorem sg_ge {z : Str} {i : Nat} (h : (cs z)[i]? = none) : z.length ≤ i := by
  rw [← cs_len]; exact List.getElem?_eq_none_iff.mp h
theorem sg_is {z : Str} {i : Nat} {c : Nat} {t : Str} (ht : t = sS [c]) : decide (L2.V.str (sg z i) = L2.V.str t) = decide ((cs z)[i]? = some c) := by
  subst ht
  cases h : (cs z)[i]? with
  | none =>
    rw [sg_none h]
    have n : ¬ L2.V.str (sS []) = L2.V.str (sS [c]) := fun q => by
      have := sS_inj (L2.V.str.inj q)
      cases this
    rw [decide_eq_false n]
    rfl
  | some d =>
    rw [sg_some h]
    by_cases e : d = c
    · subst e; simp
    · have n : ¬ L2.V.str (sS [d]) = L2.V.str (sS [c]) := fun q => e (by
        have := sS_inj (L2.V.str.inj q)
        injection this)
      have n2 : ¬ some d = some c := fun q => e (Option.some.inj q)
      rw [decide_eq_false n, decide_eq_false n2]
theorem sg_empty {z : Str} {i : Nat} {t : Str} (ht : t = sS []) : decide (L2.V.str (sg z i) = L2.V.str t) = decide (z.length ≤ i) := by
  subst ht
  cases h : (cs z)[i]? with
  | none =>
    rw [sg_none h]
    simp [sg_ge h]
  | some d =>
    rw [sg_some h]
    have n : ¬ L2.V.str (sS [d]) = L2.V.str (sS []) := fun q => by
      have := sS_inj (L2.V.str.inj q)
      cases this
    have := sg_lt h
    rw [decide_eq_false n, decide_eq_false (by omega)]
/-! ### signs passed over -/
def skipN (p : Nat → Bool) (l : Cs) (i : Nat) : Nat := i + ((l.drop i).takeWhile p).length
theorem skip_yes {p : Nat → Bool} {l : Cs} {i c : Nat} (h : l[i]? = some c) (hp : p c = true) : skipN p l i = skipN p l (i + 1) := by
  unfold skipN
  obtain ⟨h1, h2⟩ := List.getElem?_eq_some_iff.mp h
  rw [List.drop_eq_getElem_cons h1, List.takeWhile_cons, h2, if_pos hp, List.length_cons]
  omega
theorem skip_no {p : Nat → Bool} {l : Cs} {i : Nat} (h : ∀ c, l[i]? = some c → p c = false) : skipN p l i = i := by
  unfold skipN
  by_cases hl : i < l.length
  · rw [List.drop_eq_getElem_cons hl, List.takeWhile_cons, if_neg (by rw [h _ (List.getElem?_eq_getElem hl)]; decide)]
    simp
  · rw [List.drop_eq_nil_of_le (by omega)]
    simp
theorem skip_ge (p : Nat → Bool) (l : Cs) (i : Nat) : i ≤ skipN p l i := Nat.le_add_right _ _
theorem skip_le {p : Nat → Bool} {l : Cs} {i : Nat} (h : i ≤ l.length) : skipN p l i ≤ l.length := by
  unfold skipN
  have h1 := (List.takeWhile_sublist (l := l.drop i) p).length_le
  rw [List.length_drop] at h1
  omega
def isSp (c : Nat) : Bool := c == 32
def isWs (c : Nat) : Bool := c == 32 || c == 10
/-! ### a word of a list -/
def fits (ws : List Str) (t : Cs) : Bool := ws.any fun w => t.isPrefixOf (cs w)
/-- how far the signs from here on begin some word -/
def wgo (ws : List Str) : Cs → Cs → Cs
  | told, [] => told
  | told, c :: r => if fits ws (told ++ [c]) then wgo ws (told ++ [c]) r else told
def wtold (ws : List Str) (l : Cs) (i : Nat) : Cs := wgo ws [] (l.drop i)
def pWord (l : Cs) (ws : List Str) (i : Nat) : Except Nat (Str × Nat) :=
  if sS (wtold ws l i) ∈ ws ∧ wtold ws l i ≠ [] then .ok (sS (wtold ws l i), i + (wtold ws l i).length) else .error (i + (wtold ws l i).length)
theorem wgo_len (ws : List Str) : ∀ (r told : Cs), told.length ≤ (wgo ws told r).length ∧ (wgo ws told r).length ≤ told.length + r.length
  | [], told => by simp [wgo]
  | c :: r, told => by
    have h := wgo_len ws r (told ++ [c])
    unfold wgo
    split
    · rw [List.length_append] at h
      simp only [List.length_cons, List.length_nil] at h ⊢
      omega
    · simp only [List.length_cons]
      omega
theorem wtold_le {ws : List Str} {l : Cs} {i : Nat} (h : i ≤ l.length) : i + (wtold ws l i).length ≤ l.length := by
  have h1 := (wgo_len ws (l.drop i) []).2
  rw [List.length_drop] at h1
  unfold wtold
  simp only [List.length_nil] at h1
  omega
/-! ### blanks, numbers -/
def pGap (l : Cs) (i : Nat) : Except Nat Nat := if l[i]? = some 32 then .ok (skipN isSp l i) else .error i
def nums (lo hi : Int) : List Str := (List.range (hi + 1 - lo).toNat).map fun (k : Nat) => (toString (lo + (k : Int)) : Str)
/-- the number that a word of nums is -/
def numV (w : Str) : Int := (PySem.intText? w).getD 0
def pNum (l : Cs) (lo hi : Int) (i : Nat) : Except Nat (Int × Nat) := match pWord l (nums lo hi) i with
  | .ok (w, j) => .ok (numV w, j)
  | .error j => .error j
end Pz
set_option Elab.async false
set_option linter.all false
set_option maxRecDepth 100000
set_option maxHeartbeats 4000000
/-! Lines and columns. -/
namespace Pz
open PySem PySem.Builtin PySem.Builtin.Str
def lnOf (l : Cs) (j : Nat) : Nat := (l.take j).count 10 + 1
def colOf (l : Cs) (j : Nat) : Nat := ((l.take j).reverse.takeWhile (· != 10)).length + 1
theorem occ_one (x : Str) (c lim : Nat) : ∀ (l : List Nat) (s : Array Nat × Nat), l.Pairwise (· < ·) → (∀ i ∈ l, s.2 ≤ i) → s.1.size + l.length ≤ lim →
    (forIn l s (StrLaws.occBody x ⟨#[c]⟩ x.length lim)).run.fst.toList = s.1.toList ++ l.filter fun i => decide ((cs x)[i]? = some c)
  | [], s, _, _, _ => by simp
  | a :: l, s, hp, hf, hl => by
    rw [List.forIn_cons]
    unfold StrLaws.occBody
    have ha : s.2 ≤ a := hf a (List.mem_cons_self ..)
    have hp2 := List.pairwise_cons.mp hp
    rw [List.length_cons] at hl
    by_cases hc : (cs x)[a]? = some c
    · have h1 := (StrLaws.subAt_one x c a).mpr hc
      rw [if_pos ⟨⟨⟨by omega, ha⟩, h1.1⟩, h1.2⟩]
      have ih := occ_one x c lim l (s.1.push a, a + (⟨#[c]⟩ : Str).length) hp2.2 (fun i hi => hp2.1 i hi) (by rw [Array.size_push]; omega)
      rw [List.filter_cons, if_pos (by simpa using hc)]
      show (forIn l (s.1.push a, a + (⟨#[c]⟩ : Str).length) (StrLaws.occBody x ⟨#[c]⟩ x.length lim)).run.fst.toList = _
      rw [ih]
      simp
    · rw [if_neg fun h => hc ((StrLaws.subAt_one x c a).mp ⟨h.1.2, h.2⟩), List.filter_cons, if_neg (by simpa using hc)]
      exact occ_one x c lim l s hp2.2 (fun i hi => hf i (List.mem_cons_of_mem _ hi)) (by omega)
theorem count_range (c : Nat) : ∀ (l : Cs) (s : Nat), ((List.range' s (l.length + 1)).filter fun i => decide (l[i - s]? = some c)).length = l.count c
  | [], s => by simp
  | a :: l, s => by
    have ih := count_range c l (s + 1)
    rw [List.length_cons, List.range'_succ, List.filter_cons]
    have e : (List.range' (s + 1) (l.length + 1)).filter (fun i => decide ((a :: l)[i - s]? = some c)) = (List.range' (s + 1) (l.length + 1)).filter fun i => decide (l[i - (s + 1)]? = some c) := by
      apply List.filter_congr
      intro i hi
      have h1 := (List.mem_range'_1.mp hi).1
      have e1 : i - s = (i - (s + 1)) + 1 := by omega
      rw [e1, List.getElem?_cons_succ]
    rw [e]
    by_cases h : a = c
    · subst h
      rw [if_pos (by simp), List.length_cons, ih, List.count_cons_self]
    · rw [if_neg (by simpa using h), ih, List.count_cons_of_ne h]
theorem count_one (x : Str) (c : Nat) : Txt.count x ⟨#[c]⟩ = ((cs x).count c : Nat) := by
  unfold Txt.count
  rw [StrLaws.occ_eq, occ_one x c (x.length + 1) _ (#[], 0) List.pairwise_lt_range' (fun _ _ => Nat.zero_le _) (by simp)]
  have h := count_range c (cs x) 0
  rw [cs_len] at h
  simp only [Nat.sub_zero] at h ⊢
  rw [← h]
  simp
theorem tw_len {l : Cs} {k c : Nat} (h1 : l[k]? = some c) (h2 : ∀ i : Nat, k < i → l[i]? ≠ some c) : (l.reverse.takeWhile (· != c)).length = l.length - 1 - k := by
  obtain ⟨hk, e⟩ := List.getElem?_eq_some_iff.mp h1
  have hs : l = l.take k ++ c :: l.drop (k + 1) := by
    conv => lhs; rw [← List.take_append_drop k l, List.drop_eq_getElem_cons hk, e]
  have hn : ∀ x ∈ (l.drop (k + 1)).reverse, (x != c) = true := fun x hx => by
    rw [List.mem_reverse, List.mem_iff_getElem?] at hx
    obtain ⟨i, hi⟩ := hx
    rw [List.getElem?_drop] at hi
    have : x ≠ c := fun z => h2 (k + 1 + i) (by omega) (by rw [hi, z])
    simpa using this
  have hr : l.reverse = (l.drop (k + 1)).reverse ++ (c :: (l.take k).reverse) := by
    conv => lhs; rw [hs]
    simp
  rw [hr, List.takeWhile_append_of_pos hn, List.takeWhile_cons, if_neg (by simp), List.append_nil, List.length_reverse, List.length_drop]
  omega
theorem tw_all {l : Cs} {c : Nat} (h : ∀ i : Nat, l[i]? ≠ some c) : (l.reverse.takeWhile (· != c)).length = l.length := by
  have hn : ∀ x ∈ l.reverse, (x != c) = true := fun x hx => by
    rw [List.mem_reverse, List.mem_iff_getElem?] at hx
    obtain ⟨i, hi⟩ := hx
    have : x ≠ c := fun z => h i (by rw [hi, z])
    simpa using this
  have q := List.takeWhile_append_of_pos (l₂ := []) hn
  rw [List.append_nil, List.takeWhile_nil, List.append_nil] at q
  rw [q, List.length_reverse]
theorem rfind_one (x : Str) (c : Nat) : (x.length : Int) - Txt.rfind x ⟨#[c]⟩ = (((cs x).reverse.takeWhile (· != c)).length + 1 : Nat) := by
  unfold Txt.rfind
  rw [StrLaws.last_eq]
  have key := StrLaws.last_run x ⟨#[c]⟩ x.length (List.range' 0 (x.length + 1 - 0)) [] none (fun _ z => nomatch z) (fun _ z => nomatch z) (by first | exact List.pairwise_lt_range' | simpa using List.pairwise_lt_range' (s := 0) (n := x.length + 1 - 0))
  have at_iff : ∀ i, StrLaws.At x ⟨#[c]⟩ x.length i ↔ (cs x)[i]? = some c := fun i => StrLaws.subAt_one x c i
  cases hr : (forIn (List.range' 0 (x.length + 1 - 0)) none (StrLaws.lastBody x ⟨#[c]⟩ x.length)).run with
  | none =>
    rw [hr] at key
    have h : ∀ i : Nat, (cs x)[i]? ≠ some c := fun i hi => by
      have hlt := sg_lt hi
      exact key i (by simp [List.mem_range']; omega) ((at_iff i).mpr hi)
    rw [tw_all h, cs_len]
    show (x.length : Int) - (-1) = _
    omega
  | some a =>
    rw [hr] at key
    have ha := (at_iff a).mp key.1
    have h2 : ∀ i : Nat, a < i → (cs x)[i]? ≠ some c := fun i hi hx => by
      have hlt := sg_lt hx
      exact key.2 i (by simp [List.mem_range']; omega) hi ((at_iff i).mpr hx)
    have hlt := sg_lt ha
    rw [tw_len ha h2, cs_len]
    show (x.length : Int) - (a : Int) = _
    omega
end Pz
set_option Elab.async false
set_option linter.all false
set_option maxRecDepth 100000
set_option maxHeartbeats 4000000
namespace Lx
open PySem PySem.Spec PyProof.Rows L2 Pz
section
variable {P : Program} {w : World} {K : PySem.W.Frag} {mg : Str → Option Value} {base : Heap}
/-- a callee's exception is this def's -/
theorem px_of {N : List Str} {qual : Str} {scope : Scope} {f : Addr} {cd : Value} {A : Around} {outer : List Env} {s : Shared} {H : Hp} {E : XK} :
    Passes (L2.CX P w) (cxOf (L2.CX P w) P w K mg base N qual scope f cd A outer s H E) E := passes_call (W := fun cls d _ H => E cls d H) (takes_of rfl rfl rfl rfl) (fun _ _ _ _ h => h)
theorem tk_of {N : List Str} {qual : Str} {scope : Scope} {f : Addr} {cd : Value} {A : Around} {outer : List Env} {s : Shared} {H : Hp} {E : XK} :
    Takes (cxOf (L2.CX P w) P w K mg base N qual scope f cd A outer s H E) (fun cls d _ H => E cls d H) := takes_of rfl rfl rfl rfl
theorem po_own {N : List Str} {qual : Str} {scope : Scope} {f : Addr} {cd : Value} {A : Around} {outer : List Env} {s : Shared} {H : Hp} {E : XK} :
    PassesOwn (model (cxOf (L2.CX P w) P w K mg base N qual scope f cd A outer s H E).prog (cxOf (L2.CX P w) P w K mg base N qual scope f cd A outer s H E).w) (cxOf (L2.CX P w) P w K mg base N qual scope f cd A outer s H E).A (cxOf (L2.CX P w) P w K mg base N qual scope f cd A outer s H E).env (cxOf (L2.CX P w) P w K mg base N qual scope f cd A outer s H E).xe := passes_of rfl
theorem szl {n : Nat} (h : n ≤ 4000000) : n ≤ sizeLine := Nat.le_trans h (by decide)
/-! ### the exception -/
def btF (z : Str) (j : Nat) : List (Str × V) := [("column", .int (colOf (cs z) j : Nat)), ("line", .int (lnOf (cs z) j : Nat))]
/-- a BadText of the place j leaves; all but what stands at ms is kept -/
def Bad (K : PySem.W.Frag) (ms : List Addr) (H : Hp) (z : Str) (j : Nat) (E : XK) : Prop := ∀ d H', Kp ms H H' → H d = none → H' d = some (.xd (btF z j)) → E (.ref (He.ga K "BadText")) (some d) H'
def spBT (K : PySem.W.Frag) : Sp := fun vs H Q _ => ∃ (a : Addr) (l c : V), vs = [.ref a, l, c] ∧ H a = some (exo a (He.ga K "BadText") none) ∧
  ∀ dx, H dx = none → dx ≠ a → Q .non (upd (upd (upd H dx (exd dx [("line", l)])) a (exo a (He.ga K "BadText") (some dx))) dx (exd dx [("column", c), ("line", l)]))
theorem ok_BadText___init__ (T : TT K mg base) : Ok P w K mg base 1 (He.ma K (He.ga K "BadText") "__init__") ["self", "line", "column"] [] (spBT K) := by
  refine ok_mk T.f_BadText___init__ sc_BadText___init__ (fun vs H Q E h => ?_) (fun _ _ _ _ _ _ us hl => match us, hl with | [_, _, _], _ => rfl) (fun cdv A outer s H vs Q E hr h => ?_)
  · obtain ⟨a, l, c, rfl, _⟩ := h
    rfl
  · obtain ⟨a, l, c, rfl, ha, k⟩ := h
    refine ⟨_, (pss_cons (ps_expr (pe_jinit rfl T.g_JourneyError T.jin_JourneyError.rd T.jin_JourneyError.at_ (pa_cons (pv 0) (pa_cons pe_str pa_nil))))
      (pss_cons (ps_ost (pv 0) (pv 1))
      (pss_one (ps_ost (pv 0) (pv 2))))), ?_⟩
    refine ⟨_, rfl, a, _, [.str "A text that is not in the described form."], rfl, by decide, T.exf_BadText.oex, ha, ?_⟩
    refine ⟨_, rfl, _, rfl, a, _, rfl, T.exf_BadText.oex, T.nox_BadText_line, .inl ⟨ha, fun dx n ne => ?_⟩⟩
    exact ⟨_, rfl, _, rfl, a, _, rfl, T.exf_BadText.oex, T.nox_BadText_column, .inr ⟨dx, _, upd_same, (upd_ne ne).trans upd_same, of_decide_eq_true rfl, k dx n ne⟩⟩
/-! ### the Reader -/
def rdF (z : Str) (i : Nat) : List (Str × V) := [("whole", .str z), ("reached", .int i)]
structure RdAt (K : PySem.W.Frag) (H : Hp) (r : Addr) (z : Str) (i : Nat) : Prop where
  ob : ∃ dx, H r = some (.ins (He.ga K "Reader") dx (rdF z i))
  le : i ≤ z.length
  sz : z.length ≤ 4000000
theorem rd_whole (z : Str) (i : Nat) : (rdF z i).lookup ("whole" : Str) = some (.str z) := rfl
theorem rd_reached (z : Str) (i : Nat) : (rdF z i).lookup ("reached" : Str) = some (.int i) := rfl
theorem rd_put (z : Str) (i j : Nat) : putF "reached" (.int (j : Int)) (rdF z i) = rdF z j := rfl
theorem RdAt.kp {H H' : Hp} {r : Addr} {z : Str} {i : Nat} {ms : List Addr} (h : RdAt K H r z i) (k : Kp ms H H') (n : r ∉ ms) : RdAt K H' r z i := by
  obtain ⟨⟨dx, e⟩, l, s⟩ := h
  exact ⟨⟨dx, k r _ n e⟩, l, s⟩
def spRd0 (K : PySem.W.Frag) : Sp := fun vs H Q _ => ∃ r dx z, vs = [.ref r, .str z] ∧ z.length ≤ 4000000 ∧ H r = some (.ins (He.ga K "Reader") dx []) ∧ Q .non (upd H r (.ins (He.ga K "Reader") dx (rdF z 0)))
theorem ok_Reader___init__ (T : TT K mg base) : Ok P w K mg base 1 (He.ma K (He.ga K "Reader") "__init__") ["self", "text"] [] (spRd0 K) := by
  refine ok_mk T.f_Reader___init__ sc_Reader___init__ (fun vs H Q E h => ?_) (fun _ _ _ _ _ _ us hl => match us, hl with | [_, _], _ => rfl) (fun cdv A outer s H vs Q E hr h => ?_)
  · obtain ⟨r, dx, z, rfl, _⟩ := h
    rfl
  · obtain ⟨r, dx, z, rfl, hz, h1, k⟩ := h
    refine ⟨_, (pss_cons (ps_fld (pv 0) (pv 1) rfl)
      (pss_one (ps_fld (pv 0) pe_int rfl))), ?_⟩
    refine ⟨_, rfl, _, rfl, r, _, dx, [], rfl, h1, T.k_Reader, T.n_Reader_whole, by decide, ?_⟩
    refine ⟨_, rfl, r, _, dx, _, rfl, upd_same, T.k_Reader, T.n_Reader_reached, of_decide_eq_true rfl, ?_⟩
    rw [upd_upd]
    exact k
def spSeen (K : PySem.W.Frag) : Sp := fun vs H Q _ => ∃ r z i, vs = [.ref r] ∧ RdAt K H r z i ∧ Q (.str (sg z i)) H
theorem ok_Reader_seen (T : TT K mg base) : Ok P w K mg base 1 (He.ma K (He.ga K "Reader") "seen") ["self"] [] (spSeen K) := by
  refine ok_mk T.f_Reader_seen sc_Reader_seen (fun vs H Q E h => ?_) (fun _ _ _ _ _ _ us hl => match us, hl with | [_], _ => rfl) (fun cdv A outer s H vs Q E hr h => ?_)
  · obtain ⟨r, z, i, rfl, _⟩ := h
    rfl
  · obtain ⟨r, z, i, rfl, ⟨⟨dx, h1⟩, hle, hsz⟩, k⟩ := h
    refine ⟨_, (pss_one (ps_ret (pe_slice sl_str (pe_fld (pv 0) rfl) (po_some (pe_fld (pv 0) rfl)) (po_some (pe_op op_add (pe_fld (pv 0) rfl) pe_int))))), ?_⟩
    refine ⟨_, rfl, r, _, dx, _, _, rfl, h1, T.k_Reader, T.n_Reader_whole, rd_whole _ _, ?_⟩
    refine ⟨_, rfl, r, _, dx, _, _, rfl, h1, T.k_Reader, T.n_Reader_reached, rd_reached _ _, _, rfl, ?_⟩
    refine ⟨_, rfl, r, _, dx, _, _, rfl, h1, T.k_Reader, T.n_Reader_reached, rd_reached _ _, _, _, rfl, rfl, _, rfl, ?_⟩
    refine ⟨z, rfl, szl hsz, ?_⟩
    rw [cut_sg]
    exact k
def spWrong (K : PySem.W.Frag) : Sp := fun vs H _ E => ∃ r z i, vs = [.ref r] ∧ RdAt K H r z i ∧ Bad K [] H z i E
theorem cut_take (z : Str) (i : Nat) : cutS z none (some (i : Int)) = sS ((cs z).take i) := by
  unfold cutS sS
  have e1 : HT.sIx z.length 0 none = 0 := rfl
  have e2 : HT.sIx z.length z.length (some (i : Int)) = min i z.length := HT.sIx_nat _ _ i
  rw [e1, e2]
  have e3 : (cs z).take (min i z.length) = (cs z).take i := by
    rw [← cs_len]
    by_cases h : i ≤ (cs z).length
    · rw [Nat.min_eq_left h]
    · rw [Nat.min_eq_right (by omega), List.take_of_length_le (Nat.le_refl _), List.take_of_length_le (by omega)]
  show Str.mk (List.toArray (List.take (min i z.length - 0) (List.drop 0 (cs z)))) = _
  rw [List.drop_zero, Nat.sub_zero, e3]
theorem ok_Reader_wrong (T : TT K mg base) : Ok P w K mg base 3 (He.ma K (He.ga K "Reader") "wrong") ["self"] [] (spWrong K) := by
  refine ok_mk T.f_Reader_wrong sc_Reader_wrong (fun vs H Q E h => ?_) (fun _ _ _ _ _ _ us hl => match us, hl with | [_], _ => rfl) (fun cdv A outer s H vs Q E hr h => ?_)
  · obtain ⟨r, z, i, rfl, _⟩ := h
    rfl
  · obtain ⟨r, z, i, rfl, ⟨⟨dx, h1⟩, hle, hsz⟩, k⟩ := h
    refine ⟨_, (pss_cons (ps_set (i := 1) sc_Reader_wrong.nd rfl (by first | exact Or.inl rfl | exact Or.inr rfl) (pe_slice sl_str (pe_fld (pv 0) rfl) po_none (po_some (pe_fld (pv 0) rfl))))
      (pss_one (ps_raise rfl tk_of (po_exc T.exf_BadText.oex T.exf_BadText.iC T.exf_BadText.tI (ok_BadText___init__ T) (hr.mono (by decide)) passL rfl T.g_BadText (pa_cons (pe_op op_add pe_int (pe_m1 PySem.F.slot_str_count PySem.F.type_str_count mt_count (pv 1) pe_str)) (pa_cons (pe_op op_sub (pe_fld (pv 0) rfl) (pe_bm PySem.F.plainAttrs_str PySem.F.slot_str_rfind PySem.F.type_str_rfind mt_rfind (pv 1) (pa_cons pe_str pa_nil))) pa_nil)))))), ?_⟩
    refine ⟨_, rfl, r, _, dx, _, _, rfl, h1, T.k_Reader, T.n_Reader_whole, rd_whole _ _, ?_⟩
    refine ⟨_, rfl, r, _, dx, _, _, rfl, h1, T.k_Reader, T.n_Reader_reached, rd_reached _ _, _, rfl, ?_⟩
    refine ⟨z, rfl, szl hsz, ?_⟩
    refine ⟨_, rfl, ⟨_, rfl⟩, _, _, rfl, rfl, _, _, rfl, rfl, ?_⟩
    refine ⟨_, rfl, r, _, dx, _, _, rfl, h1, T.k_Reader, T.n_Reader_reached, rd_reached _ _, _, rfl, rfl, _, _, rfl, rfl, _, _, rfl, rfl, of_decide_eq_true rfl, ?_⟩
    intro a ha
    refine ⟨a, _, _, rfl, upd_same, fun d hd ne => ⟨rfl, d, _, (upd_ne (Ne.symm ne)).trans upd_same, upd_same, ?_, ?_⟩⟩
    · rw [upd_ne ne] at hd
      exact hd
    · rw [upd_ne ne] at hd
      refine k d _ (fun b o _ e => ?_) hd ?_
      · rw [upd_ne (ne_of_none e hd)]
        show del _ a b = _
        rw [del_ne (ne_of_none e ha), upd_ne (ne_of_none e hd), upd_ne (ne_of_none e ha), upd_ne (ne_of_none e hd), upd_ne (ne_of_none e ha)]
        exact e
      · rw [upd_same, cut_take]
        have hnl : (("\n" : Str)) = ⟨#[10]⟩ := rfl
        have e1 := count_one (sS ((cs z).take i)) 10
        have e2 := rfind_one (sS ((cs z).take i)) 10
        rw [cs_sS] at e1 e2
        have e3 : (sS ((cs z).take i)).length = i := by
          rw [← cs_len, cs_sS, List.length_take, cs_len]
          omega
        rw [e3] at e2
        rw [hnl]
        show some (HO.xd [("column", V.int ((i : Int) - _)), ("line", V.int (1 + _))]) = _
        rw [e1, e2]
        unfold btF colOf lnOf
        have e4 : (1 : Int) + ((List.count 10 ((cs z).take i) : Nat) : Int) = ((List.count 10 ((cs z).take i) + 1 : Nat) : Int) := by omega
        rw [e4]
end
end Lx
set_option Elab.async false
set_option linter.all false
set_option maxRecDepth 100000
set_option maxHeartbeats 4000000
/-! Names, numbers, what is left of a line. -/
namespace Pz
open PySem PySem.Builtin PySem.Builtin.Str
/-! ### numbers -/
theorem num_facts : ∀ k : Nat, k < 201 → (toString ((k : Int) - 100) : Str).length ≤ 10 ∧ intText? (toString ((k : Int) - 100) : Str) = some ((k : Int) - 100) := by decide +kernel
theorem num_fact {n : Int} (h1 : -100 ≤ n) (h2 : n ≤ 100) : (toString n : Str).length ≤ 10 ∧ intText? (toString n : Str) = some n := by
  have h := num_facts (n + 100).toNat (by omega)
  have e : (((n + 100).toNat : Nat) : Int) - 100 = n := by omega
  rw [e] at h
  exact h
theorem mem_nums {lo hi : Int} {w : Str} (h : w ∈ nums lo hi) : ∃ n : Int, lo ≤ n ∧ n ≤ hi ∧ w = (toString n : Str) := by
  unfold nums at h
  obtain ⟨k, hk, e⟩ := List.mem_map.mp h
  have h1 := List.mem_range.mp hk
  exact ⟨lo + (k : Int), by omega, by omega, e.symm⟩
theorem nums_mem {lo hi n : Int} (h1 : lo ≤ n) (h2 : n ≤ hi) : (toString n : Str) ∈ nums lo hi := by
  unfold nums
  refine List.mem_map.mpr ⟨(n - lo).toNat, List.mem_range.mpr (by omega), ?_⟩
  have e : lo + (((n - lo).toNat : Nat) : Int) = n := by omega
  rw [e]
theorem numV_of {n : Int} (h1 : -100 ≤ n) (h2 : n ≤ 100) : numV (toString n : Str) = n := by
  unfold numV
  rw [(num_fact h1 h2).2]
  rfl
theorem pWord_ok {l : Cs} {ws : List Str} {i j : Nat} {w : Str} (h : pWord l ws i = .ok (w, j)) : w ∈ ws ∧ w = sS (wtold ws l i) ∧ wtold ws l i ≠ [] ∧ j = i + (wtold ws l i).length := by
  unfold pWord at h
  split at h
  · rename_i c
    injection h with h
    injection h with h1 h2
    exact ⟨h1 ▸ c.1, h1.symm, c.2, h2.symm⟩
  · cases h
/-! ### the rest of a line -/
/-- does anything but blanks stand ahead of the next line feed -/
def more (l : Cs) (i : Nat) : Bool := ((l.drop i).takeWhile (· != 10)).any (· != 32)
theorem strip_nil (x : Str) : cs (Txt.stripChars x " ") = [] ↔ (cs x).any (· != 32) = false := by
  have hg : ∀ c : Nat, ((" " : Str)).cps.contains c = (c == 32) := fun c => by
    show (#[32] : Array Nat).contains c = _
    simp [Bool.beq_eq_decide_eq]
  unfold Txt.stripChars
  rw [PyProof.Rows.stripBy_eq]
  have e : cs (strSub x (stripLo ((" " : Str)).cps.contains true x) (stripHi ((" " : Str)).cps.contains true x (stripLo ((" " : Str)).cps.contains true x))) = ((cs x).drop (stripLo ((" " : Str)).cps.contains true x)).take (stripHi ((" " : Str)).cps.contains true x (stripLo ((" " : Str)).cps.contains true x) - stripLo ((" " : Str)).cps.contains true x) := TL.tl_strSub x _ _
  rw [e]
  have lo_e : stripLo ((" " : Str)).cps.contains true x = ((cs x).takeWhile ((" " : Str)).cps.contains).length := rfl
  have hi_e : ∀ lo, stripHi ((" " : Str)).cps.contains true x lo = x.length - (((cs x).drop lo).reverse.takeWhile ((" " : Str)).cps.contains).length := fun _ => rfl
  rw [hi_e, lo_e]
  cases h : (cs x).any (· != 32) with
  | false =>
    have ha : ∀ c ∈ cs x, ((" " : Str)).cps.contains c = true := fun c hc => by
      rw [hg]
      have := List.any_eq_false.mp h c hc
      simpa using this
    have e1 := List.takeWhile_append_of_pos (l₂ := []) ha
    rw [List.append_nil, List.takeWhile_nil, List.append_nil] at e1
    rw [e1]
    simp
  | true =>
    obtain ⟨c, hc, hn⟩ := List.any_eq_true.mp h
    have hlt : ((cs x).takeWhile ((" " : Str)).cps.contains).length < (cs x).length := by
      rcases Nat.lt_or_ge ((cs x).takeWhile ((" " : Str)).cps.contains).length (cs x).length with q | q
      · exact q
      · have e2 : (cs x).takeWhile ((" " : Str)).cps.contains = cs x := (List.takeWhile_sublist _).eq_of_length_le q
        have ha := List.all_takeWhile (p := ((" " : Str)).cps.contains) (l := cs x)
        rw [e2] at ha
        have this := List.all_eq_true.mp ha c hc
        rw [hg] at this
        simp at this
        simp [this] at hn
    generalize hlo : ((cs x).takeWhile ((" " : Str)).cps.contains).length = lo at hlt
    have hd : ∃ d r, (cs x).drop lo = d :: r ∧ ((" " : Str)).cps.contains d = false := by
      rcases PyProof.Rows.takeWhile_stop ((" " : Str)).cps.contains 0 (cs x) with q | q
      · omega
      · refine ⟨(cs x)[lo], (cs x).drop (lo + 1), List.drop_eq_getElem_cons hlt, ?_⟩
        rw [hlo] at q
        rw [List.getD_eq_getElem?_getD, List.getElem?_eq_getElem hlt] at q
        exact q
    obtain ⟨d, r, ed, gd⟩ := hd
    have hr : (((cs x).drop lo).reverse.takeWhile ((" " : Str)).cps.contains).length ≤ r.length := by
      rw [ed, List.reverse_cons, List.takeWhile_append]
      split
      · rw [List.takeWhile_cons, gd]
        simp
      · have := (List.takeWhile_sublist (l := r.reverse) ((" " : Str)).cps.contains).length_le
        rw [List.length_reverse] at this
        exact this
    have hlen : (cs x).length = lo + (r.length + 1) := by
      have := congrArg List.length ed
      rw [List.length_drop, List.length_cons] at this
      omega
    rw [ed] at hr ⊢
    rw [← cs_len]
    constructor
    · intro q
      have := congrArg List.length q
      rw [List.length_take, List.length_cons] at this
      rw [List.reverse_cons] at hr
      simp at this
      omega
    · intro q
      cases q
/-! ### names -/
def isLet (c : Nat) : Bool := 97 ≤ c && c ≤ 122
def isSgn (c : Nat) : Bool := isLet c || (48 ≤ c && c ≤ 57)
/-- can a name, told so far, go on with c -/
def gOn (dots : Bool) (told : Cs) (c : Nat) : Bool :=
  if told = [] then isLet c else if c = 46 then dots && (told.getLast? != some 46) && decide (told.length < 39) else isSgn c && decide (told.length < 40)
def ngo (dots : Bool) : Cs → Cs → Cs
  | told, [] => told
  | told, c :: r => if gOn dots told c = true then ngo dots (told ++ [c]) r else told
def ntold (dots : Bool) (l : Cs) (i : Nat) : Cs := ngo dots [] (l.drop i)
def pName (l : Cs) (taken : List Str) (dots : Bool) (i : Nat) : Except Nat (Str × Nat) :=
  if ntold dots l i = [] ∨ (ntold dots l i).getLast? = some 46 ∨ sS (ntold dots l i) ∈ taken then .error (i + (ntold dots l i).length) else .ok (sS (ntold dots l i), i + (ntold dots l i).length)
theorem ngo_len (dots : Bool) : ∀ (r told : Cs), told.length ≤ (ngo dots told r).length ∧ (ngo dots told r).length ≤ told.length + r.length
  | [], told => by simp [ngo]
  | c :: r, told => by
    have h := ngo_len dots r (told ++ [c])
    unfold ngo
    split
    · rw [List.length_append] at h
      simp only [List.length_cons, List.length_nil] at h ⊢
      omega
    · simp only [List.length_cons]
      omega
theorem ngo_some {dots : Bool} {l t : Cs} {i c : Nat} (h : l[i + t.length]? = some c) (hf : gOn dots t c = true) : ngo dots t (l.drop (i + t.length)) = ngo dots (t ++ [c]) (l.drop (i + (t ++ [c]).length)) := by
  obtain ⟨h1, h2⟩ := List.getElem?_eq_some_iff.mp h
  rw [List.drop_eq_getElem_cons h1, h2]
  show (if gOn dots t c = true then _ else _) = _
  rw [if_pos hf, List.length_append]
  rfl
theorem ngo_stop {dots : Bool} {l t : Cs} {i : Nat} (h : ∀ c, l[i + t.length]? = some c → gOn dots t c = false) : ngo dots t (l.drop (i + t.length)) = t := by
  by_cases hl : i + t.length < l.length
  · rw [List.drop_eq_getElem_cons hl]
    show (if gOn dots t l[i + t.length] = true then _ else _) = _
    rw [if_neg (by rw [h _ (List.getElem?_eq_getElem hl)]; decide)]
  · rw [List.drop_eq_nil_of_le (by omega)]
    rfl
theorem gOn_len {dots : Bool} {t : Cs} {c : Nat} (h : gOn dots t c = true) : t.length < 40 := by
  unfold gOn at h
  split at h
  · rename_i e
    rw [e]
    decide
  · split at h
    · rw [Bool.and_eq_true, decide_eq_true_eq] at h
      omega
    · rw [Bool.and_eq_true, decide_eq_true_eq] at h
      omega
end Pz
set_option Elab.async false
set_option linter.all false
set_option maxRecDepth 100000
set_option maxHeartbeats 4000000
/-! Maps' texts, in plain Lean. -/
namespace Pz
open PySem
structure RoadM : Type where
  name : Str
  start : Str
  stop : Str
  dx : Int
  dy : Int
  price : Int
  label : Option Str
deriving DecidableEq
/-- one reading, then another -/
def bnd {α β : Type} (r : Except Nat (α × Nat)) (f : α → Nat → Except Nat (β × Nat)) : Except Nat (β × Nat) := match r with
  | .ok p => f p.1 p.2
  | .error j => .error j
theorem bnd_bnd {α β γ : Type} {r : Except Nat (α × Nat)} {f : α → Nat → Except Nat (β × Nat)} {g : β → Nat → Except Nat (γ × Nat)} : bnd (bnd r f) g = bnd r fun a i => bnd (f a i) g := by
  cases r <;> rfl
theorem bnd_id {α : Type} {r : Except Nat (α × Nat)} : (bnd r fun a i => .ok (a, i)) = r := by
  cases r <;> rfl
theorem bnd_ok {α β : Type} {r : Except Nat (α × Nat)} {f : α → Nat → Except Nat (β × Nat)} {q : β × Nat} (h : bnd r f = .ok q) : ∃ a j, r = .ok (a, j) ∧ f a j = .ok q := by
  cases r with
  | ok p => exact ⟨p.1, p.2, rfl, h⟩
  | error j => cases h
abbrev gapU (l : Cs) (i : Nat) : Except Nat (Unit × Nat) := (pGap l i).map fun j => ((), j)
def pEnd (l : Cs) (i : Nat) : Except Nat Nat := if skipN isSp l i < l.length then (if l[skipN isSp l i]? = some 10 then .ok (skipN isSp l i + 1) else .error (skipN isSp l i)) else .ok (skipN isSp l i)
abbrev endU (l : Cs) (i : Nat) : Except Nat (Unit × Nat) := (pEnd l i).map fun j => ((), j)
def pShift (l : Cs) (i : Nat) : Except Nat ((Int × Int) × Nat) :=
  bnd (pNum l (-9) 9 i) fun a i => bnd (gapU l i) fun _ i => bnd (pNum l (-9) 9 i) fun b i => .ok ((a, b), i)
def pRoad (l : Cs) (sp tk : List Str) (dots : Bool) (i : Nat) : Except Nat (RoadM × Nat) :=
  bnd (pName l tk dots i) fun n i => bnd (gapU l i) fun _ i => bnd (pWord l sp i) fun s i => bnd (gapU l i) fun _ i => bnd (pWord l sp i) fun e i => bnd (gapU l i) fun _ i =>
  bnd (pShift l i) fun d i => bnd (gapU l i) fun _ i => bnd (pNum l 1 99 i) fun p i =>
  if more l i = true then bnd (gapU l i) fun _ i => bnd (pName l [] true i) fun lb i => .ok (⟨n, s, e, d.1, d.2, p, some lb⟩, i) else .ok (⟨n, s, e, d.1, d.2, p, none⟩, i)
def mapWords (sp : List Str) (rs : List RoadM) : List Str := (if rs = [] ∧ sp.length < 24 then [("spot" : Str)] else []) ++ (if sp ≠ [] ∧ rs.length < 160 then [("road" : Str)] else [])
/-- a line of a map, its line feed too -/
def mapLine (l : Cs) (sp : List Str) (rs : List RoadM) (i : Nat) : Except Nat ((List Str × List RoadM) × Nat) :=
  bnd (pWord l (mapWords sp rs) i) fun w i => bnd (gapU l i) fun _ i =>
    if w = "spot" then bnd (pName l sp true i) fun n i => bnd (endU l i) fun _ i => .ok ((sp ++ [n], rs), i)
    else bnd (pRoad l sp (rs.map (·.name)) true i) fun r i => bnd (endU l i) fun _ i => .ok ((sp, rs ++ [r]), i)
/-- the lines of a map from i on; none: fuel is out -/
def pMapGo (l : Cs) : Nat → List Str → List RoadM → Nat → Option (Except Nat (List Str × List RoadM))
  | 0, _, _, _ => none
  | f + 1, sp, rs, i =>
    if skipN isWs l i < l.length then
      match mapLine l sp rs (skipN isWs l i) with
      | .ok (p, j) => pMapGo l f p.1 p.2 j
      | .error j => some (.error j)
    else if sp = [] then some (.error (skipN isWs l i)) else some (.ok (sp, rs))
theorem mapWords_len (sp : List Str) (rs : List RoadM) : (mapWords sp rs).length ≤ 2 := by
  unfold mapWords
  rw [List.length_append]
  split <;> split <;> simp
theorem mapWords_mem {sp : List Str} {rs : List RoadM} {w : Str} (h : w ∈ mapWords sp rs) : (w = "spot" ∧ rs = [] ∧ sp.length < 24) ∨ (w = "road" ∧ sp ≠ [] ∧ rs.length < 160) := by
  unfold mapWords at h
  rcases List.mem_append.mp h with h | h
  · split at h
    · rename_i c
      exact .inl ⟨List.mem_singleton.mp h, c⟩
    · cases h
  · split at h
    · rename_i c
      exact .inr ⟨List.mem_singleton.mp h, c⟩
    · cases h
def nameOk (s : Str) : Prop := s.length ≤ 40
theorem ngo_le40 (dots : Bool) : ∀ (r told : Cs), told.length ≤ 40 → (ngo dots told r).length ≤ 40
  | [], told, h => h
  | c :: r, told, h => by
    unfold ngo
    split
    · rename_i g
      exact ngo_le40 dots r (told ++ [c]) (by rw [List.length_append]; exact gOn_len g)
    · exact h
theorem pName_le {l : Cs} {tk : List Str} {dots : Bool} {i j : Nat} {n : Str} (h : pName l tk dots i = .ok (n, j)) : n.length ≤ 40 := by
  unfold pName at h
  split at h
  · cases h
  · injection h with h
    injection h with h1 _
    rw [← h1]
    have : (sS (ntold dots l i)).length = (ntold dots l i).length := by rw [← cs_len, cs_sS]
    rw [this]
    exact ngo_le40 dots _ _ (Nat.zero_le _)
/-! ### a map's text -/
def jn (y : Cs) (ps : List Cs) : Cs := TL.joinL y ps
theorem cs_join (y : Str) (ps : List Str) : cs (Txt.join y ps) = jn (cs y) (ps.map cs) := by
  rw [TL.join_eq]
  exact TL.tl_join y ps
theorem jn_len (y : Cs) : ∀ ps : List Cs, (jn y ps).length ≤ (ps.map List.length).sum + ps.length * y.length
  | [] => Nat.zero_le _
  | [p] => by
    show p.length ≤ _
    simp only [List.map_cons, List.map_nil, List.sum_cons, List.sum_nil]
    omega
  | p :: q :: r => by
    have h := jn_len y (q :: r)
    show (p ++ (y ++ jn y (q :: r))).length ≤ _
    rw [List.length_append, List.length_append, List.map_cons, List.sum_cons, List.length_cons, Nat.succ_mul]
    omega
theorem sum_le {α : Type} {f : α → Nat} {n : Nat} : ∀ {l : List α}, (∀ x ∈ l, f x ≤ n) → (l.map f).sum ≤ l.length * n
  | [], _ => Nat.zero_le _
  | x :: l, h => by
    have h1 := sum_le (l := l) fun y hy => h y (List.mem_cons_of_mem _ hy)
    have h2 := h x (List.mem_cons_self ..)
    rw [List.map_cons, List.sum_cons, List.length_cons, Nat.succ_mul]
    omega
theorem join_len {y : Str} {ps : List Str} {n : Nat} (h : ∀ p ∈ ps, p.length ≤ n) : (Txt.join y ps).length ≤ ps.length * (n + y.length) := by
  rw [← cs_len, cs_join]
  have h1 := jn_len (cs y) (ps.map cs)
  rw [List.map_map, List.length_map] at h1
  have h2 : (ps.map (List.length ∘ cs)).sum ≤ ps.length * n := sum_le fun p hp => by
    show (cs p).length ≤ n
    rw [cs_len]
    exact h p hp
  rw [cs_len] at h1
  rw [Nat.mul_add]
  omega
def roadWords (m : RoadM) : List Str := [("road" : Str), m.name, m.start, m.stop, (toString m.dx : Str), (toString m.dy : Str), (toString m.price : Str)]
def lineOf (m : RoadM) : Str := Txt.join " " (roadWords m ++ m.label.toList)
def mapText (sp : List Str) (rs : List RoadM) : Str := Txt.join "" ((sp.map (fun n => ("spot " : Str) ++ n) ++ rs.map lineOf).map fun s => s ++ ("\n" : Str))
/-- of the size that a map read from a text has -/
structure RoadOk (m : RoadM) : Prop where
  n1 : m.name.length ≤ 1000
  n2 : m.start.length ≤ 1000
  n3 : m.stop.length ≤ 1000
  x1 : -100 ≤ m.dx ∧ m.dx ≤ 100
  x2 : -100 ≤ m.dy ∧ m.dy ≤ 100
  x3 : -100 ≤ m.price ∧ m.price ≤ 100
  n4 : ∀ s, m.label = some s → s.length ≤ 1000
end Pz
set_option Elab.async false
set_option linter.all false
set_option maxRecDepth 100000
set_option maxHeartbeats 4000000
namespace Lx
open PySem PySem.Spec PyProof.Rows L2 Pz
section
variable {P : Program} {w : World} {K : PySem.W.Frag} {mg : Str → Option Value} {base : Heap}
/-- a method that passes signs over -/
def spSkip (K : PySem.W.Frag) : Sp := fun vs H Q _ => ∃ r z i, vs = [.ref r] ∧ RdAt K H r z i ∧ ∀ H', Kp [r] H H' → RdAt K H' r z (skipN isSp (cs z) i) → Q .non H'
theorem ok_Reader_skip (T : TT K mg base) : Ok P w K mg base 2 (He.ma K (He.ga K "Reader") "skip") ["self"] [] (spSkip K) := by
  refine ok_mk T.f_Reader_skip sc_Reader_skip (fun vs H Q E h => ?_) (fun _ _ _ _ _ _ us hl => match us, hl with | [_], _ => rfl) (fun cdv A outer s H vs Q E hr h => ?_)
  · obtain ⟨r, z, i, rfl, _⟩ := h
    rfl
  · obtain ⟨r, z, i, rfl, R, k⟩ := h
    refine ⟨_, (pss_one (ps_while po_own (pt_cmpR op_eq (po_meth0 (pv 0) T.k_Reader T.m_Reader_seen (ok_Reader_seen T) (hr.mono (by decide)) px_of) pe_str (nomark _))
      (pss_one (ps_fldaug (pv 0) pe_int in_add)))), ?_⟩
    refine ⟨fun m σ H1 => ∃ j, σ = [some (.ref r)] ∧ Kp [r] H H1 ∧ RdAt K H1 r z j ∧ skipN isSp (cs z) j = skipN isSp (cs z) i ∧ m = z.length - j, ⟨_, i, rfl, Kp.refl _ _, R, rfl, rfl⟩, ?_⟩
    rintro m σ H1 ⟨j, rfl, k1, R1, e1, rfl⟩
    obtain ⟨⟨dx, h1⟩, hle, hsz⟩ := id R1
    refine ⟨_, rfl, r, dx, _, rfl, h1, rfl, r, z, j, rfl, R1, rfl, _, rfl, ?_⟩
    rw [sg_is (t := " ") (c := 32) rfl]
    by_cases c : (cs z)[j]? = some 32
    · rw [decide_eq_true c]
      have hlt := sg_lt c
      refine iteT ⟨fun σ' H' => σ' = [some (.ref r)] ∧ Kp [r] H H' ∧ RdAt K H' r z (j + 1), fun σ' H' ⟨a1, a2, a3⟩ => ⟨_, (by omega), j + 1, a1, a2, a3, (skip_yes c rfl).symm.trans e1, rfl⟩, ?_⟩
      exact ⟨_, rfl, r, _, dx, _, _, rfl, h1, T.k_Reader, T.n_Reader_reached, rd_reached _ _, _, _, rfl, rfl, dx, _, h1, of_decide_eq_true rfl, rfl, k1.put (List.mem_singleton.mpr rfl), ⟨⟨dx, upd_same⟩, hlt, hsz⟩⟩
    · rw [decide_eq_false c]
      refine iteF (k H1 k1 ?_)
      rw [← e1, skip_no (fun d hd => by
        unfold isSp
        have : d ≠ 32 := fun q => c (by rw [hd, q])
        simpa using this)]
      exact R1
def spHasWords (K : PySem.W.Frag) : Sp := fun vs H Q _ => ∃ r z i, vs = [.ref r] ∧ RdAt K H r z i ∧ ∀ H', Kp [r] H H' → RdAt K H' r z (skipN isWs (cs z) i) → Q (.bl (decide (skipN isWs (cs z) i < z.length))) H'
theorem ok_Reader_has_words (T : TT K mg base) : Ok P w K mg base 2 (He.ma K (He.ga K "Reader") "has_words") ["self"] [] (spHasWords K) := by
  refine ok_mk T.f_Reader_has_words sc_Reader_has_words (fun vs H Q E h => ?_) (fun _ _ _ _ _ _ us hl => match us, hl with | [_], _ => rfl) (fun cdv A outer s H vs Q E hr h => ?_)
  · obtain ⟨r, z, i, rfl, _⟩ := h
    rfl
  · obtain ⟨r, z, i, rfl, R, k⟩ := h
    refine ⟨_, (Evl.pss_cut (ps_while po_own (PW.pt (pw_and (pt_cmpR op_ne (po_meth0 (pv 0) T.k_Reader T.m_Reader_seen (ok_Reader_seen T) (hr.mono (by decide)) px_of) pe_str (nomark _)) (pw_and1 (pt_cmpR op_in_sign (po_meth0 (pv 0) T.k_Reader T.m_Reader_seen (ok_Reader_seen T) (hr.mono (by decide)) px_of) pe_str rfl))))
      (pss_one (ps_fldaug (pv 0) pe_int in_add)))
      (pss_one (ps_ret (pe_cmpR op_lt (pe_fld (pv 0) rfl) (pe_callB call_len_str (by rfl) T.b_len PySem.boot_len (pa_cons (pe_fld (pv 0) rfl) pa_nil)) (nomark _))))), ?_⟩
    refine ⟨fun σ H1 => σ = [some (.ref r)] ∧ Kp [r] H H1 ∧ RdAt K H1 r z (skipN isWs (cs z) i), ?_, ?_⟩
    · refine ⟨fun m σ H1 => ∃ j, σ = [some (.ref r)] ∧ Kp [r] H H1 ∧ RdAt K H1 r z j ∧ skipN isWs (cs z) j = skipN isWs (cs z) i ∧ m = z.length - j, ⟨_, i, rfl, Kp.refl _ _, R, rfl, rfl⟩, ?_⟩
      rintro m σ H1 ⟨j, rfl, k1, R1, e1, rfl⟩
      obtain ⟨⟨dx, h1⟩, hle, hsz⟩ := id R1
      have fin : (∀ d, (cs z)[j]? = some d → isWs d = false) → RdAt K H1 r z (skipN isWs (cs z) i) := fun hno => by
        rw [← e1, skip_no hno]
        exact R1
      refine ⟨_, rfl, r, dx, _, rfl, h1, rfl, r, z, j, rfl, R1, rfl, _, rfl, ?_⟩
      cases c : (cs z)[j]? with
      | none =>
        rw [sg_empty (t := "") rfl, decide_eq_true (sg_ge c)]
        exact iteF (iteF ⟨rfl, k1, fin (fun d hd => by rw [c] at hd; cases hd)⟩)
      | some d =>
        have hlt := sg_lt c
        rw [sg_empty (t := "") rfl, decide_eq_false (by omega)]
        refine iteT ⟨_, rfl, r, dx, _, rfl, h1, rfl, r, z, j, rfl, R1, d, _, ?_, rfl, _, rfl, ?_⟩
        · rw [sg_some c]
          rfl
        have e4 : decide (d ∈ (" \n" : Str).cps.toList) = isWs d := by
          show decide (d ∈ [32, 10]) = (d == 32 || d == 10)
          by_cases h1 : d = 32
          · subst h1; rfl
          · by_cases h2 : d = 10
            · subst h2; rfl
            · have : ¬ d ∈ [32, 10] := by simp [h1, h2]
              rw [decide_eq_false this]
              simp [h1, h2]
        rw [e4]
        cases e5 : isWs d with
        | true =>
          refine iteT ⟨fun σ' H' => σ' = [some (.ref r)] ∧ Kp [r] H H' ∧ RdAt K H' r z (j + 1), fun σ' H' ⟨a1, a2, a3⟩ => ⟨_, (by omega), j + 1, a1, a2, a3, (skip_yes c e5).symm.trans e1, rfl⟩, ?_⟩
          exact ⟨_, rfl, r, _, dx, _, _, rfl, h1, T.k_Reader, T.n_Reader_reached, rd_reached _ _, _, _, rfl, rfl, dx, _, h1, of_decide_eq_true rfl, rfl, k1.put (List.mem_singleton.mpr rfl), ⟨⟨dx, upd_same⟩, hlt, hsz⟩⟩
        | false => exact iteF ⟨rfl, k1, fin (fun d' hd => by rw [c] at hd; cases hd; exact e5)⟩
    · rintro σ H1 ⟨rfl, k1, R1⟩
      obtain ⟨⟨dx, h1⟩, hle, hsz⟩ := id R1
      refine ⟨_, rfl, r, _, dx, _, _, rfl, h1, T.k_Reader, T.n_Reader_reached, rd_reached _ _, _, rfl, r, _, dx, _, _, rfl, h1, T.k_Reader, T.n_Reader_whole, rd_whole _ _, z, rfl, szl hsz, _, _, rfl, rfl, ?_⟩
      have q := k H1 k1 R1
      have e3 : decide (((skipN isWs (cs z) i : Nat) : Int) < ((z.length : Nat) : Int)) = decide (skipN isWs (cs z) i < z.length) := by
        by_cases hq : skipN isWs (cs z) i < z.length
        · rw [decide_eq_true hq, decide_eq_true (by omega)]
        · rw [decide_eq_false hq, decide_eq_false (by omega)]
      show Q (.bl (decide (((skipN isWs (cs z) i : Nat) : Int) < ((z.length : Nat) : Int)))) H1
      rw [e3]
      exact q
/-- what a method that may go wrong leaves: res, the place behind what was read with its value, or the wrong place -/
def Got {α : Type} (K : PySem.W.Frag) (H : Hp) (r : Addr) (z : Str) (res : Except Nat (α × Nat)) (Q : α → Hp → Prop) (E : XK) : Prop := match res with
  | .ok (a, j) => ∀ H', Kp [r] H H' → RdAt K H' r z j → Q a H'
  | .error j => Bad K [r] H z j E
def spGap (K : PySem.W.Frag) : Sp := fun vs H Q E => ∃ r z i, vs = [.ref r] ∧ RdAt K H r z i ∧ Got K H r z ((pGap (cs z) i).map fun j => ((), j)) (fun _ H' => Q .non H') E
theorem Bad.mono {ms ns : List Addr} {H H1 : Hp} {z : Str} {j : Nat} {E : XK} (h : Bad K ns H z j E) (k : Kp ns H H1) (s : ∀ a ∈ ms, a ∈ ns) (f : ∀ d, H1 d = none → H d = none) : Bad K ms H1 z j E := fun d H' k' hd e =>
  h d H' (k.trans (k'.mono s)) (f d hd) e
theorem ok_Reader_need_space (T : TT K mg base) : Ok P w K mg base 4 (He.ma K (He.ga K "Reader") "need_space") ["self"] [] (spGap K) := by
  refine ok_mk T.f_Reader_need_space sc_Reader_need_space (fun vs H Q E h => ?_) (fun _ _ _ _ _ _ us hl => match us, hl with | [_], _ => rfl) (fun cdv A outer s H vs Q E hr h => ?_)
  · obtain ⟨r, z, i, rfl, _⟩ := h
    rfl
  · obtain ⟨r, z, i, rfl, R, k⟩ := h
    refine ⟨_, (pss_cons (ps_if (pt_cmpR op_ne (po_meth0 (pv 0) T.k_Reader T.m_Reader_seen (ok_Reader_seen T) (hr.mono (by decide)) px_of) pe_str (nomark _))
      (pss_one (ps_expr (po_meth0 (pv 0) T.k_Reader T.m_Reader_wrong (ok_Reader_wrong T) (hr.mono (by decide)) px_of)))
      pss_nil)
      (pss_one (ps_expr (po_meth0 (pv 0) T.k_Reader T.m_Reader_skip (ok_Reader_skip T) (hr.mono (by decide)) px_of)))), ?_⟩
    obtain ⟨⟨dx, h1⟩, hle, hsz⟩ := id R
    refine ⟨_, rfl, r, dx, _, rfl, h1, rfl, r, z, i, rfl, R, rfl, _, rfl, ?_⟩
    rw [sg_is (t := " ") (c := 32) rfl]
    by_cases c : (cs z)[i]? = some 32
    · rw [decide_eq_true c]
      unfold pGap at k
      rw [if_pos c] at k
      exact iteF ⟨_, rfl, r, dx, _, rfl, h1, rfl, r, z, i, rfl, R, fun H' k' R' => k H' k' R'⟩
    · rw [decide_eq_false c]
      unfold pGap at k
      rw [if_neg c] at k
      exact iteT ⟨_, rfl, r, dx, _, rfl, h1, rfl, r, z, i, rfl, R, fun d H' k' hd e => k d H' (k'.mono (fun _ z => nomatch z)) hd e⟩

def spEnd (K : PySem.W.Frag) : Sp := fun vs H Q E => ∃ r z i, vs = [.ref r] ∧ RdAt K H r z i ∧ Got K H r z ((pEnd (cs z) i).map fun j => ((), j)) (fun _ H' => Q .non H') E
theorem kp_free {H H1 : Hp} {r : Addr} {o : HO} (k : Kp [r] H H1) (h : H1 r = some o) (d : Addr) (n : H1 d = none) : H d = none := by
  refine fresh k n (fun m => ?_)
  rw [List.mem_singleton.mp m, h] at n
  cases n
theorem ok_Reader_end_line (T : TT K mg base) : Ok P w K mg base 4 (He.ma K (He.ga K "Reader") "end_line") ["self"] [] (spEnd K) := by
  refine ok_mk T.f_Reader_end_line sc_Reader_end_line (fun vs H Q E h => ?_) (fun _ _ _ _ _ _ us hl => match us, hl with | [_], _ => rfl) (fun cdv A outer s H vs Q E hr h => ?_)
  · obtain ⟨r, z, i, rfl, _⟩ := h
    rfl
  · obtain ⟨r, z, i, rfl, R, k⟩ := h
    refine ⟨_, (pss_cons (ps_expr (po_meth0 (pv 0) T.k_Reader T.m_Reader_skip (ok_Reader_skip T) (hr.mono (by decide)) px_of))
      (pss_one (ps_if (pt_cmpR op_lt (pe_fld (pv 0) rfl) (pe_callB call_len_str (by rfl) T.b_len PySem.boot_len (pa_cons (pe_fld (pv 0) rfl) pa_nil)) (nomark _))
      (pss_cons (ps_if (pt_cmpR op_ne (po_meth0 (pv 0) T.k_Reader T.m_Reader_seen (ok_Reader_seen T) (hr.mono (by decide)) px_of) pe_str (nomark _))
      (pss_one (ps_expr (po_meth0 (pv 0) T.k_Reader T.m_Reader_wrong (ok_Reader_wrong T) (hr.mono (by decide)) px_of)))
      pss_nil)
      (pss_one (ps_fldaug (pv 0) pe_int in_add)))
      pss_nil))), ?_⟩
    obtain ⟨⟨dx, h1⟩, hle, hsz⟩ := id R
    refine ⟨_, rfl, r, dx, _, rfl, h1, rfl, r, z, i, rfl, R, fun H1 k1 R1 => ?_⟩
    obtain ⟨⟨dy, h2⟩, hle2, _⟩ := id R1
    unfold pEnd at k
    rw [cs_len] at k
    refine ⟨_, rfl, r, _, dy, _, _, rfl, h2, T.k_Reader, T.n_Reader_reached, rd_reached _ _, _, rfl, r, _, dy, _, _, rfl, h2, T.k_Reader, T.n_Reader_whole, rd_whole _ _, z, rfl, szl hsz, _, _, rfl, rfl, _, rfl, ?_⟩
    by_cases c : skipN isSp (cs z) i < z.length
    · rw [if_pos c] at k
      rw [decide_eq_true (by omega)]
      refine iteT ⟨_, rfl, r, dy, _, rfl, h2, rfl, r, z, _, rfl, R1, rfl, _, rfl, ?_⟩
      rw [sg_is (t := "\n") (c := 10) rfl]
      by_cases c2 : (cs z)[skipN isSp (cs z) i]? = some 10
      · rw [if_pos c2] at k
        rw [decide_eq_true c2]
        exact iteF ⟨_, rfl, r, _, dy, _, _, rfl, h2, T.k_Reader, T.n_Reader_reached, rd_reached _ _, _, _, rfl, rfl, dy, _, h2, of_decide_eq_true rfl, k _ (k1.put (List.mem_singleton.mpr rfl)) ⟨⟨dy, upd_same⟩, c, hsz⟩⟩
      · rw [if_neg c2] at k
        rw [decide_eq_false c2]
        exact iteT ⟨_, rfl, r, dy, _, rfl, h2, rfl, r, z, _, rfl, R1, Bad.mono k k1 (fun _ z => nomatch z) (kp_free k1 h2)⟩
    · rw [if_neg c] at k
      rw [decide_eq_false (by omega)]
      exact iteF (k H1 k1 R1)
end
end Lx
set_option Elab.async false
set_option linter.all false
set_option maxRecDepth 100000
set_option maxHeartbeats 4000000
namespace Lx
open PySem PySem.Spec PyProof.Rows L2 Pz
/-! ### words -/
theorem sS_app (a b : Cs) : sS a ++ sS b = sS (a ++ b) := by
  apply cs_inj
  show (Str.mk ((sS a).cps ++ (sS b).cps)).cps.toList = _
  simp [cs, sS]
theorem len_sS (a : Cs) : (sS a).length = a.length := by
  rw [← cs_len, cs_sS]
/-- word[:n] == t where t has n signs -/
theorem cut_pre (w : Str) (t : Cs) : decide (V.str (cutS w none (some (t.length : Int))) = V.str (sS t)) = t.isPrefixOf (cs w) := by
  rw [cut_take]
  have e : (V.str (sS ((cs w).take t.length)) = V.str (sS t)) ↔ t <+: cs w := by
    constructor
    · intro h
      have h1 := sS_inj (V.str.inj h)
      rw [← h1]
      exact List.take_prefix _ _
    · intro h
      rw [← List.prefix_iff_eq_take.mp h]
  by_cases h : t <+: cs w
  · rw [decide_eq_true (e.mpr h), List.isPrefixOf_iff_prefix.mpr h]
  · rw [decide_eq_false (fun q => h (e.mp q))]
    cases q : t.isPrefixOf (cs w) with
    | false => rfl
    | true => exact absurd (List.isPrefixOf_iff_prefix.mp q) h
def withP (ws : List Str) (t : Cs) : List Str := ws.filter fun w => t.isPrefixOf (cs w)
theorem withP_app (ws : List Str) (t : Cs) (c : Nat) : (withP ws t).filter (fun w => (t ++ [c]).isPrefixOf (cs w)) = withP ws (t ++ [c]) := by
  unfold withP
  rw [List.filter_filter]
  apply List.filter_congr
  intro w _
  cases h : (t ++ [c]).isPrefixOf (cs w) with
  | false => simp
  | true =>
    have h1 : t.isPrefixOf (cs w) = true := List.isPrefixOf_iff_prefix.mpr ((List.prefix_append t [c]).trans (List.isPrefixOf_iff_prefix.mp h))
    rw [h1]
    rfl
theorem withP_empty (ws : List Str) (t : Cs) : (withP ws t).isEmpty = !fits ws t := by
  unfold withP fits
  induction ws with
  | nil => rfl
  | cons w ws ih =>
    rw [List.filter_cons, List.any_cons]
    cases h : t.isPrefixOf (cs w) with
    | true => rfl
    | false =>
      rw [if_neg (by decide), ih]
      rfl
theorem mem_withP {ws : List Str} {t : Cs} : sS t ∈ withP ws t ↔ sS t ∈ ws := by
  unfold withP
  rw [List.mem_filter, cs_sS]
  refine ⟨fun h => h.1, fun h => ⟨h, List.isPrefixOf_iff_prefix.mpr (List.prefix_refl _)⟩⟩
theorem wgo_some {ws : List Str} {l t : Cs} {i c : Nat} (h : l[i + t.length]? = some c) (hf : fits ws (t ++ [c]) = true) : wgo ws t (l.drop (i + t.length)) = wgo ws (t ++ [c]) (l.drop (i + (t ++ [c]).length)) := by
  obtain ⟨h1, h2⟩ := List.getElem?_eq_some_iff.mp h
  rw [List.drop_eq_getElem_cons h1, h2]
  show (if fits ws (t ++ [c]) = true then _ else _) = _
  rw [if_pos hf, List.length_append]
  rfl
theorem wgo_stop {ws : List Str} {l t : Cs} {i : Nat} (h : ∀ c, l[i + t.length]? = some c → fits ws (t ++ [c]) = false) : wgo ws t (l.drop (i + t.length)) = t := by
  by_cases hl : i + t.length < l.length
  · rw [List.drop_eq_getElem_cons hl]
    show (if fits ws (t ++ [l[i + t.length]]) = true then _ else _) = _
    rw [if_neg (by rw [h _ (List.getElem?_eq_getElem hl)]; decide)]
  · rw [List.drop_eq_nil_of_le (by omega)]
    rfl
section
variable {P : Program} {w : World} {K : PySem.W.Frag} {mg : Str → Option Value} {base : Heap}
/-- words that are not too long, not too many -/
def Small (ws : List Str) : Prop := ws.length ≤ 1000
def spWord (K : PySem.W.Frag) : Sp := fun vs H Q E => ∃ r z i a ws, vs = [.ref r, .ref a] ∧ RdAt K H r z i ∧ SqL K H a (ws.map V.str) ∧ Small ws ∧ (∀ w ∈ ws, w.length ≤ 1000) ∧ Got K H r z (pWord (cs z) ws i) (fun w H' => Q (.str w) H') E
theorem ok_Reader_word_of (T : TT K mg base) : Ok P w K mg base 4 (He.ma K (He.ga K "Reader") "word_of") ["self", "words"] [] (spWord K) := by
  refine ok_mk T.f_Reader_word_of sc_Reader_word_of (fun vs H Q E h => ?_) (fun _ _ _ _ _ _ us hl => match us, hl with | [_, _], _ => rfl) (fun cdv A outer s H vs Q E hr h => ?_)
  · obtain ⟨r, z, i, a, ws, rfl, _⟩ := h
    rfl
  · obtain ⟨r, z, i, a, ws, rfl, R, ha, hs, hw, k⟩ := h
    refine ⟨_, (pss_cons (ps_par (i := 2) (j := 3) (by rfl) sc_Reader_word_of.nd rfl rfl (by decide) rfl rfl (pa_cons pe_str (pa_cons (pe_callTy call_list_of (by rfl) T.b_list (by decide +kernel) (pa_cons (pv 1) pa_nil)) pa_nil)) (by rfl))
      (Evl.pss_cut (ps_while po_own (pt_val pe_bl)
      (pss_cons (ps_set (i := 4) sc_Reader_word_of.nd rfl (by first | exact Or.inl rfl | exact Or.inr rfl) (pe_op op_add_str (pv 2) (po_meth0 (pv 0) T.k_Reader T.m_Reader_seen (ok_Reader_seen T) (hr.mono (by decide)) px_of)))
      (pss_cons (ps_set (i := 5) sc_Reader_word_of.nd rfl (by first | exact Or.inl rfl | exact Or.inr rfl) (pe_ifExp (pt_cmpR op_gt (pe_callB call_len_str (by rfl) T.b_len PySem.boot_len (pa_cons (pv 4) pa_nil)) (pe_callB call_len_str (by rfl) T.b_len PySem.boot_len (pa_cons (pv 2) pa_nil)) (nomark _)) (pe_lcB s H (own := [("word", 6)]) rfl sc_Reader_word_of.nd (pi_list (pv 3)) (blkOk_by (own := [("word", 6)]) (N := nm_Reader_word_of) (sc := defScope s_Reader_word_of) (by decide +kernel)) (fun _ _ _ _ _ => (pg_name (i := 6) sc_Reader_word_of.nd rfl (by first | exact Or.inl rfl | exact Or.inr rfl))) (fun _ _ _ _ _ => (pts_one (pt_cmpR op_eq (pe_slice sl_str (pv 6) po_none (po_some (pe_callB call_len_str (by rfl) T.b_len PySem.boot_len (pa_cons (pv 4) pa_nil)))) (pv 4) (nomark _)))) (fun _ _ _ _ _ => (pv 6))) (pe_lst pa_nil)))
      (pss_cons (ps_if (pt_cmpR (op_eqNil hr.units0) (pv 5) (pe_lst pa_nil) (nomark _))
      (pss_one ps_break)
      pss_nil)
      (pss_cons (ps_par (i := 2) (j := 3) (by rfl) sc_Reader_word_of.nd rfl rfl (by decide) rfl rfl (pa_cons (pv 4) (pa_cons (pv 5) pa_nil)) (by rfl))
      (pss_one (ps_fldaug (pv 0) pe_int in_add)))))))
      (pss_cons (ps_if (PW.pt (pw_or (pt_cmpR op_eq (pv 2) pe_str (nomark _)) (pw_or1 (pt_cmpR op_notIn_seq (pv 2) (pv 3) rfl))))
      (pss_one (ps_expr (po_meth0 (pv 0) T.k_Reader T.m_Reader_wrong (ok_Reader_wrong T) (hr.mono (by decide)) px_of)))
      pss_nil)
      (pss_one (ps_ret (pv 2)))))), ?_⟩
    have hsz := R.sz
    refine ⟨_, rfl, a, _, rfl, .inl ha, fun la hla => ⟨_, _, rfl, ?_⟩⟩
    have kl : Kp [r] H (upd H la (.lst (ws.map V.str))) := (Kp.refl _ _).new hla
    have rla : r ≠ la := by
      obtain ⟨⟨dx, e⟩, _, _⟩ := R
      exact ne_of_none e hla
    -- what stands behind the loop
    refine ⟨fun σ H1 => ∃ (t : Cs) (l1 : Addr) (s4 s5 s6 : Option V), σ = [some (.ref r), some (.ref a), some (.str (sS t)), some (.ref l1), s4, s5, s6] ∧ Kp [r] H H1 ∧ RdAt K H1 r z (i + t.length) ∧
      H1 l1 = some (.lst ((withP ws t).map V.str)) ∧ t = wtold ws (cs z) i, ?_, ?_⟩
    · refine ⟨fun m σ H1 => ∃ (t : Cs) (l1 : Addr) (s4 s5 s6 : Option V), σ = [some (.ref r), some (.ref a), some (.str (sS t)), some (.ref l1), s4, s5, s6] ∧ Kp [r] H H1 ∧ RdAt K H1 r z (i + t.length) ∧
        H1 l1 = some (.lst ((withP ws t).map V.str)) ∧ wgo ws t ((cs z).drop (i + t.length)) = wtold ws (cs z) i ∧ m = z.length - (i + t.length), ⟨_, [], la, none, none, none, rfl, kl, R.kp (ms := []) ((Kp.refl _ _).new hla) (by simp), ?_, rfl, rfl⟩, ?_⟩
      · have e : withP ws [] = ws := by
          unfold withP
          rw [List.filter_eq_self]
          intro w _
          rfl
        rw [e]
        exact upd_same
      rintro m σ H1 ⟨t, l1, s4, s5, s6, rfl, k1, R1, e1, g1, rfl⟩
      obtain ⟨⟨dx, h1⟩, hle, _⟩ := id R1
      have tl : (sS t).length + 1 ≤ sizeLine := by
        rw [len_sS]
        exact Nat.le_trans (show t.length + 1 ≤ 4000001 by omega) (by decide)
      have sgl : (sg z (i + t.length)).length ≤ 1 := by
        cases c : (cs z)[i + t.length]? with
        | none => rw [sg_none c, len_sS]; exact Nat.zero_le _
        | some d => rw [sg_some c, len_sS]; exact Nat.le_refl _
      have ml : (sS t ++ sg z (i + t.length)).length ≤ sizeLine := by
        rw [Str.length_append]
        exact Nat.le_trans (Nat.add_le_add_left sgl _) tl
      refine ⟨true, rfl, iteT ⟨fun σ' H' => ∃ (t' : Cs) (l1 : Addr) (s4 s5 s6 : Option V), σ' = [some (.ref r), some (.ref a), some (.str (sS t')), some (.ref l1), s4, s5, s6] ∧ Kp [r] H H' ∧ RdAt K H' r z (i + t'.length) ∧
        H' l1 = some (.lst ((withP ws t').map V.str)) ∧ wgo ws t' ((cs z).drop (i + t'.length)) = wtold ws (cs z) i ∧ z.length - (i + t'.length) < z.length - (i + t.length),
        fun σ' H' ⟨t', l2, s4, s5, s6, a1, a2, a3, a4, a5, a6⟩ => ⟨_, a6, t', l2, s4, s5, s6, a1, a2, a3, a4, a5, rfl⟩, ?_⟩⟩
      refine ⟨_, rfl, _, rfl, r, dx, _, rfl, h1, rfl, r, z, _, rfl, R1, _, _, rfl, rfl, Nat.le_trans (Nat.add_le_add_left sgl _) tl, ?_⟩
      refine ⟨_, rfl, _, rfl, ml, _, rfl, _, rfl, Nat.le_trans (Nat.le_succ _) tl, _, _, rfl, rfl, _, rfl, ?_⟩
      cases c : (cs z)[i + t.length]? with
      | none =>
        have e2 : wtold ws (cs z) i = t := g1.symm.trans (wgo_stop fun d hd => by rw [c] at hd; cases hd)
        rw [sg_none c, sS_app, List.append_nil]
        rw [decide_eq_false (by omega)]
        refine iteF ⟨by decide, fun q hq => ?_⟩
        refine ⟨_, rfl, by decide, fun q2 hq2 => ⟨q, q2, [], rfl, rfl, SqL.of ((upd_ne (ne_of_none upd_same hq2)).trans upd_same), SqL.of upd_same, _, rfl, iteT ?_⟩⟩
        have n2 : H1 q2 = none := by
          rw [upd_ne (ne_of_none upd_same hq2).symm] at hq2
          exact hq2
        have x2 : Kp [] H1 (upd (upd H1 q (.lst [])) q2 (.lst [])) := ((Kp.refl _ _).new hq).new n2
        exact ⟨t, l1, _, _, _, rfl, k1.trans (x2.mono (fun _ z => nomatch z)), R1.kp x2 (by simp), x2 l1 _ (by simp) e1, e2.symm⟩
      | some d =>
        have hlt := sg_lt c
        rw [sg_some c, sS_app]
        have el : (sS (t ++ [d])).length = (sS t).length + 1 := by
          rw [len_sS, len_sS, List.length_append]
          rfl
        rw [decide_eq_true (by rw [el]; omega)]
        refine iteT ⟨_, rfl, l1, rfl, ⟨_, SqL.of e1⟩, fun D hD => ?_⟩
        refine lc_fm (K := K) (xs := (withP ws t).map V.str) (fun x => match x with | .str w => (t ++ [d]).isPrefixOf (cs w) | _ => false) id (SqL.of e1) hD ?_ (fun x => rfl) (fun x hx => ?_) (fun x hx hf => ?_) (fun H2 x2 e2 => ?_)
        · rw [List.length_map]
          have h1 := List.length_filter_le (fun w => t.isPrefixOf (cs w)) ws
          unfold Small at hs
          unfold withP
          omega
        · obtain ⟨w, hw1, rfl⟩ := List.mem_map.mp hx
          have hw2 : w ∈ ws := (List.mem_filter.mp hw1).1
          have hw3 := hw w hw2
          intro H2 x2 Q' q'
          refine ⟨_, rfl, _, rfl, _, rfl, ?_, _, rfl, _, rfl, ?_, _, rfl, rfl, _, rfl, ?_⟩
          · rw [len_sS]
            exact Nat.le_trans (show (t ++ [d]).length ≤ 4000001 by rw [List.length_append]; simp; omega) (by decide)
          · exact Nat.le_trans hw3 (by decide)
          rw [len_sS, cut_pre]
          exact q' H2 (Evl.Ex.refl H2)
        · exact fun H2 x2 Q' q' => ⟨_, rfl, q' H2 (Evl.Ex.refl H2)⟩
        · have ef : ((((withP ws t).map V.str).filter fun x => match x with | .str w => (t ++ [d]).isPrefixOf (cs w) | _ => false).map id) = (withP ws (t ++ [d])).map V.str := by
            rw [List.map_id, List.filter_map, ← withP_app]
            rfl
          rw [ef] at e2
          refine ⟨_, rfl, by decide, fun q2 hq2 => ⟨D, q2, _, rfl, rfl, SqL.of ((upd_ne (ne_of_none e2 hq2)).trans e2), SqL.of upd_same, _, rfl, ?_⟩⟩
          have x3 : Kp [] H1 (upd H2 q2 (.lst [])) := (Kp.of x2).new (Evl.fresh_back x2 hq2)
          rw [empty_map, withP_empty]
          cases hf : fits ws (t ++ [d]) with
          | false =>
            have e2 : wtold ws (cs z) i = t := g1.symm.trans (wgo_stop fun d' hd => by rw [c] at hd; cases hd; exact hf)
            exact iteT ⟨t, l1, _, _, _, rfl, k1.trans (x3.mono (fun _ z => nomatch z)), R1.kp x3 (by simp), x3 l1 _ (by simp) e1, e2.symm⟩
          | true =>
            refine iteF ⟨_, rfl, _, rfl, _, _, rfl, ?_⟩
            have R3 := R1.kp x3 (by simp)
            obtain ⟨⟨dy, h3⟩, _, _⟩ := id R3
            refine ⟨_, rfl, r, _, dy, _, _, rfl, h3, T.k_Reader, T.n_Reader_reached, rd_reached _ _, _, _, rfl, rfl, dy, _, h3, of_decide_eq_true rfl, ?_⟩
            have el2 : i + (t ++ [d]).length = i + t.length + 1 := by rw [List.length_append]; rfl
            refine ⟨t ++ [d], D, _, _, _, rfl, ?_, ?_, ?_, ?_, ?_⟩
            · exact (k1.trans (x3.mono (fun _ z => nomatch z))).put (List.mem_singleton.mpr rfl)
            · rw [el2]
              exact ⟨⟨dy, upd_same⟩, hlt, hsz⟩
            · rw [upd_ne (ne_of h3 ((upd_ne (ne_of_none e2 hq2)).trans e2) (by intro z; cases z)).symm]
              exact (upd_ne (ne_of_none e2 hq2)).trans e2
            · rw [← g1]
              exact (wgo_some c hf).symm
            · omega
    · rintro σ H1 ⟨t, l1, s4, s5, s6, rfl, k1, R1, e1, et⟩
      unfold pWord at k
      rw [← et] at k
      obtain ⟨⟨dx, h1⟩, hle, _⟩ := id R1
      have bad : (sS t ∈ ws ∧ t ≠ []) → False → True := fun _ _ => trivial
      refine ⟨_, rfl, rfl, _, rfl, ?_⟩
      by_cases c0 : t = []
      · subst c0
        rw [if_neg (fun q => q.2 rfl)] at k
        rw [show ("" : Str) = sS [] from rfl, decide_eq_true rfl]
        exact iteT (iteT ⟨_, rfl, r, dx, _, rfl, h1, rfl, r, z, _, rfl, R1, Bad.mono k k1 (fun _ z => nomatch z) (kp_free k1 h1)⟩)
      · have n0 : ¬ V.str (sS t) = V.str (sS []) := fun q => c0 (sS_inj (V.str.inj q))
        have e0 : (("" : Str)) = sS [] := rfl
        rw [e0, decide_eq_false n0]
        refine iteF ⟨_, rfl, _, rfl, l1, _, rfl, .inl (SqL.of e1), rfl, flat_strs _, _, rfl, ?_⟩
        rw [inV_strs]
        by_cases c1 : sS t ∈ ws
        · rw [if_pos ⟨c1, c0⟩] at k
          rw [decide_eq_true (mem_withP.mpr c1)]
          exact iteF ⟨_, rfl, k H1 k1 R1⟩
        · rw [if_neg (fun q => c1 q.1)] at k
          rw [decide_eq_false (fun q => c1 (mem_withP.mp q))]
          exact iteT ⟨_, rfl, r, dx, _, rfl, h1, rfl, r, z, _, rfl, R1, Bad.mono k k1 (fun _ z => nomatch z) (kp_free k1 h1)⟩
end
end Lx
set_option Elab.async false
set_option linter.all false
set_option maxRecDepth 100000
set_option maxHeartbeats 4000000
namespace Lx
open PySem PySem.Spec PyProof.Rows L2 Pz
section
variable {P : Program} {w : World} {K : PySem.W.Frag} {mg : Str → Option Value} {base : Heap}
def spNum (K : PySem.W.Frag) : Sp := fun vs H Q E => ∃ r z i lo hi, vs = [.ref r, .int lo, .int hi] ∧ RdAt K H r z i ∧ -100 ≤ lo ∧ hi ≤ 100 ∧ lo ≤ hi ∧ Got K H r z (pNum (cs z) lo hi i) (fun n H' => Q (.int n) H') E
/-- the text of an int -/
def strOf (x : V) : V := match x with
  | .int n => .str (toString n)
  | v => v
theorem log_small {n : Int} (h1 : -100 ≤ n) (h2 : n ≤ 100) : n.natAbs.log2 < 1920 := by
  have h3 : n.natAbs < 2 ^ 7 := by
    have : (2:Nat) ^ 7 = 128 := by decide
    omega
  by_cases h0 : n.natAbs = 0
  · rw [h0]
    decide
  · exact Nat.lt_trans ((Nat.log2_lt h0).mpr h3) (by decide)
theorem nums_map (lo hi : Int) : (rgs lo (hi + 1 - lo).toNat).map strOf = (nums lo hi).map V.str := by
  unfold rgs nums
  rw [List.map_map, List.map_map]
  rfl
theorem Got.map {α β : Type} {H : Hp} {r : Addr} {z : Str} {res : Except Nat (α × Nat)} {f : α → β} {Q : β → Hp → Prop} {E : XK} (h : Got K H r z (res.map fun p => (f p.1, p.2)) Q E) : Got K H r z res (fun a H' => Q (f a) H') E := by
  cases res with
  | ok p => exact h
  | error j => exact h
theorem Got.ex {α : Type} {H H1 : Hp} {r : Addr} {z : Str} {res : Except Nat (α × Nat)} {Q : α → Hp → Prop} {E : XK} (h : Got K H r z res Q E) (k : Kp [r] H H1) (f : ∀ d, H1 d = none → H d = none) : Got K H1 r z res Q E := by
  cases res with
  | ok p => exact fun H' k' R => h H' (k.trans k') R
  | error j => exact Bad.mono h k (fun _ z => z) f
theorem ok_Reader_number_of (T : TT K mg base) : Ok P w K mg base 5 (He.ma K (He.ga K "Reader") "number_of") ["self", "low", "high"] [] (spNum K) := by
  refine ok_mk T.f_Reader_number_of sc_Reader_number_of (fun vs H Q E h => ?_) (fun _ _ _ _ _ _ us hl => match us, hl with | [_, _, _], _ => rfl) (fun cdv A outer s H vs Q E hr h => ?_)
  · obtain ⟨r, z, i, lo, hi, rfl, _⟩ := h
    rfl
  · obtain ⟨r, z, i, lo, hi, rfl, R, h1, h2, h3, k⟩ := h
    refine ⟨_, (pss_one (ps_ret (pe_callTy call_int_str (by rfl) T.b_int (by decide +kernel) (pa_cons (po_meth (pv 0) T.k_Reader T.m_Reader_word_of (ok_Reader_word_of T) (hr.mono (by decide)) px_of (pa_cons (pe_lcB s H (own := [("number", 3)]) rfl sc_Reader_number_of.nd (pi_range2 rfl T.b_range (pa_cons (pv 1) (pa_cons (pe_op op_add (pv 2) pe_int) pa_nil))) (blkOk_by (own := [("number", 3)]) (N := nm_Reader_number_of) (sc := defScope s_Reader_number_of) (by decide +kernel)) (fun _ _ _ _ _ => (pg_name (i := 3) sc_Reader_number_of.nd rfl (by first | exact Or.inl rfl | exact Or.inr rfl))) (fun _ _ _ _ _ => pts_nil) (fun _ _ _ _ _ => (pe_callTy call_str_int (by rfl) T.b_str (by decide +kernel) (pa_cons (pv 3) pa_nil)))) pa_nil)) pa_nil)))), ?_⟩
    obtain ⟨⟨dx, hr1⟩, _, _⟩ := id R
    refine ⟨_, rfl, r, dx, _, rfl, hr1, rfl, ?_⟩
    refine ⟨_, rfl, _, rfl, _, _, rfl, rfl, lo, hi + 1, rfl, ⟨by omega, by omega, by omega, by omega⟩, fun D hD => ?_⟩
    refine lcR_fm (fun _ => true) strOf hD (by omega) (fun x => rfl) (fun x hx => ev_yes) (fun x hx _ => ?_) (fun H2 x2 e2 => ?_)
    · obtain ⟨n, hn, rfl⟩ := List.mem_map.mp hx
      have hn2 := List.mem_range.mp hn
      exact fun H2 x2 Q' q' => ⟨_, rfl, _, rfl, log_small (by omega) (by omega), q' H2 (Evl.Ex.refl H2)⟩
    · rw [List.filter_eq_self.mpr (fun _ _ => rfl), nums_map] at e2
      have kx : Kp [] H H2 := Kp.of x2
      refine ⟨r, z, i, D, nums lo hi, rfl, R.kp kx (by simp), SqL.of e2, ?_, fun v hv => ?_, ?_⟩
      · unfold Small nums
        rw [List.length_map, List.length_range]
        omega
      · obtain ⟨n, hn1, hn2, rfl⟩ := mem_nums hv
        exact Nat.le_trans (num_fact (by omega) (by omega)).1 (by decide)
      · unfold pNum at k
        have kf : ∀ d, H2 d = none → H d = none := fun d n => fresh kx n (by simp)
        cases hw : pWord (cs z) (nums lo hi) i with
        | ok p =>
          obtain ⟨v, j⟩ := p
          rw [hw] at k
          intro H' k' R'
          obtain ⟨hm, _⟩ := pWord_ok hw
          obtain ⟨n, hn1, hn2, rfl⟩ := mem_nums hm
          have hf := num_fact (n := n) (by omega) (by omega)
          refine ⟨_, n, rfl, hf.2, Nat.le_trans hf.1 (by decide), ?_⟩
          have k3 := k H' ((kx.mono (fun _ z => nomatch z)).trans k') R'
          rw [numV_of (by omega) (by omega)] at k3
          exact k3
        | error j =>
          rw [hw] at k
          exact Bad.mono k (kx.mono (fun _ z => nomatch z)) (fun _ z => z) kf
theorem cut_drop (z : Str) (i : Nat) (h : i ≤ z.length) : cutS z (some (i : Int)) none = sS ((cs z).drop i) := by
  unfold cutS sS
  have e1 : HT.sIx z.length 0 (some (i : Int)) = min i z.length := HT.sIx_nat _ _ i
  have e2 : HT.sIx z.length z.length none = z.length := rfl
  rw [e1, e2, Nat.min_eq_left h]
  show Str.mk (List.toArray (List.take (z.length - i) (List.drop i (cs z)))) = _
  rw [List.take_of_length_le (by rw [List.length_drop, cs_len]; exact Nat.le_refl _)]
theorem spl_head (l acc : Cs) : ∃ r, TL.spl [10] 0 acc l = (acc ++ l.takeWhile (· != 10)) :: r := by
  induction l generalizing acc with
  | nil => exact ⟨[], by rw [List.takeWhile_nil, List.append_nil]; rfl⟩
  | cons c l ih =>
    by_cases h : c = 10
    · subst h
      refine ⟨TL.spl [10] 0 [] l, ?_⟩
      rw [List.takeWhile_cons, if_neg (by decide), List.append_nil]
      show (if TL.pre [10] (10 :: l) = true then _ else _) = _
      rw [if_pos (by rfl)]
      rfl
    · obtain ⟨r, e⟩ := ih (acc ++ [c])
      refine ⟨r, ?_⟩
      rw [List.takeWhile_cons, if_pos (by simpa using h)]
      show (if TL.pre [10] (c :: l) = true then _ else _) = _
      rw [if_neg, e, List.append_assoc]
      · rfl
      · show ¬ ((c :: l).take 1 == [10]) = true
        simpa using h
def spMore (K : PySem.W.Frag) : Sp := fun vs H Q _ => ∃ r z i, vs = [.ref r] ∧ RdAt K H r z i ∧ ∀ H', Ex H H' → Q (.bl (more (cs z) i)) H'
theorem ok_Reader_has_more (T : TT K mg base) : Ok P w K mg base 1 (He.ma K (He.ga K "Reader") "has_more") ["self"] [] (spMore K) := by
  refine ok_mk T.f_Reader_has_more sc_Reader_has_more (fun vs H Q E h => ?_) (fun _ _ _ _ _ _ us hl => match us, hl with | [_], _ => rfl) (fun cdv A outer s H vs Q E hr h => ?_)
  · obtain ⟨r, z, i, rfl, _⟩ := h
    rfl
  · obtain ⟨r, z, i, rfl, ⟨⟨dx, h1⟩, hle, hsz⟩, k⟩ := h
    refine ⟨_, (pss_cons (ps_set (i := 1) sc_Reader_has_more.nd rfl (by first | exact Or.inl rfl | exact Or.inr rfl) (pe_ix ix_list (pe_split (pe_slice sl_str (pe_fld (pv 0) rfl) (po_some (pe_fld (pv 0) rfl)) po_none) pe_str) pe_int (fun _ _ => rfl)))
      (pss_one (ps_ret (pe_cmpR op_ne (pe_bm PySem.F.plainAttrs_str PySem.F.slot_str_strip PySem.F.type_str_strip mt_stripChars (pv 1) (pa_cons pe_str pa_nil)) pe_str (nomark _))))), ?_⟩
    refine ⟨_, rfl, r, _, dx, _, _, rfl, h1, T.k_Reader, T.n_Reader_whole, rd_whole _ _, ?_⟩
    refine ⟨_, rfl, r, _, dx, _, _, rfl, h1, T.k_Reader, T.n_Reader_reached, rd_reached _ _, _, rfl, z, rfl, szl hsz, ?_⟩
    rw [cut_drop z i hle]
    have ml : (sS ((cs z).drop i)).length ≤ 4000000 := by
      rw [len_sS, List.length_drop, cs_len]
      omega
    refine ⟨⟨_, rfl⟩, _, _, rfl, rfl, rfl, Nat.le_trans (Nat.add_le_add_right ml 2) (by decide), fun q hq => ?_⟩
    have hsp := TL.split_spl (sS ((cs z).drop i)) "\n" (by decide) (TL.kind_ok (by decide +kernel))
    obtain ⟨rr, e⟩ := spl_head (TL.tl (sS ((cs z).drop i))) []
    have etl : TL.tl (sS ((cs z).drop i)) = (cs z).drop i := cs_sS _
    have enl : TL.tl ("\n" : Str) = [10] := rfl
    rw [enl, e, etl, List.nil_append] at hsp
    cases hs : Txt.split (sS ((cs z).drop i)) "\n" with
    | nil =>
      rw [hs] at hsp
      cases hsp
    | cons v vr =>
      rw [hs] at hsp
      injection hsp with hv _
      have hv2 : v = sS (((cs z).drop i).takeWhile (· != 10)) := cs_inj (by rw [cs_sS]; exact hv)
      have vl : v.length ≤ sizeLine := by
        rw [hv2, len_sS]
        have := (List.takeWhile_sublist (l := (cs z).drop i) (· != 10)).length_le
        rw [List.length_drop, cs_len] at this
        exact szl (by omega)
      refine ⟨q, _, 0, .str v, rfl, rfl, SqL.of upd_same, atI_nat (j := 0) rfl, ?_⟩
      refine ⟨_, rfl, rfl, _, _, rfl, rfl, vl, rfl, ?_⟩
      have hb : (!decide (V.str (Txt.stripChars v " ") = V.str "")) = more (cs z) i := by
        have sn := strip_nil v
        rw [hv2] at sn
        rw [cs_sS, ← hv2] at sn
        unfold more
        cases hm : (((cs z).drop i).takeWhile (· != 10)).any (· != 32) with
        | false =>
          have : Txt.stripChars v " " = "" := cs_inj (sn.mpr hm)
          rw [this, decide_eq_true rfl]
          rfl
        | true =>
          have : ¬ V.str (Txt.stripChars v " ") = V.str "" := fun q => by
            have q2 := V.str.inj q
            have q3 := sn.mp (by rw [q2]; rfl)
            rw [hm] at q3
            cases q3
          rw [decide_eq_false this]
          rfl
      rw [hb]
      exact k _ (Evl.Ex.new hq)
/-- goes_on -/
def spGoes (K : PySem.W.Frag) : Sp := fun vs H Q _ => ∃ r z i t dots c, vs = [.ref r, .str (sS t), .bl dots] ∧ RdAt K H r z i ∧ t.length ≤ 100 ∧ (cs z)[i]? = some c ∧ Q (.bl (gOn dots t c)) H
theorem in_letters (c : Nat) : decide (c ∈ ("abcdefghijklmnopqrstuvwxyz" : Str).cps.toList) = isLet c := by
  have e : ("abcdefghijklmnopqrstuvwxyz" : Str).cps.toList = (List.range 26).map (· + 97) := by decide +kernel
  rw [e]
  unfold isLet
  by_cases h : 97 ≤ c ∧ c ≤ 122
  · rw [decide_eq_true (List.mem_map.mpr ⟨c - 97, List.mem_range.mpr (by omega), by omega⟩)]
    simp [h.1, h.2]
  · rw [decide_eq_false (fun q => by
      obtain ⟨k, hk, e⟩ := List.mem_map.mp q
      have := List.mem_range.mp hk
      omega)]
    by_cases h1 : 97 ≤ c
    · have h2 : ¬ c ≤ 122 := fun q => h ⟨h1, q⟩
      simp [h1, h2]
    · simp [h1]
theorem in_signs (c : Nat) : decide (c ∈ ("abcdefghijklmnopqrstuvwxyz0123456789" : Str).cps.toList) = isSgn c := by
  have e : ("abcdefghijklmnopqrstuvwxyz0123456789" : Str).cps.toList = ("abcdefghijklmnopqrstuvwxyz" : Str).cps.toList ++ (List.range 10).map (· + 48) := by decide +kernel
  rw [e]
  unfold isSgn
  rw [← in_letters]
  by_cases h1 : c ∈ ("abcdefghijklmnopqrstuvwxyz" : Str).cps.toList
  · rw [decide_eq_true h1, decide_eq_true (List.mem_append_left _ h1)]
    rfl
  · by_cases h : 48 ≤ c ∧ c ≤ 57
    · rw [decide_eq_false h1, decide_eq_true (List.mem_append_right _ (List.mem_map.mpr ⟨c - 48, List.mem_range.mpr (by omega), by omega⟩))]
      simp [h.1, h.2]
    · rw [decide_eq_false h1, decide_eq_false (fun q => by
        rcases List.mem_append.mp q with q | q
        · exact h1 q
        · obtain ⟨k, hk, e⟩ := List.mem_map.mp q
          have := List.mem_range.mp hk
          omega)]
      by_cases h2 : 48 ≤ c
      · have h3 : ¬ c ≤ 57 := fun q => h ⟨h2, q⟩
        simp [h2, h3]
      · simp [h2]
theorem ok_Reader_goes_on (T : TT K mg base) : Ok P w K mg base 2 (He.ma K (He.ga K "Reader") "goes_on") ["self", "told", "dots"] [] (spGoes K) := by
  refine ok_mk T.f_Reader_goes_on sc_Reader_goes_on (fun vs H Q E h => ?_) (fun _ _ _ _ _ _ us hl => match us, hl with | [_, _, _], _ => rfl) (fun cdv A outer s H vs Q E hr h => ?_)
  · obtain ⟨r, z, i, t, dots, c, rfl, _⟩ := h
    rfl
  · obtain ⟨r, z, i, t, dots, c, rfl, R, ht, hc, k⟩ := h
    refine ⟨_, (pss_cons (ps_set (i := 3) sc_Reader_goes_on.nd rfl (by first | exact Or.inl rfl | exact Or.inr rfl) (po_meth0 (pv 0) T.k_Reader T.m_Reader_seen (ok_Reader_seen T) (hr.mono (by decide)) px_of))
      (pss_cons (ps_if (pt_cmpR op_eq (pv 1) pe_str (nomark _))
      (pss_one (ps_ret (pe_cmpR op_in_sign (pv 3) (po_glob T.c_LETTERS) rfl)))
      pss_nil)
      (pss_cons (ps_if (pt_cmpR op_eq (pv 3) pe_str (nomark _))
      (pss_one (ps_ret (pe_and (pv 2) (pe_and (pe_cmpR op_ne (pe_ix ix_str (pv 1) (pe_un un_neg pe_int) (fun _ _ => rfl)) pe_str (nomark _)) (pe_one (pe_cmpR op_lt (pe_callB call_len_str (by rfl) T.b_len PySem.boot_len (pa_cons (pv 1) pa_nil)) (pe_op op_sub (po_glob T.c_MOST_SIGNS) pe_int) (nomark _)))))))
      pss_nil)
      (pss_one (ps_ret (pe_and (pe_cmpR op_in_sign (pv 3) (po_glob T.c_SIGNS) rfl) (pe_one (pe_cmpR op_lt (pe_callB call_len_str (by rfl) T.b_len PySem.boot_len (pa_cons (pv 1) pa_nil)) (po_glob T.c_MOST_SIGNS) (nomark _))))))))), ?_⟩
    obtain ⟨⟨dx, h1⟩, hle, hsz⟩ := id R
    refine ⟨_, rfl, r, dx, _, rfl, h1, rfl, r, z, i, rfl, R, ?_⟩
    rw [sg_some hc]
    refine ⟨_, rfl, rfl, _, rfl, ?_⟩
    rw [show ("" : Str) = sS [] from rfl]
    unfold gOn at k
    by_cases c0 : t = []
    · rw [if_pos c0] at k
      rw [c0, decide_eq_true rfl]
      refine iteT ⟨_, rfl, c, _, rfl, rfl, ?_⟩
      rw [in_letters]
      exact k
    · rw [if_neg c0] at k
      have n0 : ¬ V.str (sS t) = V.str (sS []) := fun q => c0 (sS_inj (V.str.inj q))
      rw [decide_eq_false n0]
      refine iteF ⟨_, rfl, rfl, _, rfl, ?_⟩
      by_cases c1 : c = 46
      · rw [if_pos c1] at k
        subst c1
        rw [show ("." : Str) = sS [46] from rfl, decide_eq_true rfl]
        refine iteT ⟨_, rfl, dots, rfl, ?_⟩
        cases dots with
        | false => exact iteF k
        | true =>
          have hn : t ≠ [] := c0
          obtain ⟨x, hx⟩ : ∃ x, t.getLast? = some x := by
            cases h : t.getLast? with
            | none => exact absurd (List.getLast?_eq_none_iff.mp h) hn
            | some x => exact ⟨x, rfl⟩
          have hat : atI t (-1) = some x := by
            obtain ⟨ys, rfl⟩ := List.getLast?_eq_some_iff.mp hx
            exact atI_last ys x
          refine iteT ⟨_, rfl, _, rfl, _, _, x, rfl, rfl, ?_, ?_, rfl, _, rfl, ?_⟩
          · rw [len_sS]
            exact Nat.le_trans ht (by decide)
          · have e : (sS t).cps.toList = t := cs_sS t
            rw [e]
            exact hat
          rw [hx] at k
          by_cases c2 : x = 46
          · subst c2
            rw [decide_eq_true (show V.str ⟨#[46]⟩ = V.str (sS [46]) from rfl)]
            exact iteF k
          · have n2 : ¬ V.str ⟨#[x]⟩ = V.str (sS [46]) := fun q => c2 (by
              have := sS_inj (a := [x]) (b := [46]) (V.str.inj q)
              injection this)
            rw [decide_eq_false n2]
            refine iteT ⟨_, rfl, _, rfl, ?_, _, _, rfl, rfl, _, _, rfl, rfl, ?_⟩
            · rw [len_sS]
              exact Nat.le_trans ht (by decide)
            rw [len_sS]
            have e5 : (true && (some x != some 46) && decide (t.length < 39)) = decide (((t.length : Nat) : Int) < 40 - 1) := by
              have : (some x != some 46) = true := by simp [c2]
              rw [this]
              by_cases h : t.length < 39
              · rw [decide_eq_true h, decide_eq_true (by omega)]; rfl
              · rw [decide_eq_false h, decide_eq_false (by omega)]; rfl
            rw [e5] at k
            exact k
      · rw [if_neg c1] at k
        have n1 : ¬ V.str (sS [c]) = V.str (sS [46]) := fun q => c1 (by
          have := sS_inj (V.str.inj q)
          injection this)
        rw [show ("." : Str) = sS [46] from rfl, decide_eq_false n1]
        refine iteF ⟨_, rfl, c, _, rfl, rfl, _, rfl, ?_⟩
        rw [in_signs]
        cases hs : isSgn c with
        | false =>
          rw [hs] at k
          exact iteF k
        | true =>
          rw [hs] at k
          refine iteT ⟨_, rfl, _, rfl, ?_, _, _, rfl, rfl, ?_⟩
          · rw [len_sS]
            exact Nat.le_trans ht (by decide)
          rw [len_sS]
          have e5 : (true && decide (t.length < 40)) = decide (((t.length : Nat) : Int) < 40) := by
            by_cases h : t.length < 40
            · rw [decide_eq_true h, decide_eq_true (by omega)]; rfl
            · rw [decide_eq_false h, decide_eq_false (by omega)]; rfl
          rw [e5] at k
          exact k
end
end Lx
set_option Elab.async false
set_option linter.all false
set_option maxRecDepth 100000
set_option maxHeartbeats 4000000
namespace Lx
open PySem PySem.Spec PyProof.Rows L2 Pz
section
variable {P : Program} {w : World} {K : PySem.W.Frag} {mg : Str → Option Value} {base : Heap}
def spName (K : PySem.W.Frag) : Sp := fun vs H Q E => ∃ r z i a ws dots, vs = [.ref r, .ref a, .bl dots] ∧ RdAt K H r z i ∧ SqL K H a (ws.map V.str) ∧ Small ws ∧ Got K H r z (pName (cs z) ws dots i) (fun w H' => Q (.str w) H') E
theorem len_name (vs : List V) (H : Hp) (Q : VK) (E : XK) (h : spName K vs H Q E) : vs.length = 3 := by
  obtain ⟨r, z, i, a, ws, dots, rfl, _⟩ := h
  rfl
theorem last_at {t : Cs} (h : t ≠ []) : ∃ x, t.getLast? = some x ∧ atI (sS t).cps.toList (-1) = some x := by
  obtain ⟨x, hx⟩ : ∃ x, t.getLast? = some x := by
    cases q : t.getLast? with
    | none => exact absurd (List.getLast?_eq_none_iff.mp q) h
    | some x => exact ⟨x, rfl⟩
  refine ⟨x, hx, ?_⟩
  have e : (sS t).cps.toList = t := cs_sS t
  rw [e]
  obtain ⟨ys, rfl⟩ := List.getLast?_eq_some_iff.mp hx
  exact atI_last ys x
theorem ne_empty {t : Cs} (h : t ≠ []) : ¬ V.str (sS t) = V.str "" := fun q => h (sS_inj (b := []) (V.str.inj q))
theorem body_Reader_new_name (T : TT K mg base) {f : Addr} {cdv : Value} {A : Around} {outer : List Env} {s : Shared} {H : Hp} {vs : List V} {Q : VK} {E : XK} (hr : Room 3 (A.deeper (envOfC "Reader.new_name" (defScope s_Reader_new_name) s.heap.objs.size f cdv))) (h : spName K vs H Q E) : ∃ t, PSs (cxOf (L2.CX P w) P w K mg base nm_Reader_new_name "Reader.new_name" (defScope s_Reader_new_name) f cdv A outer s H E) (defBody s_Reader_new_name) t ∧ t { nx := fun _ H' => Q .non H', rt := Q } (L2.start nm_Reader_new_name vs) H := by
  obtain ⟨r, z, i, a, ws, dots, rfl, R, ha, hs, k⟩ := h
  refine ⟨_, (pss_cons (ps_set (i := 3) sc_Reader_new_name.nd rfl (by first | exact Or.inl rfl | exact Or.inr rfl) pe_str)
      (Evl.pss_cut (ps_while po_own (PW.pt (pw_and (pt_cmpR op_ne (po_meth0 (pv 0) T.k_Reader T.m_Reader_seen (ok_Reader_seen T) (hr.mono (by decide)) px_of) pe_str (nomark _)) (pw_and1 (pt_val (po_meth (pv 0) T.k_Reader T.m_Reader_goes_on (ok_Reader_goes_on T) (hr.mono (by decide)) px_of (pa_cons (pv 3) (pa_cons (pv 2) pa_nil)))))))
      (pss_cons (ps_aug (i := 3) sc_Reader_new_name.nd rfl (by first | exact Or.inl rfl | exact Or.inr rfl) (po_meth0 (pv 0) T.k_Reader T.m_Reader_seen (ok_Reader_seen T) (hr.mono (by decide)) px_of) iop_add_str)
      (pss_one (ps_fldaug (pv 0) pe_int in_add))))
      (pss_cons (ps_if (PW.pt (pw_or (pt_cmpR op_eq (pv 3) pe_str (nomark _)) (pw_or (pt_cmpR op_eq (pe_ix ix_str (pv 3) (pe_un un_neg pe_int) (fun _ _ => rfl)) pe_str (nomark _)) (pw_or1 (pt_cmpR op_in_seq (pv 3) (pv 1) rfl)))))
      (pss_one (ps_expr (po_meth0 (pv 0) T.k_Reader T.m_Reader_wrong (ok_Reader_wrong T) (hr.mono (by decide)) px_of)))
      pss_nil)
      (pss_one (ps_ret (pv 3)))))), ?_⟩
  have hsz := R.sz
  refine ⟨fun σ H1 => ∃ t : Cs, σ = [some (.ref r), some (.ref a), some (.bl dots), some (.str (sS t))] ∧ Kp [r] H H1 ∧ RdAt K H1 r z (i + t.length) ∧ t.length ≤ 40 ∧ t = ntold dots (cs z) i, ?_, ?_⟩
  · refine ⟨fun m σ H1 => ∃ t : Cs, σ = [some (.ref r), some (.ref a), some (.bl dots), some (.str (sS t))] ∧ Kp [r] H H1 ∧ RdAt K H1 r z (i + t.length) ∧ t.length ≤ 40 ∧
      ngo dots t ((cs z).drop (i + t.length)) = ntold dots (cs z) i ∧ m = z.length - (i + t.length), ⟨_, [], rfl, Kp.refl _ _, R, by decide, rfl, rfl⟩, ?_⟩
    rintro m σ H1 ⟨t, rfl, k1, R1, ht, g1, rfl⟩
    obtain ⟨⟨dx, h1⟩, hle, _⟩ := id R1
    refine ⟨_, rfl, r, dx, _, rfl, h1, rfl, r, z, _, rfl, R1, rfl, _, rfl, ?_⟩
    cases c : (cs z)[i + t.length]? with
    | none =>
      rw [sg_empty (t := "") rfl, decide_eq_true (sg_ge c)]
      have e2 : ntold dots (cs z) i = t := g1.symm.trans (ngo_stop fun d hd => by rw [c] at hd; cases hd)
      exact iteF (iteF ⟨t, rfl, k1, R1, ht, e2.symm⟩)
    | some d =>
      have hlt := sg_lt c
      rw [sg_empty (t := "") rfl, decide_eq_false (by omega)]
      refine iteT ⟨_, rfl, r, dx, _, rfl, h1, rfl, _, rfl, _, rfl, r, z, _, t, dots, d, rfl, R1, Nat.le_trans ht (by decide), c, _, rfl, ?_⟩
      cases hg : gOn dots t d with
      | false =>
        have e2 : ntold dots (cs z) i = t := g1.symm.trans (ngo_stop fun d' hd => by rw [c] at hd; cases hd; exact hg)
        exact iteF ⟨t, rfl, k1, R1, ht, e2.symm⟩
      | true =>
        have hl4 := gOn_len hg
        refine iteT ⟨fun σ' H' => ∃ t' : Cs, σ' = [some (.ref r), some (.ref a), some (.bl dots), some (.str (sS t'))] ∧ Kp [r] H H' ∧ RdAt K H' r z (i + t'.length) ∧ t'.length ≤ 40 ∧ ngo dots t' ((cs z).drop (i + t'.length)) = ntold dots (cs z) i ∧
          z.length - (i + t'.length) < z.length - (i + t.length), fun σ' H' ⟨t', a1, a2, a3, a4, a5, a6⟩ => ⟨_, a6, t', a1, a2, a3, a4, a5, rfl⟩, ?_⟩
        refine ⟨_, rfl, _, rfl, r, dx, _, rfl, h1, rfl, r, z, _, rfl, R1, _, _, rfl, rfl, ?_, ?_⟩
        · rw [sg_some c, len_sS, len_sS]
          exact Nat.le_trans (Nat.add_le_add_right ht 1) (by decide)
        rw [sg_some c, sS_app]
        have el2 : i + (t ++ [d]).length = i + t.length + 1 := by rw [List.length_append]; rfl
        refine ⟨_, rfl, r, _, dx, _, _, rfl, h1, T.k_Reader, T.n_Reader_reached, rd_reached _ _, _, _, rfl, rfl, dx, _, h1, of_decide_eq_true rfl, t ++ [d], rfl, k1.put (List.mem_singleton.mpr rfl), ?_, ?_, ?_, by omega⟩
        · rw [el2]
          exact ⟨⟨dx, upd_same⟩, hlt, hsz⟩
        · rw [List.length_append]
          exact hl4
        · rw [← g1]
          exact (ngo_some c hg).symm
  · rintro σ H1 ⟨t, rfl, k1, R1, ht, et⟩
    unfold pName at k
    rw [← et] at k
    obtain ⟨⟨dx, h1⟩, hle, _⟩ := id R1
    refine ⟨_, rfl, rfl, _, rfl, ?_⟩
    by_cases c0 : t = []
    · subst c0
      rw [if_pos (.inl rfl)] at k
      rw [show ("" : Str) = sS [] from rfl, decide_eq_true rfl]
      exact iteT (iteT ⟨_, rfl, r, dx, _, rfl, h1, rfl, r, z, _, rfl, R1, Bad.mono k k1 (fun _ z => nomatch z) (kp_free k1 h1)⟩)
    · rw [decide_eq_false (ne_empty c0)]
      obtain ⟨x, hx, hat⟩ := last_at c0
      have tl : (sS t).length ≤ sizeLine := by
        rw [len_sS]
        exact Nat.le_trans ht (by decide)
      refine iteF ⟨_, rfl, _, rfl, _, _, x, rfl, rfl, tl, hat, rfl, _, rfl, ?_⟩
      by_cases c1 : x = 46
      · subst c1
        rw [if_pos (.inr (.inl hx))] at k
        rw [decide_eq_true (show V.str ⟨#[46]⟩ = V.str "." from rfl)]
        exact iteT (iteT ⟨_, rfl, r, dx, _, rfl, h1, rfl, r, z, _, rfl, R1, Bad.mono k k1 (fun _ z => nomatch z) (kp_free k1 h1)⟩)
      · have n2 : ¬ V.str ⟨#[x]⟩ = V.str "." := fun q => c1 (by
          have := sS_inj (a := [x]) (b := [46]) (V.str.inj q)
          injection this)
        rw [decide_eq_false n2]
        refine iteF ⟨_, rfl, _, rfl, a, _, rfl, .inl ?_, rfl, flat_strs ws, _, rfl, ?_⟩
        · rcases ha with (ha | ⟨o, ha⟩) | ha
          · exact .inl (.inl (k1 _ _ (fun m => by
              rw [List.mem_singleton.mp m] at ha
              obtain ⟨⟨dx0, e0⟩, _, _⟩ := R
              rw [e0] at ha
              cases ha) ha))
          · exact .inl (.inr ⟨o, k1 _ _ (fun m => by
              rw [List.mem_singleton.mp m] at ha
              obtain ⟨⟨dx0, e0⟩, _, _⟩ := R
              rw [e0] at ha
              cases ha) ha⟩)
          · exact .inr ha
        show (if inV (.str (sS t)) (ws.map V.str) = true then _ else _)
        rw [inV_strs]
        by_cases c2 : sS t ∈ ws
        · rw [if_pos (.inr (.inr c2))] at k
          rw [decide_eq_true c2]
          exact iteT ⟨_, rfl, r, dx, _, rfl, h1, rfl, r, z, _, rfl, R1, Bad.mono k k1 (fun _ z => nomatch z) (kp_free k1 h1)⟩
        · rw [if_neg (fun q => by
            rcases q with q | q | q
            · exact c0 q
            · rw [hx] at q
              exact c1 (Option.some.inj q)
            · exact c2 q)] at k
          rw [decide_eq_false c2]
          exact iteF ⟨_, rfl, k H1 k1 R1⟩
theorem ok_Reader_new_name (T : TT K mg base) : Ok P w K mg base 4 (He.ma K (He.ga K "Reader") "new_name") ["self", "taken", "dots"] [] (spName K) :=
  ok_mkD 3 1 T.f_Reader_new_name sc_Reader_new_name len_name (List.cons_ne_nil _ _) rfl (fun _ _ _ _ _ _ _ us its hl h2 => match us, hl, its, h2 with | [_, _, _], _, [_], _ => ⟨_, rfl, rfl⟩) (fun cdv A outer s H vs Q E hr h => body_Reader_new_name T hr h)
theorem ok_Reader_new_name_d1 (T : TT K mg base) : Ok P w K mg base 4 (He.ma K (He.ga K "Reader") "new_name") ["self", "taken", "dots"] [.bl true] (spName K) :=
  ok_mkD 2 0 T.f_Reader_new_name sc_Reader_new_name len_name (List.cons_ne_nil _ _) rfl (fun _ _ _ _ _ _ _ us its hl h2 => match us, hl, its, h2 with | [_, _], _, [_], _ => ⟨_, rfl, rfl⟩) (fun cdv A outer s H vs Q E hr h => body_Reader_new_name T hr h)
end
end Lx
set_option Elab.async false
set_option linter.all false
set_option maxRecDepth 100000
set_option maxHeartbeats 4000000
namespace Lx
open PySem PySem.Spec PyProof.Rows L2 Pz
/-- the first of two readings is done -/
theorem Got.step {α β : Type} {K : PySem.W.Frag} {H0 H1 : Hp} {r : Addr} {z : Str} {i : Nat} {res : Except Nat (α × Nat)} {f : α → Nat → Except Nat (β × Nat)} {Q : β → Hp → Prop} {Q1 : α → Hp → Prop} {E : XK}
    (k : Got K H0 r z (bnd res f) Q E) (k0 : Kp [r] H0 H1) (R : RdAt K H1 r z i) (go : ∀ a j H', res = .ok (a, j) → Kp [r] H0 H' → RdAt K H' r z j → Kp [r] H1 H' → Got K H0 r z (f a j) Q E → Q1 a H') : Got K H1 r z res Q1 E := by
  obtain ⟨⟨dx, h1⟩, _, _⟩ := R
  cases res with
  | ok p =>
    obtain ⟨a, j⟩ := p
    exact fun H' k' R' => go a j H' rfl (k0.trans k') R' k' k
  | error j => exact Bad.mono k k0 (fun _ z => z) (kp_free k0 h1)
theorem Got.done {α : Type} {K : PySem.W.Frag} {H0 H1 : Hp} {r : Addr} {z : Str} {i : Nat} {a : α} {Q : α → Hp → Prop} {E : XK} (k : Got K H0 r z (.ok (a, i)) Q E) (k0 : Kp [r] H0 H1) (R : RdAt K H1 r z i) : Q a H1 := k H1 k0 R
section
variable {P : Program} {w : World} {K : PySem.W.Frag} {mg : Str → Option Value} {base : Heap}
/-! ### roads -/
def labV : Option Str → V
  | none => .non
  | some s => .str s
def roadF (m : RoadM) (sh : Addr) : List (Str × V) := [("name", .str m.name), ("start", .str m.start), ("end", .str m.stop), ("shift", .ref sh), ("price", .int m.price), ("label", labV m.label)]
def RoadAt (K : PySem.W.Frag) (H : Hp) (a : Addr) (m : RoadM) : Prop := ∃ dx sh, H a = some (.ins (He.ga K "Road") dx (roadF m sh)) ∧ SqT K H sh [.int m.dx, .int m.dy]
theorem road_mono {H H' : Hp} {a : Addr} {m : RoadM} (e : Ex H H') (h : RoadAt K H a m) : RoadAt K H' a m := by
  obtain ⟨dx, sh, h1, h2⟩ := h
  exact ⟨dx, sh, e _ _ h1, st_mono e h2⟩
def spRoad (K : PySem.W.Frag) : Sp := fun vs H Q _ => ∃ r dx n s e sh p lb, vs = [.ref r, .str n, .str s, .str e, .ref sh, .int p, labV lb] ∧ H r = some (.ins (He.ga K "Road") dx []) ∧
  ∀ H', Kp [r] H H' → H' r = some (.ins (He.ga K "Road") dx (roadF ⟨n, s, e, 0, 0, p, lb⟩ sh)) → Q .non H'
theorem body_Road___init__ (T : TT K mg base) {f : Addr} {cdv : Value} {A : Around} {outer : List Env} {s : Shared} {H : Hp} {vs : List V} {Q : VK} {E : XK} (hr : Room 0 (A.deeper (envOfC "Road.__init__" (defScope s_Road___init__) s.heap.objs.size f cdv))) (h : spRoad K vs H Q E) : ∃ t, PSs (cxOf (L2.CX P w) P w K mg base nm_Road___init__ "Road.__init__" (defScope s_Road___init__) f cdv A outer s H E) (defBody s_Road___init__) t ∧ t { nx := fun _ H' => Q .non H', rt := Q } (L2.start nm_Road___init__ vs) H := by
  obtain ⟨r, dx, n, s, e, sh, p, lb, rfl, h1, k⟩ := h
  refine ⟨_, (pss_cons (ps_asg (pe_tup (pa_cons (pv 1) (pa_cons (pv 2) (pa_cons (pv 3) pa_nil)))) (pg_tup rfl (pgs_cons (pg_fld (pv 0)) (pgs_cons (pg_fld (pv 0)) (pgs_cons (pg_fld (pv 0)) pgs_nil)))))
      (pss_one (ps_asg (pe_tup (pa_cons (pv 4) (pa_cons (pv 5) (pa_cons (pv 6) pa_nil)))) (pg_tup rfl (pgs_cons (pg_fld (pv 0)) (pgs_cons (pg_fld (pv 0)) (pgs_cons (pg_fld (pv 0)) pgs_nil))))))), ?_⟩
  refine ⟨_, rfl, _, rfl, _, rfl, of_decide_eq_true rfl, fun q1 hq1 => ?_⟩
  have n1 : r ≠ q1 := ne_of_none h1 hq1
  refine ⟨q1, _, rfl, SqT.of upd_same, rfl, _, _, rfl, _, rfl, r, _, dx, _, rfl, (upd_ne n1).trans h1, T.k_Road, T.n_Road_name, of_decide_eq_true rfl, ?_⟩
  refine ⟨_, _, rfl, _, rfl, r, _, dx, _, rfl, upd_same, T.k_Road, T.n_Road_start, of_decide_eq_true rfl, ?_⟩
  refine ⟨_, _, rfl, _, rfl, r, _, dx, _, rfl, upd_same, T.k_Road, T.n_Road_end, of_decide_eq_true rfl, rfl, ?_⟩
  rw [upd_upd, upd_upd]
  refine ⟨_, rfl, _, rfl, _, rfl, of_decide_eq_true rfl, fun q2 hq2 => ?_⟩
  have n2 : r ≠ q2 := ne_of_none upd_same hq2
  refine ⟨q2, _, rfl, SqT.of upd_same, rfl, _, _, rfl, _, rfl, r, _, dx, _, rfl, (upd_ne n2).trans upd_same, T.k_Road, T.n_Road_shift, of_decide_eq_true rfl, ?_⟩
  refine ⟨_, _, rfl, _, rfl, r, _, dx, _, rfl, upd_same, T.k_Road, T.n_Road_price, of_decide_eq_true rfl, ?_⟩
  refine ⟨_, _, rfl, _, rfl, r, _, dx, _, rfl, upd_same, T.k_Road, T.n_Road_label, of_decide_eq_true rfl, rfl, ?_⟩
  rw [upd_upd, upd_upd]
  refine k _ ?_ upd_same
  have hr1 : r ∈ [r] := List.mem_singleton.mpr rfl
  exact (((((Kp.refl [r] H).new2 hq1).put hr1).new2 hq2).put hr1)
theorem len_road (vs : List V) (H : Hp) (Q : VK) (E : XK) (h : spRoad K vs H Q E) : vs.length = 7 := by
  obtain ⟨r, dx, n, s, e, sh, p, lb, rfl, _⟩ := h
  rfl
theorem ok_Road___init__ (T : TT K mg base) : Ok P w K mg base 1 (He.ma K (He.ga K "Road") "__init__") ["self", "name", "start", "end", "shift", "price", "label"] [] (spRoad K) :=
  ok_mkD 7 1 T.f_Road___init__ sc_Road___init__ len_road (List.cons_ne_nil _ _) rfl (fun _ _ _ _ _ _ _ us its hl h2 => match us, hl, its, h2 with | [_, _, _, _, _, _, _], _, [_], _ => ⟨_, rfl, rfl⟩) (fun cdv A outer s H vs Q E hr h => body_Road___init__ T hr h)
def spShift (K : PySem.W.Frag) : Sp := fun vs H Q E => ∃ r z i, vs = [.ref r] ∧ RdAt K H r z i ∧ Got K H r z (pShift (cs z) i) (fun d H' => ∀ sh, H' sh = none → Q (.ref sh) (upd H' sh (.tup [.int d.1, .int d.2]))) E
theorem ok_read_shift (T : TT K mg base) : Ok P w K mg base 6 (He.ga K "read_shift") ["reader"] [] (spShift K) := by
  refine ok_mk T.f_read_shift sc_read_shift (fun vs H Q E h => ?_) (fun _ _ _ _ _ _ us hl => match us, hl with | [_], _ => rfl) (fun cdv A outer s H vs Q E hr h => ?_)
  · obtain ⟨r, z, i, rfl, _⟩ := h
    rfl
  · obtain ⟨r, z, i, rfl, R, k⟩ := h
    refine ⟨_, (pss_cons (ps_set (i := 1) sc_read_shift.nd rfl (by first | exact Or.inl rfl | exact Or.inr rfl) (po_meth (pv 0) T.k_Reader T.m_Reader_number_of (ok_Reader_number_of T) (hr.mono (by decide)) px_of (pa_cons (pe_un un_neg (po_glob T.c_MOST_SHIFT)) (pa_cons (po_glob T.c_MOST_SHIFT) pa_nil))))
      (pss_cons (ps_expr (po_meth0 (pv 0) T.k_Reader T.m_Reader_need_space (ok_Reader_need_space T) (hr.mono (by decide)) px_of))
      (pss_one (ps_ret (pe_tup (pa_cons (pv 1) (pa_cons (po_meth (pv 0) T.k_Reader T.m_Reader_number_of (ok_Reader_number_of T) (hr.mono (by decide)) px_of (pa_cons (pe_un un_neg (po_glob T.c_MOST_SHIFT)) (pa_cons (po_glob T.c_MOST_SHIFT) pa_nil))) pa_nil))))))), ?_⟩
    obtain ⟨⟨dx, h1⟩, _, _⟩ := id R
    unfold pShift at k
    refine ⟨_, rfl, r, dx, _, rfl, h1, rfl, _, rfl, r, z, i, -9, 9, rfl, R, by decide, by decide, by decide, Got.step k (Kp.refl _ _) R fun a j H1 ea k1 R1 _ k => ?_⟩
    obtain ⟨⟨dx1, h1⟩, _, _⟩ := id R1
    refine ⟨_, rfl, r, dx1, _, rfl, h1, rfl, r, z, j, rfl, R1, Got.step k k1 R1 fun _ j2 H2 eb k2 R2 _ k => ?_⟩
    obtain ⟨⟨dx2, h2⟩, _, _⟩ := id R2
    refine ⟨_, rfl, _, rfl, r, dx2, _, rfl, h2, rfl, _, rfl, r, z, j2, -9, 9, rfl, R2, by decide, by decide, by decide, Got.step k k2 R2 fun b j3 H3 ec k3 R3 _ k => ?_⟩
    exact ⟨of_decide_eq_true rfl, fun sh hsh => Got.done k k3 R3 sh hsh⟩
theorem RdAt.new {H : Hp} {r p : Addr} {z : Str} {i : Nat} {o : HO} (h : RdAt K H r z i) (n : H p = none) : RdAt K (upd H p o) r z i := h.kp (ms := []) ((Kp.refl _ _).new n) (by simp)
def spRdRoad (K : PySem.W.Frag) : Sp := fun vs H Q E => ∃ r z i a b sp tk dots, vs = [.ref r, .ref a, .ref b, .bl dots] ∧ RdAt K H r z i ∧ SqL K H a (sp.map V.str) ∧ SqL K H b (tk.map V.str) ∧ Small sp ∧ (∀ w ∈ sp, w.length ≤ 1000) ∧ Small tk ∧
  Got K H r z (pRoad (cs z) sp tk dots i) (fun m H' => ∀ a2 H2, H' a2 = none → Kp [] H' H2 → RoadAt K H2 a2 m → Q (.ref a2) H2) E
theorem sl_kp {K : PySem.W.Frag} {H H' : Hp} {r a : Addr} {z : Str} {i : Nat} {xs : List V} (k : Kp [r] H H') (R : RdAt K H r z i) (h : SqL K H a xs) : SqL K H' a xs := by
  obtain ⟨⟨dx0, e0⟩, _, _⟩ := R
  have nn : ∀ o, H a = some o → o ≠ .ins (He.ga K "Reader") dx0 (rdF z i) → H' a = some o := fun o ho hn => k _ _ (fun m => by
    rw [List.mem_singleton.mp m, e0] at ho
    exact hn (Option.some.inj ho).symm) ho
  rcases h with (ha | ⟨o, ha⟩) | ha
  · exact .inl (.inl (nn _ ha (fun q => by cases q)))
  · exact .inl (.inr ⟨o, nn _ ha (fun q => by cases q)⟩)
  · exact .inr ha
theorem road_made {H Hz : Hp} {r sh : Addr} {z : Str} {j : Nat} {m : RoadM} {Q : VK} {E E2 : XK} (k : Got K H r z (.ok (m, j)) (fun m H' => ∀ a2 H2, H' a2 = none → Kp [] H' H2 → RoadAt K H2 a2 m → Q (.ref a2) H2) E) (kz : Kp [r] H Hz) (Rz : RdAt K Hz r z j)
    (hsh : SqT K Hz sh [.int m.dx, .int m.dy]) : ∀ x dx, Hz x = none → Hz dx = none → dx ≠ x → spRoad K (.ref x :: ([.str m.name, .str m.start, .str m.stop, .ref sh, .int m.price, labV m.label] ++ [])) (upd (upd Hz dx (.own x)) x (.ins (He.ga K "Road") dx [])) (fun v H2 => v = .non ∧ Q (.ref x) H2) E2 := fun x dx hx hd ne => by
  refine ⟨x, dx, _, _, _, sh, _, m.label, rfl, upd_same, fun H' k' e' => ⟨rfl, ?_⟩⟩
  have kx : Kp [] Hz H' := fun a o _ ea => by
    have nx : a ≠ x := ne_of_none ea hx
    have nd : a ≠ dx := ne_of_none ea hd
    exact k' a o (by simpa using nx) ((upd_ne nx).trans ((upd_ne nd).trans ea))
  exact Got.done k kz Rz x H' hx kx ⟨dx, sh, e', st_mono kx.ex hsh⟩
theorem st_kp {K : PySem.W.Frag} {H H' : Hp} {r a : Addr} {z : Str} {i : Nat} {xs : List V} (k : Kp [r] H H') (R : RdAt K H r z i) (h : SqT K H a xs) : SqT K H' a xs := by
  obtain ⟨⟨dx0, e0⟩, _, _⟩ := R
  have nn : ∀ o, H a = some o → o ≠ .ins (He.ga K "Reader") dx0 (rdF z i) → H' a = some o := fun o ho hn => k _ _ (fun m => by
    rw [List.mem_singleton.mp m, e0] at ho
    exact hn (Option.some.inj ho).symm) ho
  rcases h with (ha | ⟨o, ha⟩) | ha
  · exact .inl (.inl (nn _ ha (fun q => by cases q)))
  · exact .inl (.inr ⟨o, nn _ ha (fun q => by cases q)⟩)
  · exact .inr ha
theorem body_read_road (T : TT K mg base) {f : Addr} {cdv : Value} {A : Around} {outer : List Env} {s : Shared} {H : Hp} {vs : List V} {Q : VK} {E : XK} (hr : Room 6 (A.deeper (envOfC "read_road" (defScope s_read_road) s.heap.objs.size f cdv))) (h : spRdRoad K vs H Q E) : ∃ t, PSs (cxOf (L2.CX P w) P w K mg base nm_read_road "read_road" (defScope s_read_road) f cdv A outer s H E) (defBody s_read_road) t ∧ t { nx := fun _ H' => Q .non H', rt := Q } (L2.start nm_read_road vs) H := by
  obtain ⟨r, z, i, a, b, sp, tk, dots, rfl, R, ha, hb, hs, hw, ht, k⟩ := h
  refine ⟨_, (pss_cons (ps_set (i := 4) sc_read_road.nd rfl (by first | exact Or.inl rfl | exact Or.inr rfl) (po_meth (pv 0) T.k_Reader T.m_Reader_new_name (ok_Reader_new_name T) (hr.mono (by decide)) px_of (pa_cons (pv 2) (pa_cons (pv 3) pa_nil))))
      (pss_cons (ps_expr (po_meth0 (pv 0) T.k_Reader T.m_Reader_need_space (ok_Reader_need_space T) (hr.mono (by decide)) px_of))
      (pss_cons (ps_set (i := 5) sc_read_road.nd rfl (by first | exact Or.inl rfl | exact Or.inr rfl) (po_meth (pv 0) T.k_Reader T.m_Reader_word_of (ok_Reader_word_of T) (hr.mono (by decide)) px_of (pa_cons (pv 1) pa_nil)))
      (pss_cons (ps_expr (po_meth0 (pv 0) T.k_Reader T.m_Reader_need_space (ok_Reader_need_space T) (hr.mono (by decide)) px_of))
      (pss_cons (ps_set (i := 6) sc_read_road.nd rfl (by first | exact Or.inl rfl | exact Or.inr rfl) (po_meth (pv 0) T.k_Reader T.m_Reader_word_of (ok_Reader_word_of T) (hr.mono (by decide)) px_of (pa_cons (pv 1) pa_nil)))
      (pss_cons (ps_expr (po_meth0 (pv 0) T.k_Reader T.m_Reader_need_space (ok_Reader_need_space T) (hr.mono (by decide)) px_of))
      (pss_cons (ps_set (i := 7) sc_read_road.nd rfl (by first | exact Or.inl rfl | exact Or.inr rfl) (po_call (ok_read_shift T) (hr.mono (by decide)) rfl T.g_read_shift px_of (pa_cons (pv 0) pa_nil)))
      (pss_cons (ps_expr (po_meth0 (pv 0) T.k_Reader T.m_Reader_need_space (ok_Reader_need_space T) (hr.mono (by decide)) px_of))
      (pss_cons (ps_set (i := 8) sc_read_road.nd rfl (by first | exact Or.inl rfl | exact Or.inr rfl) (po_meth (pv 0) T.k_Reader T.m_Reader_number_of (ok_Reader_number_of T) (hr.mono (by decide)) px_of (pa_cons pe_int (pa_cons (po_glob T.c_MOST_PRICE) pa_nil))))
      (pss_cons (ps_set (i := 9) sc_read_road.nd rfl (by first | exact Or.inl rfl | exact Or.inr rfl) pe_non)
      (pss_cons (ps_if (pt_val (po_meth0 (pv 0) T.k_Reader T.m_Reader_has_more (ok_Reader_has_more T) (hr.mono (by decide)) px_of))
      (pss_cons (ps_expr (po_meth0 (pv 0) T.k_Reader T.m_Reader_need_space (ok_Reader_need_space T) (hr.mono (by decide)) px_of))
      (pss_one (ps_set (i := 9) sc_read_road.nd rfl (by first | exact Or.inl rfl | exact Or.inr rfl) (po_meth (pv 0) T.k_Reader T.m_Reader_new_name (ok_Reader_new_name_d1 T) (hr.mono (by decide)) px_of (pa_cons (pe_lst pa_nil) pa_nil)))))
      pss_nil)
      (pss_one (ps_ret (po_make T.mk_Road (ok_Road___init__ T) (hr.mono (by decide)) rfl T.g_Road px_of (pa_cons (pv 4) (pa_cons (pv 5) (pa_cons (pv 6) (pa_cons (pv 7) (pa_cons (pv 8) (pa_cons (pv 9) pa_nil)))))))))))))))))))), ?_⟩
  obtain ⟨⟨dx, h1⟩, _, _⟩ := id R
  unfold pRoad at k
  refine ⟨_, rfl, r, dx, _, rfl, h1, rfl, _, rfl, _, rfl, r, z, i, b, tk, dots, rfl, R, hb, ht, Got.step k (Kp.refl _ _) R fun n j H1 ea k1 R1 _ k => ?_⟩
  obtain ⟨⟨dx1, h1⟩, _, _⟩ := id R1
  refine ⟨_, rfl, r, dx1, _, rfl, h1, rfl, r, z, j, rfl, R1, Got.step k k1 R1 fun _ j2 H2 eb k2 R2 _ k => ?_⟩
  obtain ⟨⟨dx2, h2⟩, _, _⟩ := id R2
  refine ⟨_, rfl, r, dx2, _, rfl, h2, rfl, _, rfl, r, z, j2, a, sp, rfl, R2, sl_kp k2 R ha, hs, hw, Got.step k k2 R2 fun s j3 H3 ec k3 R3 _ k => ?_⟩
  obtain ⟨⟨dx3, h3⟩, _, _⟩ := id R3
  refine ⟨_, rfl, r, dx3, _, rfl, h3, rfl, r, z, j3, rfl, R3, Got.step k k3 R3 fun _ j4 H4 ed k4 R4 _ k => ?_⟩
  obtain ⟨⟨dx4, h4⟩, _, _⟩ := id R4
  refine ⟨_, rfl, r, dx4, _, rfl, h4, rfl, _, rfl, r, z, j4, a, sp, rfl, R4, sl_kp k4 R ha, hs, hw, Got.step k k4 R4 fun e j5 H5 ee k5 R5 _ k => ?_⟩
  obtain ⟨⟨dx5, h5⟩, _, _⟩ := id R5
  refine ⟨_, rfl, r, dx5, _, rfl, h5, rfl, r, z, j5, rfl, R5, Got.step k k5 R5 fun _ j6 H6 ef k6 R6 _ k => ?_⟩
  refine ⟨_, rfl, r, z, j6, rfl, R6, Got.step k k6 R6 fun d j7 H7 eg k7 R7 _ k => fun sh hsh => ?_⟩
  have R8 := R7.new (o := .tup [.int d.1, .int d.2]) hsh
  have k8 := k7.new2 (o := .tup [.int d.1, .int d.2]) hsh
  have hsh8 : SqT K (upd H7 sh (.tup [.int d.1, .int d.2])) sh [.int d.1, .int d.2] := SqT.of upd_same
  generalize upd H7 sh (.tup [.int d.1, .int d.2]) = H8 at R8 k8 hsh8 ⊢
  obtain ⟨⟨dx8, h8⟩, _, _⟩ := id R8
  refine ⟨_, rfl, r, dx8, _, rfl, h8, rfl, r, z, j7, rfl, R8, Got.step k k8 R8 fun _ j8 H9 eh k9 R9 x9 k => ?_⟩
  obtain ⟨⟨dx9, h9⟩, _, _⟩ := id R9
  refine ⟨_, rfl, r, dx9, _, rfl, h9, rfl, r, z, j8, 1, 99, rfl, R9, by decide, by decide, by decide, Got.step k k9 R9 fun p j9 Ha ei ka Ra xa k => ?_⟩
  obtain ⟨⟨dxa, ha0⟩, _, _⟩ := id Ra
  refine ⟨_, rfl, r, dxa, _, rfl, ha0, rfl, r, z, j9, rfl, Ra, fun Hb kb => ⟨_, rfl, ?_⟩⟩
  have hsha := st_kp xa R9 (st_kp x9 R8 hsh8)
  have Rb := Ra.kp (Kp.of (ms := []) kb) (by simp)
  have kb2 := ka.trans (Kp.of (ms := [r]) kb)
  have hshb := st_mono kb hsha
  clear hsha
  cases hm : more (cs z) j9 with
  | false =>
    rw [hm] at k
    exact iteF ⟨_, rfl, _, rfl, _, rfl, _, rfl, _, rfl, _, rfl, road_made (m := ⟨n, s, e, d.1, d.2, p, none⟩) k kb2 Rb hshb⟩
  | true =>
    rw [hm, if_pos rfl] at k
    obtain ⟨⟨dxb, hb0⟩, _, _⟩ := id Rb
    refine iteT ⟨_, rfl, r, dxb, _, rfl, hb0, rfl, r, z, j9, rfl, Rb, Got.step k kb2 Rb fun _ j10 Hc ej kc Rc xc k => ?_⟩
    have hshc := st_kp xc Rb hshb
    obtain ⟨⟨dxc, hc0⟩, _, _⟩ := id Rc
    refine ⟨_, rfl, r, dxc, _, rfl, hc0, rfl, by decide, fun q hq => ?_⟩
    refine ⟨r, z, j10, q, [], true, rfl, Rc.new hq, SqL.of upd_same, Nat.zero_le _, Got.step k (kc.new2 hq) (Rc.new hq) fun lb j11 Hd ek kd Rd xd k => ?_⟩
    have hshd := st_kp xd (Rc.new hq) (st_mono (Evl.Ex.new hq) hshc)
    exact ⟨_, rfl, _, rfl, _, rfl, _, rfl, _, rfl, _, rfl, road_made (m := ⟨n, s, e, d.1, d.2, p, some lb⟩) k kd Rd hshd⟩
theorem len_rdroad (vs : List V) (H : Hp) (Q : VK) (E : XK) (h : spRdRoad K vs H Q E) : vs.length = 4 := by
  obtain ⟨r, z, i, a, b, sp, tk, dots, rfl, _⟩ := h
  rfl
theorem ok_read_road (T : TT K mg base) : Ok P w K mg base 7 (He.ga K "read_road") ["reader", "spots", "taken", "dots"] [] (spRdRoad K) :=
  ok_mkD 4 1 T.f_read_road sc_read_road len_rdroad (List.cons_ne_nil _ _) rfl (fun _ _ _ _ _ _ _ us its hl h2 => match us, hl, its, h2 with | [_, _, _, _], _, [_], _ => ⟨_, rfl, rfl⟩) (fun cdv A outer s H vs Q E hr h => body_read_road T hr h)
theorem ok_read_road_d1 (T : TT K mg base) : Ok P w K mg base 7 (He.ga K "read_road") ["reader", "spots", "taken", "dots"] [.bl true] (spRdRoad K) :=
  ok_mkD 3 0 T.f_read_road sc_read_road len_rdroad (List.cons_ne_nil _ _) rfl (fun _ _ _ _ _ _ _ us its hl h2 => match us, hl, its, h2 with | [_, _, _], _, [_], _ => ⟨_, rfl, rfl⟩) (fun cdv A outer s H vs Q E hr h => body_read_road T hr h)
end
end Lx
set_option Elab.async false
set_option linter.all false
set_option maxRecDepth 100000
set_option maxHeartbeats 4000000
namespace Lx
open PySem PySem.Spec PyProof.Rows L2 Pz
section
variable {P : Program} {w : World} {K : PySem.W.Frag} {mg : Str → Option Value} {base : Heap}
/-- roads at addresses -/
inductive RoadsAt (K : PySem.W.Frag) (H : Hp) : List Addr → List RoadM → Prop where
  | nil : RoadsAt K H [] []
  | cons {a : Addr} {m : RoadM} {as : List Addr} {ms : List RoadM} : RoadAt K H a m → RoadsAt K H as ms → RoadsAt K H (a :: as) (m :: ms)
theorem roads_mono {H H' : Hp} {as : List Addr} {ms : List RoadM} (e : Ex H H') (h : RoadsAt K H as ms) : RoadsAt K H' as ms := by
  induction h with
  | nil => exact .nil
  | cons a _ ih => exact .cons (road_mono e a) ih
theorem roads_app {H : Hp} {as bs : List Addr} {ms ns : List RoadM} (h : RoadsAt K H as ms) (h2 : RoadsAt K H bs ns) : RoadsAt K H (as ++ bs) (ms ++ ns) := by
  induction h with
  | nil => exact h2
  | cons a _ ih => exact .cons a ih
theorem roads_len {H : Hp} {as : List Addr} {ms : List RoadM} (h : RoadsAt K H as ms) : as.length = ms.length := by
  induction h with
  | nil => rfl
  | cons a _ ih => rw [List.length_cons, List.length_cons, ih]
def words1 (sp : List Str) (rs : List RoadM) : List Str := if rs = [] ∧ sp.length < 24 then [("spot" : Str)] else []
def words2 (sp : List Str) (rs : List RoadM) : List Str := if sp ≠ [] ∧ rs.length < 160 then [("road" : Str)] else []
theorem Got.of {α : Type} {H1 : Hp} {r : Addr} {z : Str} {res : Except Nat (α × Nat)} {Q : α → Hp → Prop} {E : XK} {a : α} {j : Nat} (e : res = .ok (a, j)) (go : ∀ H', Kp [r] H1 H' → RdAt K H' r z j → Q a H') : Got K H1 r z res Q E := by
  rw [e]
  exact go
/-- what is no road and no tuple -/
def Odd (o : HO) : Prop := (∃ xs, o = .lst xs) ∨ (∃ C dx fs, o = .ins C dx fs ∧ fs.lookup ("name" : Str) = none) ∨ ∃ kvs, o = .dK kvs
theorem st_odd {H H' : Hp} {ms : List Addr} {a : Addr} {xs : List V} (k : Kp ms H H') (o : ∀ p ∈ ms, ∃ u, H p = some u ∧ Odd u) (h : SqT K H a xs) : SqT K H' a xs := by
  have nn : ∀ u, H a = some u → ¬ Odd u → H' a = some u := fun u hu hn => k _ _ (fun m => by
    obtain ⟨v, hv, ho⟩ := o a m
    rw [hu] at hv
    exact hn (Option.some.inj hv ▸ ho)) hu
  rcases h with (ha | ⟨u, ha⟩) | ha
  · exact .inl (.inl (nn _ ha (fun q => by rcases q with ⟨_, q⟩ | ⟨_, _, _, q, _⟩ | ⟨_, q⟩ <;> cases q)))
  · exact .inl (.inr ⟨u, nn _ ha (fun q => by rcases q with ⟨_, q⟩ | ⟨_, _, _, q, _⟩ | ⟨_, q⟩ <;> cases q)⟩)
  · exact .inr ha
theorem road_odd {H H' : Hp} {ms : List Addr} {a : Addr} {m : RoadM} (k : Kp ms H H') (o : ∀ p ∈ ms, ∃ u, H p = some u ∧ Odd u) (h : RoadAt K H a m) : RoadAt K H' a m := by
  obtain ⟨dx, sh, h1, h2⟩ := h
  refine ⟨dx, sh, k _ _ (fun mm => ?_) h1, st_odd k o h2⟩
  obtain ⟨v, hv, ho⟩ := o a mm
  rw [h1] at hv
  have hv := Option.some.inj hv
  rcases ho with ⟨_, q⟩ | ⟨_, _, _, q, qn⟩ | ⟨_, q⟩
  · rw [q] at hv
    cases hv
  · rw [q] at hv
    injection hv with _ _ hv
    rw [← hv] at qn
    cases qn
  · rw [q] at hv
    cases hv
theorem roads_odd {H H' : Hp} {ms : List Addr} {as : List Addr} {rs : List RoadM} (k : Kp ms H H') (o : ∀ p ∈ ms, ∃ u, H p = some u ∧ Odd u) (h : RoadsAt K H as rs) : RoadsAt K H' as rs := by
  induction h with
  | nil => exact .nil
  | cons a _ ih => exact .cons (road_odd k o a) ih
theorem roads_nil {H : Hp} {as : List Addr} {rs : List RoadM} (h : RoadsAt K H as rs) (e : (as.map V.ref).isEmpty = true) : rs = [] := by
  cases h with
  | nil => rfl
  | cons _ _ => cases e
theorem roads_nil2 {H : Hp} {as : List Addr} {rs : List RoadM} (h : RoadsAt K H as rs) (e : rs = []) : (as.map V.ref).isEmpty = true := by
  cases h with
  | nil => rfl
  | cons _ _ => cases e
theorem roads_at {H : Hp} {as : List Addr} {rs : List RoadM} (h : RoadsAt K H as rs) {a : Addr} (m : a ∈ as) : ∃ r, RoadAt K H a r := by
  induction h with
  | nil => cases m
  | cons h1 _ ih =>
    cases m with
    | head => exact ⟨_, h1⟩
    | tail _ m => exact ih m
theorem roads_names {H : Hp} {as : List Addr} {rs : List RoadM} (h : RoadsAt K H as rs) : (as.map V.ref).map (fldOf H "name") = (rs.map (·.name)).map V.str := by
  induction h with
  | nil => rfl
  | cons h1 _ ih =>
    obtain ⟨dx, sh, e, _⟩ := h1
    rw [List.map_cons, List.map_cons, List.map_cons, List.map_cons, ih, fldOf_ins e]
    rfl
theorem road_name (T : TT K mg base) {σ : L2.St} {H : Hp} {i : Nat} {a : Addr} {m : RoadM} (hs : σ[i]? = some (some (.ref a))) (h : RoadAt K H a m) : Evl.Ev (tFld K (tVar i) "name") σ H (fldOf H "name" (.ref a)) := by
  obtain ⟨dx, sh, e, _⟩ := h
  rw [fldOf_ins e]
  exact ev_fld hs e T.k_Road T.n_Road_name rfl
theorem odd1 {H : Hp} {p : Addr} {o : HO} (h : H p = some o) (d : Odd o) : ∀ q ∈ [p], ∃ u, H q = some u ∧ Odd u := fun q m => ⟨o, by rw [List.mem_singleton.mp m]; exact h, d⟩
theorem odd_lst {H : Hp} {p : Addr} {xs : List V} (h : H p = some (.lst xs)) : ∀ q ∈ [p], ∃ u, H q = some u ∧ Odd u := fun q m => ⟨.lst xs, by rw [List.mem_singleton.mp m]; exact h, .inl ⟨_, rfl⟩⟩
theorem odd_rd {H : Hp} {r : Addr} {z : Str} {i : Nat} (h : RdAt K H r z i) : ∀ q ∈ [r], ∃ u, H q = some u ∧ Odd u := fun q m => by
  obtain ⟨⟨dx, e⟩, _, _⟩ := h
  exact ⟨.ins (He.ga K "Reader") dx (rdF z i), by rw [List.mem_singleton.mp m]; exact e, .inr (.inl ⟨_, _, _, rfl, rfl⟩)⟩
theorem lst_kp {H H' : Hp} {r a : Addr} {z : Str} {i : Nat} {xs : List V} (k : Kp [r] H H') (R : RdAt K H r z i) (h : H a = some (.lst xs)) : H' a = some (.lst xs) := by
  obtain ⟨⟨dx, e⟩, _, _⟩ := R
  exact k _ _ (fun m => by rw [List.mem_singleton.mp m, e] at h; cases h) h
def spReadMap (K : PySem.W.Frag) : Sp := fun vs H Q _ => ∃ z f sp rs, vs = [.str z] ∧ z.length ≤ 4000000 ∧ pMapGo (cs z) f [] [] 0 = some (.ok (sp, rs)) ∧
  ∀ t a b as H', Kp [] H H' → SqT K H' t [.ref a, .ref b] → SqL K H' a (sp.map V.str) → SqL K H' b (as.map V.ref) → RoadsAt K H' as rs → Q (.ref t) H'
theorem ok_read_map (T : TT K mg base) : Ok P w K mg base 8 (He.ga K "read_map") ["text"] [] (spReadMap K) := by
  refine ok_mk T.f_read_map sc_read_map (fun vs H Q E h => ?_) (fun _ _ _ _ _ _ us hl => match us, hl with | [_], _ => rfl) (fun cdv A outer s H vs Q E hr h => ?_)
  · obtain ⟨z, f, sp, rs, rfl, _⟩ := h
    rfl
  · obtain ⟨z, f, sp, rs, rfl, hz, hp, k⟩ := h
    refine ⟨_, (pss_cons (ps_par3 (i := 1) (j := 2) (l := 3) (by rfl) sc_read_map.nd rfl rfl rfl (by decide) (by decide) (by decide) rfl rfl rfl (pa_cons (po_make T.mk_Reader (ok_Reader___init__ T) (hr.mono (by decide)) rfl T.g_Reader px_of (pa_cons (pv 0) pa_nil)) (pa_cons (pe_lst pa_nil) (pa_cons (pe_lst pa_nil) pa_nil))) (by rfl))
      (Evl.pss_cut (ps_while po_own (pt_val (po_meth0 (pv 1) T.k_Reader T.m_Reader_has_words (ok_Reader_has_words T) (hr.mono (by decide)) px_of))
      (pss_cons (ps_set (i := 4) sc_read_map.nd rfl (by first | exact Or.inl rfl | exact Or.inr rfl) (pe_ifExp (PW.pt (pw_and (pt_cmpR (op_eqNil hr.units0) (pv 3) (pe_lst pa_nil) (nomark _)) (pw_and1 (pt_cmpR op_lt (pe_callB call_len_seq (by rfl) T.b_len PySem.boot_len (pa_cons (pv 2) pa_nil)) (po_glob T.c_MOST_SPOTS) (nomark _))))) (pe_lst (pa_cons pe_str pa_nil)) (pe_lst pa_nil)))
      (Evl.pss_cut (ps_if (PW.pt (pw_and (pt_cmpR (op_neNil hr.units0) (pv 2) (pe_lst pa_nil) (nomark _)) (pw_and1 (pt_cmpR op_lt (pe_callB call_len_seq (by rfl) T.b_len PySem.boot_len (pa_cons (pv 3) pa_nil)) (po_glob T.c_MOST_ROADS) (nomark _)))))
      (pss_one (ps_expr (pe_bm PySem.F.plainAttrs_list PySem.F.slot_list_append PySem.F.type_list_append mt_append (pv 4) (pa_cons pe_str pa_nil))))
      pss_nil)
      (pss_cons (ps_set (i := 5) sc_read_map.nd rfl (by first | exact Or.inl rfl | exact Or.inr rfl) (po_meth (pv 1) T.k_Reader T.m_Reader_word_of (ok_Reader_word_of T) (hr.mono (by decide)) px_of (pa_cons (pv 4) pa_nil)))
      (pss_cons (ps_expr (po_meth0 (pv 1) T.k_Reader T.m_Reader_need_space (ok_Reader_need_space T) (hr.mono (by decide)) px_of))
      (Evl.pss_cut (ps_if (pt_cmpR op_eq (pv 5) pe_str (nomark _))
      (pss_one (ps_expr (pe_bm PySem.F.plainAttrs_list PySem.F.slot_list_append PySem.F.type_list_append mt_append (pv 2) (pa_cons (po_meth (pv 1) T.k_Reader T.m_Reader_new_name (ok_Reader_new_name_d1 T) (hr.mono (by decide)) px_of (pa_cons (pv 2) pa_nil)) pa_nil))))
      (pss_one (ps_expr (pe_bm PySem.F.plainAttrs_list PySem.F.slot_list_append PySem.F.type_list_append mt_append (pv 3) (pa_cons (po_call (ok_read_road_d1 T) (hr.mono (by decide)) rfl T.g_read_road px_of (pa_cons (pv 1) (pa_cons (pv 2) (pa_cons (pe_lcB s H (own := [("road", 6)]) rfl sc_read_map.nd (pi_list (pv 3)) (blkOk_by (own := [("road", 6)]) (N := nm_read_map) (sc := defScope s_read_map) (by decide +kernel)) (fun _ _ _ _ _ => (pg_name (i := 6) sc_read_map.nd rfl (by first | exact Or.inl rfl | exact Or.inr rfl))) (fun _ _ _ _ _ => pts_nil) (fun _ _ _ _ _ => (pe_fld (pv 6) rfl))) pa_nil)))) pa_nil)))))
      (pss_one (ps_expr (po_meth0 (pv 1) T.k_Reader T.m_Reader_end_line (ok_Reader_end_line T) (hr.mono (by decide)) px_of)))))))))
      (pss_cons (ps_if (pt_cmpR (op_eqNil hr.units0) (pv 2) (pe_lst pa_nil) (nomark _))
      (pss_one (ps_expr (po_meth0 (pv 1) T.k_Reader T.m_Reader_wrong (ok_Reader_wrong T) (hr.mono (by decide)) px_of)))
      pss_nil)
      (pss_one (ps_ret (pe_tup (pa_cons (pv 2) (pa_cons (pv 3) pa_nil)))))))), ?_⟩
    refine ⟨_, rfl, fun r dx hr1 hdx hne => ⟨r, dx, z, rfl, hz, upd_same, rfl, ?_⟩⟩
    have R0 : RdAt K (upd (upd (upd H dx (.own r)) r (.ins (He.ga K "Reader") dx [])) r (.ins (He.ga K "Reader") dx (rdF z 0))) r z 0 := ⟨⟨dx, upd_same⟩, Nat.zero_le _, hz⟩
    have k0 : Kp [] H (upd (upd (upd H dx (.own r)) r (.ins (He.ga K "Reader") dx [])) r (.ins (He.ga K "Reader") dx (rdF z 0))) := (((Kp.refl _ _).new hdx).new hr1).new hr1
    have fin : ∀ Ha : Hp, RdAt K Ha r z 0 → Kp [] H Ha → ∀ a, Ha a = none → ∀ b, upd Ha a (.lst []) b = none → a ≠ b ∧ H r = none ∧ H a = none ∧ H b = none ∧ RdAt K (upd (upd Ha a (.lst [])) b (.lst [])) r z 0 ∧ Kp [] H (upd (upd Ha a (.lst [])) b (.lst [])) ∧
        upd (upd Ha a (.lst [])) b (.lst []) a = some (.lst []) ∧ upd (upd Ha a (.lst [])) b (.lst []) b = some (.lst []) := fun Ha R0 k0 a ha b hb => by
      have nab : a ≠ b := ne_of_none upd_same hb
      refine ⟨nab, hr1, fresh k0 ha (by simp), ?_, (R0.new ha).new hb, (k0.new2 ha).new2 hb, (upd_ne nab).trans upd_same, upd_same⟩
      rw [upd_ne nab.symm] at hb
      exact fresh k0 hb (by simp)
    refine ⟨by decide, fun a ha => ⟨by decide, fun b hb => ⟨_, _, _, rfl, ?_⟩⟩⟩
    obtain ⟨nab, nHr, nHa, nHb, R1, k1, ea, eb⟩ := fin _ R0 k0 a ha b hb
    clear fin
    refine ⟨fun σ H1 => ∃ (as : List Addr) (s4 s5 s6 : Option V), σ = [some (.str z), some (.ref r), some (.ref a), some (.ref b), s4, s5, s6] ∧ Kp [] H H1 ∧ H1 a = some (.lst (sp.map V.str)) ∧ H1 b = some (.lst (as.map V.ref)) ∧ RoadsAt K H1 as rs ∧ sp ≠ [], ?_, ?_⟩
    · refine ⟨fun m σ H1 => ∃ (sp1 : List Str) (rs1 : List RoadM) (as : List Addr) (j : Nat) (s4 s5 s6 : Option V), σ = [some (.str z), some (.ref r), some (.ref a), some (.ref b), s4, s5, s6] ∧ Kp [] H H1 ∧ RdAt K H1 r z j ∧ H1 a = some (.lst (sp1.map V.str)) ∧ H1 b = some (.lst (as.map V.ref)) ∧ RoadsAt K H1 as rs1 ∧
          pMapGo (cs z) m sp1 rs1 j = some (.ok (sp, rs)) ∧ (∀ w ∈ sp1, w.length ≤ 40) ∧ sp1.length ≤ 24 ∧ rs1.length ≤ 160, ⟨f, [], [], [], 0, none, none, none, rfl, k1, R1, ea, eb, .nil, hp, by simp, by decide, by decide⟩, ?_⟩
      rintro m σ H1 ⟨sp1, rs1, as, j, s4, s5, s6, rfl, k1, R1, ea1, eb1, ra1, hp1, hw1, hs1, ht1⟩
      obtain ⟨⟨dx1, h1⟩, _, _⟩ := id R1
      refine ⟨_, rfl, r, dx1, _, rfl, h1, rfl, r, z, j, rfl, R1, fun H2 k2 R2 => ⟨_, rfl, ?_⟩⟩
      have kk2 : Kp [] H H2 := fun x o _ ex => k2 x o (fun m => by
        rw [List.mem_singleton.mp m, nHr] at ex
        cases ex) (k1 x o (by simp) ex)
      have ea2 := lst_kp k2 R1 ea1
      have eb2 := lst_kp k2 R1 eb1
      have ra2 := roads_odd k2 (odd_rd R1) ra1
      clear h1 dx1 k2 R1 ea1 eb1 ra1 k1
      cases m with
      | zero => cases hp1
      | succ fu =>
        rw [pMapGo, cs_len] at hp1
        by_cases c : skipN isWs (cs z) j < z.length
        · rw [if_pos c] at hp1
          rw [decide_eq_true c]
          have hln : ∃ p j2, mapLine (cs z) sp1 rs1 (skipN isWs (cs z) j) = .ok (p, j2) ∧ pMapGo (cs z) fu p.1 p.2 j2 = some (.ok (sp, rs)) := by
            cases hl : mapLine (cs z) sp1 rs1 (skipN isWs (cs z) j) with
            | ok p =>
              rw [hl] at hp1
              exact ⟨p.1, p.2, rfl, hp1⟩
            | error e =>
              rw [hl] at hp1
              cases hp1
          obtain ⟨pp, j2, hl, hg⟩ := hln
          clear hp1
          unfold mapLine at hl
          obtain ⟨wd, j3, hwd, hl⟩ := bnd_ok hl
          obtain ⟨_, j4, hgp, hl⟩ := bnd_ok hl
          refine iteT ⟨fun σ' H' => ∃ (sp1 : List Str) (rs1 : List RoadM) (as : List Addr) (j : Nat) (s4 s5 s6 : Option V), σ' = [some (.str z), some (.ref r), some (.ref a), some (.ref b), s4, s5, s6] ∧ Kp [] H H' ∧ RdAt K H' r z j ∧ H' a = some (.lst (sp1.map V.str)) ∧ H' b = some (.lst (as.map V.ref)) ∧ RoadsAt K H' as rs1 ∧
            pMapGo (cs z) fu sp1 rs1 j = some (.ok (sp, rs)) ∧ (∀ w ∈ sp1, w.length ≤ 40) ∧ sp1.length ≤ 24 ∧ rs1.length ≤ 160, fun σ' H' h => ⟨fu, Nat.lt_succ_self _, h⟩, ?_⟩
          refine Evl.s_asgL (xs := (words1 sp1 rs1).map V.str) (el_if (Evl.et_and (et_nil false rfl (SqL.of eb2)) (fun _ => et_len rfl (SqL.of ea2))) (fun h => ?_) (fun h => ?_)) fun q H3 nq x3 e3 => ?_
          · have h' := h
            rw [Bool.and_eq_true, decide_eq_true_eq, List.length_map] at h'
            have ew : words1 sp1 rs1 = [("spot" : Str)] := if_pos ⟨roads_nil ra2 h'.1, by omega⟩
            rw [ew]
            exact Evl.el_lst (Evl.ea_cons Evl.ev_c Evl.ea_nil) (by decide)
          · have ew : words1 sp1 rs1 = [] := if_neg (fun ⟨q1, q2⟩ => by
              have h' : (((as.map V.ref).isEmpty) && decide (((sp1.map V.str).length : Int) < 24)) = false := h
              rw [List.length_map, roads_nil2 ra2 q1, decide_eq_true (by omega)] at h'
              cases h')
            rw [ew]
            exact Evl.el_lst Evl.ea_nil (by decide)
          have R3 := R2.kp (Kp.of (ms := []) x3) (by simp)
          have ra3 := roads_mono x3 ra2
          have ea3 := x3 _ _ ea2
          have eb3 := x3 _ _ eb2
          have kk3 := kk2.trans (Kp.of x3)
          have nHq : H q = none := fresh kk2 nq (by simp)
          refine ⟨fun σ H4 => σ = [some (.str z), some (.ref r), some (.ref a), some (.ref b), some (.ref q), s5, s6] ∧ Kp [q] H3 H4 ∧ H4 q = some (.lst ((mapWords sp1 rs1).map V.str)), ?_, ?_⟩
          · refine Evl.s_if (Evl.et_and (et_nil true rfl (SqL.of ea3)) (fun _ => et_len rfl (SqL.of eb3))) (fun h H4 x4 => ?_) (fun h H4 x4 => ?_)
            · have h' := h
              rw [Bool.and_eq_true, decide_eq_true_eq, List.length_map, roads_len ra3] at h'
              have ew : words2 sp1 rs1 = [("road" : Str)] := if_pos ⟨fun q => by rw [q] at h'; exact absurd h'.1 (by decide), by omega⟩
              refine Evl.s_app (x4 _ _ e3) (Evl.ev_var rfl) Evl.ev_c (by rw [List.length_map]; unfold words1; split <;> simp) (fun H5 x5 => ⟨rfl, ?_, ?_⟩)
              · exact (Kp.of (x4.trans x5)).put (List.mem_singleton.mpr rfl)
              · rw [upd_same]
                show some (HO.lst _) = some (HO.lst ((words1 sp1 rs1 ++ words2 sp1 rs1).map V.str))
                rw [ew, List.map_append]
                rfl
            · refine ⟨rfl, Kp.of x4, ?_⟩
              have ew : words2 sp1 rs1 = [] := if_neg (fun ⟨q1, q2⟩ => by
                have h' : ((!((sp1.map V.str).isEmpty)) && decide (((as.map V.ref).length : Int) < 160)) = false := h
                rw [List.length_map, roads_len ra3, empty_map, decide_eq_true (by omega)] at h'
                cases sp1 with
                | nil => exact q1 rfl
                | cons _ _ => cases h')
              show H4 q = some (HO.lst ((words1 sp1 rs1 ++ words2 sp1 rs1).map V.str))
              rw [ew, List.append_nil]
              exact x4 _ _ e3
          · rintro σ H4 ⟨rfl, k4, e4⟩
            have rq : r ≠ q := by
              obtain ⟨⟨_, h⟩, _, _⟩ := R2
              exact ne_of_none h nq
            have aq : a ≠ q := ne_of_none ea2 nq
            have bq : b ≠ q := ne_of_none eb2 nq
            have R4 := R3.kp k4 (by simpa using rq)
            have ra4 := roads_odd k4 (odd_lst e3) ra3
            have ea4 := k4 _ _ (by simpa using aq) ea3
            have eb4 := k4 _ _ (by simpa using bq) eb3
            have kk4 := kk3.out k4 nHq
            obtain ⟨⟨dx4, h4⟩, _, _⟩ := id R4
            refine ⟨_, rfl, r, dx4, _, rfl, h4, rfl, _, rfl, r, z, _, q, mapWords sp1 rs1, rfl, R4, SqL.of e4, ?_, ?_, Got.of hwd fun H5 k5 R5 => ?_⟩
            · exact Nat.le_trans (mapWords_len _ _) (by decide)
            · intro v hv
              rcases mapWords_mem hv with ⟨rfl, _⟩ | ⟨rfl, _⟩ <;> decide
            have ra5 := roads_odd k5 (odd_rd R4) ra4
            have ea5 := lst_kp k5 R4 ea4
            have eb5 := lst_kp k5 R4 eb4
            have kk5 := kk4.out k5 nHr
            obtain ⟨⟨dx5, h5⟩, _, _⟩ := id R5
            refine ⟨_, rfl, r, dx5, _, rfl, h5, rfl, r, z, _, rfl, R5, Got.of hgp fun H6 k6 R6 => ?_⟩
            have ra6 := roads_odd k6 (odd_rd R5) ra5
            have ea6 := lst_kp k6 R5 ea5
            have eb6 := lst_kp k6 R5 eb5
            have kk6 := kk5.out k6 nHr
            obtain ⟨⟨dx6, h6⟩, _, _⟩ := id R6
            refine ⟨fun σ H' => ∃ (sp1 : List Str) (rs1 : List RoadM) (as : List Addr) (j : Nat) (s4 s5 s6 : Option V), σ = [some (.str z), some (.ref r), some (.ref a), some (.ref b), s4, s5, s6] ∧ Kp [] H H' ∧ RdAt K H' r z j ∧ H' a = some (.lst (sp1.map V.str)) ∧ H' b = some (.lst (as.map V.ref)) ∧ RoadsAt K H' as rs1 ∧
              endU (cs z) j = .ok ((), j2) ∧ pp = (sp1, rs1) ∧ (∀ w ∈ sp1, w.length ≤ 40) ∧ sp1.length ≤ 24 ∧ rs1.length ≤ 160, ?_, ?_⟩
            · refine ⟨_, rfl, rfl, _, rfl, ?_⟩
              by_cases cw : wd = "spot"
              · rw [if_pos cw] at hl
                rw [decide_eq_true (congrArg V.str cw)]
                obtain ⟨nn, j5, hnn, hl⟩ := bnd_ok hl
                obtain ⟨_, j6, hen, hl⟩ := bnd_ok hl
                injection hl with hl
                injection hl with hl1 hl2
                have hlt : sp1.length < 24 := by
                  rcases mapWords_mem (pWord_ok hwd).1 with ⟨_, _, h⟩ | ⟨h, _⟩
                  · exact h
                  · rw [cw] at h
                    exact absurd h (by decide)
                refine iteT ⟨_, rfl, .inl ⟨rfl, _, SqL.of ea6⟩, ?_⟩
                refine ⟨_, rfl, r, dx6, _, rfl, h6, rfl, _, rfl, r, z, _, a, sp1, true, rfl, R6, SqL.of ea6, Nat.le_trans hs1 (by decide), Got.of hnn fun H7 k7 R7 => ?_⟩
                have ea7 := lst_kp k7 R6 ea6
                have eb7 := lst_kp k7 R6 eb6
                have ra7 := roads_odd k7 (odd_rd R6) ra6
                have kk7 := kk6.out k7 nHr
                have kp8 : Kp [a] H7 (upd H7 a (.lst (sp1.map V.str ++ [.str nn]))) := (Kp.refl _ _).put (List.mem_singleton.mpr rfl)
                have ra : r ≠ a := by
                  obtain ⟨⟨_, h⟩, _, _⟩ := R7
                  exact ne_of h ea7 (by intro q; cases q)
                refine ⟨a, _, _, rfl, rfl, ea7, by rw [List.length_map]; exact Nat.lt_of_lt_of_le (Nat.lt_of_le_of_lt hs1 (by decide)) (show 100 ≤ sizeLine by decide), ?_⟩
                refine ⟨sp1 ++ [nn], rs1, as, j5, _, _, _, rfl, kk7.out kp8 nHa, R7.kp kp8 (by simpa using ra), ?_, (upd_ne nab.symm).trans eb7, roads_odd kp8 (odd_lst ea7) ra7, ?_, hl1.symm, ?_, ?_, ht1⟩
                · rw [upd_same, List.map_append]
                  rfl
                · rw [hen, hl2]
                · intro w hw
                  rcases List.mem_append.mp hw with hw | hw
                  · exact hw1 w hw
                  · rw [List.mem_singleton.mp hw]
                    exact pName_le hnn
                · rw [List.length_append]
                  exact hlt
              · rw [if_neg cw] at hl
                have nw : ¬ V.str wd = V.str "spot" := fun q => cw (V.str.inj q)
                rw [decide_eq_false nw]
                obtain ⟨m, j5, hnn, hl⟩ := bnd_ok hl
                obtain ⟨_, j6, hen, hl⟩ := bnd_ok hl
                injection hl with hl
                injection hl with hl1 hl2
                have hlt : rs1.length < 160 := by
                  rcases mapWords_mem (pWord_ok hwd).1 with ⟨h, _⟩ | ⟨_, _, h⟩
                  · exact absurd h cw
                  · exact h
                refine iteF ⟨_, rfl, .inl ⟨rfl, _, SqL.of eb6⟩, ?_⟩
                refine ⟨_, rfl, _, rfl, _, rfl, b, rfl, ⟨_, SqL.of eb6⟩, fun D hD => ?_⟩
                refine lc_fm (fun _ => true) (fldOf H6 "name") (SqL.of eb6) hD (by rw [List.length_map, roads_len ra6]; omega) (fun x => rfl) (fun x hx => ev_yes) (fun x hx _ => ?_) (fun H7 x7 e7 => ?_)
                · obtain ⟨a3, ha3, rfl⟩ := List.mem_map.mp hx
                  obtain ⟨m3, hm3⟩ := roads_at ra6 ha3
                  exact road_name T rfl hm3
                · have en : (((as.map V.ref).filter fun _ => true).map (fldOf H6 "name")) = (rs1.map (·.name)).map V.str := by
                    rw [List.filter_eq_self.mpr (fun _ _ => rfl)]
                    exact roads_names ra6
                  rw [en] at e7
                  have R7 := R6.kp (Kp.of (ms := []) x7) (by simp)
                  refine ⟨r, z, _, a, D, sp1, rs1.map (·.name), true, rfl, R7, SqL.of (x7 _ _ ea6), SqL.of e7, Nat.le_trans hs1 (by decide), fun w hw => Nat.le_trans (hw1 w hw) (by decide), ?_, Got.of hnn fun H8 k8 R8 a2 H9 n9 k9 m9 => ?_⟩
                  · unfold Small
                    rw [List.length_map]
                    omega
                  have ea9 := k9 _ _ (by simp) (lst_kp k8 R7 (x7 _ _ ea6))
                  have eb9 := k9 _ _ (by simp) (lst_kp k8 R7 (x7 _ _ eb6))
                  have ra9 := roads_odd k9 (by simp) (roads_odd k8 (odd_rd R7) (roads_mono x7 ra6))
                  have kk9 := ((kk6.trans (Kp.of x7)).out k8 nHr).trans k9
                  have R9 := R8.kp k9 (by simp)
                  have kpb : Kp [b] H9 (upd H9 b (.lst (as.map V.ref ++ [.ref a2]))) := (Kp.refl _ _).put (List.mem_singleton.mpr rfl)
                  have rb : r ≠ b := by
                    obtain ⟨⟨_, h⟩, _, _⟩ := R9
                    exact ne_of h eb9 (by intro q; cases q)
                  refine ⟨b, _, _, rfl, rfl, eb9, ?_, ?_⟩
                  · rw [List.length_map, roads_len ra9]
                    exact Nat.lt_of_lt_of_le (Nat.lt_of_le_of_lt ht1 (by decide)) (show 1000 ≤ sizeLine by decide)
                  refine ⟨sp1, rs1 ++ [m], as ++ [a2], j5, _, _, _, rfl, kk9.out kpb nHb, R9.kp kpb (by simpa using rb), (upd_ne nab).trans ea9, ?_, roads_odd kpb (odd_lst eb9) (roads_app ra9 (.cons m9 .nil)), ?_, hl1.symm, hw1, hs1, ?_⟩
                  · rw [upd_same, List.map_append]
                    rfl
                  · rw [hen, hl2]
                  · rw [List.length_append]
                    exact hlt
            · rintro σ H' ⟨sp2, rs2, as2, j5, t4, t5, t6, rfl, kk, R', ea', eb', ra', hen, hpp, q1, q2, q3⟩
              obtain ⟨⟨dx', h'⟩, _, _⟩ := id R'
              refine ⟨_, rfl, r, dx', _, rfl, h', rfl, r, z, _, rfl, R', Got.of hen fun H8 k8 R8 => ?_⟩
              refine ⟨sp2, rs2, as2, j2, _, _, _, rfl, kk.out k8 nHr, R8, lst_kp k8 R' ea', lst_kp k8 R' eb', roads_odd k8 (odd_rd R') ra', ?_, q1, q2, q3⟩
              rw [hpp] at hg
              exact hg
        · rw [if_neg c] at hp1
          rw [decide_eq_false c]
          by_cases c2 : sp1 = []
          · rw [if_pos c2] at hp1
            cases hp1
          · rw [if_neg c2] at hp1
            injection hp1 with hp1
            injection hp1 with hp1
            injection hp1 with e1 e2
            subst e1 e2
            exact iteF ⟨as, s4, s5, s6, rfl, kk2, ea2, eb2, ra2, c2⟩
    · rintro σ H1 ⟨as, s4, s5, s6, rfl, k1, ea1, eb1, ra1, hne⟩
      refine ⟨_, rfl, by decide, fun q hq => ⟨a, q, _, rfl, rfl, SqL.of ((upd_ne (ne_of_none ea1 hq)).trans ea1), SqL.of upd_same, _, rfl, ?_⟩⟩
      have e0 : (sp.map V.str).isEmpty = false := by
        rw [empty_map]
        cases sp with
        | nil => exact absurd rfl hne
        | cons _ _ => rfl
      rw [e0]
      have x1 : Ex H1 (upd H1 q (.lst [])) := Evl.Ex.new hq
      refine iteF ⟨_, rfl, _, rfl, of_decide_eq_true rfl, fun t ht => ?_⟩
      have x2 := x1.trans (Evl.Ex.new (o := .tup [.ref a, .ref b]) ht)
      exact k t a b as _ (k1.trans (Kp.of x2)) (SqT.of upd_same) (SqL.of (x2 _ _ ea1)) (SqL.of (x2 _ _ eb1)) (roads_mono x2 ra1)
end
end Lx
set_option Elab.async false
set_option linter.all false
set_option maxRecDepth 100000
set_option maxHeartbeats 4000000
namespace Lx
open PySem PySem.Spec PyProof.Rows L2 Pz
section
variable {P : Program} {w : World} {K : PySem.W.Frag} {mg : Str → Option Value} {base : Heap}
theorem words_len {m : RoadM} (h : RoadOk m) : ∀ p ∈ roadWords m ++ m.label.toList, p.length ≤ 1000 := by
  intro p hp
  have t : ∀ n : Int, -100 ≤ n ∧ n ≤ 100 → (toString n : Str).length ≤ 1000 := fun n hn => Nat.le_trans (num_fact hn.1 hn.2).1 (by decide)
  rcases List.mem_append.mp hp with hp | hp
  · unfold roadWords at hp
    rcases List.mem_cons.mp hp with rfl | hp
    · decide
    rcases List.mem_cons.mp hp with rfl | hp
    · exact h.n1
    rcases List.mem_cons.mp hp with rfl | hp
    · exact h.n2
    rcases List.mem_cons.mp hp with rfl | hp
    · exact h.n3
    rcases List.mem_cons.mp hp with rfl | hp
    · exact t _ h.x1
    rcases List.mem_cons.mp hp with rfl | hp
    · exact t _ h.x2
    · rw [List.mem_singleton.mp hp]
      exact t _ h.x3
  · cases hl : m.label with
    | none =>
      rw [hl] at hp
      cases hp
    | some s =>
      rw [hl] at hp
      rw [List.mem_singleton.mp hp]
      exact h.n4 s hl
theorem line_len {m : RoadM} (h : RoadOk m) : (lineOf m).length ≤ 10000 := by
  have h1 := join_len (y := " ") (words_len h)
  have h2 : (roadWords m ++ m.label.toList).length ≤ 8 := by
    rw [List.length_append]
    cases m.label <;> simp [roadWords]
  have h3 : (" " : Str).length = 1 := rfl
  rw [h3] at h1
  exact Nat.le_trans h1 (Nat.le_trans (Nat.mul_le_mul_right _ h2) (by decide))
theorem join_ok {ps : List Str} {y : Str} {n c : Nat} (h : ∀ p ∈ ps, p.length ≤ n) (hc : ps.length ≤ c) (hz : c * n + c * y.length ≤ 16777216) : (ps.map (·.length)).sum + ps.length * y.length ≤ 16777216 := by
  have h1 := sum_le (f := fun p : Str => p.length) h
  have h2 := Nat.mul_le_mul_right n hc
  have h3 := Nat.mul_le_mul_right y.length hc
  omega
def spLineOf (K : PySem.W.Frag) : Sp := fun vs H Q _ => ∃ a m, vs = [.ref a] ∧ RoadAt K H a m ∧ RoadOk m ∧ ∀ H', Ex H H' → Q (.str (lineOf m)) H'
theorem ok_line_of (T : TT K mg base) : Ok P w K mg base 1 (He.ga K "line_of") ["road"] [] (spLineOf K) := by
  refine ok_mk T.f_line_of sc_line_of (fun vs H Q E h => ?_) (fun _ _ _ _ _ _ us hl => match us, hl with | [_], _ => rfl) (fun cdv A outer s H vs Q E hr h => ?_)
  · obtain ⟨a, m, rfl, _⟩ := h
    rfl
  · obtain ⟨a, m, rfl, ⟨dx, sh, h1, h2⟩, ho, k⟩ := h
    refine ⟨_, (pss_cons (ps_set (i := 1) sc_line_of.nd rfl (by first | exact Or.inl rfl | exact Or.inr rfl) (pe_lst (pa_cons pe_str (pa_cons (pe_fld (pv 0) rfl) (pa_cons (pe_fld (pv 0) rfl) (pa_cons (pe_fld (pv 0) rfl) (pa_cons (pe_callTy call_str_int (by rfl) T.b_str (by decide +kernel) (pa_cons (pe_ix ix_tup (pe_fld (pv 0) rfl) pe_int (fun _ _ => rfl)) pa_nil)) (pa_cons (pe_callTy call_str_int (by rfl) T.b_str (by decide +kernel) (pa_cons (pe_ix ix_tup (pe_fld (pv 0) rfl) pe_int (fun _ _ => rfl)) pa_nil)) (pa_cons (pe_callTy call_str_int (by rfl) T.b_str (by decide +kernel) (pa_cons (pe_fld (pv 0) rfl) pa_nil)) pa_nil)))))))))
      (Evl.pss_cut (ps_if (pt_cmpR op_notN (pe_fld (pv 0) rfl) pe_non (nomark _))
      (pss_one (ps_expr (pe_bm PySem.F.plainAttrs_list PySem.F.slot_list_append PySem.F.type_list_append mt_append (pv 1) (pa_cons (pe_fld (pv 0) rfl) pa_nil))))
      pss_nil)
      (pss_one (ps_ret (pe_join pe_str (pv 1)))))), ?_⟩
    have el0 : roadWords m ++ m.label.toList = [("road" : Str), m.name, m.start, m.stop, (toString m.dx : Str), (toString m.dy : Str), (toString m.price : Str)] ++ m.label.toList := rfl
    refine Evl.s_asgL (xs := (roadWords m).map V.str) (Evl.el_lst (Evl.ea_cons Evl.ev_c (Evl.ea_cons (ev_fld rfl h1 T.k_Road T.n_Road_name rfl) (Evl.ea_cons (ev_fld rfl h1 T.k_Road T.n_Road_start rfl) (Evl.ea_cons (ev_fld rfl h1 T.k_Road T.n_Road_end rfl)
      (Evl.ea_cons (Evl.ev_cb (Evl.ea_cons (Evl.ev_op (ev_fld rfl h1 T.k_Road T.n_Road_shift rfl) Evl.ev_c (Evl.rv_ixT h2 (atI_nat (j := 0) rfl))) Evl.ea_nil) (rc_str (log_small ho.x1.1 ho.x1.2)))
      (Evl.ea_cons (Evl.ev_cb (Evl.ea_cons (Evl.ev_op (ev_fld rfl h1 T.k_Road T.n_Road_shift rfl) Evl.ev_c (Evl.rv_ixT h2 (atI_nat (j := 1) rfl))) Evl.ea_nil) (rc_str (log_small ho.x2.1 ho.x2.2)))
      (Evl.ea_cons (Evl.ev_cb (Evl.ea_cons (ev_fld rfl h1 T.k_Road T.n_Road_price rfl) Evl.ea_nil) (rc_str (log_small ho.x3.1 ho.x3.2))) Evl.ea_nil))))))) (of_decide_eq_true rfl)) fun q H1 nq x1 e1 => ?_
    refine ⟨fun σ H2 => σ = [some (.ref a), some (.ref q)] ∧ Kp [q] H1 H2 ∧ H2 q = some (.lst ((roadWords m ++ m.label.toList).map V.str)), ?_, ?_⟩
    · refine Evl.s_if (et_notN (ev_fld rfl (x1 _ _ h1) T.k_Road T.n_Road_label rfl)) (fun h H2 x2 => ?_) (fun h H2 x2 => ?_)
      · cases hl : m.label with
        | none =>
          rw [hl] at h
          cases h
        | some s =>
          refine Evl.s_app (x2 _ _ e1) (Evl.ev_var rfl) (ev_fld rfl (x2 _ _ (x1 _ _ h1)) T.k_Road T.n_Road_label rfl) (by rw [List.length_map]; simp [roadWords]) (fun H3 x3 => ⟨rfl, (Kp.of (x2.trans x3)).put (List.mem_singleton.mpr rfl), ?_⟩)
          rw [upd_same, hl, List.map_append]
          rfl
      · refine ⟨rfl, Kp.of x2, ?_⟩
        cases hl : m.label with
        | none =>
          show H2 q = some (.lst ((roadWords m ++ []).map V.str))
          rw [List.append_nil]
          exact x2 _ _ e1
        | some s =>
          rw [hl] at h
          cases h
    · rintro σ H2 ⟨rfl, k2, e2⟩
      have kk : Ex H H2 := fun x o ex => k2 x o (fun mm => by
        rw [List.mem_singleton.mp mm, nq] at ex
        cases ex) (x1 x o ex)
      refine ⟨⟨_, rfl⟩, _, rfl, _, q, _, rfl, rfl, .inl (SqL.of e2), join_ok (y := " ") (n := 1000) (c := 8) (words_len ho) ?_ (by decide), k _ kk⟩
      rw [List.length_append]
      cases m.label <;> simp [roadWords]
theorem roads_get {H : Hp} {as : List Addr} {rs : List RoadM} (h : RoadsAt K H as rs) {i : Nat} {a : Addr} (e : as[i]? = some a) : ∃ m, rs[i]? = some m ∧ RoadAt K H a m := by
  induction h generalizing i with
  | nil => cases e
  | cons h1 _ ih =>
    cases i with
    | zero =>
      cases e
      exact ⟨_, rfl, h1⟩
    | succ i => exact ih e
def spTextOf (K : PySem.W.Frag) : Sp := fun vs H Q _ => ∃ a b sp as rs, vs = [.ref a, .ref b] ∧ SqT K H a (sp.map V.str) ∧ SqT K H b (as.map V.ref) ∧ RoadsAt K H as rs ∧ (∀ s ∈ sp, s.length ≤ 1000) ∧ (∀ m ∈ rs, RoadOk m) ∧ sp.length ≤ 200 ∧ rs.length ≤ 200 ∧ ∀ H', Ex H H' → Q (.str (mapText sp rs)) H'
theorem ok_text_of (T : TT K mg base) : Ok P w K mg base 2 (He.ga K "text_of") ["spots", "roads"] [] (spTextOf K) := by
  refine ok_mk T.f_text_of sc_text_of (fun vs H Q E h => ?_) (fun _ _ _ _ _ _ us hl => match us, hl with | [_, _], _ => rfl) (fun cdv A outer s H vs Q E hr h => ?_)
  · obtain ⟨a, b, sp, as, rs, rfl, _⟩ := h
    rfl
  · obtain ⟨a, b, sp, as, rs, rfl, ha, hb, hr', hs1, hm1, hs2, hm2, k⟩ := h
    refine ⟨_, (pss_cons (ps_set (i := 2) sc_text_of.nd rfl (by first | exact Or.inl rfl | exact Or.inr rfl) (pe_op op_cat (pe_lcB s H (own := [("name", 3)]) rfl sc_text_of.nd (pi_tup (pv 0)) (blkOk_by (own := [("name", 3)]) (N := nm_text_of) (sc := defScope s_text_of) (by decide +kernel)) (fun _ _ _ _ _ => (pg_name (i := 3) sc_text_of.nd rfl (by first | exact Or.inl rfl | exact Or.inr rfl))) (fun _ _ _ _ _ => pts_nil) (fun _ _ _ _ _ => (pe_op op_add_str pe_str (pv 3)))) (pe_lcB s H (own := [("road", 4)]) rfl sc_text_of.nd (pi_tup (pv 1)) (blkOk_by (own := [("road", 4)]) (N := nm_text_of) (sc := defScope s_text_of) (by decide +kernel)) (fun _ _ _ _ _ => (pg_name (i := 4) sc_text_of.nd rfl (by first | exact Or.inl rfl | exact Or.inr rfl))) (fun _ _ _ _ _ => pts_nil) (fun _ _ _ _ _ => (po_call (ok_line_of T) (hr.mono (by decide)) rfl T.g_line_of passL (pa_cons (pv 4) pa_nil))))))
      (pss_one (ps_ret (pe_join pe_str (pe_lcB s H (own := [("line", 5)]) rfl sc_text_of.nd (pi_list (pv 2)) (blkOk_by (own := [("line", 5)]) (N := nm_text_of) (sc := defScope s_text_of) (by decide +kernel)) (fun _ _ _ _ _ => (pg_name (i := 5) sc_text_of.nd rfl (by first | exact Or.inl rfl | exact Or.inr rfl))) (fun _ _ _ _ _ => pts_nil) (fun _ _ _ _ _ => (pe_op op_add_str (pv 5) pe_str))))))), ?_⟩
    have hl1 : ∀ p ∈ sp.map (fun n => ("spot " : Str) ++ n) ++ rs.map lineOf, p.length ≤ 10000 := fun p hp => by
      rcases List.mem_append.mp hp with hp | hp
      · obtain ⟨n, hn, rfl⟩ := List.mem_map.mp hp
        rw [Str.length_append]
        exact Nat.le_trans (Nat.add_le_add_left (hs1 n hn) _) (by decide)
      · obtain ⟨m, hm, rfl⟩ := List.mem_map.mp hp
        exact line_len (hm1 m hm)
    refine Evl.s_asgL (xs := (sp.map (fun n => ("spot " : Str) ++ n) ++ rs.map lineOf).map V.str) ?_ fun q H1 nq x1 e1 => ?_
    · rw [List.map_append]
      refine el_cat (el_mapT (Evl.ev_var rfl) ha (by simp) (by simp; omega) (fun x => rfl) (fun i x y hx hy => ?_)) (el_mapT (Evl.ev_var rfl) hb (by rw [List.length_map, List.length_map, List.length_map, roads_len hr']) (by simp; omega) (fun x => rfl) (fun i x y hx hy => ?_)) (by simp; omega)
      · rw [List.getElem?_map] at hx hy
        rw [List.getElem?_map] at hy
        cases hg : sp[i]? with
        | none =>
          rw [hg] at hx
          cases hx
        | some s =>
          rw [hg] at hx hy
          cases hx
          cases hy
          exact Evl.ev_op Evl.ev_c (Evl.ev_var rfl) (rv_addS (Nat.le_trans (Nat.add_le_add_left (hs1 s (List.mem_of_getElem? hg)) _) (by decide)))
      · rw [List.getElem?_map] at hx hy
        rw [List.getElem?_map] at hy
        cases hg : as[i]? with
        | none =>
          rw [hg] at hx
          cases hx
        | some s =>
          obtain ⟨m, hm, hr2⟩ := roads_get hr' hg
          rw [hg] at hx
          rw [hm] at hy
          cases hx
          cases hy
          exact Evl.ev_call (Evl.ea_cons (Evl.ev_var rfl) Evl.ea_nil) (fun H1 e1 Q q E => ⟨s, m, rfl, road_mono e1 hr2, hm1 m (List.mem_of_getElem? hm), q⟩)
    refine ⟨⟨_, rfl⟩, ?_⟩
    refine el_mapL (ys := ((sp.map (fun n => ("spot " : Str) ++ n) ++ rs.map lineOf).map fun s => s ++ ("\n" : Str)).map V.str) (Evl.ev_var rfl) (SqL.of e1) (by simp) ?_ (fun x => rfl) ?_ H1 (Evl.Ex.refl _) _ fun p H2 np x2 e2 => ?_
    · simp
      omega
    · intro i x y hx hy
      rw [List.getElem?_map] at hx hy
      rw [List.getElem?_map] at hy
      cases hg : (sp.map (fun n => ("spot " : Str) ++ n) ++ rs.map lineOf)[i]? with
      | none =>
        rw [hg] at hx
        cases hx
      | some s =>
        rw [hg] at hx hy
        cases hx
        cases hy
        exact Evl.ev_op (Evl.ev_var rfl) Evl.ev_c (rv_addS (Nat.le_trans (Nat.add_le_add_right (hl1 s (List.mem_of_getElem? hg)) _) (by decide)))
    · refine ⟨_, p, _, rfl, rfl, .inl (SqL.of e2), join_ok (y := "") (n := 10001) (c := 400) (fun p hp => ?_) (by simp; omega) (by decide), k _ (x1.trans x2)⟩
      obtain ⟨s, hs, rfl⟩ := List.mem_map.mp hp
      rw [Str.length_append]
      exact Nat.add_le_add_right (hl1 s hs) 1
end
end Lx
set_option Elab.async false
set_option linter.all false
set_option maxRecDepth 100000
set_option maxHeartbeats 4000000
namespace Lx
open PySem PySem.Spec PyProof.Rows L2 Pz
section
variable {P : Program} {w : World} {K : PySem.W.Frag} {mg : Str → Option Value} {base : Heap}
def mapF (t1 t2 : Addr) (txt : Str) (d1 d2 : Addr) : List (Str × V) := [("spots", .ref t1), ("roads", .ref t2), ("text", .str txt), ("by_name", .ref d1), ("by_start", .ref d2)]
def startsAt (rs : List RoadM) (s : Str) : List RoadM := rs.filter fun r => decide (r.start = s)
/-- by_start's items -/
def ByAt (K : PySem.W.Frag) (H : Hp) (kvs : List (Key × V)) (rs : List RoadM) (sp : List Str) : Prop := ∀ s ∈ sp, ∃ l bs, valV kvs (.inr s) = some (.ref l) ∧ H l = some (.lst (bs.map V.ref)) ∧ RoadsAt K H bs (startsAt rs s)
structure MapAt (K : PySem.W.Frag) (H : Hp) (a : Addr) (sp : List Str) (rs : List RoadM) : Prop where
  ex : ∃ dx t1 t2 d1 d2 kvs, H a = some (.ins (He.ga K "Map") dx (mapF t1 t2 (mapText sp rs) d1 d2)) ∧ SqT K H t1 (sp.map V.str) ∧ H d2 = some (.dK kvs) ∧ ByAt K H kvs rs sp
  n1 : ∀ s ∈ sp, s.length ≤ 1000
  n2 : ∀ m ∈ rs, RoadOk m
  l1 : sp.length ≤ 200
  l2 : rs.length ≤ 200
theorem by_mono {H H' : Hp} {kvs : List (Key × V)} {rs : List RoadM} {sp : List Str} (e : Ex H H') (h : ByAt K H kvs rs sp) : ByAt K H' kvs rs sp := fun s hs => by
  obtain ⟨l, bs, h1, h2, h3⟩ := h s hs
  exact ⟨l, bs, h1, e _ _ h2, roads_mono e h3⟩
theorem MapAt.mono {H H' : Hp} {a : Addr} {sp : List Str} {rs : List RoadM} (h : MapAt K H a sp rs) (e : Ex H H') : MapAt K H' a sp rs := by
  obtain ⟨⟨dx, t1, t2, d1, d2, kvs, h1, h2, h3, h4⟩, n1, n2, l1, l2⟩ := h
  exact ⟨⟨dx, t1, t2, d1, d2, kvs, e _ _ h1, st_mono e h2, e _ _ h3, by_mono e h4⟩, n1, n2, l1, l2⟩
/-- another dict may change -/
theorem MapAt.off {H H' : Hp} {a p : Addr} {sp : List Str} {rs : List RoadM} {kk : List (Key × V)} (h : MapAt K H a sp rs) (k : Kp [p] H H') (hp : H p = some (.dK kk)) (n : ∀ dx t1 t2 d1 d2, H a = some (.ins (He.ga K "Map") dx (mapF t1 t2 (mapText sp rs) d1 d2)) → d2 ≠ p) : MapAt K H' a sp rs := by
  obtain ⟨⟨dx, t1, t2, d1, d2, kvs, h1, h2, h3, h4⟩, n1, n2, l1, l2⟩ := h
  have od : ∀ q ∈ [p], ∃ u, H q = some u ∧ Odd u := fun q hq => ⟨.dK kk, by rw [List.mem_singleton.mp hq]; exact hp, .inr (.inr ⟨_, rfl⟩)⟩
  refine ⟨⟨dx, t1, t2, d1, d2, kvs, k _ _ (fun m => ?_) h1, st_odd k od h2, k _ _ (fun m => n _ _ _ _ _ h1 (List.mem_singleton.mp m)) h3, fun s hs => ?_⟩, n1, n2, l1, l2⟩
  · rw [List.mem_singleton.mp m, hp] at h1
    cases h1
  · obtain ⟨l, bs, g1, g2, g3⟩ := h4 s hs
    refine ⟨l, bs, g1, k _ _ (fun m => ?_) g2, roads_odd k od g3⟩
    rw [List.mem_singleton.mp m, hp] at g2
    cases g2
def spCheckSpot (K : PySem.W.Frag) : Sp := fun vs H Q _ => ∃ a s sp rs, vs = [.ref a, .str s] ∧ MapAt K H a sp rs ∧ s ∈ sp ∧ Q .non H
theorem ok_check_spot (T : TT K mg base) : Ok P w K mg base 3 (He.ga K "check_spot") ["land", "name"] [] (spCheckSpot K) := by
  refine ok_mk T.f_check_spot sc_check_spot (fun vs H Q E h => ?_) (fun _ _ _ _ _ _ us hl => match us, hl with | [_, _], _ => rfl) (fun cdv A outer s H vs Q E hr h => ?_)
  · obtain ⟨a, s, sp, rs, rfl, _⟩ := h
    rfl
  · obtain ⟨a, x, sp, rs, rfl, ⟨⟨dx, t1, t2, d1, d2, kvs, h1, h2, h3, h4⟩, _, _, _, _⟩, hs, k⟩ := h
    refine ⟨_, (pss_one (ps_if (PW.pt (pw_or (pt_not (pt_val (pe_callB call_isi (by rfl) T.b_isinstance (by decide +kernel) (pa_cons (pv 1) (pa_cons (pe_bltn (v := .ty "str") (by rfl) T.b_str (by decide +kernel) rfl) pa_nil))))) (pw_or1 (pt_cmpR op_notIn_seq (pv 1) (pe_fld (pv 0) rfl) rfl))))
      pss_never
      pss_nil)), ?_⟩
    refine ⟨_, rfl, .str x, .ty "str", .type "str", .type "str", true, rfl, .ty "str", .base (.str x), kit_ty (by decide +kernel), _, rfl, iteF ?_⟩
    refine ⟨_, rfl, _, rfl, a, _, dx, _, _, rfl, h1, T.k_Map, T.n_Map_spots, rfl, t1, _, rfl, .inr h2, rfl, flat_strs sp, _, rfl, ?_⟩
    have e : inV (.str x) (sp.map V.str) = true := by rw [inV_strs, decide_eq_true hs]
    show (if (!inV (.str x) (sp.map V.str)) = true then _ else _)
    rw [e]
    exact iteF k
def spRoadsFrom (K : PySem.W.Frag) : Sp := fun vs H Q _ => ∃ a s sp rs, vs = [.ref a, .str s] ∧ MapAt K H a sp rs ∧ s ∈ sp ∧ ∀ t bs, H t = none → RoadsAt K H bs (startsAt rs s) → Q (.ref t) (upd H t (.tup (bs.map V.ref)))
theorem ok_Map_roads_from (T : TT K mg base) : Ok P w K mg base 4 (He.ma K (He.ga K "Map") "roads_from") ["self", "spot"] [] (spRoadsFrom K) := by
  refine ok_mk T.f_Map_roads_from sc_Map_roads_from (fun vs H Q E h => ?_) (fun _ _ _ _ _ _ us hl => match us, hl with | [_, _], _ => rfl) (fun cdv A outer s H vs Q E hr h => ?_)
  · obtain ⟨a, s, sp, rs, rfl, _⟩ := h
    rfl
  · obtain ⟨a, x, sp, rs, rfl, M, hs, k⟩ := h
    refine ⟨_, (pss_cons (ps_expr (po_call (ok_check_spot T) (hr.mono (by decide)) rfl T.g_check_spot px_of (pa_cons (pv 0) (pa_cons (pv 1) pa_nil))))
      (pss_one (ps_ret (pe_callTy call_tuple_of (by rfl) T.b_tuple (by decide +kernel) (pa_cons (pe_dget (hu1 hr) (pe_fld (pv 0) rfl) (pv 1) (fun _ _ => rfl)) pa_nil))))), ?_⟩
    refine ⟨_, rfl, _, rfl, a, x, sp, rs, rfl, M, hs, ?_⟩
    obtain ⟨⟨dx, t1, t2, d1, d2, kvs, h1, h2, h3, h4⟩, _, _, _, _⟩ := M
    obtain ⟨l, bs, v1, v2, v3⟩ := h4 x hs
    refine ⟨_, rfl, a, _, dx, _, _, rfl, h1, T.k_Map, T.n_Map_by_start, rfl, _, rfl, d2, _, rfl, .inl ⟨kvs, .inr x, .inl h3, rfl, v1.symm⟩, ?_⟩
    exact ⟨l, _, rfl, .inl ⟨SqL.of v2, fun t ht => k t bs ht v3⟩⟩
theorem roads_starts {H : Hp} {as : List Addr} {rs : List RoadM} (h : RoadsAt K H as rs) (s : Str) : ∃ bs : List Addr, ((as.map V.ref).filter fun x => decide (fldOf H "start" x = .str s)) = bs.map V.ref ∧ RoadsAt K H bs (startsAt rs s) := by
  induction h with
  | nil => exact ⟨[], rfl, .nil⟩
  | @cons a m as ms h1 _ ih =>
    obtain ⟨bs, e1, e2⟩ := ih
    obtain ⟨dx, sh, e, e3⟩ := h1
    have ef : fldOf H "start" (.ref a) = .str m.start := by rw [fldOf_ins e]; rfl
    unfold startsAt at e2 ⊢
    rw [List.map_cons, List.filter_cons, List.filter_cons, ef, e1]
    by_cases c : m.start = s
    · have c2 : V.str m.start = V.str s := congrArg V.str c
      rw [decide_eq_true c, decide_eq_true c2]
      exact ⟨a :: bs, rfl, .cons ⟨dx, sh, e, e3⟩ e2⟩
    · have c2 : ¬ V.str m.start = V.str s := fun q => c (V.str.inj q)
      rw [decide_eq_false c, decide_eq_false c2]
      exact ⟨bs, rfl, e2⟩
theorem road_start (T : TT K mg base) {σ : L2.St} {H : Hp} {i : Nat} {a : Addr} {m : RoadM} (hs : σ[i]? = some (some (.ref a))) (h : RoadAt K H a m) : Evl.Ev (tFld K (tVar i) "start") σ H (fldOf H "start" (.ref a)) := by
  obtain ⟨dx, sh, e, _⟩ := h
  rw [fldOf_ins e]
  exact ev_fld hs e T.k_Road T.n_Road_start rfl
theorem start_str {H : Hp} {a : Addr} {m : RoadM} (h : RoadAt K H a m) : fldOf H "start" (.ref a) = .str m.start := by
  obtain ⟨dx, sh, e, _⟩ := h
  rw [fldOf_ins e]
  rfl
def spMap0 (K : PySem.W.Frag) : Sp := fun vs H Q _ => ∃ a dx z f sp rs, vs = [.ref a, .str z, .non] ∧ H a = some (.ins (He.ga K "Map") dx []) ∧ z.length ≤ 4000000 ∧ pMapGo (cs z) f [] [] 0 = some (.ok (sp, rs)) ∧
  (∀ s ∈ sp, s.length ≤ 1000) ∧ (∀ m ∈ rs, RoadOk m) ∧ sp.length ≤ 200 ∧ rs.length ≤ 200 ∧ ∀ H', Kp [a] H H' → MapAt K H' a sp rs → (∃ dx t1 t2 d1 d2, H' a = some (.ins (He.ga K "Map") dx (mapF t1 t2 (mapText sp rs) d1 d2)) ∧ H d2 = none) → Q .non H'
theorem body_Map___init__ (T : TT K mg base) {f : Addr} {cdv : Value} {A : Around} {outer : List Env} {s : Shared} {H : Hp} {vs : List V} {Q : VK} {E : XK} (hr : Room 8 (A.deeper (envOfC "Map.__init__" (defScope s_Map___init__) s.heap.objs.size f cdv))) (h : spMap0 K vs H Q E) : ∃ t, PSs (cxOf (L2.CX P w) P w K mg base nm_Map___init__ "Map.__init__" (defScope s_Map___init__) f cdv A outer s H E) (defBody s_Map___init__) t ∧ t { nx := fun _ H' => Q .non H', rt := Q } (L2.start nm_Map___init__ vs) H := by
  obtain ⟨a, dx, z, f, sp, rs, rfl, h1, hz, hp, n1, n2, l1, l2, k⟩ := h
  refine ⟨_, (pss_cons (ps_asg (pe_ifExp (pt_cmpR op_isN (pv 2) pe_non (nomark _)) (po_call (ok_read_map T) (hr.mono (by decide)) rfl T.g_read_map px_of (pa_cons (pv 1) pa_nil)) (pv 2)) (pg_tup rfl (pgs_cons (pg_name (i := 3) sc_Map___init__.nd rfl (by first | exact Or.inl rfl | exact Or.inr rfl)) (pgs_cons (pg_name (i := 4) sc_Map___init__.nd rfl (by first | exact Or.inl rfl | exact Or.inr rfl)) pgs_nil))))
      (pss_cons (ps_asg (pe_tup (pa_cons (pe_callTy call_tuple_of (by rfl) T.b_tuple (by decide +kernel) (pa_cons (pv 3) pa_nil)) (pa_cons (pe_callTy call_tuple_of (by rfl) T.b_tuple (by decide +kernel) (pa_cons (pv 4) pa_nil)) pa_nil))) (pg_tup rfl (pgs_cons (pg_fld (pv 0)) (pgs_cons (pg_fld (pv 0)) pgs_nil))))
      (pss_cons (ps_fld (pv 0) (po_call (ok_text_of T) (hr.mono (by decide)) rfl T.g_text_of px_of (pa_cons (pe_fld (pv 0) rfl) (pa_cons (pe_fld (pv 0) rfl) pa_nil))) rfl)
      (pss_cons (ps_fld (pv 0) (pe_dcB s H (own := [("road", 5)]) rfl sc_Map___init__.nd (pi_tup (pe_fld (pv 0) rfl)) (blkOk_by (own := [("road", 5)]) (N := nm_Map___init__) (sc := defScope s_Map___init__) (by decide +kernel)) (fun _ _ _ _ _ => (pg_name (i := 5) sc_Map___init__.nd rfl (by first | exact Or.inl rfl | exact Or.inr rfl))) (fun _ _ _ _ _ => pts_nil) (fun _ _ _ _ _ => (pe_fld (pv 5) rfl)) (fun _ _ _ _ _ => (pv 5))) rfl)
      (pss_one (ps_fld (pv 0) (pe_dcB s H (own := [("spot", 6)]) rfl sc_Map___init__.nd (pi_tup (pe_fld (pv 0) rfl)) (blkOk_by (own := [("spot", 6)]) (N := nm_Map___init__) (sc := defScope s_Map___init__) (by decide +kernel)) (fun _ _ _ _ _ => (pg_name (i := 6) sc_Map___init__.nd rfl (by first | exact Or.inl rfl | exact Or.inr rfl))) (fun _ _ _ _ _ => pts_nil) (fun _ _ _ _ _ => (pv 6)) (fun _ _ _ _ _ => (pe_lcB s H (own := [("road", 5)]) rfl sc_Map___init__.nd (pi_tup (pe_fld (pv 0) rfl)) (blkOk_by (own := [("road", 5)]) (N := nm_Map___init__) (by kernel_rfl)) (fun _ _ _ _ _ => (pg_name (i := 5) sc_Map___init__.nd rfl (by first | exact Or.inl rfl | exact Or.inr rfl))) (fun _ _ _ _ _ => (pts_one (pt_cmpR op_eq (pe_fld (pv 5) rfl) (pv 6) (nomark _)))) (fun _ _ _ _ _ => (pv 5))))) rfl)))))), ?_⟩
  refine ⟨_, rfl, rfl, _, rfl, iteT ⟨_, rfl, z, f, sp, rs, rfl, hz, hp, fun t p q as H1 k1 ht hp1 hq1 ra1 => ?_⟩⟩
  refine ⟨t, _, rfl, ht, rfl, _, _, rfl, _, _, rfl, rfl, ?_⟩
  have a1 := k1.ex a _ h1
  have kp1 : Kp [a] H H1 := k1.mono (by simp)
  refine ⟨_, rfl, p, _, rfl, .inl ⟨hp1, fun u1 hu1 => ?_⟩⟩
  refine ⟨_, rfl, q, _, rfl, .inl ⟨sl_mono (Evl.Ex.new hu1) hq1, fun u2 hu2 => ?_⟩⟩
  refine ⟨of_decide_eq_true rfl, fun u3 hu3 => ?_⟩
  have x3 : Ex H1 (upd (upd (upd H1 u1 (.tup (sp.map V.str))) u2 (.tup (as.map V.ref))) u3 (.tup [.ref u1, .ref u2])) := ((Evl.Ex.new hu1).trans (Evl.Ex.new hu2)).trans (Evl.Ex.new hu3)
  have e31 : upd (upd (upd H1 u1 (.tup (sp.map V.str))) u2 (.tup (as.map V.ref))) u3 (.tup [.ref u1, .ref u2]) u1 = some (.tup (sp.map V.str)) := (Evl.Ex.new hu3) _ _ ((Evl.Ex.new hu2) _ _ upd_same)
  have e32 : upd (upd (upd H1 u1 (.tup (sp.map V.str))) u2 (.tup (as.map V.ref))) u3 (.tup [.ref u1, .ref u2]) u2 = some (.tup (as.map V.ref)) := (Evl.Ex.new hu3) _ _ upd_same
  have e33 : upd (upd (upd H1 u1 (.tup (sp.map V.str))) u2 (.tup (as.map V.ref))) u3 (.tup [.ref u1, .ref u2]) u3 = some (.tup [.ref u1, .ref u2]) := upd_same
  refine ⟨u3, _, rfl, SqT.of e33, rfl, ?_⟩
  generalize upd (upd (upd H1 u1 (.tup (sp.map V.str))) u2 (.tup (as.map V.ref))) u3 (.tup [.ref u1, .ref u2]) = H3 at x3 e31 e32 e33 ⊢
  have kp3 := kp1.trans (Kp.of x3)
  have ra3 := roads_mono x3 ra1
  have a3 := x3 _ _ a1
  clear kp1 x3 ra1 a1 e33 hu3 hu2 hu1 hp1 hq1 ht k1
  refine ⟨_, _, rfl, _, rfl, a, _, dx, _, rfl, a3, T.k_Map, T.n_Map_spots, of_decide_eq_true rfl, ?_⟩
  refine ⟨_, _, rfl, _, rfl, a, _, dx, _, rfl, upd_same, T.k_Map, T.n_Map_roads, of_decide_eq_true rfl, rfl, ?_⟩
  rw [upd_upd]
  have kp4 := kp3.put (o := .ins (He.ga K "Map") dx [("spots", .ref u1), ("roads", .ref u2)]) (List.mem_singleton.mpr rfl)
  have kk4 : Kp [a] H3 (upd H3 a (.ins (He.ga K "Map") dx [("spots", .ref u1), ("roads", .ref u2)])) := (Kp.refl _ _).put (List.mem_singleton.mpr rfl)
  have od4 : ∀ p ∈ [a], ∃ u, H3 p = some u ∧ Odd u := fun p hp => ⟨.ins (He.ga K "Map") dx [], by rw [List.mem_singleton.mp hp]; exact a3, .inr (.inl ⟨_, _, _, rfl, rfl⟩)⟩
  have ra4 := roads_odd kk4 od4 ra3
  have e41 := kk4 u1 _ (fun m => by rw [List.mem_singleton.mp m, a3] at e31; cases e31) e31
  have e42 := kk4 u2 _ (fun m => by rw [List.mem_singleton.mp m, a3] at e32; cases e32) e32
  have a4 : upd H3 a (.ins (He.ga K "Map") dx [("spots", .ref u1), ("roads", .ref u2)]) a = some (.ins (He.ga K "Map") dx [("spots", .ref u1), ("roads", .ref u2)]) := upd_same
  refine ⟨_, rfl, a, _, dx, _, _, rfl, a4, T.k_Map, T.n_Map_spots, rfl, ?_⟩
  refine ⟨_, rfl, a, _, dx, _, _, rfl, a4, T.k_Map, T.n_Map_roads, rfl, ?_⟩
  refine ⟨u1, u2, sp, as, rs, rfl, SqT.of e41, SqT.of e42, ra4, n1, n2, l1, l2, fun H5 x5 => ?_⟩
  have kp5 := kp4.trans (Kp.of x5)
  have a5 := x5 _ _ a4
  refine ⟨_, rfl, a, _, dx, _, rfl, a5, T.k_Map, T.n_Map_text, of_decide_eq_true rfl, ?_⟩
  have st6 : ∀ (Hx : Hp) (f1 f2 : List (Str × V)), Hx a = some (.ins (He.ga K "Map") dx f1) → f1.lookup ("name" : Str) = none → Hx u1 = some (.tup (sp.map V.str)) → Hx u2 = some (.tup (as.map V.ref)) → RoadsAt K Hx as rs →
      (upd Hx a (.ins (He.ga K "Map") dx f2)) u1 = some (.tup (sp.map V.str)) ∧ (upd Hx a (.ins (He.ga K "Map") dx f2)) u2 = some (.tup (as.map V.ref)) ∧ RoadsAt K (upd Hx a (.ins (He.ga K "Map") dx f2)) as rs := fun Hx f1 f2 ea hn e1 e2 r => by
    have kk : Kp [a] Hx (upd Hx a (.ins (He.ga K "Map") dx f2)) := (Kp.refl _ _).put (List.mem_singleton.mpr rfl)
    refine ⟨kk u1 _ (fun m => by rw [List.mem_singleton.mp m, ea] at e1; cases e1) e1, kk u2 _ (fun m => by rw [List.mem_singleton.mp m, ea] at e2; cases e2) e2, roads_odd kk (fun p hp => ⟨.ins (He.ga K "Map") dx f1, by rw [List.mem_singleton.mp hp]; exact ea, .inr (.inl ⟨_, _, _, rfl, hn⟩)⟩) r⟩
  obtain ⟨e61, e62, ra6⟩ := st6 H5 _ (putF "text" (.str (mapText sp rs)) [("spots", .ref u1), ("roads", .ref u2)]) a5 rfl (x5 _ _ e41) (x5 _ _ e42) (roads_mono x5 ra4)
  have a6 : upd H5 a (.ins (He.ga K "Map") dx (putF "text" (.str (mapText sp rs)) [("spots", .ref u1), ("roads", .ref u2)])) a = some (.ins (He.ga K "Map") dx [("spots", .ref u1), ("roads", .ref u2), ("text", .str (mapText sp rs))]) := upd_same
  have kp6 := kp5.put (o := .ins (He.ga K "Map") dx (putF "text" (.str (mapText sp rs)) [("spots", .ref u1), ("roads", .ref u2)])) (List.mem_singleton.mpr rfl)
  generalize upd H5 a (.ins (He.ga K "Map") dx (putF "text" (.str (mapText sp rs)) [("spots", .ref u1), ("roads", .ref u2)])) = H6 at e61 e62 ra6 a6 kp6 ⊢
  clear kp5 a5 x5 a4 e42 e41 ra4 od4 kk4 kp4 a3 ra3 kp3 e31 e32
  refine ⟨_, rfl, a, _, dx, _, _, rfl, a6, T.k_Map, T.n_Map_roads, rfl, u2, rfl, ⟨_, SqT.of e62⟩, fun D hD => ?_⟩
  refine dc_tup (K := K) (xs := as.map V.ref) (fun i H' => Ex H6 H' ∧ ∃ kvs : List (Key × V), H' D = some (.dK kvs) ∧ kvs.length ≤ i) ⟨Evl.Ex.new hD, [], upd_same, Nat.zero_le _⟩ (fun i H' _ p => st_mono p.1 (SqT.of e62)) (fun i x H' hx p => ?_) (fun H7 p => ?_)
  · obtain ⟨px, kvs, pd, pl⟩ := p
    rw [List.getElem?_map] at hx
    cases hg : as[i]? with
    | none =>
      rw [hg] at hx
      cases hx
    | some y =>
      rw [hg] at hx
      cases hx
      obtain ⟨m, hm, dy, sh, hy, _⟩ := roads_get ra6 hg
      have hi : i < rs.length := (List.getElem?_eq_some_iff.mp hm).1
      refine ⟨rfl, ev_yes H' px _ fun H3 e3 => iteT ⟨_, rfl, y, _, dy, _, _, rfl, e3 _ _ (px _ _ hy), T.k_Road, T.n_Road_name, rfl, _, rfl, kvs, .inr m.name, rfl, e3 _ _ pd, ?_, ?_, _, upd_same, ?_⟩⟩
      · exact Nat.lt_of_lt_of_le (Nat.lt_of_le_of_lt (Nat.le_trans pl (Nat.le_trans (Nat.le_of_lt hi) l2)) (by decide)) (show 1000 ≤ sizeLine by decide)
      · exact (px.trans e3).mut hD
      · exact Nat.le_trans (length_putK _ _ _) (Nat.succ_le_succ pl)
  · obtain ⟨x7, kvs1, hd1, _⟩ := p
    have a7 := x7 _ _ a6
    refine ⟨_, rfl, a, _, dx, _, rfl, a7, T.k_Map, T.n_Map_by_name, of_decide_eq_true rfl, ?_⟩
    obtain ⟨e81, e82, ra8⟩ := st6 H7 _ (putF "by_name" (.ref D) [("spots", .ref u1), ("roads", .ref u2), ("text", .str (mapText sp rs))]) a7 rfl (x7 _ _ e61) (x7 _ _ e62) (roads_mono x7 ra6)
    have a8 : upd H7 a (.ins (He.ga K "Map") dx (putF "by_name" (.ref D) [("spots", .ref u1), ("roads", .ref u2), ("text", .str (mapText sp rs))])) a = some (.ins (He.ga K "Map") dx [("spots", .ref u1), ("roads", .ref u2), ("text", .str (mapText sp rs)), ("by_name", .ref D)]) := upd_same
    have kp8 := (kp6.trans (Kp.of x7)).put (o := .ins (He.ga K "Map") dx (putF "by_name" (.ref D) [("spots", .ref u1), ("roads", .ref u2), ("text", .str (mapText sp rs))])) (List.mem_singleton.mpr rfl)
    generalize upd H7 a (.ins (He.ga K "Map") dx (putF "by_name" (.ref D) [("spots", .ref u1), ("roads", .ref u2), ("text", .str (mapText sp rs))])) = H8 at e81 e82 ra8 a8 kp8 ⊢
    refine ⟨_, rfl, a, _, dx, _, _, rfl, a8, T.k_Map, T.n_Map_spots, rfl, u1, rfl, ⟨_, SqT.of e81⟩, fun D2 hD2 => ?_⟩
    refine dc_tup (K := K) (xs := sp.map V.str) (fun i H' => Ex H8 H' ∧ ∃ kvs : List (Key × V), H' D2 = some (.dK kvs) ∧ kvs.length ≤ i ∧ ByAt K H' kvs rs (sp.take i)) ⟨Evl.Ex.new hD2, [], upd_same, Nat.zero_le _, fun s hs => by cases hs⟩ (fun i H' _ p => st_mono p.1 (SqT.of e81)) (fun i x H' hx p => ?_) (fun H9 p => ?_)
    · obtain ⟨px, kvs, pd, pl, pb⟩ := p
      rw [List.getElem?_map] at hx
      cases hg : sp[i]? with
      | none =>
        rw [hg] at hx
        cases hx
      | some y =>
        rw [hg] at hx
        cases hx
        have hi : i < sp.length := (List.getElem?_eq_some_iff.mp hg).1
        refine ⟨rfl, ev_yes H' px _ fun H3 e3 => iteT ⟨_, rfl, ?_⟩⟩
        have x3 := px.trans e3
        obtain ⟨bs, eb, rb⟩ := roads_starts (roads_mono x3 ra8) y
        have key : Evl.EvL (tLc (iTup K (tFld K (tVar 0) "roads")) (gName 5) (tTest (tOp rEq (tFld K (tVar 5) "start") (tVar 6))) (tVar 5) [5]) ((wipe [some (.ref a), some (.str z), some V.non, some (.ref p), some (.ref q), none, none] [6]).set 6 (some (.str y))) H3 (((as.map V.ref).filter fun x => decide (fldOf H3 "start" x = .str y)).map id) := by
          refine el_lcT _ id (ev_fld rfl (x3 _ _ a8) T.k_Map T.n_Map_roads rfl) (SqT.of (x3 _ _ e82)) (by rw [List.length_map, roads_len ra8]; omega) (fun x => rfl) (fun x hx => ?_) (fun x hx _ => Evl.ev_var rfl)
          obtain ⟨v, hv, rfl⟩ := List.mem_map.mp hx
          obtain ⟨m, hm⟩ := roads_at (roads_mono x3 ra8) hv
          refine Evl.et_test (Evl.ev_op (road_start T rfl hm) (Evl.ev_var rfl) ?_)
          rw [start_str hm]
          exact Evl.rv_eq rfl
        refine key H3 (Evl.Ex.refl _) _ fun l H4 nl x4 hl => ⟨kvs, .inr y, rfl, x4 _ _ (e3 _ _ pd), ?_, ?_⟩
        · exact Nat.lt_of_lt_of_le (Nat.lt_of_le_of_lt (Nat.le_trans pl (Nat.le_trans (Nat.le_of_lt hi) l1)) (by decide)) (show 1000 ≤ sizeLine by decide)
        · rw [List.map_id, eb] at hl
          have pd4 := x4 _ _ (e3 _ _ pd)
          have kk : Kp [D2] H4 (upd H4 D2 (.dK (putK kvs (.inr y) (.ref l)))) := (Kp.refl _ _).put (List.mem_singleton.mpr rfl)
          have od : ∀ p ∈ [D2], ∃ u, H4 p = some u ∧ Odd u := fun p hp => ⟨.dK kvs, by rw [List.mem_singleton.mp hp]; exact pd4, .inr (.inr ⟨_, rfl⟩)⟩
          have lk : ∀ l2 xs, H4 l2 = some (.lst xs) → upd H4 D2 (.dK (putK kvs (.inr y) (.ref l))) l2 = some (.lst xs) := fun l2 xs h => kk _ _ (fun m => by rw [List.mem_singleton.mp m, pd4] at h; cases h) h
          refine ⟨((px.trans e3).trans x4).mut hD2, _, upd_same, Nat.le_trans (length_putK _ _ _) (Nat.succ_le_succ pl), fun s hs => ?_⟩
          rw [valV_put]
          by_cases cs : s = y
          · subst cs
            rw [if_pos rfl]
            exact ⟨l, bs, rfl, lk _ _ hl, roads_odd kk od (roads_mono x4 rb)⟩
          · rw [if_neg (fun q => cs (Sum.inr.inj q))]
            rw [take_succ_of hg] at hs
            rcases List.mem_append.mp hs with hs | hs
            · obtain ⟨l2, bs2, g1, g2, g3⟩ := pb s hs
              exact ⟨l2, bs2, g1, lk _ _ (x4 _ _ (e3 _ _ g2)), roads_odd kk od (roads_mono (e3.trans x4) g3)⟩
            · exact absurd (List.mem_singleton.mp hs) cs
    · obtain ⟨x9, kvs, hd9, _, pb⟩ := p
      rw [List.length_map, List.take_length] at pb
      have a9 := x9 _ _ a8
      refine ⟨_, rfl, a, _, dx, _, rfl, a9, T.k_Map, T.n_Map_by_start, of_decide_eq_true rfl, ?_⟩
      obtain ⟨eA1, eA2, raA⟩ := st6 H9 _ (putF "by_start" (.ref D2) [("spots", .ref u1), ("roads", .ref u2), ("text", .str (mapText sp rs)), ("by_name", .ref D)]) a9 rfl (x9 _ _ e81) (x9 _ _ e82) (roads_mono x9 ra8)
      have kk : Kp [a] H9 (upd H9 a (.ins (He.ga K "Map") dx (putF "by_start" (.ref D2) [("spots", .ref u1), ("roads", .ref u2), ("text", .str (mapText sp rs)), ("by_name", .ref D)]))) := (Kp.refl _ _).put (List.mem_singleton.mpr rfl)
      have od := odd1 a9 (.inr (.inl ⟨_, _, _, rfl, rfl⟩))
      have aD2 : D2 ∉ [a] := fun m => by
        rw [List.mem_singleton.mp m, a8] at hD2
        cases hD2
      refine k _ ((kp8.trans (Kp.of x9)).put (List.mem_singleton.mpr rfl)) ⟨⟨dx, u1, u2, D, D2, kvs, upd_same, SqT.of eA1, ?_, fun s hs => ?_⟩, n1, n2, l1, l2⟩ ⟨dx, u1, u2, D, D2, upd_same, fresh kp8 hD2 aD2⟩
      · exact kk _ _ (fun m => by rw [List.mem_singleton.mp m, a9] at hd9; cases hd9) hd9
      · obtain ⟨l, bs, g1, g2, g3⟩ := pb s hs
        exact ⟨l, bs, g1, kk _ _ (fun m => by rw [List.mem_singleton.mp m, a9] at g2; cases g2) g2, roads_odd kk od g3⟩
theorem len_map0 (vs : List V) (H : Hp) (Q : VK) (E : XK) (h : spMap0 K vs H Q E) : vs.length = 3 := by
  obtain ⟨a, dx, z, f, sp, rs, rfl, _⟩ := h
  rfl
theorem ok_Map___init___d1 (T : TT K mg base) : Ok P w K mg base 9 (He.ma K (He.ga K "Map") "__init__") ["self", "text", "made"] [.non] (spMap0 K) :=
  ok_mkD 2 0 T.f_Map___init__ sc_Map___init__ len_map0 (List.cons_ne_nil _ _) rfl (fun _ _ _ _ _ _ _ us its hl h2 => match us, hl, its, h2 with | [_, _], _, [_], _ => ⟨_, rfl, rfl⟩) (fun cdv A outer s H vs Q E hr h => body_Map___init__ T hr h)
end
end Lx
set_option Elab.async false
set_option linter.all false
set_option maxRecDepth 100000
set_option maxHeartbeats 4000000
/-! Tables' texts, in plain Lean. -/
namespace Pz
open PySem
abbrev CondM : Type := Str × List Int
inductive LineM : Type where
  | goal (g : Str)
  | at_ (s : Str) (cs : List CondM) (road : Str)
def bounds (w : Str) : List (Int × Int) := [(-2, 2), (-2, 2), (-9, 9)] ++ (if w = "rest" then [(2, 3)] else [])
def pNums (l : Cs) : List (Int × Int) → Nat → Except Nat (List Int × Nat)
  | [], i => .ok ([], i)
  | b :: r, i => bnd (gapU l i) fun _ i => bnd (pNum l b.1 b.2 i) fun n i => bnd (pNums l r i) fun ns i => .ok (n :: ns, i)
def cWords (cs : List CondM) : List Str := (if cs.length < 4 then [("least" : Str), ("rest" : Str)] else []) ++ (if cs ≠ [] then [("go" : Str)] else [])
/-- conditions, up to the word go; k: so many more at most -/
def pConds (l : Cs) : Nat → List CondM → Nat → Except Nat (List CondM × Nat)
  | k, cs, i => bnd (gapU l i) fun _ i => bnd (pWord l (cWords cs) i) fun w i =>
    if w = "go" then .ok (cs, i) else match k with
      | 0 => .error i
      | k + 1 => bnd (pNums l (bounds w) i) fun ns i => pConds l k (cs ++ [(w, ns)]) i
def pRule (l : Cs) (roads : List Str) (i : Nat) : Except Nat ((List CondM × Str) × Nat) :=
  bnd (gapU l i) fun _ i => bnd (pWord l [("if" : Str), ("go" : Str)] i) fun w i =>
  bnd (if w = "go" then .ok ([], i) else pConds l 4 [] i) fun cs i => bnd (gapU l i) fun _ i => bnd (pWord l roads i) fun r i => .ok ((cs, r), i)
def goalsOf : List LineM → List Str
  | [] => []
  | .goal g :: r => g :: goalsOf r
  | .at_ _ _ _ :: r => goalsOf r
/-- the rules of a spot behind the last goal -/
def cntGo (s : Str) : Nat → List LineM → Nat
  | n, [] => n
  | _, .goal _ :: r => cntGo s 0 r
  | n, .at_ t _ _ :: r => cntGo s (if t = s then n + 1 else n) r
def cntOf (ls : List LineM) (s : Str) : Nat := cntGo s 0 ls
def freshOf (sp : List Str) (ls : List LineM) : List Str := sp.filter fun s => decide (s ∉ goalsOf ls)
def namesAt (rs : List RoadM) (s : Str) : List Str := (rs.filter fun r => decide (r.start = s)).map (·.name)
def opnOf (sp : List Str) (rs : List RoadM) (ls : List LineM) : List Str := if goalsOf ls = [] then [] else sp.filter fun s => decide (cntOf ls s < 4) && decide (0 < (namesAt rs s).length)
def lineWords (sp : List Str) (rs : List RoadM) (ls : List LineM) : List Str := (if freshOf sp ls ≠ [] then [("goal" : Str)] else []) ++ (if opnOf sp rs ls ≠ [] then [("at" : Str)] else [])
def pLine (l : Cs) (sp : List Str) (rs : List RoadM) (ls : List LineM) (i : Nat) : Except Nat (LineM × Nat) :=
  bnd (pWord l (lineWords sp rs ls) i) fun w i => bnd (gapU l i) fun _ i =>
    if w = "goal" then bnd (pWord l (freshOf sp ls) i) fun g i => .ok (.goal g, i)
    else bnd (pWord l (opnOf sp rs ls) i) fun s i => bnd (pRule l (namesAt rs s) i) fun r i => .ok (.at_ s r.1 r.2, i)
def pLineE (l : Cs) (sp : List Str) (rs : List RoadM) (ls : List LineM) (i : Nat) : Except Nat (LineM × Nat) :=
  bnd (pLine l sp rs ls i) fun ln i => bnd (endU l i) fun _ i => .ok (ln, i)
/-- the lines of a table from i on; none: fuel is out -/
def pTabGo (l : Cs) (sp : List Str) (rs : List RoadM) : Nat → List LineM → Nat → Option (Except Nat (List LineM))
  | 0, _, _ => none
  | f + 1, ls, i =>
    if skipN isWs l i < l.length then
      match pLineE l sp rs ls (skipN isWs l i) with
      | .ok (ln, j) => pTabGo l sp rs f (ls ++ [ln]) j
      | .error j => some (.error j)
    else some (.ok ls)
def condWords (c : CondM) : List Str := c.1 :: c.2.map fun n => (toString n : Str)
def atWords (s : Str) (cs : List CondM) (road : Str) : List Str := [("at" : Str), s] ++ (if cs ≠ [] then [("if" : Str)] else []) ++ (cs.map condWords).flatten ++ [("go" : Str), road]
def lineTxt : LineM → Str
  | .goal g => ("goal " : Str) ++ g
  | .at_ s cs r => Txt.join " " (atWords s cs r)
def tabTxt (ls : List LineM) : Str := Txt.join "" (ls.map fun ln => lineTxt ln ++ ("\n" : Str))
/-! ### how far readings go -/
theorem pWord_len {l : Cs} {ws : List Str} {i j : Nat} {w : Str} (h : pWord l ws i = .ok (w, j)) : j = i + w.length ∧ 0 < w.length := by
  obtain ⟨h1, h2, h3, h4⟩ := pWord_ok h
  have e : w.length = (wtold ws l i).length := by rw [h2, ← cs_len, cs_sS]
  refine ⟨by rw [e]; exact h4, ?_⟩
  rw [e]
  exact List.length_pos_iff.mpr h3
theorem gap_len {l : Cs} {i j : Nat} {u : Unit} (h : gapU l i = .ok (u, j)) : i + 1 ≤ j := by
  unfold gapU pGap at h
  split at h
  · rename_i c
    injection h with h
    injection h with _ h
    rw [← h, skip_yes c rfl]
    exact skip_ge _ _ _
  · cases h
theorem pNum_ok {l : Cs} {lo hi : Int} {i j : Nat} {n : Int} (h1 : -100 ≤ lo) (h2 : hi ≤ 100) (h : pNum l lo hi i = .ok (n, j)) : lo ≤ n ∧ n ≤ hi ∧ j = i + (toString n : Str).length := by
  unfold pNum at h
  cases hw : pWord l (nums lo hi) i with
  | error e =>
    rw [hw] at h
    cases h
  | ok p =>
    obtain ⟨w, k⟩ := p
    rw [hw] at h
    injection h with h
    injection h with e1 e2
    obtain ⟨m, hm1, hm2, rfl⟩ := mem_nums (pWord_ok hw).1
    rw [numV_of (by omega) (by omega)] at e1
    subst e1 e2
    exact ⟨hm1, hm2, (pWord_len hw).1⟩
theorem end_len {l : Cs} {i j : Nat} {u : Unit} (h : endU l i = .ok (u, j)) : i ≤ j := by
  have := skip_ge isSp l i
  unfold endU pEnd at h
  split at h
  · split at h
    · injection h with h
      injection h with _ h
      omega
    · cases h
  · injection h with h
    injection h with _ h
    omega
theorem tot_app (a b : List Str) : ((a ++ b).map fun w : Str => w.length + 1).sum = (a.map fun w : Str => w.length + 1).sum + (b.map fun w : Str => w.length + 1).sum := by
  rw [List.map_append, List.sum_append]
abbrev tot (a : List Str) : Nat := (a.map fun w : Str => w.length + 1).sum
theorem pNums_ok {l : Cs} : ∀ {bs : List (Int × Int)} {i j : Nat} {ns : List Int}, (∀ b ∈ bs, -100 ≤ b.1 ∧ b.2 ≤ 100) → pNums l bs i = .ok (ns, j) → i + tot (ns.map fun n => (toString n : Str)) ≤ j ∧ ns.length = bs.length ∧ ∀ n ∈ ns, -100 ≤ n ∧ n ≤ 100
  | [], i, j, ns, _, h => by
    injection h with h
    injection h with h1 h2
    subst h1 h2
    exact ⟨Nat.le_refl _, rfl, fun _ z => nomatch z⟩
  | b :: r, i, j, ns, hb, h => by
    obtain ⟨_, j1, e1, h⟩ := bnd_ok h
    obtain ⟨n, j2, e2, h⟩ := bnd_ok h
    obtain ⟨ms, j3, e3, h⟩ := bnd_ok h
    injection h with h
    injection h with h1 h2
    subst h1 h2
    have b1 := hb b (List.mem_cons_self ..)
    have q1 := gap_len e1
    obtain ⟨q2, q3, q4⟩ := pNum_ok b1.1 b1.2 e2
    obtain ⟨q5, q6, q7⟩ := pNums_ok (fun c hc => hb c (List.mem_cons_of_mem _ hc)) e3
    refine ⟨?_, by rw [List.length_cons, List.length_cons, q6], fun m hm => ?_⟩
    · show i + (((toString n : Str).length + 1) + tot (ms.map fun n => (toString n : Str))) ≤ j3
      omega
    · rcases List.mem_cons.mp hm with rfl | hm
      · omega
      · exact q7 m hm
theorem bounds_ok (w : Str) : ∀ b ∈ bounds w, -100 ≤ b.1 ∧ b.2 ≤ 100 := by
  intro b hb
  unfold bounds at hb
  rcases List.mem_append.mp hb with hb | hb
  · simp at hb
    rcases hb with rfl | rfl <;> decide
  · split at hb
    · rw [List.mem_singleton.mp hb]
      decide
    · cases hb
theorem bounds_le (w : Str) : ∀ b ∈ bounds w, b.1 ≤ b.2 := by
  intro b hb
  unfold bounds at hb
  rcases List.mem_append.mp hb with hb | hb
  · simp at hb
    rcases hb with rfl | rfl <;> decide
  · split at hb
    · rw [List.mem_singleton.mp hb]
      decide
    · cases hb
def pCondsT (l : Cs) (k : Nat) (cs : List CondM) (w : Str) (i : Nat) : Except Nat (List CondM × Nat) := match k with
  | 0 => .error i
  | k + 1 => bnd (pNums l (bounds w) i) fun ns i => pConds l k (cs ++ [(w, ns)]) i
theorem pConds_eq (l : Cs) (k : Nat) (cs : List CondM) (i : Nat) : pConds l k cs i = bnd (gapU l i) fun _ i => bnd (pWord l (cWords cs) i) fun w i => if w = "go" then .ok (cs, i) else pCondsT l k cs w i := by
  cases k <;> (unfold pConds; rfl)
theorem cWords_mem {cs : List CondM} {w : Str} (h : w ∈ cWords cs) : ((w = "least" ∨ w = "rest") ∧ cs.length < 4) ∨ (w = "go" ∧ cs ≠ []) := by
  unfold cWords at h
  rcases List.mem_append.mp h with h | h
  · split at h
    · rename_i c
      rcases List.mem_cons.mp h with h | h
      · exact .inl ⟨.inl h, c⟩
      · exact .inl ⟨.inr (List.mem_singleton.mp h), c⟩
    · cases h
  · split at h
    · rename_i c
      exact .inr ⟨List.mem_singleton.mp h, c⟩
    · cases h
def condOk (c : CondM) : Prop := (c.1 = "least" ∨ c.1 = "rest") ∧ c.2.length = (bounds c.1).length ∧ ∀ n ∈ c.2, -100 ≤ n ∧ n ≤ 100
theorem pConds_ok {l : Cs} : ∀ {k : Nat} {cs : List CondM} {i j : Nat} {cs' : List CondM}, pConds l k cs i = .ok (cs', j) → ∃ more, cs' = cs ++ more ∧ i + tot ((more.map condWords).flatten ++ [("go" : Str)]) ≤ j ∧ (∀ c ∈ more, condOk c) ∧ more.length ≤ k ∧ cs' ≠ [] := by
  intro k
  induction k with
  | zero =>
    intro cs i j cs' h
    rw [pConds_eq] at h
    obtain ⟨_, j1, e1, h⟩ := bnd_ok h
    obtain ⟨w, j2, e2, h⟩ := bnd_ok h
    have q1 := gap_len e1
    have q2 := pWord_len e2
    split at h
    · rename_i c
      injection h with h
      injection h with h1 h2
      subst h1 h2
      refine ⟨[], (List.append_nil _).symm, ?_, fun _ z => (nomatch z), Nat.le_refl _, ?_⟩
      · subst c
        show i + ((("go" : Str).length + 1) + 0) ≤ _
        omega
      · rcases cWords_mem (pWord_ok e2).1 with ⟨h | h, _⟩ | ⟨_, h⟩
        · rw [c] at h
          exact absurd h (by decide)
        · rw [c] at h
          exact absurd h (by decide)
        · exact h
    · cases h
  | succ k ih =>
    intro cs i j cs' h
    rw [pConds_eq] at h
    obtain ⟨_, j1, e1, h⟩ := bnd_ok h
    obtain ⟨w, j2, e2, h⟩ := bnd_ok h
    have q1 := gap_len e1
    have q2 := pWord_len e2
    split at h
    · rename_i c
      injection h with h
      injection h with h1 h2
      subst h1 h2
      refine ⟨[], (List.append_nil _).symm, ?_, fun _ z => (nomatch z), Nat.zero_le _, ?_⟩
      · subst c
        show i + ((("go" : Str).length + 1) + 0) ≤ _
        omega
      · rcases cWords_mem (pWord_ok e2).1 with ⟨h | h, _⟩ | ⟨_, h⟩
        · rw [c] at h
          exact absurd h (by decide)
        · rw [c] at h
          exact absurd h (by decide)
        · exact h
    · rename_i c
      unfold pCondsT at h
      obtain ⟨ns, j3, e3, h⟩ := bnd_ok h
      obtain ⟨more, m1, m2, m3, m4, m5⟩ := ih h
      obtain ⟨n1, n2, n3⟩ := pNums_ok (bounds_ok w) e3
      have hw : w = "least" ∨ w = "rest" := by
        rcases cWords_mem (pWord_ok e2).1 with ⟨h, _⟩ | ⟨h, _⟩
        · exact h
        · exact absurd h c
      refine ⟨(w, ns) :: more, by rw [m1, List.append_assoc]; rfl, ?_, fun d hd => ?_, Nat.succ_le_succ m4, m5⟩
      · have e : ((((w, ns) :: more).map condWords).flatten ++ [("go" : Str)]) = w :: (ns.map (fun n => (toString n : Str)) ++ ((more.map condWords).flatten ++ [("go" : Str)])) := by
          rw [List.map_cons, List.flatten_cons, List.append_assoc]
          rfl
        rw [e]
        show i + ((w.length + 1) + tot (ns.map (fun n => (toString n : Str)) ++ ((more.map condWords).flatten ++ [("go" : Str)]))) ≤ j
        unfold tot
        rw [tot_app]
        have n1 : j2 + (List.map (fun w : Str => w.length + 1) (ns.map (fun n => (toString n : Str)))).sum ≤ j3 := n1
        have m2 : j3 + (List.map (fun w : Str => w.length + 1) ((List.map condWords more).flatten ++ [("go" : Str)])).sum ≤ j := m2
        omega
      · rcases List.mem_cons.mp hd with rfl | hd
        · exact ⟨hw, n2, n3⟩
        · exact m3 d hd
theorem pRule_ok {l : Cs} {roads : List Str} {i j : Nat} {cs : List CondM} {r : Str} (h : pRule l roads i = .ok ((cs, r), j)) :
    i + tot ((if cs ≠ [] then [("if" : Str)] else []) ++ (cs.map condWords).flatten ++ [("go" : Str), r]) ≤ j ∧ (∀ c ∈ cs, condOk c) ∧ cs.length ≤ 4 ∧ r ∈ roads := by
  unfold pRule at h
  obtain ⟨_, j1, e1, h⟩ := bnd_ok h
  obtain ⟨w, j2, e2, h⟩ := bnd_ok h
  obtain ⟨cl, j3, e3, h⟩ := bnd_ok h
  obtain ⟨_, j4, e4, h⟩ := bnd_ok h
  obtain ⟨rd, j5, e5, h⟩ := bnd_ok h
  injection h with h
  injection h with h1 h2
  injection h1 with h1 h3
  subst h1 h2 h3
  have q1 := gap_len e1
  have q2 := pWord_len e2
  have q4 := gap_len e4
  have q5 := pWord_len e5
  have hr := (pWord_ok e5).1
  split at e3
  · rename_i c
    injection e3 with e3
    injection e3 with h1 h2
    subst h1 h2 c
    refine ⟨?_, fun _ z => (nomatch z), Nat.zero_le _, hr⟩
    show i + ((("go" : Str).length + 1) + ((rd.length + 1) + 0)) ≤ j5
    omega
  · rename_i c
    obtain ⟨more, m1, m2, m3, m4, m5⟩ := pConds_ok e3
    rw [List.nil_append] at m1
    subst m1
    refine ⟨?_, m3, m4, hr⟩
    rw [if_pos m5]
    have hw : w = "if" := by
      rcases List.mem_cons.mp (pWord_ok e2).1 with h | h
      · exact h
      · exact absurd (List.mem_singleton.mp h) c
    have lw : w.length = 2 := by rw [hw]; rfl
    have m2 : j2 + (List.map (fun w : Str => w.length + 1) ((cl.map condWords).flatten ++ [("go" : Str)])).sum ≤ j3 := m2
    have e : [("if" : Str)] ++ (cl.map condWords).flatten ++ [("go" : Str), rd] = ("if" : Str) :: (((cl.map condWords).flatten ++ [("go" : Str)]) ++ [rd]) := by simp
    rw [e]
    show i + ((("if" : Str).length + 1) + (List.map (fun w : Str => w.length + 1) (((cl.map condWords).flatten ++ [("go" : Str)]) ++ [rd])).sum) ≤ j5
    rw [tot_app]
    have e6 : (List.map (fun w : Str => w.length + 1) [rd]).sum = rd.length + 1 := rfl
    have e7 : ("if" : Str).length = 2 := rfl
    rw [e6, e7]
    omega
/-- a line's size -/
def lineOk : LineM → Prop
  | .goal g => g.length ≤ 4000000
  | .at_ s cs r => tot (atWords s cs r) ≤ 4000001 ∧ (∀ c ∈ cs, condOk c) ∧ cs.length ≤ 4
theorem jn_one {y : Cs} (hy : y.length = 1) : ∀ {ps : List Str}, ps ≠ [] → (jn y (ps.map cs)).length + 1 = tot ps
  | [], h => absurd rfl h
  | [p], _ => by
    show (cs p).length + 1 = (p.length + 1) + 0
    rw [cs_len]
  | p :: q :: r, _ => by
    have h := jn_one hy (ps := q :: r) (List.cons_ne_nil _ _)
    show (cs p ++ (y ++ jn y ((q :: r).map cs))).length + 1 = (p.length + 1) + tot (q :: r)
    rw [List.length_append, List.length_append, cs_len, hy]
    omega
theorem tot_join {ps : List Str} (h : ps ≠ []) : (Txt.join " " ps).length + 1 = tot ps := by
  rw [← cs_len, cs_join]
  exact jn_one rfl h
theorem pLine_ok {l : Cs} {sp : List Str} {rs : List RoadM} {ls : List LineM} {i j : Nat} {ln : LineM} (hl : j ≤ 4000000) (e1 : pLine l sp rs ls i = .ok (ln, j)) : i + (lineTxt ln).length ≤ j ∧ i + 1 ≤ j ∧ lineOk ln := by
  unfold pLine at e1
  obtain ⟨w, j3, e3, e1⟩ := bnd_ok e1
  obtain ⟨_, j4, e4, e1⟩ := bnd_ok e1
  have q3 := pWord_len e3
  have q4 := gap_len e4
  split at e1
  · rename_i c
    obtain ⟨g, j5, e5, e1⟩ := bnd_ok e1
    injection e1 with e1
    injection e1 with h1 h2
    subst h1 h2
    have q5 := pWord_len e5
    have lw : w.length = 4 := by rw [c]; rfl
    refine ⟨?_, by omega, ?_⟩
    · show i + (("goal " : Str) ++ g).length ≤ _
      rw [Str.length_append]
      have : ("goal " : Str).length = 5 := rfl
      omega
    · show g.length ≤ 4000000
      omega
  · rename_i c
    obtain ⟨s, j5, e5, e1⟩ := bnd_ok e1
    obtain ⟨r, j6, e6, e1⟩ := bnd_ok e1
    injection e1 with e1
    injection e1 with h1 h2
    subst h1 h2
    have q5 := pWord_len e5
    obtain ⟨r1, r2, r3, _⟩ := pRule_ok e6
    have hw : w = "at" := by
      have hm := (pWord_ok e3).1
      unfold lineWords at hm
      rcases List.mem_append.mp hm with hm | hm
      · split at hm
        · exact absurd (List.mem_singleton.mp hm) c
        · cases hm
      · split at hm
        · exact List.mem_singleton.mp hm
        · cases hm
    have lw : w.length = 2 := by rw [hw]; rfl
    have e : tot (atWords s r.1 r.2) = 3 + (s.length + 1) + tot ((if r.1 ≠ [] then [("if" : Str)] else []) ++ (r.1.map condWords).flatten ++ [("go" : Str), r.2]) := by
      unfold atWords tot
      rw [List.append_assoc, List.append_assoc, tot_app, List.append_assoc]
      rfl
    refine ⟨?_, by omega, ?_, r2, r3⟩
    · show i + (Txt.join " " (atWords s r.1 r.2)).length ≤ _
      have := tot_join (ps := atWords s r.1 r.2) (by unfold atWords; simp)
      omega
    · rw [e]
      omega
theorem pLineE_ok {l : Cs} {sp : List Str} {rs : List RoadM} {ls : List LineM} {i j : Nat} {ln : LineM} (hl : j ≤ 4000000) (h : pLineE l sp rs ls i = .ok (ln, j)) : i + (lineTxt ln).length ≤ j ∧ i + 1 ≤ j ∧ lineOk ln := by
  unfold pLineE at h
  obtain ⟨ln', j1, e1, h⟩ := bnd_ok h
  obtain ⟨_, j2, e2, h⟩ := bnd_ok h
  injection h with h
  injection h with h1 h2
  subst h1 h2
  have q2 := end_len e2
  have q := pLine_ok (by omega) e1
  exact ⟨by omega, by omega, q.2.2⟩
def lineTail (l : Cs) (sp : List Str) (rs : List RoadM) (ls : List LineM) (w : Str) (i : Nat) : Except Nat (LineM × Nat) :=
  if w = "goal" then bnd (pWord l (freshOf sp ls) i) fun g i => .ok (.goal g, i)
  else bnd (pWord l (opnOf sp rs ls) i) fun s i => bnd (pRule l (namesAt rs s) i) fun r i => .ok (.at_ s r.1 r.2, i)
def lineFin (l : Cs) (ln : LineM) (i : Nat) : Except Nat (LineM × Nat) := bnd (endU l i) fun _ i => .ok (ln, i)
theorem pLineE_eq (l : Cs) (sp : List Str) (rs : List RoadM) (ls : List LineM) (i : Nat) : pLineE l sp rs ls i = bnd (pWord l (lineWords sp rs ls) i) fun w i => bnd (gapU l i) fun _ i => bnd (lineTail l sp rs ls w i) (lineFin l) := by
  unfold pLineE pLine
  rw [bnd_bnd]
  congr 1
  funext w i
  rw [bnd_bnd]
  rfl
theorem bnd_of {α β : Type} {a : α} {j : Nat} {f : α → Nat → Except Nat (β × Nat)} : bnd (.ok (a, j)) f = f a j := rfl
theorem goalsOf_app : ∀ (a b : List LineM), goalsOf (a ++ b) = goalsOf a ++ goalsOf b
  | [], _ => rfl
  | .goal g :: r, b => by
    show g :: goalsOf (r ++ b) = g :: goalsOf r ++ goalsOf b
    rw [goalsOf_app r b]
    rfl
  | .at_ _ _ _ :: r, b => goalsOf_app r b
theorem cntGo_at (s t : Str) (cs : List CondM) (rd : Str) : ∀ (ls : List LineM) (n : Nat), cntGo s n (ls ++ [.at_ t cs rd]) = if t = s then cntGo s n ls + 1 else cntGo s n ls
  | [], n => rfl
  | .goal g :: r, n => cntGo_at s t cs rd r 0
  | .at_ u _ _ :: r, n => cntGo_at s t cs rd r _
theorem cntOf_at (s t : Str) (cs : List CondM) (rd : Str) (ls : List LineM) : cntOf (ls ++ [.at_ t cs rd]) s = if t = s then cntOf ls s + 1 else cntOf ls s := cntGo_at s t cs rd ls 0
theorem cntGo_goal (s g : Str) : ∀ (ls : List LineM) (n : Nat), cntGo s n (ls ++ [.goal g]) = 0
  | [], n => rfl
  | .goal _ :: r, n => cntGo_goal s g r 0
  | .at_ _ _ _ :: r, n => cntGo_goal s g r _
theorem cntOf_goal (s g : Str) (ls : List LineM) : cntOf (ls ++ [.goal g]) s = 0 := cntGo_goal s g ls 0
theorem lineWords_len (sp : List Str) (rs : List RoadM) (ls : List LineM) : (lineWords sp rs ls).length ≤ 2 := by
  unfold lineWords
  rw [List.length_append]
  split <;> split <;> simp
theorem lineWords_mem {sp : List Str} {rs : List RoadM} {ls : List LineM} {w : Str} (h : w ∈ lineWords sp rs ls) : w = "goal" ∨ w = "at" := by
  unfold lineWords at h
  rcases List.mem_append.mp h with h | h
  · split at h
    · exact .inl (List.mem_singleton.mp h)
    · cases h
  · split at h
    · exact .inr (List.mem_singleton.mp h)
    · cases h
theorem freshOf_mem {sp : List Str} {ls : List LineM} {s : Str} (h : s ∈ freshOf sp ls) : s ∈ sp ∧ s ∉ goalsOf ls := by
  obtain ⟨h1, h2⟩ := List.mem_filter.mp h
  exact ⟨h1, of_decide_eq_true h2⟩
theorem opnOf_mem {sp : List Str} {rs : List RoadM} {ls : List LineM} {s : Str} (h : s ∈ opnOf sp rs ls) : s ∈ sp ∧ goalsOf ls ≠ [] ∧ cntOf ls s < 4 := by
  unfold opnOf at h
  split at h
  · cases h
  · rename_i c
    obtain ⟨h1, h2⟩ := List.mem_filter.mp h
    rw [Bool.and_eq_true] at h2
    exact ⟨h1, c, of_decide_eq_true h2.1⟩
theorem goals_len : ∀ ls : List LineM, (goalsOf ls).length ≤ ls.length
  | [] => Nat.le_refl _
  | .goal g :: r => Nat.succ_le_succ (goals_len r)
  | .at_ _ _ _ :: r => Nat.le_succ_of_le (goals_len r)
end Pz
set_option Elab.async false
set_option linter.all false
set_option maxRecDepth 100000
set_option maxHeartbeats 4000000
namespace Lx
open PySem PySem.Spec PyProof.Rows L2 Pz
section
variable {P : Program} {w : World} {K : PySem.W.Frag} {mg : Str → Option Value} {base : Heap}
def ruleF (c : Addr) (r : Str) : List (Str × V) := [("conditions", .ref c), ("road", .str r)]
def spRule (K : PySem.W.Frag) : Sp := fun vs H Q _ => ∃ a dx c r, vs = [.ref a, .ref c, .str r] ∧ H a = some (.ins (He.ga K "Rule") dx []) ∧ Q .non (upd H a (.ins (He.ga K "Rule") dx (ruleF c r)))
theorem ok_Rule___init__ (T : TT K mg base) : Ok P w K mg base 1 (He.ma K (He.ga K "Rule") "__init__") ["self", "conditions", "road"] [] (spRule K) := by
  refine ok_mk T.f_Rule___init__ sc_Rule___init__ (fun vs H Q E h => ?_) (fun _ _ _ _ _ _ us hl => match us, hl with | [_, _, _], _ => rfl) (fun cdv A outer s H vs Q E hr h => ?_)
  · obtain ⟨a, dx, c, r, rfl, _⟩ := h
    rfl
  · obtain ⟨a, dx, c, r, rfl, h1, k⟩ := h
    refine ⟨_, (pss_cons (ps_fld (pv 0) (pv 1) rfl)
      (pss_one (ps_fld (pv 0) (pv 2) rfl))), ?_⟩
    refine ⟨_, rfl, _, rfl, a, _, dx, [], rfl, h1, T.k_Rule, T.n_Rule_conditions, by decide, ?_⟩
    refine ⟨_, rfl, _, rfl, a, _, dx, _, rfl, upd_same, T.k_Rule, T.n_Rule_road, of_decide_eq_true rfl, ?_⟩
    rw [upd_upd]
    exact k
def CondAt (K : PySem.W.Frag) (H : Hp) (v : V) (c : CondM) : Prop := ∃ t, v = .ref t ∧ SqT K H t (.str c.1 :: c.2.map V.int)
theorem cond_mono {H H' : Hp} {v : V} {c : CondM} (e : Ex H H') (h : CondAt K H v c) : CondAt K H' v c := by
  obtain ⟨t, h1, h2⟩ := h
  exact ⟨t, h1, st_mono e h2⟩
def PairsAt (K : PySem.W.Frag) (H : Hp) (ps : List V) (bs : List (Int × Int)) : Prop := ps.length = bs.length ∧ ∀ (i : Nat) (x : V), ps[i]? = some x → ∃ p b, x = .ref p ∧ bs[i]? = some b ∧ SqT K H p [.int b.1, .int b.2]
theorem pairs_odd {H H' : Hp} {ms : List Addr} {ps : List V} {bs : List (Int × Int)} (k : Kp ms H H') (o : ∀ p ∈ ms, ∃ u, H p = some u ∧ Odd u) (h : PairsAt K H ps bs) : PairsAt K H' ps bs := ⟨h.1, fun i x hx => by
  obtain ⟨p, b, h1, h2, h3⟩ := h.2 i x hx
  exact ⟨p, b, h1, h2, st_odd k o h3⟩⟩
def spCond (K : PySem.W.Frag) : Sp := fun vs H Q E => ∃ r z i wd, vs = [.ref r, .str wd] ∧ RdAt K H r z i ∧ Got K H r z (pNums (cs z) (bounds wd) i) (fun ns H' => ∀ t H2, H' t = none → Kp [] H' H2 → H2 t = some (.tup (.str wd :: ns.map V.int)) → Q (.ref t) H2) E
theorem ok_read_condition (T : TT K mg base) : Ok P w K mg base 6 (He.ga K "read_condition") ["reader", "word"] [] (spCond K) := by
  refine ok_mk T.f_read_condition sc_read_condition (fun vs H Q E h => ?_) (fun _ _ _ _ _ _ us hl => match us, hl with | [_, _], _ => rfl) (fun cdv A outer s H vs Q E hr h => ?_)
  · obtain ⟨r, z, i, wd, rfl, _⟩ := h
    rfl
  · obtain ⟨r, z, i, wd, rfl, R, k⟩ := h
    refine ⟨_, (pss_cons (ps_set (i := 2) sc_read_condition.nd rfl (by first | exact Or.inl rfl | exact Or.inr rfl) (pe_lst pa_nil))
      (Evl.pss_cut (ps_for po_own rfl (pi_tup (pe_op op_catT (pe_tup (pa_cons (pe_tup (pa_cons (pe_un un_neg pe_int) (pa_cons pe_int pa_nil))) (pa_cons (pe_tup (pa_cons (pe_un un_neg pe_int) (pa_cons pe_int pa_nil))) (pa_cons (pe_tup (pa_cons (pe_un un_neg pe_int) (pa_cons pe_int pa_nil))) pa_nil)))) (pe_ifExp (pt_cmpR op_eq (pv 1) pe_str (nomark _)) (pe_tup (pa_cons (pe_tup (pa_cons pe_int (pa_cons pe_int pa_nil))) pa_nil)) (pe_tup pa_nil)))) (pg_tup rfl (pgs_cons (pg_name (i := 3) sc_read_condition.nd rfl (by first | exact Or.inl rfl | exact Or.inr rfl)) (pgs_cons (pg_name (i := 4) sc_read_condition.nd rfl (by first | exact Or.inl rfl | exact Or.inr rfl)) pgs_nil)))
      (pss_cons (ps_expr (po_meth0 (pv 0) T.k_Reader T.m_Reader_need_space (ok_Reader_need_space T) (hr.mono (by decide)) px_of))
      (pss_one (ps_expr (pe_bm PySem.F.plainAttrs_list PySem.F.slot_list_append PySem.F.type_list_append mt_append (pv 2) (pa_cons (po_meth (pv 0) T.k_Reader T.m_Reader_number_of (ok_Reader_number_of T) (hr.mono (by decide)) px_of (pa_cons (pv 3) (pa_cons (pv 4) pa_nil))) pa_nil))))))
      (pss_one (ps_ret (pe_op op_catT (pe_tup (pa_cons (pv 1) pa_nil)) (pe_callTy call_tuple_of (by rfl) T.b_tuple (by decide +kernel) (pa_cons (pv 2) pa_nil))))))), ?_⟩
    refine ⟨by decide, fun l hl => ?_⟩
    have key : ∀ H1 (Q1 : VK), (∀ a ps H2, Ex H1 H2 → SqT K H2 a ps → PairsAt K H2 ps (bounds wd) → Q1 (.ref a) H2) →
        tOp (rCatT K) (tTup (tCons (tTup (tCons (tUn (rU fun i => V.int (-i)) (tC (V.int 2))) (tCons (tC (V.int 2)) tNil))) (tCons (tTup (tCons (tUn (rU fun i => V.int (-i)) (tC (V.int 2))) (tCons (tC (V.int 2)) tNil))) (tCons (tTup (tCons (tUn (rU fun i => V.int (-i)) (tC (V.int 9))) (tCons (tC (V.int 9)) tNil))) tNil))))
          (tIf (tTest (tOp rEq (tVar 1) (tC (V.str "rest")))) (tTup (tCons (tTup (tCons (tC (V.int 2)) (tCons (tC (V.int 3)) tNil))) tNil)) (tTup tNil)) [some (.ref r), some (.str wd), some (.ref l), none, none] H1 Q1 := fun H1 Q1 q => by
      refine ⟨2, rfl, by decide, fun p1 n1 => ⟨2, rfl, by decide, fun p2 n2 => ⟨9, rfl, by decide, fun p3 n3 => ⟨of_decide_eq_true rfl, fun T nT => ⟨_, rfl, rfl, _, rfl, ?_⟩⟩⟩⟩⟩
      have x1 := Evl.Ex.new (o := .tup [.int (-2), .int 2]) n1
      have x2 := Evl.Ex.new (o := .tup [.int (-2), .int 2]) n2
      have x3 := Evl.Ex.new (o := .tup [.int (-9), .int 9]) n3
      have x4 := Evl.Ex.new (o := .tup [.ref p1, .ref p2, .ref p3]) nT
      have e1 := (x2.trans (x3.trans x4)) p1 _ upd_same
      have e2 := (x3.trans x4) p2 _ upd_same
      have e3 := x4 p3 _ upd_same
      have xx := ((x1.trans x2).trans x3).trans x4
      by_cases c : wd = "rest"
      · rw [decide_eq_true (congrArg V.str c)]
        refine iteT ⟨by decide, fun p4 n4 => ⟨of_decide_eq_true rfl, fun T2 n5 => ?_⟩⟩
        have x5 := Evl.Ex.new (o := .tup [.int 2, .int 3]) n4
        have x6 := Evl.Ex.new (o := .tup [.ref p4]) n5
        refine ⟨T, T2, [.ref p1, .ref p2, .ref p3], [.ref p4], rfl, rfl, SqT.of ((x5.trans x6) _ _ upd_same), SqT.of upd_same, List.cons_ne_nil _ _, of_decide_eq_true rfl, fun h => absurd h (List.cons_ne_nil _ _), fun _ T3 n6 => ?_⟩
        have x7 := Evl.Ex.new (o := .tup ([V.ref p1, .ref p2, .ref p3] ++ [.ref p4])) n6
        have xy := (x5.trans x6).trans x7
        have eb : bounds wd = [(-2, 2), (-2, 2), (-9, 9), (2, 3)] := by
          unfold bounds
          rw [if_pos c]
          rfl
        refine q T3 _ _ (xx.trans xy) (SqT.of upd_same) ?_
        rw [eb]
        refine ⟨rfl, fun i x hx => ?_⟩
        match i, hx with
        | 0, rfl => exact ⟨p1, _, rfl, rfl, SqT.of (xy _ _ e1)⟩
        | 1, rfl => exact ⟨p2, _, rfl, rfl, SqT.of (xy _ _ e2)⟩
        | 2, rfl => exact ⟨p3, _, rfl, rfl, SqT.of (xy _ _ e3)⟩
        | 3, rfl => exact ⟨p4, _, rfl, rfl, SqT.of ((x6.trans x7) _ _ upd_same)⟩
      · have nw : ¬ V.str wd = V.str "rest" := fun q => c (V.str.inj q)
        rw [decide_eq_false nw]
        refine iteF ⟨by decide, fun T2 n5 => ?_⟩
        have x6 := Evl.Ex.new (o := .tup []) n5
        refine ⟨T, T2, [.ref p1, .ref p2, .ref p3], [], rfl, rfl, SqT.of (x6 _ _ upd_same), SqT.of upd_same, List.cons_ne_nil _ _, of_decide_eq_true rfl, fun _ => ?_, fun h => absurd rfl h⟩
        have eb : bounds wd = [(-2, 2), (-2, 2), (-9, 9)] := by
          unfold bounds
          rw [if_neg c]
          rfl
        refine q T _ _ (xx.trans x6) (SqT.of (x6 _ _ upd_same)) ?_
        rw [eb]
        refine ⟨rfl, fun i x hx => ?_⟩
        match i, hx with
        | 0, rfl => exact ⟨p1, _, rfl, rfl, SqT.of (x6 _ _ e1)⟩
        | 1, rfl => exact ⟨p2, _, rfl, rfl, SqT.of (x6 _ _ e2)⟩
        | 2, rfl => exact ⟨p3, _, rfl, rfl, SqT.of (x6 _ _ e3)⟩
    refine ⟨fun σ H' => ∃ (ns : List Int) (j : Nat) (s3 s4 : Option V), σ = [some (.ref r), some (.str wd), some (.ref l), s3, s4] ∧ Kp [r] H H' ∧ RdAt K H' r z j ∧ H' l = some (.lst (ns.map V.int)) ∧ ns.length ≤ 100 ∧
      Got K H r z (.ok (ns, j)) (fun ns H' => ∀ t H2, H' t = none → Kp [] H' H2 → H2 t = some (.tup (.str wd :: ns.map V.int)) → Q (.ref t) H2) E, ?_, ?_⟩
    · refine key _ _ fun a ps H2 x2 ha hps => ⟨a, rfl, ⟨ps, ha⟩, ?_⟩
      have kl : Kp [r] H (upd H l (.lst [])) := (Kp.refl _ _).new hl
      have bl : (bounds wd).length ≤ 4 := by
        unfold bounds
        split <;> decide
      refine for_tup (xs := ps) (fun i σ H' => ∃ (ns : List Int) (j : Nat) (s3 s4 : Option V), σ = [some (.ref r), some (.str wd), some (.ref l), s3, s4] ∧ Kp [r] H H' ∧ RdAt K H' r z j ∧ H' l = some (.lst (ns.map V.int)) ∧ ns.length ≤ i ∧ SqT K H' a ps ∧ PairsAt K H' ps (bounds wd) ∧
        Got K H r z (bnd (pNums (cs z) ((bounds wd).drop i) j) fun ms i => .ok (ns ++ ms, i)) (fun ns H' => ∀ t H2, H' t = none → Kp [] H' H2 → H2 t = some (.tup (.str wd :: ns.map V.int)) → Q (.ref t) H2) E)
        ⟨[], i, none, none, rfl, kl.trans (Kp.of x2), (R.new hl).kp (Kp.of (ms := []) x2) (by simp), x2 _ _ upd_same, Nat.le_refl _, ha, hps, ?_⟩ (fun i σ H' _ p => ?_) (fun i x σ H' hx p => ?_) (fun σ H' p => ?_)
      · show Got K H r z (bnd (pNums (cs z) (bounds wd) i) fun ms i => .ok (ms, i)) _ E
        rw [bnd_id]
        exact k
      · obtain ⟨_, _, _, _, _, _, _, _, _, h, _⟩ := p
        exact h
      · obtain ⟨ns, j, s3, s4, rfl, k1, R1, e1, nl, ha1, hp1, g⟩ := p
        obtain ⟨p, b, rfl, hb, hpp⟩ := hp1.2 i x hx
        have hi := (List.getElem?_eq_some_iff.mp hb).1
        have eb : (bounds wd).drop i = b :: (bounds wd).drop (i + 1) := by
          rw [List.drop_eq_getElem_cons hi]
          rw [(List.getElem?_eq_some_iff.mp hb).2]
        rw [eb] at g
        have bb := bounds_ok wd b (List.mem_of_getElem? hb)
        have bb2 := bounds_le wd b (List.mem_of_getElem? hb)
        have g : Got K H r z (bnd (gapU (cs z) j) fun _ i1 => bnd (pNum (cs z) b.1 b.2 i1) fun n i2 => bnd (pNums (cs z) ((bounds wd).drop (i + 1)) i2) fun ms i3 => .ok ((ns ++ [n]) ++ ms, i3)) (fun ns H' => ∀ t H2, H' t = none → Kp [] H' H2 → H2 t = some (.tup (.str wd :: ns.map V.int)) → Q (.ref t) H2) E := by
          have e : (bnd (pNums (cs z) (b :: (bounds wd).drop (i + 1)) j) fun ms i => (Except.ok (ns ++ ms, i) : Except Nat (List Int × Nat))) = (bnd (gapU (cs z) j) fun _ i1 => bnd (pNum (cs z) b.1 b.2 i1) fun n i2 => bnd (pNums (cs z) ((bounds wd).drop (i + 1)) i2) fun ms i3 => .ok ((ns ++ [n]) ++ ms, i3)) := by
            show bnd (bnd _ _) _ = _
            rw [bnd_bnd]
            congr 1
            funext _ i1
            rw [bnd_bnd]
            congr 1
            funext n i2
            rw [bnd_bnd]
            congr 1
            funext ms i3
            show Except.ok (ns ++ (n :: ms), i3) = _
            rw [List.append_assoc]
            rfl
          rw [e] at g
          exact g
        obtain ⟨⟨dx1, h1⟩, _, _⟩ := id R1
        refine ⟨p, _, rfl, hpp, rfl, _, _, rfl, _, _, rfl, rfl, ?_⟩
        refine ⟨_, rfl, r, dx1, _, rfl, h1, rfl, r, z, _, rfl, R1, Got.step g k1 R1 fun _ j2 H3 _ k3 R3 y3 g => ?_⟩
        have e3 := lst_kp y3 R1 e1
        have ha3 := st_odd y3 (odd_rd R1) ha1
        have hp3 := pairs_odd y3 (odd_rd R1) hp1
        obtain ⟨⟨dx3, h3⟩, _, _⟩ := id R3
        refine ⟨_, rfl, .inl ⟨rfl, _, SqL.of e3⟩, _, rfl, r, dx3, _, rfl, h3, rfl, _, rfl, _, rfl, r, z, j2, b.1, b.2, rfl, R3, bb.1, bb.2, bb2, Got.step g k3 R3 fun n j3 H4 en k4 R4 y4 g => ?_⟩
        have e4 := lst_kp y4 R3 e3
        have ha4 := st_odd y4 (odd_rd R3) ha3
        have hp4 := pairs_odd y4 (odd_rd R3) hp3
        have kk : Kp [l] H4 (upd H4 l (.lst (ns.map V.int ++ [.int n]))) := (Kp.refl _ _).put (List.mem_singleton.mpr rfl)
        have hi4 : i < 4 := by omega
        have rl : r ≠ l := by
          obtain ⟨⟨_, h⟩, _, _⟩ := R
          exact ne_of_none h hl
        refine ⟨l, _, _, rfl, rfl, e4, ?_, ns ++ [n], j3, _, _, rfl, k4.out kk hl, R4.kp kk (by simpa using rl), ?_, ?_, st_odd kk (odd_lst e4) ha4, pairs_odd kk (odd_lst e4) hp4, g⟩
        · rw [List.length_map]
          exact Nat.lt_of_lt_of_le (show ns.length < 100 by omega) (by decide)
        · rw [upd_same, List.map_append]
          rfl
        · rw [List.length_append]
          simp only [List.length_cons, List.length_nil]
          omega
      · obtain ⟨ns, j, s3, s4, rfl, k1, R1, e1, nl, ha1, hp1, g⟩ := p
        rw [List.drop_of_length_le (by rw [hp1.1]; exact Nat.le_refl _)] at g
        have g : Got K H r z (.ok (ns ++ [], j)) (fun ns H' => ∀ t H2, H' t = none → Kp [] H' H2 → H2 t = some (.tup (.str wd :: ns.map V.int)) → Q (.ref t) H2) E := g
        rw [List.append_nil] at g
        exact ⟨ns, j, s3, s4, rfl, k1, R1, e1, by rw [hp1.1] at nl; omega, g⟩
    · rintro σ H1 ⟨ns, j, s3, s4, rfl, k1, R1, e1, nl, g⟩
      have g2 := Got.done g k1 R1
      refine ⟨_, rfl, of_decide_eq_true rfl, fun t1 ht1 => ?_⟩
      have x1 := Evl.Ex.new (o := .tup [.str wd]) ht1
      refine ⟨_, rfl, l, _, rfl, .inl ⟨SqL.of (x1 _ _ e1), fun t2 ht2 => ?_⟩⟩
      have x2 := Evl.Ex.new (o := .tup (ns.map V.int)) ht2
      have et1 := x2 t1 _ upd_same
      refine ⟨t1, t2, _, _, rfl, rfl, SqT.of et1, SqT.of upd_same, List.cons_ne_nil _ _, ?_, fun h => ?_, fun _ t3 ht3 => ?_⟩
      · rw [List.length_map]
        exact Nat.le_trans (show ([V.str wd].length + ns.length) ≤ 200 by simp; omega) (by decide)
      · cases ns with
        | nil => exact g2 t1 _ ht1 (Kp.of (x1.trans x2)) et1
        | cons _ _ => cases h
      · exact g2 t3 _ (Evl.fresh_back (x1.trans x2) ht3) (Kp.of ((x1.trans x2).trans (Evl.Ex.new ht3))) upd_same
end
end Lx
set_option Elab.async false
set_option linter.all false
set_option maxRecDepth 100000
set_option maxHeartbeats 4000000
namespace Lx
open PySem PySem.Spec PyProof.Rows L2 Pz
section
variable {P : Program} {w : World} {K : PySem.W.Frag} {mg : Str → Option Value} {base : Heap}
abbrev CondsAt (K : PySem.W.Frag) (H : Hp) (vs : List V) (cs : List CondM) : Prop := All2 (CondAt K H) vs cs
theorem conds_mono {H H' : Hp} {vs : List V} {cs : List CondM} (e : Ex H H') (h : CondsAt K H vs cs) : CondsAt K H' vs cs := h.imp fun _ _ => cond_mono e
theorem conds_odd {H H' : Hp} {ms : List Addr} {vs : List V} {cs : List CondM} (k : Kp ms H H') (o : ∀ p ∈ ms, ∃ u, H p = some u ∧ Odd u) (h : CondsAt K H vs cs) : CondsAt K H' vs cs := h.imp fun _ _ ⟨t, h1, h2⟩ => ⟨t, h1, st_odd k o h2⟩
def RuleAt (K : PySem.W.Frag) (H : Hp) (x : Addr) (cs : List CondM) (road : Str) : Prop := ∃ dx c cv, H x = some (.ins (He.ga K "Rule") dx (ruleF c road)) ∧ SqT K H c cv ∧ CondsAt K H cv cs
theorem rule_mono {H H' : Hp} {x : Addr} {cs : List CondM} {r : Str} (e : Ex H H') (h : RuleAt K H x cs r) : RuleAt K H' x cs r := by
  obtain ⟨dx, c, cv, h1, h2, h3⟩ := h
  exact ⟨dx, c, cv, e _ _ h1, st_mono e h2, conds_mono e h3⟩
theorem MapAt.kp {H H' : Hp} {r a : Addr} {z : Str} {i : Nat} {sp : List Str} {rs : List RoadM} (h : MapAt K H a sp rs) (R : RdAt K H r z i) (k : Kp [r] H H') : MapAt K H' a sp rs := by
  have R0 := R
  obtain ⟨⟨dx0, e0⟩, _, _⟩ := R
  obtain ⟨⟨dx, t1, t2, d1, d2, kvs, h1, h2, h3, h4⟩, n1, n2, l1, l2⟩ := h
  refine ⟨⟨dx, t1, t2, d1, d2, kvs, k _ _ (fun m => ?_) h1, st_kp k R0 h2, k _ _ (fun m => ?_) h3, fun s hs => ?_⟩, n1, n2, l1, l2⟩
  · rw [List.mem_singleton.mp m, e0] at h1
    have h1 := Option.some.inj h1
    injection h1 with _ _ h1
    have := congrArg List.length h1
    simp [rdF, mapF] at this
  · rw [List.mem_singleton.mp m, e0] at h3
    cases h3
  · obtain ⟨l, bs, g1, g2, g3⟩ := h4 s hs
    exact ⟨l, bs, g1, lst_kp k R0 g2, roads_odd k (odd_rd R0) g3⟩
def spRdRule (K : PySem.W.Frag) : Sp := fun vs H Q E => ∃ r z i a s sp rs, vs = [.ref r, .ref a, .str s] ∧ RdAt K H r z i ∧ MapAt K H a sp rs ∧ s ∈ sp ∧
  Got K H r z (pRule (cs z) (namesAt rs s) i) (fun p H' => ∀ x H2, H' x = none → Kp [] H' H2 → RuleAt K H2 x p.1 p.2 → Q (.ref x) H2) E
def ruleEnd (l : Cs) (roads : List Str) (cs : List CondM) (i : Nat) : Except Nat ((List CondM × Str) × Nat) := bnd (gapU l i) fun _ i => bnd (pWord l roads i) fun r i => .ok ((cs, r), i)
theorem ok_read_rule (T : TT K mg base) : Ok P w K mg base 7 (He.ga K "read_rule") ["reader", "land", "spot"] [] (spRdRule K) := by
  refine ok_mk T.f_read_rule sc_read_rule (fun vs H Q E h => ?_) (fun _ _ _ _ _ _ us hl => match us, hl with | [_, _, _], _ => rfl) (fun cdv A outer s H vs Q E hr h => ?_)
  · obtain ⟨r, z, i, a, s, sp, rs, rfl, _⟩ := h
    rfl
  · obtain ⟨r, z, i, a, x, sp, rs, rfl, R, M, hx, k⟩ := h
    refine ⟨_, (pss_cons (ps_set (i := 3) sc_read_rule.nd rfl (by first | exact Or.inl rfl | exact Or.inr rfl) (pe_lst pa_nil))
      (pss_cons (ps_expr (po_meth0 (pv 0) T.k_Reader T.m_Reader_need_space (ok_Reader_need_space T) (hr.mono (by decide)) px_of))
      (pss_cons (ps_set (i := 4) sc_read_rule.nd rfl (by first | exact Or.inl rfl | exact Or.inr rfl) (po_meth (pv 0) T.k_Reader T.m_Reader_word_of (ok_Reader_word_of T) (hr.mono (by decide)) px_of (pa_cons (pe_lst (pa_cons pe_str (pa_cons pe_str pa_nil))) pa_nil)))
      (Evl.pss_cut (ps_while po_own (pt_cmpR op_ne (pv 4) pe_str (nomark _))
      (pss_cons (ps_expr (po_meth0 (pv 0) T.k_Reader T.m_Reader_need_space (ok_Reader_need_space T) (hr.mono (by decide)) px_of))
      (pss_cons (ps_set (i := 5) sc_read_rule.nd rfl (by first | exact Or.inl rfl | exact Or.inr rfl) (pe_ifExp (pt_cmpR op_lt (pe_callB call_len_seq (by rfl) T.b_len PySem.boot_len (pa_cons (pv 3) pa_nil)) (po_glob T.c_MOST_CONDITIONS) (nomark _)) (pe_lst (pa_cons pe_str (pa_cons pe_str pa_nil))) (pe_lst pa_nil)))
      (Evl.pss_cut (ps_if (pt_cmpR (op_neNil hr.units0) (pv 3) (pe_lst pa_nil) (nomark _))
      (pss_one (ps_expr (pe_bm PySem.F.plainAttrs_list PySem.F.slot_list_append PySem.F.type_list_append mt_append (pv 5) (pa_cons pe_str pa_nil))))
      pss_nil)
      (pss_cons (ps_set (i := 4) sc_read_rule.nd rfl (by first | exact Or.inl rfl | exact Or.inr rfl) (po_meth (pv 0) T.k_Reader T.m_Reader_word_of (ok_Reader_word_of T) (hr.mono (by decide)) px_of (pa_cons (pv 5) pa_nil)))
      (pss_one (ps_if (pt_cmpR op_ne (pv 4) pe_str (nomark _))
      (pss_one (ps_expr (pe_bm PySem.F.plainAttrs_list PySem.F.slot_list_append PySem.F.type_list_append mt_append (pv 3) (pa_cons (po_call (ok_read_condition T) (hr.mono (by decide)) rfl T.g_read_condition px_of (pa_cons (pv 0) (pa_cons (pv 4) pa_nil))) pa_nil))))
      pss_nil)))))))
      (pss_cons (ps_expr (po_meth0 (pv 0) T.k_Reader T.m_Reader_need_space (ok_Reader_need_space T) (hr.mono (by decide)) px_of))
      (pss_one (ps_ret (po_make T.mk_Rule (ok_Rule___init__ T) (hr.mono (by decide)) rfl T.g_Rule px_of (pa_cons (pe_callTy call_tuple_of (by rfl) T.b_tuple (by decide +kernel) (pa_cons (pv 3) pa_nil)) (pa_cons (po_meth (pv 0) T.k_Reader T.m_Reader_word_of (ok_Reader_word_of T) (hr.mono (by decide)) px_of (pa_cons (pe_lcB s H (own := [("road", 6)]) rfl sc_read_rule.nd (pi_tup (po_meth (pv 1) T.k_Map T.m_Map_roads_from (ok_Map_roads_from T) (hr.mono (by decide)) px_of (pa_cons (pv 2) pa_nil))) (blkOk_by (own := [("road", 6)]) (N := nm_read_rule) (sc := defScope s_read_rule) (by decide +kernel)) (fun _ _ _ _ _ => (pg_name (i := 6) sc_read_rule.nd rfl (by first | exact Or.inl rfl | exact Or.inr rfl))) (fun _ _ _ _ _ => pts_nil) (fun _ _ _ _ _ => (pe_fld (pv 6) rfl))) pa_nil)) pa_nil)))))))))), ?_⟩
    unfold pRule at k
    refine ⟨by decide, fun l hl => ?_⟩
    have R1 := R.new (o := .lst []) hl
    have k1 : Kp [r] H (upd H l (.lst [])) := (Kp.refl _ _).new hl
    obtain ⟨⟨dx1, h1⟩, _, _⟩ := id R1
    have rl : r ≠ l := by
      obtain ⟨⟨_, h⟩, _, _⟩ := R
      exact ne_of_none h hl
    refine ⟨_, rfl, r, dx1, _, rfl, h1, rfl, r, z, _, rfl, R1, Got.step k k1 R1 fun _ j2 H2 _ k2 R2 y2 k => ?_⟩
    have e2 := y2 l _ (by simpa using rl.symm) upd_same
    obtain ⟨⟨dx2, h2⟩, _, _⟩ := id R2
    refine ⟨_, rfl, r, dx2, _, rfl, h2, rfl, by decide, fun lw hlw => ?_⟩
    have R3 := R2.new (o := .lst [.str "if", .str "go"]) hlw
    have k3 := k2.new2 (o := .lst [.str "if", .str "go"]) hlw
    have e3 := Evl.Ex.new (o := .lst [.str "if", .str "go"]) hlw _ _ e2
    refine ⟨r, z, j2, lw, [("if" : Str), ("go" : Str)], rfl, R3, SqL.of upd_same, (show 2 ≤ 1000 by decide), ?_, Got.step k k3 R3 fun w0 j4 H4 ew k4 R4 y4 k => ?_⟩
    · intro v hv
      rcases List.mem_cons.mp hv with rfl | hv
      · decide
      · rw [List.mem_singleton.mp hv]
        decide
    have e4 := lst_kp y4 R3 e3
    have M4 := M.kp R k4
    have k : Got K H r z (bnd (if w0 = "go" then .ok ([], j4) else pConds (cs z) (4 - ([] : List CondM).length) [] j4) (ruleEnd (cs z) (namesAt rs x))) (fun p H' => ∀ x H2, H' x = none → Kp [] H' H2 → RuleAt K H2 x p.1 p.2 → Q (.ref x) H2) E := k
    refine ⟨fun σ H' => ∃ (cl : List CondM) (cv : List V) (j : Nat) (s5 s6 : Option V), σ = [some (.ref r), some (.ref a), some (.str x), some (.ref l), some (.str "go"), s5, s6] ∧ Kp [r] H H' ∧ RdAt K H' r z j ∧ H' l = some (.lst cv) ∧ CondsAt K H' cv cl ∧ cl.length ≤ 4 ∧
      Got K H r z (ruleEnd (cs z) (namesAt rs x) cl j) (fun p H' => ∀ x H2, H' x = none → Kp [] H' H2 → RuleAt K H2 x p.1 p.2 → Q (.ref x) H2) E, ?_, ?_⟩
    · refine ⟨fun m σ H' => ∃ (wd : Str) (cl : List CondM) (cv : List V) (j : Nat) (s5 s6 : Option V), σ = [some (.ref r), some (.ref a), some (.str x), some (.ref l), some (.str wd), s5, s6] ∧ Kp [r] H H' ∧ RdAt K H' r z j ∧ H' l = some (.lst cv) ∧ CondsAt K H' cv cl ∧ cl.length ≤ 4 ∧
        Got K H r z (bnd (if wd = "go" then .ok (cl, j) else pConds (cs z) (4 - cl.length) cl j) (ruleEnd (cs z) (namesAt rs x))) (fun p H' => ∀ x H2, H' x = none → Kp [] H' H2 → RuleAt K H2 x p.1 p.2 → Q (.ref x) H2) E ∧ m = (if wd = "go" then 0 else 6 - cl.length),
        ⟨_, w0, [], [], j4, none, none, rfl, k4, R4, e4, .nil, by decide, k, rfl⟩, ?_⟩
      rintro m σ H1 ⟨wd, cl, cv, j, s5, s6, rfl, k1, R1, e1, c1, lc, g, rfl⟩
      obtain ⟨⟨dx1, h1⟩, _, _⟩ := id R1
      refine ⟨_, rfl, rfl, _, rfl, ?_⟩
      by_cases cw : wd = "go"
      · subst cw
        rw [decide_eq_true rfl]
        rw [if_pos rfl] at g
        exact iteF ⟨cl, cv, j, s5, s6, rfl, k1, R1, e1, c1, lc, g⟩
      · rw [decide_eq_false (fun q => cw (V.str.inj q))]
        rw [if_neg cw] at g
        have g : Got K H r z (bnd (gapU (cs z) j) fun _ i => bnd (pWord (cs z) (cWords cl) i) fun w i => bnd (if w = "go" then .ok (cl, i) else pCondsT (cs z) (4 - cl.length) cl w i) (ruleEnd (cs z) (namesAt rs x))) (fun p H' => ∀ x H2, H' x = none → Kp [] H' H2 → RuleAt K H2 x p.1 p.2 → Q (.ref x) H2) E := by
          have e : bnd (pConds (cs z) (4 - cl.length) cl j) (ruleEnd (cs z) (namesAt rs x)) = (bnd (gapU (cs z) j) fun _ i => bnd (pWord (cs z) (cWords cl) i) fun w i => bnd (if w = "go" then .ok (cl, i) else pCondsT (cs z) (4 - cl.length) cl w i) (ruleEnd (cs z) (namesAt rs x))) := by
            rw [pConds_eq, bnd_bnd]
            congr 1
            funext _ i
            rw [bnd_bnd]
          rw [e] at g
          exact g
        refine iteT ⟨fun σ' H' => ∃ (wd2 : Str) (cl2 : List CondM) (cv : List V) (j : Nat) (s5 s6 : Option V), σ' = [some (.ref r), some (.ref a), some (.str x), some (.ref l), some (.str wd2), s5, s6] ∧ Kp [r] H H' ∧ RdAt K H' r z j ∧ H' l = some (.lst cv) ∧ CondsAt K H' cv cl2 ∧ cl2.length ≤ 4 ∧
          Got K H r z (bnd (if wd2 = "go" then .ok (cl2, j) else pConds (cs z) (4 - cl2.length) cl2 j) (ruleEnd (cs z) (namesAt rs x))) (fun p H' => ∀ x H2, H' x = none → Kp [] H' H2 → RuleAt K H2 x p.1 p.2 → Q (.ref x) H2) E ∧ (wd2 = "go" ∨ cl2.length = cl.length + 1),
          fun σ' H' ⟨wd2, cl2, cv, j, s5, s6, b1, b2, b3, b4, b5, b6, b7, b8⟩ => ⟨_, ?_, wd2, cl2, cv, j, s5, s6, b1, b2, b3, b4, b5, b6, b7, rfl⟩, ?_⟩
        · rw [if_neg cw]
          split
          · omega
          · rcases b8 with b8 | b8
            · contradiction
            · omega
        refine ⟨_, rfl, r, dx1, _, rfl, h1, rfl, r, z, _, rfl, R1, Got.step g k1 R1 fun _ j2 H2 _ k2 R2 y2 g => ?_⟩
        have e2 := lst_kp y2 R1 e1
        have c2 := conds_odd y2 (odd_rd R1) c1
        refine Evl.s_asgL (xs := (if cl.length < 4 then [V.str "least", V.str "rest"] else [])) (el_if (et_len rfl (SqL.of e2)) (fun h => ?_) (fun h => ?_)) fun q H3 nq x3 e3 => ?_
        · rw [decide_eq_true_eq, c2.len] at h
          rw [if_pos (by omega)]
          exact Evl.el_lst (Evl.ea_cons Evl.ev_c (Evl.ea_cons Evl.ev_c Evl.ea_nil)) (by decide)
        · rw [decide_eq_false_iff_not, c2.len] at h
          rw [if_neg (by omega)]
          exact Evl.el_lst Evl.ea_nil (by decide)
        have R3 := R2.kp (Kp.of (ms := []) x3) (by simp)
        have c3 := conds_mono x3 c2
        have l3 := x3 _ _ e2
        have k3 := k2.trans (Kp.of x3)
        refine ⟨fun σ H4 => σ = [some (.ref r), some (.ref a), some (.str x), some (.ref l), some (.str wd), some (.ref q), s6] ∧ Kp [q] H3 H4 ∧ H4 q = some (.lst ((cWords cl).map V.str)), ?_, ?_⟩
        · refine Evl.s_if (et_nil true rfl (SqL.of l3)) (fun h H4 x4 => ?_) (fun h H4 x4 => ?_)
          · have ne : cl ≠ [] := fun q => by
              subst q
              cases c3
              cases h
            refine Evl.s_app (x4 _ _ e3) (Evl.ev_var rfl) Evl.ev_c (by split <;> decide) (fun H5 x5 => ⟨rfl, (Kp.of (x4.trans x5)).put (List.mem_singleton.mpr rfl), ?_⟩)
            rw [upd_same]
            unfold cWords
            rw [if_pos ne]
            split <;> rfl
          · have ne : cl = [] := by
              cases c3 with
              | nil => rfl
              | cons _ _ => cases h
            refine ⟨rfl, Kp.of x4, ?_⟩
            subst ne
            exact x4 _ _ e3
        · rintro σ H4 ⟨rfl, k4', e4'⟩
          have rq : r ≠ q := by
            obtain ⟨⟨_, h⟩, _, _⟩ := R2
            exact ne_of_none h nq
          have lq : l ≠ q := ne_of_none e2 nq
          have R5 := R3.kp k4' (by simpa using rq)
          have c5 := conds_odd k4' (odd_lst e3) c3
          have l5 := k4' _ _ (by simpa using lq) l3
          have nHq : H q = none := by
            refine fresh k2 nq (fun m => rq (List.mem_singleton.mp m).symm)
          have k5 := k3.out k4' nHq
          obtain ⟨⟨dx5, h5⟩, _, _⟩ := id R5
          refine ⟨_, rfl, r, dx5, _, rfl, h5, rfl, _, rfl, r, z, _, q, cWords cl, rfl, R5, SqL.of e4', ?_, ?_, Got.step g k5 R5 fun w2 j6 H6 ew2 k6 R6 y6 g => ?_⟩
          · unfold Small cWords
            rw [List.length_append]
            split <;> split <;> simp
          · intro v hv
            rcases cWords_mem hv with ⟨rfl | rfl, _⟩ | ⟨rfl, _⟩ <;> decide
          have c6 := conds_odd y6 (odd_rd R5) c5
          have l6 := lst_kp y6 R5 l5
          refine ⟨_, rfl, rfl, _, rfl, ?_⟩
          by_cases cw2 : w2 = "go"
          · subst cw2
            rw [decide_eq_true rfl]
            rw [if_pos rfl] at g
            exact iteF ⟨"go", cl, cv, j6, _, _, rfl, k6, R6, l6, c6, lc, by rw [if_pos rfl]; exact g, .inl rfl⟩
          · rw [decide_eq_false (fun q => cw2 (V.str.inj q))]
            rw [if_neg cw2] at g
            have hlt : cl.length < 4 := by
              rcases cWords_mem (pWord_ok ew2).1 with ⟨_, h⟩ | ⟨h, _⟩
              · exact h
              · exact absurd h cw2
            have ek : 4 - cl.length = (3 - cl.length) + 1 := by omega
            rw [ek] at g
            have g : Got K H r z (bnd (pNums (cs z) (bounds w2) j6) fun ns i => bnd (pConds (cs z) (3 - cl.length) (cl ++ [(w2, ns)]) i) (ruleEnd (cs z) (namesAt rs x))) (fun p H' => ∀ x H2, H' x = none → Kp [] H' H2 → RuleAt K H2 x p.1 p.2 → Q (.ref x) H2) E := by
              have e : bnd (pCondsT (cs z) (3 - cl.length + 1) cl w2 j6) (ruleEnd (cs z) (namesAt rs x)) = (bnd (pNums (cs z) (bounds w2) j6) fun ns i => bnd (pConds (cs z) (3 - cl.length) (cl ++ [(w2, ns)]) i) (ruleEnd (cs z) (namesAt rs x))) := by
                unfold pCondsT
                rw [bnd_bnd]
              rw [e] at g
              exact g
            refine iteT ⟨_, rfl, .inl ⟨rfl, _, SqL.of l6⟩, ?_⟩
            refine ⟨_, rfl, _, rfl, r, z, j6, w2, rfl, R6, Got.step g k6 R6 fun ns j7 H7 en k7 R7 y7 g => fun t H8 nt k8 et => ?_⟩
            have R8 := R7.kp k8 (by simp)
            have c8 := conds_odd k8 (by simp) (conds_odd y7 (odd_rd R6) c6)
            have l8 := k8 _ _ (by simp) (lst_kp y7 R6 l6)
            have kk : Kp [l] H8 (upd H8 l (.lst (cv ++ [.ref t]))) := (Kp.refl _ _).put (List.mem_singleton.mpr rfl)
            have tl : t ≠ l := fun q => by
              rw [q, l8] at et
              cases et
            refine ⟨l, _, _, rfl, rfl, l8, ?_, w2, cl ++ [(w2, ns)], _, j7, _, _, rfl, (k7.trans (Kp.of k8.ex)).out kk hl, R8.kp kk (by simpa using rl), upd_same, ?_, ?_, ?_, .inr ?_⟩
            · rw [c8.len]
              exact Nat.lt_of_lt_of_le (show cl.length < 100 by omega) (by decide)
            · refine (conds_odd kk (odd_lst l8) c8).app (.cons ⟨t, rfl, SqT.of ((upd_ne tl).trans et)⟩ .nil)
            · rw [List.length_append]
              exact hlt
            · rw [if_neg cw2, List.length_append]
              have e3 : 4 - (cl.length + [(w2, ns)].length) = 3 - cl.length := by
                simp only [List.length_cons, List.length_nil]
                omega
              rw [e3]
              exact g
            · rw [List.length_append]
              rfl
    · rintro σ H1 ⟨cl, cv, j, s5, s6, rfl, k1, R1, e1, c1, lc, g⟩
      unfold ruleEnd at g
      obtain ⟨⟨dx1, h1⟩, _, _⟩ := id R1
      refine ⟨_, rfl, r, dx1, _, rfl, h1, rfl, r, z, _, rfl, R1, Got.step g k1 R1 fun _ j2 H2 _ k2 R2 y2 g => ?_⟩
      have e2 := lst_kp y2 R1 e1
      have c2 := conds_odd y2 (odd_rd R1) c1
      refine ⟨_, rfl, l, _, rfl, .inl ⟨SqL.of e2, fun t ht => ?_⟩⟩
      have R3 := R2.new (o := .tup cv) ht
      have k3 := k2.new2 (o := .tup cv) ht
      have c3 := conds_mono (Evl.Ex.new (o := .tup cv) ht) c2
      have M3 := M.kp R k3
      obtain ⟨⟨dx3, h3⟩, _, _⟩ := id R3
      refine ⟨_, rfl, r, dx3, _, rfl, h3, rfl, ?_⟩
      obtain ⟨⟨dxm, t1, t2, d1, d2, kvs, hm, _⟩, _, _, _, _⟩ := id M3
      refine ⟨_, rfl, a, dxm, _, rfl, hm, rfl, _, rfl, a, x, sp, rs, rfl, M3, hx, fun t2 bs nt2 rb => ?_⟩
      have x4 := Evl.Ex.new (o := .tup (bs.map V.ref)) nt2
      have rb4 := roads_mono x4 rb
      refine ⟨t2, rfl, ⟨_, SqT.of upd_same⟩, fun D hD => ?_⟩
      have lbs : (startsAt rs x).length ≤ 200 := Nat.le_trans (List.length_filter_le _ _) M.l2
      refine lcT_fm (fun _ => true) (fldOf (upd (upd H2 t (.tup cv)) t2 (.tup (bs.map V.ref))) "name") (SqT.of upd_same) hD (by rw [List.length_map, roads_len rb]; omega) (fun x => rfl) (fun x hx => ev_yes) (fun x hx _ => ?_) (fun H5 x5 e5 => ?_)
      · obtain ⟨a3, ha3, rfl⟩ := List.mem_map.mp hx
        obtain ⟨m3, hm3⟩ := roads_at rb4 ha3
        exact road_name T rfl hm3
      · have en : (((bs.map V.ref).filter fun _ => true).map (fldOf (upd (upd H2 t (.tup cv)) t2 (.tup (bs.map V.ref))) "name")) = (namesAt rs x).map V.str := by
          rw [List.filter_eq_self.mpr (fun _ _ => rfl)]
          exact roads_names rb4
        rw [en] at e5
        have x45 := x4.trans x5
        have R5 := R3.kp (Kp.of (ms := []) x45) (by simp)
        have k5 := k3.trans (Kp.of x45)
        refine ⟨r, z, _, D, namesAt rs x, rfl, R5, SqL.of e5, ?_, fun v hv => ?_, Got.step g k5 R5 fun rd j6 H6 er k6 R6 y6 g => ?_⟩
        · unfold Small namesAt
          rw [List.length_map]
          exact Nat.le_trans lbs (by decide)
        · unfold namesAt at hv
          obtain ⟨m, hm2, rfl⟩ := List.mem_map.mp hv
          exact (M.n2 m (List.mem_filter.mp hm2).1).n1
        have c6 := conds_odd y6 (odd_rd R5) (conds_mono x45 c3)
        have t6 := st_odd (K := K) y6 (odd_rd R5) (SqT.of (x45 t _ upd_same))
        refine fun xr dxr nx nd ned => ⟨xr, dxr, t, rd, rfl, upd_same, rfl, ?_⟩
        have xx : Ex H6 (upd (upd (upd H6 dxr (.own xr)) xr (.ins (He.ga K "Rule") dxr [])) xr (.ins (He.ga K "Rule") dxr (ruleF t rd))) := by
          rw [upd_upd]
          exact (Evl.Ex.new nd).trans (Evl.Ex.new ((upd_ne ned.symm).trans nx))
        exact Got.done g k6 R6 xr _ nx (Kp.of xx) ⟨dxr, t, cv, upd_same, st_mono xx t6, conds_mono xx c6⟩
end
end Lx
set_option Elab.async false
set_option linter.all false
set_option maxRecDepth 100000
set_option maxHeartbeats 4000000
namespace Lx
open PySem PySem.Spec PyProof.Rows L2 Pz
section
variable {P : Program} {w : World} {K : PySem.W.Frag} {mg : Str → Option Value} {base : Heap}
def spLineTold (K : PySem.W.Frag) : Sp := fun vs H Q _ => ∃ s x cl rd, vs = [.str s, .ref x] ∧ RuleAt K H x cl rd ∧ lineOk (.at_ s cl rd) ∧ ∀ H', Ex H H' → Q (.str (lineTxt (.at_ s cl rd))) H'
theorem ok_line_told (T : TT K mg base) : Ok P w K mg base 1 (He.ga K "line_told") ["spot", "rule"] [] (spLineTold K) := by
  refine ok_mk T.f_line_told sc_line_told (fun vs H Q E h => ?_) (fun _ _ _ _ _ _ us hl => match us, hl with | [_, _], _ => rfl) (fun cdv A outer s H vs Q E hr h => ?_)
  · obtain ⟨s, x, cl, rd, rfl, _⟩ := h
    rfl
  · obtain ⟨x, a, cl, rd, rfl, ⟨dx, c, cv, h1, h2, h3⟩, ⟨o1, o2, o3⟩, k⟩ := h
    refine ⟨_, (pss_cons (ps_set (i := 2) sc_line_told.nd rfl (by first | exact Or.inl rfl | exact Or.inr rfl) (pe_op op_cat (pe_lst (pa_cons pe_str (pa_cons (pv 0) pa_nil))) (pe_ifExp (pt_cmpR op_gt (pe_callB call_len_seq (by rfl) T.b_len PySem.boot_len (pa_cons (pe_fld (pv 1) rfl) pa_nil)) pe_int (nomark _)) (pe_lst (pa_cons pe_str pa_nil)) (pe_lst pa_nil))))
      (Evl.pss_cut (ps_for po_own rfl (pi_tup (pe_fld (pv 1) rfl)) (pg_name (i := 3) sc_line_told.nd rfl (by first | exact Or.inl rfl | exact Or.inr rfl))
      (pss_one (ps_expr (pe_bm PySem.F.plainAttrs_list PySem.F.slot_list_extend PySem.F.type_list_extend mt_extend (pv 2) (pa_cons (pe_lcB s H (own := [("item", 4)]) rfl sc_line_told.nd (pi_tup (pv 3)) (blkOk_by (own := [("item", 4)]) (N := nm_line_told) (sc := defScope s_line_told) (by decide +kernel)) (fun _ _ _ _ _ => (pg_name (i := 4) sc_line_told.nd rfl (by first | exact Or.inl rfl | exact Or.inr rfl))) (fun _ _ _ _ _ => pts_nil) (fun _ _ _ _ _ => (pe_callTy call_str_q (by rfl) T.b_str (by decide +kernel) (pa_cons (pv 4) pa_nil)))) pa_nil)))))
      (pss_one (ps_ret (pe_join pe_str (pe_op op_cat (pv 2) (pe_lst (pa_cons pe_str (pa_cons (pe_fld (pv 1) rfl) pa_nil))))))))), ?_⟩
    refine Evl.s_asgL (xs := ([("at" : Str), x] ++ (if cl ≠ [] then [("if" : Str)] else [])).map V.str) ?_ fun l H1 nl x1 e1 => ?_
    · rw [List.map_append]
      refine el_cat (Evl.el_lst (Evl.ea_cons Evl.ev_c (Evl.ea_cons (Evl.ev_var rfl) Evl.ea_nil)) (of_decide_eq_true rfl)) (el_if (et_lenT (ev_fld rfl h1 T.k_Rule T.n_Rule_conditions rfl) h2) (fun h => ?_) (fun h => ?_)) (by split <;> simp)
      · rw [decide_eq_true_eq, h3.len] at h
        have ne : cl ≠ [] := fun q => by
          rw [q] at h
          exact absurd h (by decide)
        rw [if_pos ne]
        exact Evl.el_lst (Evl.ea_cons Evl.ev_c Evl.ea_nil) (by decide)
      · rw [decide_eq_false_iff_not, h3.len] at h
        have ne : cl = [] := by
          cases cl with
          | nil => rfl
          | cons _ _ =>
            rw [List.length_cons] at h
            omega
        rw [if_neg (fun q => q ne)]
        exact Evl.el_lst Evl.ea_nil (by decide)
    have tw : ∀ i, (([("at" : Str), x] ++ (if cl ≠ [] then [("if" : Str)] else []) ++ ((cl.take i).map condWords).flatten)).length ≤ 100 := fun i => by
      have ef : ((cl.take i).map condWords).flatten.length ≤ (cl.take i).length * 5 := by
        rw [List.length_flatten, List.map_map]
        refine sum_le fun c hc => ?_
        have h := (o2 c (List.mem_of_mem_take hc)).2.1
        show (condWords c).length ≤ 5
        unfold condWords
        rw [List.length_cons, List.length_map, h]
        unfold bounds
        split <;> simp
      rw [List.length_take] at ef
      rw [List.length_append, List.length_append]
      have e7 : (if cl ≠ [] then [("if" : Str)] else []).length ≤ 1 := by split <;> simp
      simp only [List.length_cons, List.length_nil]
      omega
    refine ⟨fun σ H' => ∃ s3 s4 : Option V, σ = [some (.str x), some (.ref a), some (.ref l), s3, s4] ∧ Kp [l] H1 H' ∧ H' l = some (.lst ((([("at" : Str), x] ++ (if cl ≠ [] then [("if" : Str)] else []) ++ (cl.map condWords).flatten)).map V.str)), ?_, ?_⟩
    · refine Evl.s_forT (ev_fld rfl (x1 _ _ h1) T.k_Rule T.n_Rule_conditions rfl) (st_mono x1 h2) (fun i σ H' => ∃ s3 s4 : Option V, σ = [some (.str x), some (.ref a), some (.ref l), s3, s4] ∧ Kp [l] H1 H' ∧ H' l = some (.lst ((([("at" : Str), x] ++ (if cl ≠ [] then [("if" : Str)] else []) ++ ((cl.take i).map condWords).flatten)).map V.str)))
        (fun H2 x2 => ⟨none, none, rfl, Kp.of x2, ?_⟩) (fun i σ H' hi p => ?_) (fun i v σ H' hv p => ?_) (fun σ H' p => ?_)
      · show H2 l = some (.lst (((([("at" : Str), x] ++ (if cl ≠ [] then [("if" : Str)] else []))) ++ []).map V.str))
        rw [List.append_nil]
        exact x2 _ _ e1
      · obtain ⟨_, _, _, k', e'⟩ := p
        exact st_odd k' (odd_lst e1) (st_mono x1 h2)
      · obtain ⟨s3, s4, rfl, k', e'⟩ := p
        obtain ⟨cd, hcd, t, rfl, ht⟩ := (conds_odd k' (odd_lst e1) (conds_mono x1 h3)).get hv
        have co := o2 cd (List.mem_of_getElem? hcd)
        refine ⟨_, rfl, .inl ⟨rfl, _, SqL.of e'⟩, ?_⟩
        refine el_lcT (xs := .str cd.1 :: cd.2.map V.int) (fun _ => true) strQ (Evl.ev_var rfl) ht ?_ (fun x => rfl) (fun x hx => ev_yes) (fun v hv _ => ?_) H' (Evl.Ex.refl _) _ fun p H2 np x2 e2 => ?_
        · rw [List.length_cons, List.length_map, co.2.1]
          unfold bounds
          split <;> simp
        · rcases List.mem_cons.mp hv with rfl | hv
          · exact fun H2 x2 Q' q' => ⟨_, rfl, .inr ⟨_, rfl, q' H2 (Evl.Ex.refl H2)⟩⟩
          · obtain ⟨n, hn, rfl⟩ := List.mem_map.mp hv
            have hb := co.2.2 n hn
            exact fun H2 x2 Q' q' => ⟨_, rfl, .inl ⟨n, rfl, log_small hb.1 hb.2, q' H2 (Evl.Ex.refl H2)⟩⟩
        · have en : ((V.str cd.1 :: cd.2.map V.int).filter fun _ => true).map strQ = (condWords cd).map V.str := by
            rw [List.filter_eq_self.mpr (fun _ _ => rfl)]
            unfold condWords
            rw [List.map_cons, List.map_cons, List.map_map, List.map_map]
            rfl
          rw [en] at e2
          have l2 := x2 _ _ e'
          have et : ([("at" : Str), x] ++ (if cl ≠ [] then [("if" : Str)] else []) ++ ((cl.take (i + 1)).map condWords).flatten) = ([("at" : Str), x] ++ (if cl ≠ [] then [("if" : Str)] else []) ++ ((cl.take i).map condWords).flatten) ++ condWords cd := by
            rw [take_succ_of hcd, List.map_append, List.flatten_append, ← List.append_assoc]
            simp
          refine ⟨l, p, _, _, rfl, rfl, l2, e2, ?_, _, _, rfl, (k'.trans (Kp.of x2)).put (List.mem_singleton.mpr rfl), ?_⟩
          · have := tw (i + 1)
            rw [et, List.length_append] at this
            rw [List.length_map, List.length_map]
            exact Nat.le_trans this (by decide)
          · rw [upd_same, et]
            exact congrArg (fun z => some (HO.lst z)) List.map_append.symm
      · obtain ⟨s3, s4, rfl, k', e'⟩ := p
        rw [h3.len, List.take_length] at e'
        exact ⟨s3, s4, rfl, k', e'⟩
    · rintro σ H2 ⟨s3, s4, rfl, k2, e2⟩
      have kk : Ex H H2 := fun y o ex => k2 y o (fun mm => by
        rw [List.mem_singleton.mp mm, nl] at ex
        cases ex) (x1 y o ex)
      refine ⟨⟨_, rfl⟩, ?_⟩
      refine el_catV (ys := [V.str "go", .str rd]) (Evl.ev_var rfl) e2 (Evl.el_lst (Evl.ea_cons Evl.ev_c (Evl.ea_cons (ev_fld rfl (kk _ _ h1) T.k_Rule T.n_Rule_road rfl) Evl.ea_nil)) (of_decide_eq_true rfl)) ?_ H2 (Evl.Ex.refl _) _ fun p H3 np x3 e3 => ?_
      · have := tw cl.length
        rw [List.take_length] at this
        rw [List.length_map]
        exact Nat.le_trans (Nat.add_le_add_right this 2) (by decide)
      · refine ⟨_, p, atWords x cl rd, rfl, rfl, .inl (SqL.of (e3.trans (congrArg (fun z => some (HO.lst z)) (List.map_append (l₂ := [("go" : Str), rd])).symm))), ?_, k _ (kk.trans x3)⟩
        have e4 : ∀ ws : List Str, (ws.map (·.length)).sum + ws.length * (" " : Str).length = tot ws := fun ws => by
          induction ws with
          | nil => rfl
          | cons a ws ih =>
            show a.length + (ws.map (·.length)).sum + (ws.length + 1) * (" " : Str).length = (a.length + 1) + tot ws
            rw [← ih]
            have : (" " : Str).length = 1 := rfl
            rw [this]
            omega
        rw [e4]
        exact Nat.le_trans o1 (by decide)
end
end Lx
set_option Elab.async false
set_option linter.all false
set_option maxRecDepth 100000
set_option maxHeartbeats 4000000
namespace Lx
open PySem PySem.Spec PyProof.Rows L2 Pz
section
variable {P : Program} {w : World} {K : PySem.W.Frag} {mg : Str → Option Value} {base : Heap}
def kvsOf (sp : List Str) (las : List Addr) : List (Key × V) := List.zipWith (fun s l => ((.inr s : Key), V.ref l)) sp las
/-- the dict of the rules of a goal that is told: only how many there are -/
structure Cur (H0 H' : Hp) (S L d : Addr) (las : List Addr) (sp : List Str) (ls : List LineM) : Prop where
  len : las.length = sp.length
  nd : las.Nodup
  dct : H' d = some (.dK (kvsOf sp las))
  dS : d ≠ S
  Ll : L ∉ las
  d0 : H0 d = none
  l0 : ∀ l ∈ las, H0 l = none
  rl : ∀ (i : Nat) (s : Str) (l : Addr), sp[i]? = some s → las[i]? = some l → ∃ xs, H' l = some (.lst xs) ∧ xs.length = cntOf ls s
theorem Cur.kp {H0 H' H2 : Hp} {S L d : Addr} {las : List Addr} {sp : List Str} {ls : List LineM} {ms : List Addr} (c : Cur H0 H' S L d las sp ls) (k : Kp ms H' H2) (n : ∀ p ∈ ms, p ≠ d ∧ p ∉ las) : Cur H0 H2 S L d las sp ls :=
  ⟨c.len, c.nd, k _ _ (fun m => (n d m).1 rfl) c.dct, c.dS, c.Ll, c.d0, c.l0, fun i s l hs hl => by
    obtain ⟨xs, h1, h2⟩ := c.rl i s l hs hl
    exact ⟨xs, k _ _ (fun m => (n l m).2 (List.mem_of_getElem? hl)) h1, h2⟩⟩
/-- the base of the state: what does not hang on the sections -/
structure TabB (K : PySem.W.Frag) (H0 H' : Hp) (r S L : Addr) (z : Str) (ls : List LineM) (j : Nat) : Prop where
  kp : Kp [r] H0 H'
  rd : RdAt K H' r z j
  lin : H' L = some (.lst ((ls.map lineTxt).map V.str))
  ok : ∀ ln ∈ ls, lineOk ln
  n : ls.length ≤ j
  S0 : H0 S = none
  L0 : H0 L = none
structure TabI (K : PySem.W.Frag) (H0 H' : Hp) (r S L : Addr) (z : Str) (sp : List Str) (ls : List LineM) (j : Nat) (gv : V) : Prop where
  b : TabB K H0 H' r S L z ls j
  sec : ∃ skv, H' S = some (.dK skv) ∧ skv.map (·.1) = (goalsOf ls).map Sum.inr ∧ ((goalsOf ls = [] ∧ gv = .non) ∨ ∃ g d las, goalsOf ls ≠ [] ∧ gv = .str g ∧ valV skv (.inr g) = some (.ref d) ∧ Cur H0 H' S L d las sp ls)
theorem packT {H Ha Hb : Hp} {a r S L : Addr} {z : Str} {sp : List Str} {rs : List RoadM} {E : XK} (m : MapAt K Ha a sp rs) (k : Kp [] H Ha) (e : ∀ j, Bad K [] H z j E → Bad K [r] Ha z j E) (i0 : RdAt K Ha r z 0) (i : TabI K Ha Hb r S L z sp [] 0 .non) :
    ∃ Ha, MapAt K Ha a sp rs ∧ Kp [] H Ha ∧ (∀ j, Bad K [] H z j E → Bad K [r] Ha z j E) ∧ (∃ i0, RdAt K Ha r z i0) ∧ TabI K Ha Hb r S L z sp [] 0 .non := ⟨Ha, m, k, e, ⟨_, i0⟩, i⟩
theorem TabB.rdr {H0 H' H2 : Hp} {r S L : Addr} {z : Str} {ls : List LineM} {j j2 : Nat} (b : TabB K H0 H' r S L z ls j) (k : Kp [r] H' H2) (R : RdAt K H2 r z j2) (hj : j ≤ j2) : TabB K H0 H2 r S L z ls j2 :=
  ⟨b.kp.trans k, R, lst_kp k b.rd b.lin, b.ok, Nat.le_trans b.n hj, b.S0, b.L0⟩
theorem TabB.ex {H0 H' H2 : Hp} {r S L : Addr} {z : Str} {ls : List LineM} {j : Nat} (b : TabB K H0 H' r S L z ls j) (k : Ex H' H2) : TabB K H0 H2 r S L z ls j :=
  ⟨b.kp.trans (Kp.of k), b.rd.kp (Kp.of (ms := []) k) (by simp), k _ _ b.lin, b.ok, b.n, b.S0, b.L0⟩
theorem ne_r {H : Hp} {r p : Addr} {z : Str} {j : Nat} {o : HO} (R : RdAt K H r z j) (h : H p = some o) (ho : ∀ C dx fs, o ≠ .ins C dx fs) : r ≠ p := by
  obtain ⟨⟨dx, e⟩, _, _⟩ := R
  intro q
  rw [q, h] at e
  exact ho _ _ _ (Option.some.inj e)
theorem Cur.rdr {H0 H' H2 : Hp} {r S L d : Addr} {las : List Addr} {sp : List Str} {ls : List LineM} {z : Str} {j : Nat} (c : Cur H0 H' S L d las sp ls) (R : RdAt K H' r z j) (k : Kp [r] H' H2) : Cur H0 H2 S L d las sp ls :=
  c.kp k fun p hp => by
    rw [List.mem_singleton.mp hp]
    refine ⟨ne_r R c.dct (by intros; intro q; cases q), fun m => ?_⟩
    obtain ⟨i, hi, e⟩ := List.getElem_of_mem m
    obtain ⟨xs, h, _⟩ := c.rl i _ r (List.getElem?_eq_getElem (by rw [← c.len]; exact hi)) (by rw [← e]; exact List.getElem?_eq_getElem hi)
    exact ne_r R h (by intros; intro q; cases q) rfl
theorem TabI.rdr {H0 H' H2 : Hp} {r S L : Addr} {z : Str} {sp : List Str} {ls : List LineM} {j j2 : Nat} {gv : V} (I : TabI K H0 H' r S L z sp ls j gv) (k : Kp [r] H' H2) (R : RdAt K H2 r z j2) (hj : j ≤ j2) : TabI K H0 H2 r S L z sp ls j2 gv := by
  obtain ⟨b, skv, h1, h2, h3⟩ := I
  refine ⟨b.rdr k R hj, skv, k _ _ (fun m => ?_) h1, h2, ?_⟩
  · exact ne_r b.rd h1 (by intros; intro q; cases q) (List.mem_singleton.mp m).symm
  · rcases h3 with h3 | ⟨g, d, las, q1, q2, q3, q4⟩
    · exact .inl h3
    · exact .inr ⟨g, d, las, q1, q2, q3, q4.rdr b.rd k⟩
theorem TabI.ex {H0 H' H2 : Hp} {r S L : Addr} {z : Str} {sp : List Str} {ls : List LineM} {j : Nat} {gv : V} (I : TabI K H0 H' r S L z sp ls j gv) (k : Ex H' H2) : TabI K H0 H2 r S L z sp ls j gv := by
  obtain ⟨b, skv, h1, h2, h3⟩ := I
  refine ⟨b.ex k, skv, k _ _ h1, h2, ?_⟩
  rcases h3 with h3 | ⟨g, d, las, q1, q2, q3, q4⟩
  · exact .inl h3
  · exact .inr ⟨g, d, las, q1, q2, q3, q4.kp (Kp.of (ms := []) k) (by simp)⟩
theorem kvsOf_keys : ∀ {sp : List Str} {las : List Addr}, las.length = sp.length → (kvsOf sp las).map (fun kv => kV kv.1) = sp.map V.str
  | [], [], _ => rfl
  | [], _ :: _, h => by cases h
  | _ :: _, [], h => by cases h
  | s :: sp, l :: las, h => by
    have ih := kvsOf_keys (sp := sp) (las := las) (Nat.succ.inj h)
    show V.str s :: (kvsOf sp las).map (fun kv => kV kv.1) = _
    rw [ih]
    rfl
theorem kvsOf_fst : ∀ {sp : List Str} {las : List Addr}, las.length = sp.length → (kvsOf sp las).map (·.1) = sp.map Sum.inr
  | [], [], _ => rfl
  | [], _ :: _, h => by cases h
  | _ :: _, [], h => by cases h
  | s :: sp, l :: las, h => by
    have ih := kvsOf_fst (sp := sp) (las := las) (Nat.succ.inj h)
    show Sum.inr s :: (kvsOf sp las).map (·.1) = _
    rw [ih]
    rfl
theorem kvsOf_val : ∀ {sp : List Str} {las : List Addr} {i : Nat} {s : Str} {l : Addr}, sp.Nodup → sp[i]? = some s → las[i]? = some l → valV (kvsOf sp las) (.inr s) = some (.ref l)
  | [], _, _, _, _, _, h, _ => by cases h
  | _ :: _, [], _, _, _, _, _, h => by cases h
  | t :: sp, m :: las, 0, s, l, _, h1, h2 => by
    cases h1
    cases h2
    exact valV_pos rfl
  | t :: sp, m :: las, i + 1, s, l, nd, h1, h2 => by
    have h1 : sp[i]? = some s := h1
    have h2 : las[i]? = some l := h2
    obtain ⟨n1, n2⟩ := List.nodup_cons.mp nd
    have ne : ¬ (Sum.inr t : Key) = .inr s := fun q => n1 (by
      rw [Sum.inr.inj q]
      exact List.mem_of_getElem? h1)
    show valV ((Sum.inr t, V.ref m) :: kvsOf sp las) (.inr s) = _
    rw [valV_neg ne]
    exact kvsOf_val n2 h1 h2
theorem nodup_take {sp : List Str} (nd : sp.Nodup) {i : Nat} {y : Str} (h : sp[i]? = some y) : y ∉ sp.take i := fun m => by
  obtain ⟨j, hj, e⟩ := List.getElem_of_mem m
  rw [List.length_take] at hj
  rw [List.getElem_take] at e
  obtain ⟨hi, e2⟩ := List.getElem?_eq_some_iff.mp h
  exact List.pairwise_iff_getElem.mp nd j i (by omega) hi (by omega) (e.trans e2.symm)
theorem nodup_at {α : Type} {l : List α} (nd : l.Nodup) {i j : Nat} {x : α} (h1 : l[i]? = some x) (h2 : l[j]? = some x) : i = j := by
  obtain ⟨hi, e1⟩ := List.getElem?_eq_some_iff.mp h1
  obtain ⟨hj, e2⟩ := List.getElem?_eq_some_iff.mp h2
  rcases Nat.lt_trichotomy i j with q | q | q
  · exact absurd (e1.trans e2.symm) (List.pairwise_iff_getElem.mp nd i j hi hj q)
  · exact q
  · exact absurd (e2.trans e1.symm) (List.pairwise_iff_getElem.mp nd j i hj hi q)
def spRdTable (K : PySem.W.Frag) : Sp := fun vs H Q E => ∃ a z sp rs f res, vs = [.ref a, .str z] ∧ MapAt K H a sp rs ∧ sp.Nodup ∧ z.length ≤ 4000000 ∧ pTabGo (cs z) sp rs f [] 0 = some res ∧
  match res with
  | .ok ls => ∀ t S L skv H', Kp [] H H' → SqT K H' t [.ref S, .ref L] → H' S = some (.dK skv) → H' L = some (.lst ((ls.map lineTxt).map V.str)) → Q (.ref t) H'
  | .error j => Bad K [] H z j E
theorem ok_read_table (T : TT K mg base) : Ok P w K mg base 8 (He.ga K "read_table") ["land", "text"] [] (spRdTable K) := by
  refine ok_mk T.f_read_table sc_read_table (fun vs H Q E h => ?_) (fun _ _ _ _ _ _ us hl => match us, hl with | [_, _], _ => rfl) (fun cdv A outer s H vs Q E hr h => ?_)
  · obtain ⟨a, z, sp, rs, f, res, rfl, _⟩ := h
    rfl
  · obtain ⟨a, z, sp, rs, f, res, rfl, M, nd, hz, hpp, k⟩ := h
    refine ⟨_, (pss_cons (ps_asg (pe_tup (pa_cons (po_make T.mk_Reader (ok_Reader___init__ T) (hr.mono (by decide)) rfl T.g_Reader px_of (pa_cons (pv 1) pa_nil)) (pa_cons pe_dnewK (pa_cons (pe_lst pa_nil) (pa_cons pe_non pa_nil))))) (pg_tup rfl (pgs_cons (pg_name (i := 2) sc_read_table.nd rfl (by first | exact Or.inl rfl | exact Or.inr rfl)) (pgs_cons (pg_name (i := 3) sc_read_table.nd rfl (by first | exact Or.inl rfl | exact Or.inr rfl)) (pgs_cons (pg_name (i := 4) sc_read_table.nd rfl (by first | exact Or.inl rfl | exact Or.inr rfl)) (pgs_cons (pg_name (i := 5) sc_read_table.nd rfl (by first | exact Or.inl rfl | exact Or.inr rfl)) pgs_nil))))))
      (Evl.pss_cut (ps_while po_own (pt_val (po_meth0 (pv 2) T.k_Reader T.m_Reader_has_words (ok_Reader_has_words T) (hr.mono (by decide)) px_of))
      (Evl.pss_cut (ps_set (i := 6) sc_read_table.nd rfl (by first | exact Or.inl rfl | exact Or.inr rfl) (pe_ifExp (pt_cmpR op_notN (pv 5) pe_non (nomark _)) (pe_dget (hu1 hr) (pv 3) (pv 5) (fun _ _ => rfl)) pe_dnewK))
      (pss_cons (ps_setLcB s H (i := 7) (own := [("spot", 8)]) rfl sc_read_table.nd rfl rfl (sw_true rfl rfl rfl (by decide +kernel)) (pi_tup (pe_fld (pv 0) rfl)) (blkOk_by (own := [("spot", 8)]) (N := nm_read_table) (sc := defScope s_read_table) (by decide +kernel)) (fun _ _ _ _ _ => (pg_name (i := 8) sc_read_table.nd rfl (by first | exact Or.inl rfl | exact Or.inr rfl))) (fun _ _ _ _ _ => (pts_one (pt_cmp (pc_dnotin (hu1 hr) (pv 8) (pv 3))))) (fun _ _ _ _ _ => (pv 8)))
      (pss_cons (ps_lock (ps_setLcB s H (i := 9) (own := [("spot", 8)]) rfl sc_read_table.nd rfl rfl (sw_true rfl rfl rfl (by decide +kernel)) (pi_keys (pv 6)) (blkOk_by (own := [("spot", 8)]) (N := nm_read_table) (sc := defScope s_read_table) (by decide +kernel)) (fun _ _ _ _ _ => (pg_name (i := 8) sc_read_table.nd rfl (by first | exact Or.inl rfl | exact Or.inr rfl))) (fun _ _ _ _ _ => (pts_one (PW.pt (pw_and (pt_cmpR op_lt (pe_callB call_len_seq (by rfl) T.b_len PySem.boot_len (pa_cons (pe_dget (hu1 hr) (pv 6) (pv 8) (fun _ _ => rfl)) pa_nil)) (po_glob T.c_MOST_RULES) (nomark _)) (pw_and1 (pt_cmpR op_gt (pe_callB call_len_seq (by rfl) T.b_len PySem.boot_len (pa_cons (po_meth (pv 0) T.k_Map T.m_Map_roads_from (ok_Map_roads_from T) (hr.mono (by decide)) passL (pa_cons (pv 8) pa_nil)) pa_nil)) pe_int (nomark _))))))) (fun _ _ _ _ _ => (pv 8))))
      (pss_cons (ps_set (i := 10) sc_read_table.nd rfl (by first | exact Or.inl rfl | exact Or.inr rfl) (po_meth (pv 2) T.k_Reader T.m_Reader_word_of (ok_Reader_word_of T) (hr.mono (by decide)) px_of (pa_cons (pe_op op_cat (pe_ifExp (pt_cmpR (op_neNil hr.units0) (pv 7) (pe_lst pa_nil) (nomark _)) (pe_lst (pa_cons pe_str pa_nil)) (pe_lst pa_nil)) (pe_ifExp (pt_cmpR (op_neNil hr.units0) (pv 9) (pe_lst pa_nil) (nomark _)) (pe_lst (pa_cons pe_str pa_nil)) (pe_lst pa_nil))) pa_nil)))
      (pss_cons (ps_expr (po_meth0 (pv 2) T.k_Reader T.m_Reader_need_space (ok_Reader_need_space T) (hr.mono (by decide)) px_of))
      (Evl.pss_cut (ps_if (pt_cmpR op_eq (pv 10) pe_str (nomark _))
      (pss_cons (ps_set (i := 5) sc_read_table.nd rfl (by first | exact Or.inl rfl | exact Or.inr rfl) (po_meth (pv 2) T.k_Reader T.m_Reader_word_of (ok_Reader_word_of T) (hr.mono (by decide)) px_of (pa_cons (pv 7) pa_nil)))
      (pss_cons (ps_dput (hu1 hr) (pv 3) (pv 5) (pe_dcB s H (own := [("spot", 8)]) rfl sc_read_table.nd (pi_tup (pe_fld (pv 0) rfl)) (blkOk_by (own := [("spot", 8)]) (N := nm_read_table) (sc := defScope s_read_table) (by decide +kernel)) (fun _ _ _ _ _ => (pg_name (i := 8) sc_read_table.nd rfl (by first | exact Or.inl rfl | exact Or.inr rfl))) (fun _ _ _ _ _ => pts_nil) (fun _ _ _ _ _ => (pv 8)) (fun _ _ _ _ _ => (pe_lst pa_nil))) rfl)
      (pss_one (ps_expr (pe_bm PySem.F.plainAttrs_list PySem.F.slot_list_append PySem.F.type_list_append mt_append (pv 4) (pa_cons (pe_op op_add_str pe_str (pv 5)) pa_nil))))))
      (pss_cons (ps_set (i := 8) sc_read_table.nd rfl (by first | exact Or.inl rfl | exact Or.inr rfl) (po_meth (pv 2) T.k_Reader T.m_Reader_word_of (ok_Reader_word_of T) (hr.mono (by decide)) px_of (pa_cons (pv 9) pa_nil)))
      (pss_cons (ps_set (i := 11) sc_read_table.nd rfl (by first | exact Or.inl rfl | exact Or.inr rfl) (po_call (ok_read_rule T) (hr.mono (by decide)) rfl T.g_read_rule px_of (pa_cons (pv 2) (pa_cons (pv 0) (pa_cons (pv 8) pa_nil)))))
      (pss_cons (ps_expr (pe_bm PySem.F.plainAttrs_list PySem.F.slot_list_append PySem.F.type_list_append mt_append (pe_dget (hu1 hr) (pv 6) (pv 8) (fun _ _ => rfl)) (pa_cons (pv 11) pa_nil)))
      (pss_one (ps_expr (pe_bm PySem.F.plainAttrs_list PySem.F.slot_list_append PySem.F.type_list_append mt_append (pv 4) (pa_cons (po_call (ok_line_told T) (hr.mono (by decide)) rfl T.g_line_told px_of (pa_cons (pv 8) (pa_cons (pv 11) pa_nil))) pa_nil))))))))
      (pss_one (ps_expr (po_meth0 (pv 2) T.k_Reader T.m_Reader_end_line (ok_Reader_end_line T) (hr.mono (by decide)) px_of))))))))))
      (pss_one (ps_ret (pe_tup (pa_cons (pv 3) (pa_cons (pv 4) pa_nil))))))), ?_⟩
    refine ⟨_, rfl, fun r dx hr1 hdx hne => ⟨r, dx, z, rfl, hz, upd_same, rfl, ?_⟩⟩
    have R0 : RdAt K (upd (upd (upd H dx (.own r)) r (.ins (He.ga K "Reader") dx [])) r (.ins (He.ga K "Reader") dx (rdF z 0))) r z 0 := ⟨⟨dx, upd_same⟩, Nat.zero_le _, hz⟩
    have k0 : Kp [] H (upd (upd (upd H dx (.own r)) r (.ins (He.ga K "Reader") dx [])) r (.ins (He.ga K "Reader") dx (rdF z 0))) := (((Kp.refl _ _).new hdx).new hr1).new hr1
    obtain ⟨Ha, eHa⟩ : ∃ Ha, Ha = (upd (upd (upd H dx (.own r)) r (.ins (He.ga K "Reader") dx [])) r (.ins (He.ga K "Reader") dx (rdF z 0))) := ⟨_, rfl⟩
    rw [← eHa] at R0 k0
    have Ma := M.mono k0.ex
    have fin : ∀ S, Ha S = none → ∀ L, upd Ha S (.dK []) L = none → ∀ p u, upd (upd Ha S (.dK [])) L (.lst []) p = none → TabI K Ha (upd (upd (upd Ha S (.dK [])) L (.lst [])) p u) r S L z sp [] 0 .non ∧ Ha L = none := fun S hS L hL p u hp => by
      have nSL : S ≠ L := ne_of_none upd_same hL
      have x3 := Evl.Ex.new (o := u) hp
      have hL' : Ha L = none := by
        rw [upd_ne nSL.symm] at hL
        exact hL
      refine ⟨⟨⟨(((Kp.refl [r] Ha).new2 hS).new2 hL).new2 hp, ((R0.new hS).new hL).new hp, x3 _ _ upd_same, fun _ z => (nomatch z), Nat.zero_le _, hS, hL'⟩, [], x3 _ _ ((upd_ne nSL).trans upd_same), rfl, .inl ⟨rfl, rfl⟩⟩, hL'⟩
    have EE : ∀ j, Bad K [] H z j E → Bad K [r] Ha z j E := fun j b d H' k' hd e => b d H' (fun x o _ ex => k' x o (fun m => by
      rw [List.mem_singleton.mp m, hr1] at ex
      cases ex) (k0.ex x o ex)) (fresh k0 hd (by simp)) e
    subst eHa
    refine fun S hS => ⟨by decide, fun L hL => ⟨of_decide_eq_true rfl, fun p hp => ⟨p, _, rfl, SqT.of upd_same, rfl, _, _, rfl, _, _, rfl, _, _, rfl, _, _, rfl, rfl, ?_⟩⟩⟩
    obtain ⟨I0, hL'⟩ := fin S hS L hL p _ hp
    obtain ⟨Ha, Ma, k0, EE, ⟨i00, R00⟩, I0⟩ := packT Ma k0 EE R0 I0
    refine ⟨fun σ H' => ∃ (ls : List LineM) (skv : List (Key × V)) (gv : Option V) (s6 s7 s8 s9 s10 s11 : Option V), res = .ok ls ∧ σ = [some (.ref a), some (.str z), some (.ref r), some (.ref S), some (.ref L), gv, s6, s7, s8, s9, s10, s11] ∧ Kp [r] Ha H' ∧ H' S = some (.dK skv) ∧ H' L = some (.lst ((ls.map lineTxt).map V.str)), ?_, ?_⟩
    · refine ⟨fun m σ H' => ∃ (ls : List LineM) (j : Nat) (gv : V) (s6 s7 s8 s9 s10 s11 : Option V), σ = [some (.ref a), some (.str z), some (.ref r), some (.ref S), some (.ref L), some gv, s6, s7, s8, s9, s10, s11] ∧ TabI K Ha H' r S L z sp ls j gv ∧ pTabGo (cs z) sp rs m ls j = some res,
        ⟨f, [], 0, .non, none, none, none, none, none, none, rfl, I0, hpp⟩, ?_⟩
      clear I0
      rintro m σ H1 ⟨ls, j, gv, s6, s7, s8, s9, s10, s11, rfl, I1, hp1⟩
      obtain ⟨⟨dx1, h1⟩, _, _⟩ := id I1.b.rd
      refine ⟨_, rfl, r, dx1, _, rfl, h1, rfl, r, z, j, rfl, I1.b.rd, fun H2 k2 R2 => ⟨_, rfl, ?_⟩⟩
      have I2 := I1.rdr k2 R2 (skip_ge _ _ _)
      clear h1 dx1 k2 I1
      cases m with
      | zero => cases hp1
      | succ fu =>
        rw [pTabGo, cs_len] at hp1
        by_cases c : skipN isWs (cs z) j < z.length
        · rw [if_pos c] at hp1
          rw [decide_eq_true c]
          have g : Got K Ha r z (pLineE (cs z) sp rs ls (skipN isWs (cs z) j)) (fun ln H' => ∃ j', pLineE (cs z) sp rs ls (skipN isWs (cs z) j) = .ok (ln, j') ∧ RdAt K H' r z j') E := by
            cases hl : pLineE (cs z) sp rs ls (skipN isWs (cs z) j) with
            | ok p => exact fun H' _ R' => ⟨_, rfl, R'⟩
            | error e =>
              rw [hl] at hp1
              injection hp1 with hp1
              subst hp1
              exact EE _ k
          obtain ⟨Q1, hQ1, g⟩ : ∃ Q1 : LineM → Hp → Prop, (∀ ln H', Q1 ln H' → ∃ j', pLineE (cs z) sp rs ls (skipN isWs (cs z) j) = .ok (ln, j') ∧ RdAt K H' r z j') ∧ Got K Ha r z (pLineE (cs z) sp rs ls (skipN isWs (cs z) j)) Q1 E := ⟨_, fun _ _ h => h, g⟩
          have hg : ∀ ln j', pLineE (cs z) sp rs ls (skipN isWs (cs z) j) = .ok (ln, j') → pTabGo (cs z) sp rs fu (ls ++ [ln]) j' = some res := fun ln j' e => by
            rw [e] at hp1
            exact hp1
          clear hp1
          generalize hi1 : skipN isWs (cs z) j = i1 at g hg I2 c hQ1
          refine iteT ⟨fun σ H' => ∃ (ls : List LineM) (j : Nat) (gv : V) (s6 s7 s8 s9 s10 s11 : Option V), σ = [some (.ref a), some (.str z), some (.ref r), some (.ref S), some (.ref L), some gv, s6, s7, s8, s9, s10, s11] ∧ TabI K Ha H' r S L z sp ls j gv ∧ pTabGo (cs z) sp rs fu ls j = some res, fun σ' H' h => ⟨fu, Nat.lt_succ_self _, h⟩, ?_⟩
          -- the rules of the goal that is told
          refine ⟨fun σ H3 => ∃ (d : Addr) (kvs : List (Key × V)) (spk : List Str), σ = [some (.ref a), some (.str z), some (.ref r), some (.ref S), some (.ref L), some gv, some (.ref d), s7, s8, s9, s10, s11] ∧ TabI K Ha H3 r S L z sp ls i1 gv ∧ H3 d = some (.dK kvs) ∧ Ha d = none ∧ d ≠ S ∧
            kvs.map (fun kv => kV kv.1) = spk.map V.str ∧ spk = (if goalsOf ls = [] then [] else sp) ∧ (∀ s ∈ spk, ∃ l xs, valV kvs (.inr s) = some (.ref l) ∧ H3 l = some (.lst xs) ∧ xs.length = cntOf ls s) ∧ (goalsOf ls ≠ [] → ∃ las, Cur Ha H3 S L d las sp ls) ∧ (∃ skv, H3 S = some (.dK skv) ∧ ∀ gl, gv = .str gl → valV skv (.inr gl) = some (.ref d)), ?_, ?_⟩
          · obtain ⟨b, skv, q1, q2, q3⟩ := id I2
            refine ⟨_, rfl, rfl, _, rfl, ?_⟩
            rcases q3 with ⟨hg0, rfl⟩ | ⟨gl, d, las, hg0, rfl, q4, cu⟩
            · refine iteF fun p hp => ?_
              have x := Evl.Ex.new (o := .dK []) hp
              refine ⟨p, [], [], rfl, I2.ex x, upd_same, fresh b.kp hp (fun m => ?_), (ne_of_none q1 hp).symm, rfl, by rw [if_pos hg0], fun s hs => (by cases hs), fun h => absurd hg0 h, skv, x _ _ q1, fun gl h => by cases h⟩
              obtain ⟨⟨_, h⟩, _, _⟩ := b.rd
              rw [List.mem_singleton.mp m, h] at hp
              cases hp
            · refine iteT ⟨_, rfl, _, rfl, S, _, rfl, .inl ⟨skv, .inr gl, .inl q1, rfl, q4.symm⟩, ?_⟩
              refine ⟨d, kvsOf sp las, sp, rfl, I2, cu.dct, cu.d0, cu.dS, kvsOf_keys cu.len, by rw [if_neg hg0], fun s hs => ?_, fun _ => ⟨las, cu⟩, skv, q1, fun g2 h => by cases h; exact q4⟩
              obtain ⟨i, hi, e⟩ := List.getElem_of_mem hs
              have hs2 : sp[i]? = some s := by rw [List.getElem?_eq_getElem hi, e]
              have hl2 : las[i]? = some (las[i]'(by rw [cu.len]; exact hi)) := List.getElem?_eq_getElem _
              obtain ⟨xs, h1, h2⟩ := cu.rl i s _ hs2 hl2
              exact ⟨_, xs, kvsOf_val nd hs2 hl2, h1, h2⟩
          · clear I2
            rintro σ H3 ⟨d, kvs, spk, rfl, I3, hd3, d0, dS, ks, espk, rl, cu, skv0, hS3, hv3⟩
            obtain ⟨dxm, t1, t2, d1, d2, kv2, m1, m2, _⟩ := (Ma.kp R00 I3.b.kp).ex
            obtain ⟨b3, skv, q1, q2, q3⟩ := id I3
            have hn1 := b3.n
            refine Evl.s_asgL (xs := (freshOf sp ls).map V.str) ?_ fun fr H4 nfr x4 efr => ?_
            · have e : (((sp.map V.str).filter fun x => match x with | .str s => decide (s ∉ goalsOf ls) | _ => false).map id) = (freshOf sp ls).map V.str := by
                rw [List.map_id, List.filter_map]
                rfl
              rw [← e]
              refine el_lcT _ id (ev_fld rfl m1 T.k_Map T.n_Map_spots rfl) m2 (by rw [List.length_map]; exact Nat.le_trans Ma.l1 (by decide)) (fun x => rfl) (fun v hv => ?_) (fun x hx _ => Evl.ev_var rfl)
              obtain ⟨x, hx, rfl⟩ := List.mem_map.mp hv
              refine Evl.et_is (Evl.et_B (ev_dnotin (k := .inr x) rfl rfl (.inl q1))) ?_
              show (!(valV skv (.inr x)).isSome) = decide (x ∉ goalsOf ls)
              by_cases hm : x ∈ goalsOf ls
              · rw [decide_eq_false (fun q => q hm), val_some_iff.mpr (by rw [q2]; exact List.mem_map.mpr ⟨x, hm, rfl⟩)]
                rfl
              · rw [decide_eq_true hm]
                cases hv2 : (valV skv (.inr x)).isSome with
                | false => rfl
                | true =>
                  have h := val_some_iff.mp hv2
                  rw [q2] at h
                  obtain ⟨y, hy, e⟩ := List.mem_map.mp h
                  exact absurd (Sum.inr.inj e ▸ hy) hm
            -- the spots that may have a rule more; the dict is walked over
            have hd4 := x4 _ _ hd3
            have I4 := I3.ex x4
            have M4 := Ma.kp R00 I4.b.kp
            have efree : opnOf sp rs ls = spk.filter fun s => decide (cntOf ls s < 4) && decide (0 < (namesAt rs s).length) := by
              unfold opnOf
              rw [espk]
              split <;> rfl
            refine ⟨d, .dK kvs, hd4, trivial, fun od => ?_⟩
            refine ⟨_, rfl, d, od, rfl, .inl ⟨kvs, upd_same, fun D hD => ?_⟩⟩
            have kl : Kp [r] Ha (upd H4 d (.frz od (.dK kvs))) := I4.b.kp.out ((Kp.refl _ _).put (List.mem_singleton.mpr rfl)) d0
            have Ml := Ma.kp R00 kl
            have rl4 : ∀ s ∈ spk, ∃ l xs, valV kvs (.inr s) = some (.ref l) ∧ upd H4 d (.frz od (.dK kvs)) l = some (.lst xs) ∧ xs.length = cntOf ls s := fun s hs => by
              obtain ⟨l, xs, h1, h2, h3⟩ := rl s hs
              refine ⟨l, xs, h1, (upd_ne (fun q => ?_)).trans (x4 _ _ h2), h3⟩
              rw [q, hd3] at h2
              cases h2
            have lk : kvs.length ≤ 200 := by
              have h := congrArg List.length ks
              rw [List.length_map, List.length_map] at h
              rw [h, espk]
              split
              · exact Nat.zero_le _
              · exact Ma.l1
            refine lcK_fm (fun x => match x with | .str s => decide (cntOf ls s < 4) && decide (0 < (namesAt rs s).length) | _ => false) id upd_same hD (Nat.le_trans lk (by decide)) (fun x => rfl) (fun v hv => ?_) (fun x hx _ => Evl.ev_var rfl) (fun H5 x5 e5 => ?_)
            · rw [ks] at hv
              obtain ⟨x, hx, rfl⟩ := List.mem_map.mp hv
              obtain ⟨l, xs, h1, h2, h3⟩ := rl4 x hx
              have hxs : x ∈ sp := by
                rw [espk] at hx
                split at hx
                · cases hx
                · exact hx
              refine Evl.et_and (Evl.et_is (et_lenL (ev_dgetF (k := .inr x) rfl rfl (.inr ⟨od, upd_same⟩) h1) (SqL.of h2)) ?_) (fun _ => ?_)
              · rw [h3]
                exact decide_eq_decide.mpr (by omega)
              · intro H6 x6 Q6 q6
                have M6 := Ml.mono x6
                obtain ⟨dx6, _, _, _, _, _, m6, _⟩ := M6.ex
                refine ⟨_, rfl, a, dx6, _, rfl, m6, rfl, _, rfl, a, x, sp, rs, rfl, M6, hxs, fun t bs nt rb => ?_⟩
                refine ⟨t, _, rfl, .inr (SqT.of upd_same), _, _, rfl, rfl, _, rfl, ?_⟩
                have e : decide ((0 : Int) < (((bs.map V.ref).length : Nat) : Int)) = decide (0 < (namesAt rs x).length) := by
                  unfold namesAt
                  rw [List.length_map, List.length_map, roads_len rb]
                  unfold startsAt
                  exact decide_eq_decide.mpr (by omega)
                show Q6 (decide ((0 : Int) < (((bs.map V.ref).length : Nat) : Int))) _
                rw [e]
                exact q6 _ (Evl.Ex.new nt)
            · rw [ks, List.map_id, List.filter_map] at e5
              have e5 : H5 D = some (.lst ((opnOf sp rs ls).map V.str)) := by
                rw [e5, efree]
                rfl
              refine ⟨x5 _ _ upd_same, ?_⟩
              have xf : Ex H4 (upd H5 d (.dK kvs)) := fun y o ey => by
                by_cases yd : y = d
                · rw [yd] at ey ⊢
                  rw [upd_same, ← ey, hd4]
                · exact (upd_ne yd).trans (x5 _ _ ((upd_ne yd).trans ey))
              have Dd : D ≠ d := fun q => by rw [q, upd_same] at hD; cases hD
              have e6 : upd H5 d (.dK kvs) D = some (.lst ((opnOf sp rs ls).map V.str)) := (upd_ne Dd).trans e5
              have ef6 := xf _ _ efr
              have I6 := I4.ex xf
              have hd6 : upd H5 d (.dK kvs) d = some (.dK kvs) := upd_same
              have cu6 : goalsOf ls ≠ [] → ∃ las, Cur Ha (upd H5 d (.dK kvs)) S L d las sp ls := fun h => by
                obtain ⟨las, c⟩ := cu h
                exact ⟨las, c.kp (Kp.of (ms := []) (x4.trans xf)) (by simp)⟩
              have rl6 : ∀ s ∈ spk, ∃ l xs, valV kvs (.inr s) = some (.ref l) ∧ upd H5 d (.dK kvs) l = some (.lst xs) ∧ xs.length = cntOf ls s := fun s hs => by
                obtain ⟨l, xs, h1, h2, h3⟩ := rl s hs
                exact ⟨l, xs, h1, xf _ _ (x4 _ _ h2), h3⟩
              have hS6 := xf _ _ (x4 _ _ hS3)
              generalize upd H5 d (.dK kvs) = H6 at e6 ef6 I6 hd6 cu6 rl6 hS6 ⊢
              clear xf x5 e5 rl4 lk Ml kl Dd M4 I4 hd4 rl cu x4 efr nfr I3 hd3 m1 m2 b3 q1 q2 q3 efree
              obtain ⟨⟨dx6, h6⟩, _, _⟩ := id I6.b.rd
              refine ⟨_, rfl, r, dx6, _, rfl, h6, rfl, ?_⟩
              refine el_cat (xs := (if freshOf sp ls ≠ [] then [V.str "goal"] else [])) (ys := (if opnOf sp rs ls ≠ [] then [V.str "at"] else [])) (el_if (et_nil true rfl (SqL.of ef6)) (fun h => ?_) (fun h => ?_)) (el_if (et_nil true rfl (SqL.of e6)) (fun h => ?_) (fun h => ?_)) (by split <;> split <;> simp) H6 (Evl.Ex.refl _) _ fun q H7 nq x7 e7 => ?_
              · have ne : freshOf sp ls ≠ [] := fun q => by
                  rw [q] at h
                  cases h
                rw [if_pos ne]
                exact Evl.el_lst (Evl.ea_cons Evl.ev_c Evl.ea_nil) (by decide)
              · have ne : freshOf sp ls = [] := by
                  cases hh : freshOf sp ls with
                  | nil => rfl
                  | cons _ _ =>
                    rw [hh] at h
                    cases h
                rw [if_neg (fun q => q ne)]
                exact Evl.el_lst Evl.ea_nil (by decide)
              · have ne : opnOf sp rs ls ≠ [] := fun q => by
                  rw [q] at h
                  cases h
                rw [if_pos ne]
                exact Evl.el_lst (Evl.ea_cons Evl.ev_c Evl.ea_nil) (by decide)
              · have ne : opnOf sp rs ls = [] := by
                  cases hh : opnOf sp rs ls with
                  | nil => rfl
                  | cons _ _ =>
                    rw [hh] at h
                    cases h
                rw [if_neg (fun q => q ne)]
                exact Evl.el_lst Evl.ea_nil (by decide)
              have e7 : H7 q = some (.lst ((lineWords sp rs ls).map V.str)) := by
                rw [e7]
                unfold lineWords
                split <;> split <;> rfl
              have I7 := I6.ex x7
              rw [pLineE_eq] at g
              refine ⟨r, z, i1, q, lineWords sp rs ls, rfl, I7.b.rd, SqL.of e7, Nat.le_trans (lineWords_len _ _ _) (by decide), fun v hv => ?_, Got.step g I7.b.kp I7.b.rd fun w8 j8 H8 ew k8 R8 y8 g => ?_⟩
              · rcases lineWords_mem hv with rfl | rfl <;> decide
              have w8l := pWord_len ew
              have I8 := I7.rdr y8 R8 (by omega)
              obtain ⟨⟨dx8, h8⟩, _, _⟩ := id R8
              refine ⟨_, rfl, r, dx8, _, rfl, h8, rfl, r, z, _, rfl, R8, Got.step g k8 R8 fun _ j9 H9 eg k9 R9 y9 g => ?_⟩
              have g9 := gap_len eg
              have I9 := I8.rdr y9 R9 (by omega)
              have x69 : Kp [r] H6 H9 := ((Kp.of x7).trans y8).trans y9
              have ef9 := lst_kp x69 I6.b.rd ef6
              have e9 := lst_kp x69 I6.b.rd e6
              have rd6 := I6.b.rd
              have hS9 : H9 S = some (.dK skv0) := x69 _ _ (fun m => ne_r rd6 hS6 (by intros; intro q; cases q) (List.mem_singleton.mp m).symm) hS6
              have cu9 : goalsOf ls ≠ [] → ∃ las, Cur Ha H9 S L d las sp ls := fun h => by
                obtain ⟨las, c⟩ := cu6 h
                exact ⟨las, c.rdr rd6 x69⟩
              have hd9 : H9 d = some (.dK kvs) := x69 _ _ (fun m => ne_r rd6 hd6 (by intros; intro q; cases q) (List.mem_singleton.mp m).symm) hd6
              have rl9 : ∀ s ∈ spk, ∃ l xs, valV kvs (.inr s) = some (.ref l) ∧ H9 l = some (.lst xs) ∧ xs.length = cntOf ls s := fun s hs => by
                obtain ⟨l, xs, h1, h2, h3⟩ := rl6 s hs
                exact ⟨l, xs, h1, lst_kp x69 rd6 h2, h3⟩
              clear x69 rd6 cu6 rl6 hd6 I6 I7 I8 e6 ef6 e7 x7
              have hq : ∀ ln jn, pLine (cs z) sp rs ls i1 = .ok (ln, jn) → lineFin (cs z) ln jn = pLineE (cs z) sp rs ls i1 := fun ln jn e => by
                unfold pLineE
                rw [e, bnd_of]
                rfl
              refine ⟨fun σ H' => ∃ (ln : LineM) (j' : Nat) (gv : V) (s6 s7 s8 s9 s10 s11 : Option V), σ = [some (.ref a), some (.str z), some (.ref r), some (.ref S), some (.ref L), some gv, s6, s7, s8, s9, s10, s11] ∧ TabI K Ha H' r S L z sp (ls ++ [ln]) j' gv ∧
                Got K Ha r z (lineFin (cs z) ln j') Q1 E ∧ pLine (cs z) sp rs ls i1 = .ok (ln, j'), ?_, ?_⟩
              · obtain ⟨⟨dx9, h9⟩, _, _⟩ := id R9
                have hpl0 : pLine (cs z) sp rs ls i1 = lineTail (cs z) sp rs ls w8 j9 := by
                  have eg' : gapU (cs z) j8 = .ok ((), j9) := eg
                  unfold pLine
                  rw [ew, bnd_of, eg', bnd_of]
                  rfl
                refine ⟨_, rfl, rfl, _, rfl, ?_⟩
                by_cases cw : w8 = "goal"
                · rw [decide_eq_true (congrArg V.str cw)]
                  unfold lineTail at g hpl0
                  rw [if_pos cw, bnd_bnd] at g
                  rw [if_pos cw] at hpl0
                  refine iteT ⟨_, rfl, r, dx9, _, rfl, h9, rfl, _, rfl, r, z, _, fr, freshOf sp ls, rfl, R9, SqL.of ef9, ?_, fun v hv => Ma.n1 v (freshOf_mem hv).1, Got.step g k9 R9 fun gl jA HA eA kA RA yA g => ?_⟩
                  · exact Nat.le_trans (List.length_filter_le _ _) (Nat.le_trans Ma.l1 (by decide))
                  rw [eA, bnd_of] at hpl0
                  have lA := pWord_len eA
                  have IA := I9.rdr yA RA (by omega)
                  obtain ⟨g1, g2⟩ := freshOf_mem (pWord_ok eA).1
                  obtain ⟨bA, skv, q1, q2, q3⟩ := id IA
                  obtain ⟨dxm, t1, t2, d1, d2, kv2, m1, m2, _⟩ := (Ma.kp R00 bA.kp).ex
                  refine ⟨_, rfl, a, _, dxm, _, _, rfl, m1, T.k_Map, T.n_Map_spots, rfl, t1, rfl, ⟨_, m2⟩, fun D hD => ?_⟩
                  refine dc_tup (K := K) (xs := sp.map V.str) (fun i H' => Ex HA H' ∧ ∃ las : List Addr, las.length = i ∧ las.Nodup ∧ H' D = some (.dK (kvsOf (sp.take i) las)) ∧ ∀ l ∈ las, HA l = none ∧ H' l = some (.lst [])) ⟨Evl.Ex.new hD, [], rfl, List.nodup_nil, upd_same, fun _ h => (by cases h)⟩ (fun i H' _ p => st_mono p.1 m2) (fun i x H' hx p => ?_) (fun HB p => ?_)
                  · obtain ⟨px, las, pl, pn, pd, pz⟩ := p
                    rw [List.getElem?_map] at hx
                    cases hg2 : sp[i]? with
                    | none =>
                      rw [hg2] at hx
                      cases hx
                    | some y =>
                      rw [hg2] at hx
                      cases hx
                      have hi := (List.getElem?_eq_some_iff.mp hg2).1
                      have li := Ma.l1
                      have ltk : (sp.take i).length = i := by
                        rw [List.length_take]
                        omega
                      refine ⟨rfl, ev_yes H' px _ fun H3 e3 => iteT ⟨_, rfl, by decide, fun l hl => ?_⟩⟩
                      have x4 := Evl.Ex.new (o := .lst []) hl
                      have nv : valV (kvsOf (sp.take i) las) (.inr y) = none := by
                        cases hv : valV (kvsOf (sp.take i) las) (.inr y) with
                        | none => rfl
                        | some v =>
                          have h := val_some_iff.mp (show (valV (kvsOf (sp.take i) las) (.inr y)).isSome = true by rw [hv]; rfl)
                          have h : (Sum.inr y : Key) ∈ (kvsOf (sp.take i) las).map (·.1) := h
                          rw [kvsOf_fst (by rw [pl, ltk])] at h
                          obtain ⟨u, hu, e⟩ := List.mem_map.mp h
                          have e := Sum.inr.inj e
                          subst e
                          exact absurd hu (nodup_take nd hg2)
                      have nl : l ∉ las := fun m => by
                        rw [e3 _ _ (pz l m).2] at hl
                        cases hl
                      refine ⟨_, .inr y, rfl, x4 _ _ (e3 _ _ pd), ?_, ?_⟩
                      · unfold kvsOf
                        rw [List.length_zipWith]
                        exact Nat.lt_of_lt_of_le (show min _ _ < 1000 by omega) (by decide)
                      · refine ⟨((px.trans e3).trans x4).mut hD, las ++ [l], by rw [List.length_append, pl]; rfl, ?_, ?_, fun l2 hl2 => ?_⟩
                        · rw [List.nodup_append]
                          refine ⟨pn, List.nodup_cons.mpr ⟨(by simp), List.nodup_nil⟩, fun u hu v hv e => ?_⟩
                          rw [List.mem_singleton.mp hv] at e
                          exact nl (e ▸ hu)
                        · rw [upd_same, putK_new _ nv, take_succ_of hg2]
                          unfold kvsOf
                          rw [List.zipWith_append (by rw [ltk, pl])]
                          rfl
                        · have nD : ∀ u, upd H3 l (.lst []) u = some (.lst []) → upd (upd H3 l (.lst [])) D (.dK (putK (kvsOf (sp.take i) las) (.inr y) (.ref l))) u = some (.lst []) := fun u hu => by
                            rw [upd_ne (fun q => ?_)]
                            · exact hu
                            · rw [q, x4 _ _ (e3 _ _ pd)] at hu
                              cases hu
                          rcases List.mem_append.mp hl2 with h | h
                          · exact ⟨(pz l2 h).1, nD _ (x4 _ _ (e3 _ _ (pz l2 h).2))⟩
                          · rw [List.mem_singleton.mp h]
                            exact ⟨Evl.fresh_back (px.trans e3) hl, nD _ upd_same⟩
                  · obtain ⟨xB, las, pl, pn, pd, pz⟩ := p
                    rw [List.length_map] at pl
                    rw [List.length_map, List.take_length] at pd
                    have q1B := xB _ _ q1
                    have SD : S ≠ D := ne_of_none q1 hD
                    refine ⟨_, rfl, _, rfl, S, _, rfl, .inl ⟨skv, .inr gl, q1B, rfl, ?_, rfl⟩, ?_⟩
                    · have h := congrArg List.length q2
                      rw [List.length_map, List.length_map] at h
                      have h2 := goals_len ls
                      have h3 := RA.le
                      have h4 := RA.sz
                      exact Nat.lt_of_le_of_lt (show skv.length ≤ 4000000 by omega) (by decide)
                    have linB := xB _ _ bA.lin
                    have LS : L ≠ S := fun q => by
                      rw [q, q1B] at linB
                      cases linB
                    have linC : upd HB S (.dK (putK skv (.inr gl) (.ref D))) L = some (.lst ((ls.map lineTxt).map V.str)) := (upd_ne LS).trans linB
                    refine ⟨_, rfl, .inl ⟨rfl, _, SqL.of linC⟩, ?_⟩
                    refine ⟨_, rfl, _, _, rfl, rfl, ?_, ?_⟩
                    · exact Nat.le_trans (Nat.add_le_add_left (Ma.n1 gl g1) _) (by decide)
                    have h3 := RA.le
                    have h4 := RA.sz
                    refine ⟨L, _, _, rfl, rfl, linC, ?_, ?_⟩
                    · rw [List.length_map, List.length_map]
                      exact Nat.lt_of_le_of_lt (show ls.length ≤ 4000000 by omega) (by decide)
                    have kC : Kp [S] HB (upd HB S (.dK (putK skv (.inr gl) (.ref D)))) := (Kp.refl _ _).put (List.mem_singleton.mpr rfl)
                    have kD : Kp [L] (upd HB S (.dK (putK skv (.inr gl) (.ref D)))) (upd (upd HB S (.dK (putK skv (.inr gl) (.ref D)))) L (.lst ((ls.map lineTxt).map V.str ++ [.str (("goal " : Str) ++ gl)]))) := (Kp.refl _ _).put (List.mem_singleton.mpr rfl)
                    have RB := RA.kp (Kp.of (ms := []) xB) (by simp)
                    have rS : r ≠ S := ne_r RB q1B (by intros; intro q; cases q)
                    have RC := RB.kp kC (by simpa using rS)
                    have rL : r ≠ L := ne_r RC linC (by intros; intro q; cases q)
                    have RD := RC.kp kD (by simpa using rL)
                    have nr : ∀ u, HA u = none → Ha u = none := fun u hu => fresh bA.kp hu (fun m => by
                      obtain ⟨⟨_, h⟩, _, _⟩ := RA
                      rw [List.mem_singleton.mp m, h] at hu
                      cases hu)
                    have DL : D ≠ L := fun q => by
                      rw [q, bA.lin] at hD
                      cases hD
                    have Ll : L ∉ las := fun m => by
                      have := (pz L m).1
                      rw [bA.lin] at this
                      cases this
                    have nvg : valV skv (.inr gl) = none := by
                      cases hv : valV skv (.inr gl) with
                      | none => rfl
                      | some v =>
                        have h := val_some_iff.mp (show (valV skv (.inr gl)).isSome = true by rw [hv]; rfl)
                        have h : (Sum.inr gl : Key) ∈ skv.map (·.1) := h
                        rw [q2] at h
                        obtain ⟨u, hu, e⟩ := List.mem_map.mp h
                        have e := Sum.inr.inj e
                        subst e
                        exact absurd hu g2
                    refine ⟨.goal gl, jA, .str gl, _, _, _, _, _, _, rfl, ⟨⟨((bA.kp.trans (Kp.of xB)).out kC bA.S0).out kD bA.L0, RD, ?_, fun ln hln => ?_, ?_, bA.S0, bA.L0⟩, putK skv (.inr gl) (.ref D), (upd_ne LS.symm).trans upd_same, ?_, .inr ⟨gl, D, las, ?_, rfl, ?_, ?_⟩⟩, g, hpl0⟩
                    · rw [upd_same, List.map_append, List.map_append]
                      rfl
                    · rcases List.mem_append.mp hln with h | h
                      · exact bA.ok ln h
                      · rw [List.mem_singleton.mp h]
                        exact (pLine_ok (by omega) hpl0).2.2
                    · rw [List.length_append]
                      have : [LineM.goal gl].length = 1 := rfl
                      omega
                    · rw [putK_new _ nvg, List.map_append, q2, goalsOf_app, List.map_append]
                      rfl
                    · rw [goalsOf_app]
                      intro q
                      have := congrArg List.length q
                      rw [List.length_append] at this
                      simp [goalsOf] at this
                    · rw [valV_put, if_pos rfl]
                    · refine ⟨pl, pn, (upd_ne DL).trans ((upd_ne SD.symm).trans pd), SD.symm, Ll, nr D hD, fun l hl => nr l (pz l hl).1, fun i s l hs hl => ⟨[], ?_, by rw [cntOf_goal]; rfl⟩⟩
                      have hm := List.mem_of_getElem? hl
                      have h0 := (pz l hm).2
                      rw [upd_ne (fun q => Ll (by rw [← q]; exact hm)), upd_ne (fun q => by rw [q, q1B] at h0; cases h0)]
                      exact h0
                · rw [decide_eq_false (fun q => cw (V.str.inj q))]
                  unfold lineTail at g hpl0
                  rw [if_neg cw, bnd_bnd] at g
                  rw [if_neg cw] at hpl0
                  refine iteF ⟨_, rfl, r, dx9, _, rfl, h9, rfl, _, rfl, r, z, _, D, opnOf sp rs ls, rfl, R9, SqL.of e9, ?_, fun v hv => Ma.n1 v (opnOf_mem hv).1, Got.step g k9 R9 fun x jA HA eA kA RA yA g => ?_⟩
                  · have : (opnOf sp rs ls).length ≤ sp.length := by
                      unfold opnOf
                      split
                      · exact Nat.zero_le _
                      · exact List.length_filter_le _ _
                    exact Nat.le_trans this (Nat.le_trans Ma.l1 (by decide))
                  rw [eA, bnd_of] at hpl0
                  have lA := pWord_len eA
                  have IA := I9.rdr yA RA (by omega)
                  obtain ⟨g1, g2, g3⟩ := opnOf_mem (pWord_ok eA).1
                  obtain ⟨las, cuA⟩ := cu9 g2
                  have cuA := cuA.rdr R9 yA
                  have MA := Ma.kp R00 IA.b.kp
                  rw [bnd_bnd] at g
                  refine ⟨_, rfl, _, rfl, _, rfl, r, z, _, a, x, sp, rs, rfl, RA, MA, g1, Got.step g kA RA fun p jB HB eB kB RB yB g => fun xr HC nx kC ra => ?_⟩
                  rw [eB, bnd_of] at hpl0
                  have hok := pLine_ok (Nat.le_trans RB.le RB.sz) hpl0
                  have IB := IA.rdr yB RB (by have := pRule_ok (cs := p.1) (r := p.2) eB; omega)
                  have IC := IB.ex kC.ex
                  have cuC := (cuA.rdr RA yB).kp kC (by simp)
                  obtain ⟨bC, skv, q1, q2, q3⟩ := id IC
                  obtain ⟨i, hi, ei⟩ := List.getElem_of_mem g1
                  have hxi : sp[i]? = some x := by rw [List.getElem?_eq_getElem hi, ei]
                  have hli : las[i]? = some (las[i]'(by rw [cuC.len]; exact hi)) := List.getElem?_eq_getElem _
                  obtain ⟨l, hl⟩ : ∃ l, las[i]? = some l := ⟨_, hli⟩
                  obtain ⟨xs, hlC, hxs⟩ := cuC.rl i x l hxi hl
                  have hlm := List.mem_of_getElem? hl
                  refine ⟨_, rfl, _, rfl, d, _, rfl, .inl ⟨_, .inr x, .inl cuC.dct, rfl, (kvsOf_val nd hxi hl).symm⟩, .inl ⟨rfl, _, SqL.of hlC⟩, _, rfl, l, xs, _, rfl, rfl, hlC, ?_, ?_⟩
                  · rw [hxs]
                    exact Nat.lt_of_lt_of_le g3 (by decide)
                  have kl : Kp [l] HC (upd HC l (.lst (xs ++ [.ref xr]))) := (Kp.refl _ _).put (List.mem_singleton.mpr rfl)
                  have lL : l ≠ L := fun q => cuC.Ll (by rw [← q]; exact hlm)
                  have linD := kl _ _ (by simpa using lL.symm) bC.lin
                  have raD : RuleAt K (upd HC l (.lst (xs ++ [.ref xr]))) xr p.1 p.2 := by
                    obtain ⟨dxr, c0, cv, r1, r2, r3⟩ := ra
                    refine ⟨dxr, c0, cv, kl _ _ (fun m => ?_) r1, st_odd kl (odd_lst hlC) r2, conds_odd kl (odd_lst hlC) r3⟩
                    rw [List.mem_singleton.mp m, hlC] at r1
                    cases r1
                  have h3 := RB.le
                  have h4 := RB.sz
                  refine ⟨_, rfl, .inl ⟨rfl, _, SqL.of linD⟩, _, rfl, _, rfl, x, xr, p.1, p.2, rfl, raD, hok.2.2, fun HE xE => ⟨L, _, _, rfl, rfl, xE _ _ linD, ?_, ?_⟩⟩
                  · rw [List.length_map, List.length_map]
                    exact Nat.lt_of_le_of_lt (show ls.length ≤ 4000000 by omega) (by decide)
                  have kE : Kp [L] HE (upd HE L (.lst ((ls.map lineTxt).map V.str ++ [.str (lineTxt (.at_ x p.1 p.2))]))) := (Kp.refl _ _).put (List.mem_singleton.mpr rfl)
                  have kCE : Kp [l] HC HE := kl.trans (Kp.of xE)
                  have rl : r ≠ l := ne_r bC.rd hlC (by intros; intro q; cases q)
                  have RE := bC.rd.kp kCE (by simpa using rl)
                  have linE := xE _ _ linD
                  have rL : r ≠ L := ne_r RE linE (by intros; intro q; cases q)
                  have Sl : S ≠ l := fun q => by rw [q, hlC] at q1; cases q1
                  have dl : d ≠ l := fun q => by
                    have h := cuC.dct
                    rw [q, hlC] at h
                    cases h
                  have q1E := kCE _ _ (by simpa using Sl) q1
                  have SL : S ≠ L := fun q => by rw [q, linE] at q1E; cases q1E
                  have dE := kCE _ _ (by simpa using dl) cuC.dct
                  have dL : d ≠ L := fun q => by rw [q, linE] at dE; cases dE
                  rcases q3 with ⟨hg0, _⟩ | ⟨gl, d', las', hg0, rfl, q4, cu'⟩
                  · exact absurd hg0 g2
                  have hdd : d' = d := by
                    have hSA := yA _ _ (fun m => ne_r R9 hS9 (by intros; intro q; cases q) (List.mem_singleton.mp m).symm) hS9
                    have hSB := yB _ _ (fun m => ne_r RA hSA (by intros; intro q; cases q) (List.mem_singleton.mp m).symm) hSA
                    have hSC := kC.ex _ _ hSB
                    rw [hSC] at q1
                    have e : skv0 = skv := by
                      injection q1 with q1
                      injection q1
                    have h := hv3 gl rfl
                    rw [e, q4] at h
                    exact V.ref.inj (Option.some.inj h)
                  refine ⟨.at_ x p.1 p.2, jB, .str gl, _, _, _, _, _, _, rfl, ⟨⟨(bC.kp.out kCE (cuC.l0 l hlm)).out kE bC.L0, RE.kp kE (by simpa using rL), ?_, fun ln hln => ?_, ?_, bC.S0, bC.L0⟩, skv, (upd_ne SL).trans q1E, ?_, .inr ⟨gl, d, las, ?_, rfl, ?_, ?_⟩⟩, g, hpl0⟩
                  · rw [upd_same, List.map_append, List.map_append]
                    rfl
                  · rcases List.mem_append.mp hln with h | h
                    · exact bC.ok ln h
                    · rw [List.mem_singleton.mp h]
                      exact hok.2.2
                  · rw [List.length_append]
                    have : [LineM.at_ x p.1 p.2].length = 1 := rfl
                    omega
                  · rw [q2, goalsOf_app]
                    show _ = List.map Sum.inr (goalsOf ls ++ [])
                    rw [List.append_nil]
                  · rw [goalsOf_app]
                    show goalsOf ls ++ [] ≠ []
                    rw [List.append_nil]
                    exact g2
                  · rw [← hdd]
                    exact q4
                  · refine ⟨cuC.len, cuC.nd, (upd_ne dL).trans dE, cuC.dS, cuC.Ll, cuC.d0, cuC.l0, fun i2 s l2 hs hl2 => ?_⟩
                    have hm2 := List.mem_of_getElem? hl2
                    have l2L : l2 ≠ L := fun q => cuC.Ll (by rw [← q]; exact hm2)
                    rw [cntOf_at]
                    by_cases e : i2 = i
                    · subst e
                      rw [hxi] at hs
                      rw [hl] at hl2
                      cases hs
                      cases hl2
                      refine ⟨xs ++ [.ref xr], (upd_ne l2L).trans (xE _ _ upd_same), ?_⟩
                      rw [if_pos rfl, List.length_append, hxs]
                      rfl
                    · have ne : l2 ≠ l := fun q => by
                        subst q
                        exact e (nodup_at cuC.nd hl2 hl)
                      have ns : x ≠ s := fun q => by
                        subst q
                        exact e (nodup_at nd hs hxi)
                      obtain ⟨ys, y1, y2⟩ := cuC.rl i2 s l2 hs hl2
                      exact ⟨ys, (upd_ne l2L).trans (kCE _ _ (by simpa using ne) y1), by rw [if_neg ns, y2]⟩
              · rintro σ H' ⟨ln, j', gv2, t6, t7, t8, t9, t10, t11, rfl, I', g, hpl⟩
                obtain ⟨⟨dx', h'⟩, _, _⟩ := id I'.b.rd
                unfold lineFin at g
                refine ⟨_, rfl, r, dx', _, rfl, h', rfl, r, z, _, rfl, I'.b.rd, Got.step g I'.b.kp I'.b.rd fun _ jz Hz ez kz Rz yz g => ?_⟩
                obtain ⟨jf, e1, Rf⟩ := hQ1 _ _ (Got.done g kz Rz)
                have ej : pLineE (cs z) sp rs ls i1 = .ok (ln, jz) := by
                  rw [← hq _ _ hpl]
                  have ez' : endU (cs z) j' = .ok ((), jz) := ez
                  unfold lineFin
                  rw [ez']
                  rfl
                exact ⟨ls ++ [ln], jz, gv2, _, _, _, _, _, _, rfl, I'.rdr yz Rz (end_len ez), hg _ _ ej⟩
        · rw [if_neg c] at hp1
          rw [decide_eq_false c]
          injection hp1 with hp1
          obtain ⟨b, skv, q1, _⟩ := I2
          exact iteF ⟨ls, skv, some gv, s6, s7, s8, s9, s10, s11, hp1.symm, rfl, b.kp, q1, b.lin⟩
    · rintro σ H1 ⟨ls, skv, gv, s6, s7, s8, s9, s10, s11, rfl, rfl, k1, q1, q2⟩
      refine ⟨_, rfl, _, rfl, of_decide_eq_true rfl, fun t ht => ?_⟩
      have x := Evl.Ex.new (o := .tup [.ref S, .ref L]) ht
      exact k t S L skv _ ((k0.out k1 hr1).trans (Kp.of x)) (SqT.of upd_same) (x _ _ q1) (x _ _ q2)
end
end Lx
set_option Elab.async false
set_option linter.all false
set_option maxRecDepth 100000
set_option maxHeartbeats 4000000
/-! Readings stay within the text; the size of a table. -/
namespace Pz
open PySem
theorem pWord_le {l : Cs} {ws : List Str} {i j : Nat} {w : Str} (hi : i ≤ l.length) (h : pWord l ws i = .ok (w, j)) : j ≤ l.length := by
  obtain ⟨_, _, _, h4⟩ := pWord_ok h
  rw [h4]
  exact wtold_le hi
theorem gap_le {l : Cs} {i j : Nat} {u : Unit} (h : gapU l i = .ok (u, j)) : j ≤ l.length := by
  unfold gapU pGap at h
  split at h
  · rename_i c
    injection h with h
    injection h with _ h
    have := (List.getElem?_eq_some_iff.mp c).1
    rw [← h]
    exact skip_le (by omega)
  · cases h
theorem pNum_le {l : Cs} {lo hi : Int} {i j : Nat} {n : Int} (h0 : i ≤ l.length) (h : pNum l lo hi i = .ok (n, j)) : j ≤ l.length := by
  unfold pNum at h
  split at h
  · rename_i w k e
    injection h with h
    injection h with _ h
    rw [← h]
    exact pWord_le h0 e
  · cases h
theorem pNums_le {l : Cs} : ∀ {bs : List (Int × Int)} {i j : Nat} {ns : List Int}, i ≤ l.length → pNums l bs i = .ok (ns, j) → j ≤ l.length
  | [], i, j, ns, hi, h => by
    injection h with h
    injection h with _ h
    omega
  | b :: r, i, j, ns, hi, h => by
    obtain ⟨_, j1, e1, h⟩ := bnd_ok h
    obtain ⟨n, j2, e2, h⟩ := bnd_ok h
    obtain ⟨ms, j3, e3, h⟩ := bnd_ok h
    injection h with h
    injection h with _ h
    rw [← h]
    exact pNums_le (pNum_le (gap_le e1) e2) e3
theorem pConds_le {l : Cs} : ∀ {k : Nat} {cs : List CondM} {i j : Nat} {cs' : List CondM}, pConds l k cs i = .ok (cs', j) → j ≤ l.length := by
  intro k
  induction k with
  | zero =>
    intro cs i j cs' h
    rw [pConds_eq] at h
    obtain ⟨_, j1, e1, h⟩ := bnd_ok h
    obtain ⟨w, j2, e2, h⟩ := bnd_ok h
    split at h
    · injection h with h
      injection h with _ h
      rw [← h]
      exact pWord_le (gap_le e1) e2
    · cases h
  | succ k ih =>
    intro cs i j cs' h
    rw [pConds_eq] at h
    obtain ⟨_, j1, e1, h⟩ := bnd_ok h
    obtain ⟨w, j2, e2, h⟩ := bnd_ok h
    split at h
    · injection h with h
      injection h with _ h
      rw [← h]
      exact pWord_le (gap_le e1) e2
    · unfold pCondsT at h
      obtain ⟨ns, j3, e3, h⟩ := bnd_ok h
      exact ih h
theorem pRule_le {l : Cs} {roads : List Str} {i j : Nat} {p : List CondM × Str} (h : pRule l roads i = .ok (p, j)) : j ≤ l.length := by
  unfold pRule at h
  obtain ⟨_, j1, e1, h⟩ := bnd_ok h
  obtain ⟨w, j2, e2, h⟩ := bnd_ok h
  obtain ⟨cl, j3, e3, h⟩ := bnd_ok h
  obtain ⟨_, j4, e4, h⟩ := bnd_ok h
  obtain ⟨rd, j5, e5, h⟩ := bnd_ok h
  injection h with h
  injection h with _ h
  rw [← h]
  exact pWord_le (gap_le e4) e5
theorem pLine_le {l : Cs} {sp : List Str} {rs : List RoadM} {ls : List LineM} {i j : Nat} {ln : LineM} (h : pLine l sp rs ls i = .ok (ln, j)) : j ≤ l.length := by
  unfold pLine at h
  obtain ⟨w, j1, e1, h⟩ := bnd_ok h
  obtain ⟨_, j2, e2, h⟩ := bnd_ok h
  split at h
  · obtain ⟨g, j3, e3, h⟩ := bnd_ok h
    injection h with h
    injection h with _ h
    rw [← h]
    exact pWord_le (gap_le e2) e3
  · obtain ⟨s, j3, e3, h⟩ := bnd_ok h
    obtain ⟨r, j4, e4, h⟩ := bnd_ok h
    injection h with h
    injection h with _ h
    rw [← h]
    exact pRule_le e4
theorem end_le {l : Cs} {i j : Nat} {u : Unit} (hi : i ≤ l.length) (h : endU l i = .ok (u, j)) : j ≤ l.length := by
  have := skip_le (p := isSp) hi
  unfold endU pEnd at h
  split at h
  · split at h
    · injection h with h
      injection h with _ h
      omega
    · cases h
  · injection h with h
    injection h with _ h
    omega
theorem pLineE_le {l : Cs} {sp : List Str} {rs : List RoadM} {ls : List LineM} {i j : Nat} {ln : LineM} (h : pLineE l sp rs ls i = .ok (ln, j)) : j ≤ l.length := by
  unfold pLineE at h
  obtain ⟨ln', j1, e1, h⟩ := bnd_ok h
  obtain ⟨_, j2, e2, h⟩ := bnd_ok h
  injection h with h
  injection h with _ h
  rw [← h]
  exact end_le (pLine_le e1) e2
abbrev szOf (ls : List LineM) : Nat := (ls.map fun ln => (lineTxt ln).length + 1).sum
theorem szOf_app (a b : List LineM) : szOf (a ++ b) = szOf a + szOf b := by
  unfold szOf
  rw [List.map_append, List.sum_append]
theorem tab_sz {l : Cs} {sp : List Str} {rs : List RoadM} (hz : l.length ≤ 4000000) : ∀ {f : Nat} {ls : List LineM} {i : Nat} {ls' : List LineM}, pTabGo l sp rs f ls i = some (.ok ls') → i ≤ l.length → szOf ls ≤ 2 * i → ls.length ≤ i → (∀ ln ∈ ls, lineOk ln) → szOf ls' ≤ 2 * l.length ∧ ls'.length ≤ l.length ∧ ∀ ln ∈ ls', lineOk ln := by
  intro f
  induction f with
  | zero => intro ls i ls' h; cases h
  | succ f ih =>
    intro ls i ls' h hi hs hn ho
    rw [pTabGo] at h
    have hg := skip_ge isWs l i
    split at h
    · cases e : pLineE l sp rs ls (skipN isWs l i) with
      | ok p =>
        obtain ⟨ln, j⟩ := p
        rw [e] at h
        have hj := pLineE_le e
        obtain ⟨q1, q2, q3⟩ := pLineE_ok (by omega) e
        refine ih h hj ?_ ?_ (fun x hx => ?_)
        · rw [szOf_app]
          have : szOf [ln] = (lineTxt ln).length + 1 := rfl
          omega
        · rw [List.length_append]
          have : [ln].length = 1 := rfl
          omega
        · rcases List.mem_append.mp hx with hx | hx
          · exact ho x hx
          · rw [List.mem_singleton.mp hx]
            exact q3
      | error j =>
        rw [e] at h
        cases h
    · injection h with h
      injection h with h
      subst h
      exact ⟨by omega, by omega, ho⟩
/-- fuel that is enough -/
theorem tab_fuel {l : Cs} {sp : List Str} {rs : List RoadM} (hz : l.length ≤ 4000000) : ∀ {f : Nat} {ls : List LineM} {i : Nat}, i ≤ l.length → l.length < i + f → ∃ res, pTabGo l sp rs f ls i = some res := by
  intro f
  induction f with
  | zero =>
    intro ls i hi h
    omega
  | succ f ih =>
    intro ls i hi h
    rw [pTabGo]
    have hg := skip_ge isWs l i
    split
    · cases e : pLineE l sp rs ls (skipN isWs l i) with
      | ok p =>
        obtain ⟨ln, j⟩ := p
        have hj := pLineE_le e
        have := (pLineE_ok (by omega) e).2.1
        exact ih hj (by omega)
      | error j => exact ⟨_, rfl⟩
    · exact ⟨_, rfl⟩
end Pz
set_option Elab.async false
set_option linter.all false
set_option maxRecDepth 100000
set_option maxHeartbeats 4000000
namespace Lx
open PySem PySem.Spec PyProof.Rows L2 Pz
section
variable {P : Program} {w : World} {K : PySem.W.Frag} {mg : Str → Option Value} {base : Heap}
def spTable (K : PySem.W.Frag) : Sp := fun vs H Q E => ∃ t dx a z sp rs f res, vs = [.ref t, .ref a, .str z] ∧ H t = some (.ins (He.ga K "Table") dx []) ∧ MapAt K H a sp rs ∧ sp.Nodup ∧ z.length ≤ 4000000 ∧ pTabGo (cs z) sp rs f [] 0 = some res ∧
  match res with
  | .ok ls => ∀ fs H', Kp [t] H H' → H' t = some (.ins (He.ga K "Table") dx fs) → fs.lookup ("text" : Str) = some (.str (tabTxt ls)) → Q .non H'
  | .error j => Bad K [t] H z j E
theorem ok_Table___init__ (T : TT K mg base) : Ok P w K mg base 9 (He.ma K (He.ga K "Table") "__init__") ["self", "land", "text"] [] (spTable K) := by
  refine ok_mk T.f_Table___init__ sc_Table___init__ (fun vs H Q E h => ?_) (fun _ _ _ _ _ _ us hl => match us, hl with | [_, _, _], _ => rfl) (fun cdv A outer s H vs Q E hr h => ?_)
  · obtain ⟨t, dx, a, z, sp, rs, f, res, rfl, _⟩ := h
    rfl
  · obtain ⟨t, dx, a, z, sp, rs, f, res, rfl, h1, M, nd, hz, hp, k⟩ := h
    refine ⟨_, (pss_cons (ps_fld (pv 0) (pv 1) rfl)
      (pss_cons (ps_asg (po_call (ok_read_table T) (hr.mono (by decide)) rfl T.g_read_table px_of (pa_cons (pv 1) (pa_cons (pv 2) pa_nil))) (pg_tup rfl (pgs_cons (pg_fld (pv 0)) (pgs_cons (pg_name (i := 3) sc_Table___init__.nd rfl (by first | exact Or.inl rfl | exact Or.inr rfl)) pgs_nil))))
      (pss_cons (ps_fld (pv 0) (pe_callTy (call_tuple_dict rfl) (by rfl) T.b_tuple (by decide +kernel) (pa_cons (pe_fld (pv 0) rfl) pa_nil)) rfl)
      (pss_one (ps_fld (pv 0) (pe_join pe_str (pe_lcB s H (own := [("line", 4)]) rfl sc_Table___init__.nd (pi_list (pv 3)) (blkOk_by (own := [("line", 4)]) (N := nm_Table___init__) (sc := defScope s_Table___init__) (by decide +kernel)) (fun _ _ _ _ _ => (pg_name (i := 4) sc_Table___init__.nd rfl (by first | exact Or.inl rfl | exact Or.inr rfl))) (fun _ _ _ _ _ => pts_nil) (fun _ _ _ _ _ => (pe_op op_add_str (pv 4) pe_str)))) rfl))))), ?_⟩
    refine ⟨_, rfl, _, rfl, t, _, dx, [], rfl, h1, T.k_Table, T.n_Table_land, by decide, ?_⟩
    have kt : Kp [t] H (upd H t (.ins (He.ga K "Table") dx [("land", .ref a)])) := (Kp.refl _ _).put (List.mem_singleton.mpr rfl)
    have M1 : MapAt K (upd H t (.ins (He.ga K "Table") dx [("land", .ref a)])) a sp rs := by
      obtain ⟨⟨dxm, t1, t2, d1, d2, kvs, m1, m2, m3, m4⟩, n1, n2, l1, l2⟩ := M
      have od := odd1 h1 (.inr (.inl ⟨_, _, _, rfl, rfl⟩))
      refine ⟨⟨dxm, t1, t2, d1, d2, kvs, kt _ _ (fun m => ?_) m1, st_odd kt od m2, kt _ _ (fun m => ?_) m3, fun s hs => ?_⟩, n1, n2, l1, l2⟩
      · rw [List.mem_singleton.mp m, h1] at m1
        have m1 := Option.some.inj m1
        injection m1 with _ _ m1
        cases m1
      · rw [List.mem_singleton.mp m, h1] at m3
        cases m3
      · obtain ⟨l, bs, g1, g2, g3⟩ := m4 s hs
        refine ⟨l, bs, g1, kt _ _ (fun m => ?_) g2, roads_odd kt od g3⟩
        rw [List.mem_singleton.mp m, h1] at g2
        cases g2
    refine ⟨_, rfl, _, rfl, a, z, sp, rs, f, res, rfl, M1, nd, hz, hp, ?_⟩
    cases res with
    | error j =>
      refine fun d H' k' hd e => k d H' ((kt.trans (k'.mono (by simp)))) ?_ e
      rw [upd_ne (fun q => ?_)] at hd
      · exact hd
      · rw [q, upd_same] at hd
        cases hd
    | ok ls =>
      intro tp S L skv H2 k2 htp hS hL
      have ht2 := k2 _ _ (by simp) (upd_same (H := H) (a := t) (o := .ins (He.ga K "Table") dx [("land", .ref a)]))
      have kk2 : Kp [t] H H2 := kt.trans (k2.mono (by simp))
      have od2 := odd1 ht2 (.inr (.inl ⟨_, _, _, rfl, rfl⟩))
      refine ⟨tp, _, rfl, htp, rfl, _, _, rfl, _, rfl, t, _, dx, _, rfl, ht2, T.k_Table, T.n_Table_sections, of_decide_eq_true rfl, _, _, rfl, rfl, ?_⟩
      have tin : t ∈ [t] := List.mem_singleton.mpr rfl
      have k3 : Kp [t] H2 (upd H2 t (.ins (He.ga K "Table") dx [("land", .ref a), ("sections", .ref S)])) := (Kp.refl _ _).put tin
      have hS3 := k3 _ _ (fun m => by rw [List.mem_singleton.mp m, ht2] at hS; cases hS) hS
      have hL3 := k3 _ _ (fun m => by rw [List.mem_singleton.mp m, ht2] at hL; cases hL) hL
      refine ⟨_, rfl, t, _, dx, _, _, rfl, upd_same, T.k_Table, T.n_Table_sections, rfl, S, skv, rfl, hS3, fun q hq => ?_⟩
      have x4 := Evl.Ex.new (o := .tup (skv.map fun kv => kV kv.1)) hq
      have ht4 := x4 _ _ (upd_same (H := H2) (a := t) (o := .ins (He.ga K "Table") dx [("land", .ref a), ("sections", .ref S)]))
      refine ⟨_, rfl, t, _, dx, _, rfl, ht4, T.k_Table, T.n_Table_goals, of_decide_eq_true rfl, ?_⟩
      have hL4 := x4 _ _ hL3
      have k5 : Kp [t] H2 (upd (upd (upd H2 t (.ins (He.ga K "Table") dx [("land", .ref a), ("sections", .ref S)])) q (.tup (skv.map fun kv => kV kv.1))) t (.ins (He.ga K "Table") dx (putF "goals" (.ref q) [("land", .ref a), ("sections", .ref S)]))) := (k3.trans (Kp.of x4)).put tin
      have hL5 := k5 _ _ (fun m => by rw [List.mem_singleton.mp m, ht2] at hL; cases hL) hL
      have ht5 : upd (upd (upd H2 t (.ins (He.ga K "Table") dx [("land", .ref a), ("sections", .ref S)])) q (.tup (skv.map fun kv => kV kv.1))) t (.ins (He.ga K "Table") dx (putF "goals" (.ref q) [("land", .ref a), ("sections", .ref S)])) t = some (.ins (He.ga K "Table") dx [("land", .ref a), ("sections", .ref S), ("goals", .ref q)]) := upd_same
      have hzc : (cs z).length ≤ 4000000 := by rw [cs_len]; exact hz
      obtain ⟨sz, lsn, lo⟩ := tab_sz hzc hp (Nat.zero_le _) (Nat.zero_le _) (Nat.zero_le _) (fun _ h => by cases h)
      have ln1 : ∀ l : List LineM, l.length ≤ szOf l := fun l => by
        induction l with
        | nil => exact Nat.le_refl _
        | cons b l ih =>
          show l.length + 1 ≤ ((lineTxt b).length + 1) + szOf l
          omega
      have ln2 : ∀ l : List LineM, ∀ b ∈ l, (lineTxt b).length ≤ szOf l := fun l => by
        induction l with
        | nil => exact fun _ h => by cases h
        | cons c l ih =>
          intro b hb
          show _ ≤ ((lineTxt c).length + 1) + szOf l
          rcases List.mem_cons.mp hb with rfl | hb
          · omega
          · have := ih b hb
            omega
      have lsl := ln1 ls
      refine ⟨⟨_, rfl⟩, ?_⟩
      refine el_mapL (ys := (ls.map fun ln => lineTxt ln ++ ("\n" : Str)).map V.str) (Evl.ev_var rfl) (SqL.of hL5) (by simp) (by simp; omega) (fun x => rfl) ?_ _ (Evl.Ex.refl _) _ fun p H6 np x6 e6 => ?_
      · intro i x y hx hy
        rw [List.map_map, List.getElem?_map] at hx hy
        cases hg : ls[i]? with
        | none =>
          rw [hg] at hx
          cases hx
        | some b =>
          rw [hg] at hx hy
          cases hx
          cases hy
          have := ln2 ls b (List.mem_of_getElem? hg)
          refine Evl.ev_op (Evl.ev_var rfl) Evl.ev_c ?_
          exact fun H1 _ Q q => ⟨_, _, rfl, rfl, Nat.le_trans (Nat.add_le_add_right (show (lineTxt b).length ≤ 8000000 by omega) _) (by decide), q H1 (Evl.Ex.refl H1)⟩
      · refine ⟨"", p, _, rfl, rfl, .inl (SqL.of e6), ?_, ?_⟩
        · have e7 : ((ls.map fun ln => lineTxt ln ++ ("\n" : Str)).map (·.length)).sum = szOf ls := by
            unfold szOf
            rw [List.map_map]
            congr 1
            apply List.map_congr_left
            intro b _
            show (lineTxt b ++ ("\n" : Str)).length = _
            rw [Str.length_append]
            rfl
          have e8 : ("" : Str).length = 0 := rfl
          rw [e7, e8, Nat.mul_zero]
          omega
        · refine ⟨_, rfl, t, _, dx, _, rfl, x6 _ _ ht5, T.k_Table, T.n_Table_text, of_decide_eq_true rfl, ?_⟩
          exact k _ _ (((kk2.trans k5).trans (Kp.of x6)).put tin) upd_same rfl
end
end Lx
set_option Elab.async false
set_option linter.all false
set_option maxRecDepth 100000
set_option maxHeartbeats 4000000
namespace Lx
open PySem PySem.Spec PyProof.Rows L2 Pz
section
variable {P : Program} {w : World} {K : PySem.W.Frag} {mg : Str → Option Value} {base : Heap}
/-- the pen: N, a bound of what was drawn -/
structure PenK (H : Hp) (kvs : List (Key × V)) (pc : Addr) (N : Nat) : Prop where
  ex : ∃ (ns : List Int) (a k : Nat) (d f : Int), valV kvs (.inr "cells") = some (.ref pc) ∧ H pc = some (.lst (ns.map V.int)) ∧ ns.length ≤ 63 ∧ valV kvs (.inr "at") = some (.int a) ∧
    valV kvs (.inr "digits") = some (.int d) ∧ 0 ≤ d ∧ valV kvs (.inr "count") = some (.int k) ∧ k ≤ N ∧ valV kvs (.inr "fold") = some (.int f) ∧ 0 ≤ f ∧ f < 2147483648
  cond : valV kvs (.inr "conditions") = none ∨ ∃ c : Nat, valV kvs (.inr "conditions") = some (.int c) ∧ c ≤ 8
  rest : valV kvs (.inr "rest") = none ∨ ∃ c : Int, valV kvs (.inr "rest") = some (.int c) ∧ 2 ≤ c ∧ c ≤ 3
  len : kvs.length ≤ 5 + N
def PenAt (H : Hp) (p pc : Addr) (N : Nat) : Prop := ∃ kvs, H p = some (.dK kvs) ∧ PenK H kvs pc N
theorem PenK.le {H : Hp} {kvs : List (Key × V)} {pc : Addr} {N M : Nat} (h : PenK H kvs pc N) (l : N ≤ M) : PenK H kvs pc M := by
  obtain ⟨⟨ns, a, k, d, f, h2, h3, h4, h5, h6, h7, h8, h9, h10, h11, h12⟩, h13, h14, h15⟩ := h
  exact ⟨⟨ns, a, k, d, f, h2, h3, h4, h5, h6, h7, h8, by omega, h10, h11, h12⟩, h13, h14, by omega⟩
theorem PenAt.le {H : Hp} {p pc : Addr} {N M : Nat} (h : PenAt H p pc N) (l : N ≤ M) : PenAt H p pc M := by
  obtain ⟨kvs, h1, h2⟩ := h
  exact ⟨kvs, h1, h2.le l⟩
theorem PenK.kp {H H' : Hp} {kvs : List (Key × V)} {pc : Addr} {N : Nat} {ms : List Addr} (h : PenK H kvs pc N) (k : Kp ms H H') (n : pc ∉ ms) : PenK H' kvs pc N := by
  obtain ⟨⟨ns, a, k2, d, f, h2, h3, h4⟩, h5, h6, h7⟩ := h
  exact ⟨⟨ns, a, k2, d, f, h2, k _ _ n h3, h4⟩, h5, h6, h7⟩
theorem PenAt.mono {H H' : Hp} {p pc : Addr} {N : Nat} (h : PenAt H p pc N) (e : Ex H H') : PenAt H' p pc N := by
  obtain ⟨kvs, h1, h2⟩ := h
  exact ⟨kvs, e _ _ h1, h2.kp (Kp.of (ms := []) e) (by simp)⟩
theorem PenAt.put {H : Hp} {p pc : Addr} {kvs ks : List (Key × V)} {N : Nat} (h : H p = some (.dK kvs)) (q : PenK H ks pc N) : PenAt (upd H p (.dK ks)) p pc N :=
  ⟨ks, upd_same, q.kp (ms := [p]) ((Kp.refl _ _).put (List.mem_singleton.mpr rfl)) fun m => by
    obtain ⟨⟨ns, _, _, _, _, _, h3, _⟩, _, _, _⟩ := q
    rw [List.mem_singleton.mp m, h] at h3
    cases h3⟩
/-- other objects may change -/
theorem PenAt.kp {H H' : Hp} {p pc : Addr} {N : Nat} {ms : List Addr} (h : PenAt H p pc N) (k : Kp ms H H') (n : p ∉ ms ∧ pc ∉ ms) : PenAt H' p pc N := by
  obtain ⟨kvs, h1, h2⟩ := h
  exact ⟨kvs, k _ _ n.1 h1, h2.kp k n.2⟩
theorem PenAt.cells {H : Hp} {p pc : Addr} {N : Nat} (h : PenAt H p pc N) : ∃ xs, H pc = some (.lst xs) := by
  obtain ⟨kvs, _, ⟨ns, _, _, _, _, _, h3, _⟩, _⟩ := h
  exact ⟨_, h3⟩
theorem PenK.count {H : Hp} {kvs : List (Key × V)} {pc : Addr} {N : Nat} (h : PenK H kvs pc N) {x : Nat} (hx : x ≤ N + 1) : PenK H (putK kvs (.inr "count") (.int (x : Nat))) pc (N + 1) := by
  obtain ⟨⟨ns, a, k, d, f, h2, h3, h4, h5, h6, h7, h8, h9, h10, h11, h12⟩, h13, h14, h15⟩ := h
  exact ⟨⟨ns, a, x, d, f, (put_other (by decide)).trans h2, h3, h4, (put_other (by decide)).trans h5, (put_other (by decide)).trans h6, h7, put_same, hx, (put_other (by decide)).trans h10, h11, h12⟩, h13.imp (fun e => (put_other (by decide)).trans e) (fun ⟨c, e, q⟩ => ⟨c, (put_other (by decide)).trans e, q⟩), h14.imp (fun e => (put_other (by decide)).trans e) (fun ⟨c, e, q⟩ => ⟨c, (put_other (by decide)).trans e, q⟩), by rw [putK_len h8]; omega⟩
theorem PenK.at_ {H : Hp} {kvs : List (Key × V)} {pc : Addr} {N : Nat} (h : PenK H kvs pc N) {x : Nat} : PenK H (putK kvs (.inr "at") (.int (x : Nat))) pc (N) := by
  obtain ⟨⟨ns, a, k, d, f, h2, h3, h4, h5, h6, h7, h8, h9, h10, h11, h12⟩, h13, h14, h15⟩ := h
  exact ⟨⟨ns, x, k, d, f, (put_other (by decide)).trans h2, h3, h4, put_same, (put_other (by decide)).trans h6, h7, (put_other (by decide)).trans h8, h9, (put_other (by decide)).trans h10, h11, h12⟩, h13.imp (fun e => (put_other (by decide)).trans e) (fun ⟨c, e, q⟩ => ⟨c, (put_other (by decide)).trans e, q⟩), h14.imp (fun e => (put_other (by decide)).trans e) (fun ⟨c, e, q⟩ => ⟨c, (put_other (by decide)).trans e, q⟩), by rw [putK_len h5]; exact h15⟩
theorem PenK.digits {H : Hp} {kvs : List (Key × V)} {pc : Addr} {N : Nat} (h : PenK H kvs pc N) {x : Int} (hx : 0 ≤ x) : PenK H (putK kvs (.inr "digits") (.int x)) pc (N) := by
  obtain ⟨⟨ns, a, k, d, f, h2, h3, h4, h5, h6, h7, h8, h9, h10, h11, h12⟩, h13, h14, h15⟩ := h
  exact ⟨⟨ns, a, k, x, f, (put_other (by decide)).trans h2, h3, h4, (put_other (by decide)).trans h5, put_same, hx, (put_other (by decide)).trans h8, h9, (put_other (by decide)).trans h10, h11, h12⟩, h13.imp (fun e => (put_other (by decide)).trans e) (fun ⟨c, e, q⟩ => ⟨c, (put_other (by decide)).trans e, q⟩), h14.imp (fun e => (put_other (by decide)).trans e) (fun ⟨c, e, q⟩ => ⟨c, (put_other (by decide)).trans e, q⟩), by rw [putK_len h6]; exact h15⟩
theorem PenK.fold {H : Hp} {kvs : List (Key × V)} {pc : Addr} {N : Nat} (h : PenK H kvs pc N) {x : Int} (hx : 0 ≤ x ∧ x < 2147483648) : PenK H (putK kvs (.inr "fold") (.int x)) pc (N) := by
  obtain ⟨⟨ns, a, k, d, f, h2, h3, h4, h5, h6, h7, h8, h9, h10, h11, h12⟩, h13, h14, h15⟩ := h
  exact ⟨⟨ns, a, k, d, x, (put_other (by decide)).trans h2, h3, h4, (put_other (by decide)).trans h5, (put_other (by decide)).trans h6, h7, (put_other (by decide)).trans h8, h9, put_same, hx.1, hx.2⟩, h13.imp (fun e => (put_other (by decide)).trans e) (fun ⟨c, e, q⟩ => ⟨c, (put_other (by decide)).trans e, q⟩), h14.imp (fun e => (put_other (by decide)).trans e) (fun ⟨c, e, q⟩ => ⟨c, (put_other (by decide)).trans e, q⟩), by rw [putK_len h10]; exact h15⟩
theorem PenK.conds {H : Hp} {kvs : List (Key × V)} {pc : Addr} {N : Nat} (h : PenK H kvs pc N) {x : Nat} (hx : x ≤ 8) : PenK H (putK kvs (.inr "conditions") (.int (x : Nat))) pc (N + 1) := by
  obtain ⟨⟨ns, a, k, d, f, h2, h3, h4, h5, h6, h7, h8, h9, h10, h11, h12⟩, h13, h14, h15⟩ := h
  exact ⟨⟨ns, a, k, d, f, (put_other (by decide)).trans h2, h3, h4, (put_other (by decide)).trans h5, (put_other (by decide)).trans h6, h7, (put_other (by decide)).trans h8, (Nat.le_succ_of_le h9), (put_other (by decide)).trans h10, h11, h12⟩, .inr ⟨x, put_same, hx⟩, h14.imp (fun e => (put_other (by decide)).trans e) (fun ⟨c, e, q⟩ => ⟨c, (put_other (by decide)).trans e, q⟩), by have := length_putK kvs (.inr "conditions" : Key) (.int x); omega⟩
theorem PenK.rests {H : Hp} {kvs : List (Key × V)} {pc : Addr} {N : Nat} (h : PenK H kvs pc N) {x : Int} (hx : 2 ≤ x ∧ x ≤ 3) : PenK H (putK kvs (.inr "rest") (.int x)) pc (N + 1) := by
  obtain ⟨⟨ns, a, k, d, f, h2, h3, h4, h5, h6, h7, h8, h9, h10, h11, h12⟩, h13, h14, h15⟩ := h
  exact ⟨⟨ns, a, k, d, f, (put_other (by decide)).trans h2, h3, h4, (put_other (by decide)).trans h5, (put_other (by decide)).trans h6, h7, (put_other (by decide)).trans h8, (Nat.le_succ_of_le h9), (put_other (by decide)).trans h10, h11, h12⟩, h13.imp (fun e => (put_other (by decide)).trans e) (fun ⟨c, e, q⟩ => ⟨c, (put_other (by decide)).trans e, q⟩), .inr ⟨x, put_same, hx⟩, by have := length_putK kvs (.inr "rest" : Key) (.int x); omega⟩
def spPen (K : PySem.W.Frag) : Sp := fun vs H Q _ => ∃ (a : Addr) (ns : List Int), vs = [.ref a] ∧ ns.length ≤ 63 ∧ SqL K H a (ns.map V.int) ∧ ∀ p pc H', H p = none → Ex H H' → PenAt H' p pc 0 → Q (.ref p) H'
theorem ok__law_pen (T : TT K mg base) : Ok P w K mg base 1 (He.ga K "_law_pen") ["_law_script"] [] (spPen K) := by
  refine ok_mk T.f__law_pen sc__law_pen (fun vs H Q E h => ?_) (fun _ _ _ _ _ _ us hl => match us, hl with | [_], _ => rfl) (fun cdv A outer s H vs Q E hr h => ?_)
  · obtain ⟨a, ns, rfl, _⟩ := h
    rfl
  · obtain ⟨a, ns, rfl, hn, hS, k⟩ := h
    refine ⟨_, (pss_cons (ps_set (i := 1) sc__law_pen.nd rfl (by first | exact Or.inl rfl | exact Or.inr rfl) pe_int)
      (Evl.pss_cut (ps_for po_own rfl (pi_list (pv 0)) (pg_name (i := 2) sc__law_pen.nd rfl (by first | exact Or.inl rfl | exact Or.inr rfl))
      (pss_one (ps_set (i := 1) sc__law_pen.nd rfl (by first | exact Or.inl rfl | exact Or.inr rfl) (pe_op op_modN (pe_callTy call_int1 (by rfl) T.b_int (by decide +kernel) (pa_cons (pe_op op_add (pe_op op_mul (pv 1) pe_int) (pv 2)) pa_nil)) pe_int))))
      (pss_one (ps_ret (pe_disp (pps_cons pe_str (pe_callTy call_list_of (by rfl) T.b_list (by decide +kernel) (pa_cons (pv 0) pa_nil)) (pps_cons pe_str pe_int (pps_cons pe_str pe_int (pps_cons pe_str pe_int (pps_cons pe_str (pv 1) pps_nil))))) (by rfl) (by rfl) (fun z => by cases z) (by decide)))))), ?_⟩
    refine ⟨fun σ H' => H' = H ∧ ∃ (f : Int) (s2 : Option V), σ = [some (.ref a), some (.int f), s2] ∧ 0 ≤ f ∧ f < 1000000007, ?_, ?_⟩
    · refine ⟨_, rfl, a, rfl, ⟨_, hS⟩, ?_⟩
      refine for_list (xs := ns.map V.int) (fun i σ H' => H' = H ∧ ∃ (f : Int) (s2 : Option V), σ = [some (.ref a), some (.int f), s2] ∧ 0 ≤ f ∧ f < 1000000007) ⟨rfl, 0, none, rfl, by decide, by decide⟩ (fun i σ H' _ p => ?_) (fun i x σ H' hx p => ?_) (fun σ H' p => p)
      · rw [p.1]
        exact hS
      · obtain ⟨rfl, f, s2, rfl, h1, h2⟩ := p
        rw [List.getElem?_map] at hx
        cases hg : ns[i]? with
        | none =>
          rw [hg] at hx
          cases hx
        | some n =>
          rw [hg] at hx
          cases hx
          have hb := fm_pos (i := f * 41 + n) (j := 1000000007) (by decide)
          exact ⟨_, rfl, _, _, rfl, rfl, .inr ⟨by decide, by decide⟩, _, rfl, _, _, rfl, rfl, .inl ⟨_, rfl, _, _, rfl, rfl, (show (1000000007 : Int) ≠ 0 by decide), rfl, _, _, rfl, hb.1, hb.2⟩⟩
    · rintro σ H' ⟨rfl, f, s2, rfl, h1, h2⟩
      refine fun p hp => ⟨_, rfl, a, _, rfl, .inl (sl_mono (Evl.Ex.new hp) hS), fun c hc => ⟨_, rfl, ?_⟩⟩
      have e0 : upd (upd H' p (.dK [])) c (.lst (ns.map V.int)) p = some (.dK []) := (Evl.Ex.new hc) _ _ upd_same
      refine ⟨e0, [(.inr "cells", .ref c), (.inr "at", .int 0), (.inr "digits", .int 0), (.inr "count", .int 0), (.inr "fold", .int f)], rfl, by simp, ?_⟩
      have pc : p ≠ c := ne_of_none upd_same hc
      refine k p c _ hp ?_ ⟨_, upd_same, ⟨ns, 0, 0, 0, f, rfl, (upd_ne pc.symm).trans upd_same, hn, rfl, rfl, by decide, rfl, by decide, rfl, h1, by omega⟩, .inl rfl, .inl rfl, of_decide_eq_true rfl⟩
      exact (((Evl.Ex.new hp).trans (Evl.Ex.new hc))).mut hp
/-- the number of remainders is drawn -/
def Rs (H : Hp) (p : Addr) : Prop := ∃ kvs r, H p = some (.dK kvs) ∧ valV kvs (.inr ("rest" : Str)) = some (.int r) ∧ 2 ≤ r ∧ r ≤ 3
theorem Rs.ex {H H' : Hp} {p : Addr} (h : Rs H p) (e : Ex H H') : Rs H' p := by
  obtain ⟨kvs, r, h1, h2⟩ := h
  exact ⟨kvs, r, e _ _ h1, h2⟩
theorem Rs.put {H : Hp} {p : Addr} {kvs : List (Key × V)} {k : Key} {v : V} (h : Rs H p) (e : H p = some (.dK kvs)) (n : ¬ (Sum.inr ("rest" : Str) : Key) = k) : Rs (upd H p (.dK (putK kvs k v))) p := by
  obtain ⟨kk, r, h1, h2, h3⟩ := h
  rw [e] at h1
  cases h1
  exact ⟨_, r, upd_same, (put_other n).trans h2, h3⟩
/-- any number under m may come -/
def spDraw (K : PySem.W.Frag) : Sp := fun vs H Q _ => ∃ (p pc : Addr) (m : Int) (N : Nat), vs = [.ref p, .int m] ∧ PenAt H p pc N ∧ N ≤ 1000000 ∧ 1 ≤ m ∧ m ≤ 1000000000 ∧ ∀ (d : Nat) H', (d : Int) < m → Kp [p] H H' → PenAt H' p pc (N + 1) → (Rs H p → Rs H' p) → Q (.int d) H'
theorem ok__law_draw (T : TT K mg base) : Ok P w K mg base 1 (He.ga K "_law_draw") ["_law_pen_here", "_law_many"] [] (spDraw K) := by
  refine ok_mk T.f__law_draw sc__law_draw (fun vs H Q E h => ?_) (fun _ _ _ _ _ _ us hl => match us, hl with | [_, _], _ => rfl) (fun cdv A outer s H vs Q E hr h => ?_)
  · obtain ⟨p, pc, m, N, rfl, _⟩ := h
    rfl
  · obtain ⟨p, pc, m, N, rfl, ⟨kvs, h1, q1⟩, hN, hm1, hm2, k⟩ := h
    refine ⟨_, (pss_cons (ps_dput (hu1 hr) (pv 0) pe_str (pe_op op_add (pe_dget (hu1 hr) (pv 0) pe_str (fun _ _ => rfl)) pe_int) rfl)
      (Evl.pss_cut (ps_if (PW.pt (pw_and (pt_cmpR op_eq (pe_dget (hu1 hr) (pv 0) pe_str (fun _ _ => rfl)) pe_int (nomark _)) (pw_and1 (pt_cmpR op_lt (pe_dget (hu1 hr) (pv 0) pe_str (fun _ _ => rfl)) (pe_callB call_len_seq (by rfl) T.b_len PySem.boot_len (pa_cons (pe_dget (hu1 hr) (pv 0) pe_str (fun _ _ => rfl)) pa_nil)) (nomark _)))))
      (pss_cons (ps_set (i := 2) sc__law_draw.nd rfl (by first | exact Or.inl rfl | exact Or.inr rfl) (pe_ix ix_list (pe_dget (hu1 hr) (pv 0) pe_str (fun _ _ => rfl)) (pe_dget (hu1 hr) (pv 0) pe_str (fun _ _ => rfl)) (fun _ _ => rfl)))
      (pss_cons (ps_dput (hu1 hr) (pv 0) pe_str (pe_op op_add (pe_dget (hu1 hr) (pv 0) pe_str (fun _ _ => rfl)) pe_int) rfl)
      (pss_one (ps_if (pt_cmpR op_ge (pv 2) (pe_op op_pow pe_int pe_int) (nomark _))
      (pss_one (ps_dput (hu1 hr) (pv 0) pe_str (pe_op op_sub (pv 2) (pe_op op_pow pe_int pe_int)) rfl))
      (pss_one (ps_dput (hu1 hr) (pv 0) pe_str (pe_op op_modN (pe_callTy call_int1 (by rfl) T.b_int (by decide +kernel) (pa_cons (pe_op op_add (pe_op op_mul (pe_dget (hu1 hr) (pv 0) pe_str (fun _ _ => rfl)) pe_int) (pv 2)) pa_nil)) pe_int) rfl))))))
      pss_nil)
      (pss_cons (ps_if (pt_cmpR op_gt (pe_dget (hu1 hr) (pv 0) pe_str (fun _ _ => rfl)) pe_int (nomark _))
      (pss_cons (ps_set (i := 3) sc__law_draw.nd rfl (by first | exact Or.inl rfl | exact Or.inr rfl) (pe_op op_modN (pe_callTy call_int1 (by rfl) T.b_int (by decide +kernel) (pa_cons (pe_dget (hu1 hr) (pv 0) pe_str (fun _ _ => rfl)) pa_nil)) (pv 1)))
      (pss_cons (ps_dput (hu1 hr) (pv 0) pe_str (pe_op op_fdivN (pe_dget (hu1 hr) (pv 0) pe_str (fun _ _ => rfl)) (pv 1)) rfl)
      (pss_one (ps_ret (pv 3)))))
      pss_nil)
      (pss_cons (ps_set (i := 4) sc__law_draw.nd rfl (by first | exact Or.inl rfl | exact Or.inr rfl) (pe_op op_add (pe_op op_add (pe_dget (hu1 hr) (pv 0) pe_str (fun _ _ => rfl)) (pe_op op_mul (pe_dget (hu1 hr) (pv 0) pe_str (fun _ _ => rfl)) pe_int)) pe_int))
      (pss_one (ps_ret (pe_op op_modN (pe_op op_fdivN (pe_callTy call_int1 (by rfl) T.b_int (by decide +kernel) (pa_cons (pe_op op_modN (pe_op op_pow (pv 4) pe_int) pe_int) pa_nil)) pe_int) (pv 1)))))))), ?_⟩
    have pin : p ∈ [p] := List.mem_singleton.mpr rfl
    have lz : ∀ kk : List (Key × V), kk.length ≤ 5 + (N + 1) → kk.length < sizeLine := fun kk h => Nat.lt_of_le_of_lt (show kk.length ≤ 2000000 by omega) (by decide)
    obtain ⟨⟨ns, a, kc, d, f, g2, g3, g4, g5, g6, g7, g8, g9, g10, g11, g12⟩, _, _, g15⟩ := id q1
    refine ⟨_, rfl, p, _, rfl, .inl ⟨kvs, .inr "count", .inl h1, rfl, g8.symm⟩, _, _, rfl, rfl, _, rfl, p, _, rfl, .inl ⟨kvs, .inr "count", h1, rfl, lz _ (by omega), rfl⟩, ?_⟩
    have q2 := q1.count (x := kc + 1) (by omega)
    have pa2 := PenAt.put h1 q2
    have kp2 : Kp [p] H (upd H p (.dK (putK kvs (.inr "count") (.int ((kc : Int) + 1))))) := (Kp.refl _ _).put pin
    have pa2 : PenAt (upd H p (.dK (putK kvs (.inr "count") (.int ((kc : Int) + 1))))) p pc (N + 1) := pa2
    have rs2 : Rs H p → Rs (upd H p (.dK (putK kvs (.inr "count") (.int ((kc : Int) + 1))))) p := fun r => r.put h1 (by decide)
    clear q2 g2 g3 g4 g5 g6 g7 g8 g9 g10 g11 g12 g15 q1
    refine ⟨fun σ H' => ∃ s2 : Option V, σ = [some (.ref p), some (.int m), s2, none, none] ∧ Kp [p] H H' ∧ PenAt H' p pc (N + 1) ∧ (Rs H p → Rs H' p), ?_, ?_⟩
    · generalize upd H p (.dK (putK kvs (.inr "count") (.int ((kc : Int) + 1)))) = H2 at pa2 kp2 rs2
      obtain ⟨kv2, h2, q2⟩ := pa2
      obtain ⟨⟨ns, a, kc, d, f, g2, g3, g4, g5, g6, g7, g8, g9, g10, g11, g12⟩, _, _, g15⟩ := id q2
      have ek : ∀ {k : Str} {v : V}, valV kv2 (.inr k) = some v → Evl.Ev (tDGet (tVar 0) (tC (.str k))) [some (.ref p), some (.int m), none, none, none] H2 v := fun h => ev_dk (Evl.ev_var rfl) (.inl h2) h
      refine Evl.s_if (Evl.et_and (Evl.et_test (Evl.ev_op (ek g6) Evl.ev_c (Evl.rv_eq rfl))) (fun _ => Evl.et_test (Evl.ev_op (ek g5) (Evl.ev_cb (Evl.ea_cons (ek g2) Evl.ea_nil) (rc_lenL (SqL.of g3))) Evl.rv_I0))) (fun h H3 x3 => ?_) (fun h H3 x3 => ?_)
      · rw [Bool.and_eq_true, decide_eq_true_eq, decide_eq_true_eq, List.length_map] at h
        have ha : a < ns.length := by omega
        have hat : (ns.map V.int)[a]? = some (.int ns[a]) := by rw [List.getElem?_map, List.getElem?_eq_getElem ha]; rfl
        refine Evl.q_asg (v := .int ns[a]) ((Evl.Ev.mono x3 (Evl.ev_op (ek g2) (ek g5) (Evl.rv_ixL (SqL.of g3) (atI_nat hat))))) fun H4 x4 => ?_
        have x24 := x3.trans x4
        refine q_dput rfl (Evl.Ev.mono x24 (Evl.ev_op (ev_dk (Evl.ev_var rfl) (.inl h2) g5) Evl.ev_c Evl.rv_I0)) (x24 _ _ h2) (lz _ g15) fun H5 x5 => ?_
        have x25 := x24.trans x5
        have q5 := (q2.kp (Kp.of (ms := []) x25) (by simp)).at_ (x := a + 1)
        have pa5 : PenAt (upd H5 p (.dK (putK kv2 (.inr "at") (.int ((a : Int) + 1))))) p pc (N + 1) := PenAt.put (x25 _ _ h2) q5
        have kp5 : Kp [p] H (upd H5 p (.dK (putK kv2 (.inr "at") (.int ((a : Int) + 1))))) := (kp2.trans (Kp.of x25)).put pin
        have rs5 : Rs H p → Rs (upd H5 p (.dK (putK kv2 (.inr "at") (.int ((a : Int) + 1))))) p := fun r => ((rs2 r).ex x25).put (x25 _ _ h2) (by decide)
        generalize upd H5 p (.dK (putK kv2 (.inr "at") (.int ((a : Int) + 1)))) = H6 at pa5 kp5 rs5 ⊢
        obtain ⟨kv6, h6, q6⟩ := pa5
        obtain ⟨⟨ns6, a6, kc6, d6, f6, j2, j3, j4, j5, j6, j7, j8, j9, j10, j11, j12⟩, _, _, j15⟩ := id q6
        have pw : Evl.Ev (tOp (rI CPow fun i j => V.int (i ^ j.toNat)) (tC (.int 10)) (tC (.int 18))) [some (.ref p), some (.int m), some (.int ns[a]), none, none] H6 (.int (10 ^ 18)) := Evl.ev_op Evl.ev_c Evl.ev_c (Evl.rv_I (C := CPow) ⟨by decide, by decide, by decide⟩)
        refine Evl.s_if (Evl.et_test (Evl.ev_op (Evl.ev_var rfl) pw Evl.rv_I0)) (fun h H7 x7 => ?_) (fun h H7 x7 => ?_)
        · rw [decide_eq_true_eq] at h
          refine s_dput rfl (Evl.Ev.mono x7 (Evl.ev_op (Evl.ev_var rfl) pw Evl.rv_I0)) (x7 _ _ h6) (lz _ j15) fun H8 x8 => ?_
          have x68 := x7.trans x8
          exact ⟨_, rfl, (kp5.trans (Kp.of x68)).put pin, PenAt.put (x68 _ _ h6) ((q6.kp (Kp.of (ms := []) x68) (by simp)).digits (by omega)), fun r => ((rs5 r).ex x68).put (x68 _ _ h6) (by decide)⟩
        · have hb := fm_pos (i := f6 * 69069 + ns[a]) (j := 2147483587) (by decide)
          refine s_dput rfl (Evl.Ev.mono x7 (Evl.ev_op (Evl.ev_cb (Evl.ea_cons (Evl.ev_op (Evl.ev_op (ev_dk (Evl.ev_var rfl) (.inl h6) j10) Evl.ev_c (Evl.rv_I (C := CMul) (.inr ⟨by decide, by decide⟩))) (Evl.ev_var rfl) Evl.rv_I0) Evl.ea_nil) rc_int) Evl.ev_c (Evl.rv_I (C := fun _ j => j ≠ 0) (show (2147483587 : Int) ≠ 0 by decide)))) (x7 _ _ h6) (lz _ j15) fun H8 x8 => ?_
          have x68 := x7.trans x8
          exact ⟨_, rfl, (kp5.trans (Kp.of x68)).put pin, PenAt.put (x68 _ _ h6) ((q6.kp (Kp.of (ms := []) x68) (by simp)).fold ⟨hb.1, by omega⟩), fun r => ((rs5 r).ex x68).put (x68 _ _ h6) (by decide)⟩
      · exact ⟨none, rfl, kp2.trans (Kp.of x3), ⟨kv2, x3 _ _ h2, q2.kp (Kp.of (ms := []) x3) (by simp)⟩, fun r => (rs2 r).ex x3⟩
    · rintro σ H' ⟨s2, rfl, kp3, ⟨kv2, h2, q2⟩, rs3⟩
      obtain ⟨⟨ns, a, kc, d, f, g2, g3, g4, g5, g6, g7, g8, g9, g10, g11, g12⟩, _, _, g15⟩ := id q2
      have ek : ∀ {k : Str} {v : V} {s2 s3 : Option V}, valV kv2 (.inr k) = some v → Evl.Ev (tDGet (tVar 0) (tC (.str k))) [some (.ref p), some (.int m), s2, s3, none] H' v := fun h => ev_dk (Evl.ev_var rfl) (.inl h2) h
      refine Evl.s_if (Evl.et_test (Evl.ev_op (ek g6) Evl.ev_c Evl.rv_I0)) (fun h H3 x3 => ?_) (fun h H3 x3 => ?_)
      · have hb := fm_pos (i := d) (j := m) (by omega)
        refine Evl.q_asg (v := .int (d.fmod m)) (Evl.Ev.mono x3 (Evl.ev_op (Evl.ev_cb (Evl.ea_cons (ek g6) Evl.ea_nil) rc_int) (Evl.ev_var rfl) (Evl.rv_I (C := fun _ j => j ≠ 0) (show m ≠ 0 by omega)))) fun H4 x4 => ?_
        have x24 := x3.trans x4
        refine q_dput rfl (Evl.Ev.mono x24 (Evl.ev_op (ek g6) (Evl.ev_var rfl) (Evl.rv_I (C := CDivN) ⟨show m ≠ 0 by omega, by omega⟩))) (x24 _ _ h2) (lz _ g15) fun H5 x5 => ?_
        have x25 := x24.trans x5
        obtain ⟨dn, hdn⟩ : ∃ dn : Nat, d.fmod m = (dn : Int) := ⟨(d.fmod m).toNat, (Int.toNat_of_nonneg hb.1).symm⟩
        rw [hdn] at hb ⊢
        refine ⟨_, rfl, k dn _ hb.2 ((kp3.trans (Kp.of x25)).put pin) (PenAt.put (x25 _ _ h2) ((q2.kp (Kp.of (ms := []) x25) (by simp)).digits ?_)) (fun r => ((rs3 r).ex x25).put (x25 _ _ h2) (by decide))⟩
        exact Int.fdiv_nonneg g7 (by omega)
      · refine Evl.q_asg (v := .int (f + (kc : Int) * 7907 + 37)) (Evl.Ev.mono x3 (Evl.ev_op (Evl.ev_op (ek g10) (Evl.ev_op (ek g8) Evl.ev_c (Evl.rv_I (C := CMul) (j := 7907) (.inr ⟨by decide, by decide⟩))) Evl.rv_I0) Evl.ev_c Evl.rv_I0)) fun H4 x4 => ?_
        have hmx : (f + (kc : Int) * 7907 + 37).natAbs < 2 ^ 64 := by
          have : (2 : Nat) ^ 64 = 18446744073709551616 := by decide
          omega
        have hb := fm_pos (i := ((((f + (kc : Int) * 7907 + 37) ^ (17 : Int).toNat).fmod 2305843009213693951).fdiv 128)) (j := m) (by omega)
        obtain ⟨dn, hdn⟩ : ∃ dn : Nat, ((((((f + (kc : Int) * 7907 + 37) ^ (17 : Int).toNat).fmod 2305843009213693951).fdiv 128)).fmod m) = (dn : Int) := ⟨_, (Int.toNat_of_nonneg hb.1).symm⟩
        rw [hdn] at hb
        refine Evl.s_ret (v := .int ((((((f + (kc : Int) * 7907 + 37) ^ (17 : Int).toNat).fmod 2305843009213693951).fdiv 128)).fmod m)) (Evl.ev_op (Evl.ev_op (Evl.ev_cb (Evl.ea_cons (Evl.ev_op (Evl.ev_op (Evl.ev_var (i := 4) rfl) Evl.ev_c (Evl.rv_I (C := CPow) ⟨by decide, by decide, hmx⟩)) Evl.ev_c (Evl.rv_I (C := fun _ j => j ≠ 0) (show (2305843009213693951 : Int) ≠ 0 by decide))) Evl.ea_nil) rc_int) Evl.ev_c (Evl.rv_I (C := CDivN) ⟨by decide, by decide⟩)) (Evl.ev_var (i := 1) rfl) (Evl.rv_I (C := fun _ j => j ≠ 0) (show m ≠ 0 by omega))) fun H5 x5 => ?_
        rw [hdn]
        refine k dn _ hb.2 ?_ ?_ (fun r => (rs3 r).ex ((x3.trans x4).trans x5))
        · exact kp3.trans (Kp.of ((x3.trans x4).trans x5))
        · exact ⟨kv2, ((x3.trans x4).trans x5) _ _ h2, q2.kp (Kp.of (ms := []) ((x3.trans x4).trans x5)) (by simp)⟩
end
end Lx
set_option Elab.async false
set_option linter.all false
set_option maxRecDepth 100000
set_option maxHeartbeats 4000000
namespace Lx
open PySem PySem.Spec PyProof.Rows L2 Pz
section
variable {P : Program} {w : World} {K : PySem.W.Frag} {mg : Str → Option Value} {base : Heap}
theorem pen_odd {H : Hp} {p pc : Addr} {N : Nat} (h : PenAt H p pc N) : ∀ q ∈ [p], ∃ u, H q = some u ∧ Odd u := by
  obtain ⟨kvs, h1, _⟩ := h
  exact odd1 h1 (.inr (.inr ⟨_, rfl⟩))
theorem sl_pen {H H' : Hp} {p pc l : Addr} {N : Nat} {xs : List V} (k : Kp [p] H H') (h : PenAt H p pc N) (hl : SqL K H l xs) : SqL K H' l xs := by
  obtain ⟨kvs, h1, _⟩ := h
  have nn : ∀ o, H l = some o → (∀ kk, o ≠ .dK kk) → H' l = some o := fun o ho hn => k _ _ (fun m => by
    rw [List.mem_singleton.mp m, h1] at ho
    exact hn _ (Option.some.inj ho).symm) ho
  rcases hl with (ha | ⟨o, ha⟩) | ha
  · exact .inl (.inl (nn _ ha (fun kk q => by cases q)))
  · exact .inl (.inr ⟨o, nn _ ha (fun kk q => by cases q)⟩)
  · exact .inr ha
theorem lst_pen {H H' : Hp} {p pc l : Addr} {N : Nat} {xs : List V} (k : Kp [p] H H') (h : PenAt H p pc N) (hl : H l = some (.lst xs)) : H' l = some (.lst xs) := by
  obtain ⟨kvs, h1, _⟩ := h
  exact k _ _ (fun m => by rw [List.mem_singleton.mp m, h1] at hl; cases hl) hl
/-- what is picked from: a list, the signs of a text -/
def Some (K : PySem.W.Frag) (H : Hp) (v : V) (xs : List V) : Prop := (∃ l, v = .ref l ∧ SqL K H l xs) ∨ ∃ z : Str, v = .str z ∧ z.length ≤ 1000 ∧ xs = z.cps.toList.map fun c => V.str ⟨#[c]⟩
def spPick (K : PySem.W.Frag) : Sp := fun vs H Q _ => ∃ (p pc : Addr) (v : V) (xs : List V) (N : Nat), vs = [.ref p, v] ∧ PenAt H p pc N ∧ N ≤ 1000000 ∧ Some K H v xs ∧ xs ≠ [] ∧ xs.length ≤ 1000000 ∧ ∀ x ∈ xs, ∀ H', Kp [p] H H' → PenAt H' p pc (N + 1) → Q x H'
theorem ok__law_pick (T : TT K mg base) : Ok P w K mg base 2 (He.ga K "_law_pick") ["_law_pen_here", "_law_some"] [] (spPick K) := by
  refine ok_mk T.f__law_pick sc__law_pick (fun vs H Q E h => ?_) (fun _ _ _ _ _ _ us hl => match us, hl with | [_, _], _ => rfl) (fun cdv A outer s H vs Q E hr h => ?_)
  · obtain ⟨p, pc, v, xs, N, rfl, _⟩ := h
    rfl
  · obtain ⟨p, pc, v, xs, N, rfl, hp, hN, hv, hne, hl, k⟩ := h
    refine ⟨_, (pss_one (ps_ret (pe_ix ix_seq (pv 1) (po_call (ok__law_draw T) (hr.mono (by decide)) rfl T.g__law_draw px_of (pa_cons (pv 0) (pa_cons (pe_callB call_len (by rfl) T.b_len PySem.boot_len (pa_cons (pv 1) pa_nil)) pa_nil))) (fun _ _ => rfl)))), ?_⟩
    have hpos := List.length_pos_iff.mpr hne
    have fin : ∀ (d : Nat) H', (d : Int) < (xs.length : Int) → Kp [p] H H' → PenAt H' p pc (N + 1) → rIx K v (.int d) H' Q := fun d H' hd k' hp' => by
      have hdl : d < xs.length := by omega
      have hx : xs[d]? = some xs[d] := List.getElem?_eq_getElem hdl
      have hk := k _ (List.mem_of_getElem? hx) H' k' hp'
      rcases hv with ⟨l, rfl, h1⟩ | ⟨z, rfl, hz, h1⟩
      · exact .inl ⟨l, xs, d, xs[d], rfl, rfl, sl_pen k' hp h1, atI_nat hx, hk⟩
      · subst h1
        rw [List.getElem?_map] at hx
        cases hg : z.cps.toList[d]? with
        | none =>
          rw [hg] at hx
          cases hx
        | some c =>
          rw [hg] at hx
          have hx := Option.some.inj hx
          refine .inr (.inr ⟨z, d, c, rfl, rfl, Nat.le_trans hz (by decide), atI_nat hg, ?_⟩)
          rw [← hx] at hk
          exact hk
    refine ⟨_, rfl, _, rfl, _, rfl, v, xs.length, rfl, ?_, p, pc, xs.length, N, rfl, hp, hN, by omega, by omega, fun d H' a b c _ => fin d H' a b c⟩
    rcases hv with ⟨l, rfl, h1⟩ | ⟨z, rfl, hz, h1⟩
    · exact .inl ⟨xs, h1, rfl⟩
    · refine ⟨Nat.le_trans hz (by decide), ?_⟩
      rw [h1, List.length_map, ← cs_len]
      rfl
def spLShift (K : PySem.W.Frag) : Sp := fun vs H Q _ => ∃ (p pc : Addr) (N : Nat), vs = [.ref p, .bl false] ∧ PenAt H p pc N ∧ N ≤ 900000 ∧ ∀ (t : Addr) (dx dy : Int) H', -1 ≤ dx ∧ dx ≤ 1 → -1 ≤ dy ∧ dy ≤ 1 → Kp [p] H H' → PenAt H' p pc (N + 2) → H' t = some (.tup [.int dx, .int dy]) → Q (.ref t) H'
theorem ok__law_shift (T : TT K mg base) : Ok P w K mg base 3 (He.ga K "_law_shift") ["_law_pen_here", "_law_wide"] [] (spLShift K) := by
  refine ok_mk T.f__law_shift sc__law_shift (fun vs H Q E h => ?_) (fun _ _ _ _ _ _ us hl => match us, hl with | [_, _], _ => rfl) (fun cdv A outer s H vs Q E hr h => ?_)
  · obtain ⟨p, pc, N, rfl, _⟩ := h
    rfl
  · obtain ⟨p, pc, N, rfl, hp, hN, k⟩ := h
    refine ⟨_, (pss_cons (ps_set (i := 2) sc__law_shift.nd rfl (by first | exact Or.inl rfl | exact Or.inr rfl) (pe_tup (pa_cons (pe_op op_sub (po_call (ok__law_draw T) (hr.mono (by decide)) rfl T.g__law_draw px_of (pa_cons (pv 0) (pa_cons pe_int pa_nil))) pe_int) (pa_cons (pe_op op_sub (po_call (ok__law_draw T) (hr.mono (by decide)) rfl T.g__law_draw px_of (pa_cons (pv 0) (pa_cons pe_int pa_nil))) pe_int) pa_nil))))
      (pss_cons (ps_if (PW.pt (pw_and (pt_val (pv 1)) (pw_and1 (pt_cmpR op_eq (po_call (ok__law_draw T) (hr.mono (by decide)) rfl T.g__law_draw px_of (pa_cons (pv 0) (pa_cons pe_int pa_nil))) pe_int (nomark _)))))
      pss_never
      pss_nil)
      (pss_one (ps_ret (pv 2))))), ?_⟩
    refine ⟨_, rfl, p, pc, 3, N, rfl, hp, by omega, by decide, by decide, fun d1 H1 hd1 k1 hp1 rrd1 => ⟨_, _, rfl, rfl, ?_⟩⟩
    refine ⟨_, rfl, p, pc, 3, N + 1, rfl, hp1, by omega, by decide, by decide, fun d2 H2 hd2 k2 hp2 rrd2 => ⟨_, _, rfl, rfl, of_decide_eq_true rfl, fun t ht => ?_⟩⟩
    have x := Evl.Ex.new (o := .tup [.int ((d1 : Int) - 1), .int ((d2 : Int) - 1)]) ht
    refine ⟨_, rfl, false, rfl, iteF (iteF ⟨_, rfl, k t _ _ _ (by omega) (by omega) ((k1.trans k2).trans (Kp.of x)) (hp2.mono x) upd_same⟩)⟩
/-- the same things in another order -/
def spShuffled (K : PySem.W.Frag) : Sp := fun vs H Q _ => ∃ (p pc l : Addr) (xs : List V) (N : Nat), vs = [.ref p, .ref l] ∧ PenAt H p pc N ∧ N ≤ 900000 ∧ SqL K H l xs ∧ xs.length ≤ 1000 ∧
  ∀ (t : Addr) (ys : List V) H', ys.Perm xs → Kp [p] H H' → PenAt H' p pc (N + xs.length) → H t = none → H' t = some (.lst ys) → Q (.ref t) H'
theorem ok__law_shuffled (T : TT K mg base) : Ok P w K mg base 2 (He.ga K "_law_shuffled") ["_law_pen_here", "_law_some"] [] (spShuffled K) := by
  refine ok_mk T.f__law_shuffled sc__law_shuffled (fun vs H Q E h => ?_) (fun _ _ _ _ _ _ us hl => match us, hl with | [_, _], _ => rfl) (fun cdv A outer s H vs Q E hr h => ?_)
  · obtain ⟨p, pc, l, xs, N, rfl, _⟩ := h
    rfl
  · obtain ⟨p, pc, l, xs, N, rfl, hp, hN, hl, hz, k⟩ := h
    refine ⟨_, (pss_cons (ps_par (i := 2) (j := 3) (by rfl) sc__law_shuffled.nd rfl rfl (by decide) rfl rfl (pa_cons (pe_callTy call_list_of (by rfl) T.b_list (by decide +kernel) (pa_cons (pv 1) pa_nil)) (pa_cons (pe_lst pa_nil) pa_nil)) (by rfl))
      (Evl.pss_cut (ps_for po_own rfl (pi_range1 rfl T.b_range (pa_cons (pe_callB call_len_seq (by rfl) T.b_len PySem.boot_len (pa_cons (pv 1) pa_nil)) pa_nil)) (pg_name (i := 4) sc__law_shuffled.nd rfl (by first | exact Or.inl rfl | exact Or.inr rfl))
      (pss_one (ps_expr (pe_bm PySem.F.plainAttrs_list PySem.F.slot_list_append PySem.F.type_list_append mt_append (pv 3) (pa_cons (pe_bm PySem.F.plainAttrs_list PySem.F.slot_list_pop PySem.F.type_list_pop mt_popAt (pv 2) (pa_cons (po_call (ok__law_draw T) (hr.mono (by decide)) rfl T.g__law_draw px_of (pa_cons (pv 0) (pa_cons (pe_callB call_len_seq (by rfl) T.b_len PySem.boot_len (pa_cons (pv 2) pa_nil)) pa_nil))) pa_nil)) pa_nil)))))
      (pss_one (ps_ret (pv 3))))), ?_⟩
    refine ⟨_, rfl, l, _, rfl, .inl hl, fun a ha => ⟨by decide, fun b hb => ⟨_, _, rfl, ?_⟩⟩⟩
    have x2 : Ex H (upd (upd H a (.lst xs)) b (.lst [])) := (Evl.Ex.new ha).trans (Evl.Ex.new hb)
    have ea : upd (upd H a (.lst xs)) b (.lst []) a = some (.lst xs) := (Evl.Ex.new hb) _ _ upd_same
    have eb : upd (upd H a (.lst xs)) b (.lst []) b = some (.lst []) := upd_same
    have nab : a ≠ b := ne_of_none upd_same hb
    have nHb : H b = none := Evl.fresh_back (Evl.Ex.new ha) hb
    have kN : ∀ {H1 : Hp} {q : Addr} {u : HO}, Kp [p] H H1 → H q = none → Kp [p] H (upd H1 q u) := fun k1 n => k1.out ((Kp.refl _ _).put (List.mem_singleton.mpr rfl)) n
    refine ⟨fun σ H' => ∃ (os : List V) (s4 : Option V), σ = [some (.ref p), some (.ref l), some (.ref a), some (.ref b), s4] ∧ Kp [p] H H' ∧ PenAt H' p pc (N + xs.length) ∧ H' b = some (.lst os) ∧ os.Perm xs, ?_, ?_⟩
    · refine ⟨_, rfl, l, _, rfl, .inl (sl_mono x2 hl), _, rfl, by omega, by omega, ?_⟩
      refine for_range (lo := 0) (n := ((xs.length : Nat) : Int).toNat) (fun i σ H' => ∃ (ls os : List V) (s4 : Option V), σ = [some (.ref p), some (.ref l), some (.ref a), some (.ref b), s4] ∧ Kp [p] H H' ∧ PenAt H' p pc (N + i) ∧ H' a = some (.lst ls) ∧ H' b = some (.lst os) ∧ (os ++ ls).Perm xs ∧ os.length = i)
        ⟨xs, [], none, rfl, Kp.of x2, hp.mono x2, ea, eb, List.Perm.refl _, rfl⟩ (fun i σ H' hi q => ?_) (fun σ H' q => ?_)
      · obtain ⟨ls, os, s4, rfl, k1, p1, e1, e2, pm, lo⟩ := q
        have hlen := pm.length_eq
        rw [List.length_append] at hlen
        have hlp : 0 < ls.length := by omega
        refine ⟨_, rfl, .inl ⟨rfl, _, SqL.of e2⟩, _, rfl, .inl ⟨rfl, _, SqL.of e1⟩, _, rfl, _, rfl, a, _, rfl, .inl (SqL.of e1), p, pc, ls.length, N + i, rfl, p1, by omega, by omega, by omega, fun d H2 hd k2 p2 rrd => ?_⟩
        have hdl : d < ls.length := by omega
        have e1' := lst_pen k2 p1 e1
        have e2' := lst_pen k2 p1 e2
        refine ⟨a, ls, d, d, ls[d], rfl, rfl, e1', by omega, by omega, ?_, List.getElem?_eq_getElem hdl, ?_⟩
        · exact seqIx hdl
        have k3 := kN (u := .lst (ls.eraseIdx d)) (k1.trans k2) ha
        refine ⟨b, os, ls[d], rfl, rfl, (upd_ne nab.symm).trans e2', Nat.lt_of_le_of_lt (show os.length ≤ 4000 by omega) (by decide), ls.eraseIdx d, os ++ [ls[d]], _, rfl, kN k3 nHb, ?_, ?_, upd_same, ?_, ?_⟩
        · obtain ⟨xc, hc⟩ := hp.cells
          obtain ⟨kp, hkp, _⟩ := id hp
          have q1 : Kp [a] H2 (upd H2 a (.lst (ls.eraseIdx d))) := (Kp.refl _ _).put (List.mem_singleton.mpr rfl)
          have q2 : Kp [b] (upd H2 a (.lst (ls.eraseIdx d))) (upd (upd H2 a (.lst (ls.eraseIdx d))) b (.lst (os ++ [ls[d]]))) := (Kp.refl _ _).put (List.mem_singleton.mpr rfl)
          refine (p2.kp q1 ⟨?_, ?_⟩).kp q2 ⟨?_, ?_⟩
          · simpa using ne_of_none hkp ha
          · simpa using ne_of_none hc ha
          · simpa using ne_of_none hkp nHb
          · simpa using ne_of_none hc nHb
        · rw [upd_ne nab]
          exact upd_same
        · rw [List.append_assoc]
          exact ((erase_perm hdl).append_left os).trans pm
        · rw [List.length_append, lo]
          rfl
      · obtain ⟨ls, os, s4, rfl, k1, p1, e1, e2, pm, lo⟩ := q
        rw [Int.toNat_natCast] at lo p1
        have hlen := pm.length_eq
        rw [List.length_append] at hlen
        have : ls = [] := List.length_eq_zero_iff.mp (by omega)
        subst this
        rw [List.append_nil] at pm
        exact ⟨os, s4, rfl, k1, p1, e2, pm⟩
    · rintro σ H' ⟨os, s4, rfl, k1, p1, e2, pm⟩
      exact ⟨_, rfl, k b os H' pm k1 p1 nHb e2⟩
/-- numbers within bounds -/
abbrev InB (ns : List Int) (bs : List (Int × Int)) : Prop := All2 (fun n b => b.1 ≤ n ∧ n ≤ b.2) ns bs
def CondOk (c : CondM) : Prop := (c.1 = "least" ∨ c.1 = "rest") ∧ InB c.2 (bounds c.1)
theorem pen_cond {H : Hp} {p pc : Addr} {N : Nat} (h : PenAt H p pc N) : ∃ kvs o, H p = some (.dK kvs) ∧ valV kvs (.inr ("conditions" : Str)) = o ∧ ∃ c : Nat, o.getD (.int 0) = .int c ∧ c ≤ 8 := by
  obtain ⟨kvs, h1, h2⟩ := h
  refine ⟨kvs, _, h1, rfl, ?_⟩
  rcases h2.cond with e | ⟨c, e, hc⟩
  · rw [e]
    exact ⟨0, rfl, by decide⟩
  · rw [e]
    exact ⟨c, rfl, hc⟩
def spLCond (K : PySem.W.Frag) : Sp := fun vs H Q _ => ∃ (p pc : Addr) (N : Nat), vs = [.ref p] ∧ PenAt H p pc N ∧ N ≤ 900000 ∧ ∀ (t : Addr) (c : CondM) H', CondOk c → Kp [p] H H' → PenAt H' p pc (N + 10) → CondAt K H' (.ref t) c → Q (.ref t) H'
theorem ok__law_condition (T : TT K mg base) : Ok P w K mg base 3 (He.ga K "_law_condition") ["_law_pen_here"] [] (spLCond K) := by
  refine ok_mk T.f__law_condition sc__law_condition (fun vs H Q E h => ?_) (fun _ _ _ _ _ _ us hl => match us, hl with | [_], _ => rfl) (fun cdv A outer s H vs Q E hr h => ?_)
  · obtain ⟨p, pc, N, rfl, _⟩ := h
    rfl
  · obtain ⟨p, pc, N, rfl, hp, hN, k⟩ := h
    refine ⟨_, (pss_cons (ps_par (i := 1) (j := 2) (by rfl) sc__law_condition.nd rfl rfl (by decide) rfl rfl (pa_cons (po_call (ok__law_pick T) (hr.mono (by decide)) rfl T.g__law_pick px_of (pa_cons (pv 0) (pa_cons (pe_lst (pa_cons (pe_un un_neg pe_int) (pa_cons pe_int (pa_cons pe_int (pa_cons pe_int (pa_cons (pe_un un_neg pe_int) (pa_cons pe_int (pa_cons (pe_un un_neg pe_int) pa_nil)))))))) pa_nil))) (pa_cons (po_call (ok__law_pick T) (hr.mono (by decide)) rfl T.g__law_pick px_of (pa_cons (pv 0) (pa_cons (pe_lst (pa_cons (pe_un un_neg pe_int) (pa_cons pe_int (pa_cons pe_int (pa_cons pe_int (pa_cons (pe_un un_neg pe_int) (pa_cons pe_int (pa_cons pe_int (pa_cons (pe_un un_neg pe_int) pa_nil))))))))) pa_nil))) pa_nil)) (by rfl))
      (pss_cons (ps_set (i := 3) sc__law_condition.nd rfl (by first | exact Or.inl rfl | exact Or.inr rfl) (pe_op op_sub (po_call (ok__law_draw T) (hr.mono (by decide)) rfl T.g__law_draw px_of (pa_cons (pv 0) (pa_cons pe_int pa_nil))) pe_int))
      (Evl.pss_cut (ps_set (i := 3) sc__law_condition.nd rfl (by first | exact Or.inl rfl | exact Or.inr rfl) (pe_ifExp (PW.pt (pw_and (pt_cmpR op_lt (pe_dget2 (hu1 hr) (pv 0) pe_str pe_int ⟨rfl, rfl, rfl, rfl⟩) pe_int (nomark _)) (pw_and1 (pt_cmpR op_eq (po_call (ok__law_draw T) (hr.mono (by decide)) rfl T.g__law_draw px_of (pa_cons (pv 0) (pa_cons pe_int pa_nil))) pe_int (nomark _))))) (pe_op op_mul pe_int (pv 3)) (pv 3)))
      (pss_cons (ps_if (pt_cmpR op_gt (po_call (ok__law_draw T) (hr.mono (by decide)) rfl T.g__law_draw px_of (pa_cons (pv 0) (pa_cons pe_int pa_nil))) pe_int (nomark _))
      (pss_one (ps_ret (pe_tup (pa_cons pe_str (pa_cons (pv 1) (pa_cons (pv 2) (pa_cons (pv 3) pa_nil)))))))
      pss_nil)
      (Evl.pss_cut (ps_if (PW.pt (pw_or (pt_cmp (pc_dnotin (hu1 hr) pe_str (pv 0))) (pw_or1 (pt_cmpR op_eq (po_call (ok__law_draw T) (hr.mono (by decide)) rfl T.g__law_draw px_of (pa_cons (pv 0) (pa_cons pe_int pa_nil))) pe_int (nomark _)))))
      (pss_one (ps_dput (hu1 hr) (pv 0) pe_str (pe_op op_add pe_int (po_call (ok__law_draw T) (hr.mono (by decide)) rfl T.g__law_draw px_of (pa_cons (pv 0) (pa_cons pe_int pa_nil)))) rfl))
      pss_nil)
      (pss_one (ps_ret (pe_tup (pa_cons pe_str (pa_cons (pv 1) (pa_cons (pv 2) (pa_cons (pv 3) (pa_cons (pe_dget (hu1 hr) (pv 0) pe_str (fun _ _ => rfl)) pa_nil))))))))))))), ?_⟩
    refine ⟨_, rfl, 1, rfl, 1, rfl, 2, rfl, by decide, fun q1 hq1 => ?_⟩
    have x1 := Evl.Ex.new (o := .lst [.int (-1), .int 0, .int 1, .int 1, .int (-1), .int 2, .int (-2)]) hq1
    refine ⟨p, pc, .ref q1, _, N, rfl, hp.mono x1, by omega, .inl ⟨q1, rfl, SqL.of upd_same⟩, List.cons_ne_nil _ _, by decide, fun va hva H1 k1 p1 => ?_⟩
    have ha : ∃ a : Int, va = .int a ∧ -2 ≤ a ∧ a ≤ 2 := by
      simp at hva
      rcases hva with rfl | rfl | rfl | rfl | rfl | rfl | rfl <;> exact ⟨_, rfl, by decide, by decide⟩
    obtain ⟨a, rfl, ha1, ha2⟩ := ha
    refine ⟨_, rfl, 1, rfl, 1, rfl, 2, rfl, by decide, fun q2 hq2 => ?_⟩
    have x2 := Evl.Ex.new (o := .lst [.int (-1), .int 0, .int 1, .int 1, .int (-1), .int 0, .int 2, .int (-2)]) hq2
    refine ⟨p, pc, .ref q2, _, N + 1, rfl, p1.mono x2, by omega, .inl ⟨q2, rfl, SqL.of upd_same⟩, List.cons_ne_nil _ _, by decide, fun vb hvb H2 k2 p2 => ?_⟩
    have hb : ∃ a : Int, vb = .int a ∧ -2 ≤ a ∧ a ≤ 2 := by
      simp at hvb
      rcases hvb with rfl | rfl | rfl | rfl | rfl | rfl | rfl <;> exact ⟨_, rfl, by decide, by decide⟩
    obtain ⟨b, rfl, hb1, hb2⟩ := hb
    have kk2 : Kp [p] H H2 := ((Kp.of x1).trans k1).trans ((Kp.of x2).trans k2)
    refine ⟨_, _, rfl, _, rfl, p, pc, 7, N + 1 + 1, rfl, p2, by omega, by decide, by decide, fun d3 H3 hd3 k3 p3 rrd3 => ⟨_, _, rfl, rfl, ?_⟩⟩
    refine ⟨fun σ H' => ∃ c : Int, σ = [some (.ref p), some (.int a), some (.int b), some (.int c)] ∧ -9 ≤ c ∧ c ≤ 9 ∧ Kp [p] H H' ∧ PenAt H' p pc (N + 4), ?_, ?_⟩
    · obtain ⟨kvs, o, hk1, hk2, c, hc, _⟩ := pen_cond p3
      refine ⟨_, rfl, p, rfl, .inl ⟨kvs, .inl hk1⟩, o, .inl ⟨kvs, .inr "conditions", .inl hk1, rfl, hk2.symm⟩, ?_⟩
      rw [hc]
      refine ⟨_, _, rfl, rfl, _, rfl, ?_⟩
      by_cases c2 : (c : Int) < 2
      · rw [decide_eq_true c2]
        refine iteT ⟨_, rfl, p, pc, 4, N + 1 + 1 + 1, rfl, p3, by omega, by decide, by decide, fun d4 H4 hd4 k4 p4 rrd4 => ⟨rfl, _, rfl, ?_⟩⟩
        by_cases c3 : (d4 : Int) = 0
        · rw [decide_eq_true (congrArg V.int c3)]
          exact iteT ⟨_, rfl, 3, _, rfl, rfl, .inl ⟨by decide, by decide⟩, _, rfl, by omega, by omega, (kk2.trans k3).trans k4, p4⟩
        · rw [decide_eq_false (fun q => c3 (V.int.inj q))]
          exact iteF ⟨_, rfl, _, rfl, by omega, by omega, (kk2.trans k3).trans k4, p4⟩
      · rw [decide_eq_false c2]
        exact iteF (iteF ⟨_, rfl, _, rfl, by omega, by omega, kk2.trans k3, p3.le (by omega)⟩)
    · rintro σ H' ⟨c, rfl, hc1, hc2, kk, p4⟩
      refine ⟨_, rfl, p, pc, 4, N + 4, rfl, p4, by omega, by decide, by decide, fun d5 H5 hd5 k5 p5 rrd5 => ⟨_, _, rfl, rfl, _, rfl, ?_⟩⟩
      by_cases c5 : (0 : Int) < (d5 : Int)
      · rw [decide_eq_true c5]
        refine iteT ⟨_, rfl, _, rfl, _, rfl, of_decide_eq_true rfl, fun t ht => ?_⟩
        have x := Evl.Ex.new (o := .tup [.str "least", .int a, .int b, .int c]) ht
        exact k t ("least", [a, b, c]) _ ⟨.inl rfl, .cons ⟨ha1, ha2⟩ (.cons ⟨hb1, hb2⟩ (.cons ⟨hc1, hc2⟩ .nil))⟩ ((kk.trans k5).trans (Kp.of x)) ((p5.mono x).le (by omega)) ⟨t, rfl, SqT.of upd_same⟩
      · rw [decide_eq_false c5]
        refine iteF ?_
        refine ⟨fun σ H' => σ = [some (.ref p), some (.int a), some (.int b), some (.int c)] ∧ Kp [p] H H' ∧ PenAt H' p pc (N + 8) ∧ ∃ kvs r, H' p = some (.dK kvs) ∧ valV kvs (.inr "rest") = some (.int r) ∧ 2 ≤ r ∧ r ≤ 3, ?_, ?_⟩
        · have put : ∀ (D : Ends) (Hx : Hp) (M : Nat), Kp [p] H Hx → PenAt Hx p pc M → M ≤ N + 6 →
              (∀ H', Kp [p] H H' → PenAt H' p pc (N + 8) → (∃ kvs r, H' p = some (.dK kvs) ∧ valV kvs (.inr "rest") = some (.int r) ∧ 2 ≤ r ∧ r ≤ 3) → D.nx [some (.ref p), some (.int a), some (.int b), some (.int c)] H') →
              sDPut (tVar 0) (tC (.str "rest")) (tOp (rI0 fun i j => .int (i + j)) (tC (.int 2)) (tCall (spDraw K) [] E (tCons (tVar 0) (tCons (tC (.int 2)) tNil)))) D [some (.ref p), some (.int a), some (.int b), some (.int c)] Hx := fun D Hx M kx px hM go => by
            refine ⟨_, rfl, p, pc, 2, M, rfl, px, by omega, by decide, by decide, fun d H' hd k' p' rrd => ?_⟩
            obtain ⟨kvs, g1, g2⟩ := p'
            have gl := g2.len
            refine ⟨_, _, rfl, rfl, _, rfl, p, _, rfl, .inl ⟨kvs, .inr "rest", g1, rfl, Nat.lt_of_le_of_lt (show kvs.length ≤ 2000000 by omega) (by decide), rfl⟩, ?_⟩
            have pa : PenAt (upd H' p (.dK (putK kvs (.inr "rest") (.int (2 + (d : Int)))))) p pc (M + 1 + 1) := PenAt.put g1 (g2.rests ⟨by omega, by omega⟩)
            exact go _ ((kx.trans k').put (List.mem_singleton.mpr rfl)) (pa.le (by omega)) ⟨_, 2 + (d : Int), upd_same, put_same, by omega, by omega⟩
          obtain ⟨kvs, g1, g2⟩ := id p5
          refine ⟨_, rfl, p, _, rfl, .inl ⟨kvs, .inr "rest", .inl g1, rfl, rfl⟩, _, rfl, ?_⟩
          rcases g2.rest with e | ⟨r, e, hr1, hr2⟩
          · rw [e]
            exact iteT (iteT (put _ H5 _ (kk.trans k5) p5 (by omega) fun H' a1 a2 a3 => ⟨rfl, a1, a2, a3⟩))
          · rw [e]
            refine iteF ⟨_, rfl, p, pc, 3, _, rfl, p5, by omega, by decide, by decide, fun d6 H6 hd6 k6 p6 rrd6 => ⟨rfl, _, rfl, ?_⟩⟩
            by_cases c6 : (d6 : Int) = 0
            · rw [decide_eq_true (congrArg V.int c6)]
              exact iteT (put _ H6 _ ((kk.trans k5).trans k6) p6 (by omega) fun H' a1 a2 a3 => ⟨rfl, a1, a2, a3⟩)
            · rw [decide_eq_false (fun q => c6 (V.int.inj q))]
              exact iteF ⟨rfl, (kk.trans k5).trans k6, p6.le (by omega), rrd6 ⟨kvs, r, g1, e, hr1, hr2⟩⟩
        · rintro σ H8 ⟨rfl, k8, p8, kvs, rr, h1, h2, h3, h4⟩
          refine ⟨_, rfl, _, rfl, _, rfl, _, rfl, p, _, rfl, .inl ⟨kvs, .inr "rest", .inl h1, rfl, h2.symm⟩, of_decide_eq_true rfl, fun t ht => ?_⟩
          have x := Evl.Ex.new (o := .tup [.str "rest", .int a, .int b, .int c, .int rr]) ht
          exact k t ("rest", [a, b, c, rr]) _ ⟨.inr rfl, .cons ⟨ha1, ha2⟩ (.cons ⟨hb1, hb2⟩ (.cons ⟨hc1, hc2⟩ (.cons ⟨h3, h4⟩ .nil)))⟩ (k8.trans (Kp.of x)) ((p8.mono x).le (by omega)) ⟨t, rfl, SqT.of upd_same⟩
end
end Lx
set_option Elab.async false
set_option linter.all false
set_option maxRecDepth 100000
set_option maxHeartbeats 4000000
namespace Lx
open PySem PySem.Spec PyProof.Rows L2 Pz
section
variable {P : Program} {w : World} {K : PySem.W.Frag} {mg : Str → Option Value} {base : Heap}
def RowAt (H : Hp) (v : V) (m : RoadM) : Prop := ∃ t sh, v = .ref t ∧ H t = some (.tup [.str m.name, .str m.start, .str m.stop, .ref sh, .int m.price, .non]) ∧ H sh = some (.tup [.int m.dx, .int m.dy]) ∧ m.label = none
def landK (s q : Addr) : List (Key × V) := [(.inr "spots", .ref s), (.inr "roads", .ref q)]
def LandAt (H : Hp) (l : Addr) (sp : List Str) (rs : List RoadM) : Prop := ∃ s q rows, H l = some (.dK (landK s q)) ∧ H s = some (.lst (sp.map V.str)) ∧ H q = some (.lst rows) ∧ All2 (RowAt H) rows rs
theorem RowAt.kp {H H' : Hp} {v : V} {m : RoadM} {ms : List Addr} (k : Kp ms H H') (n : ∀ p ∈ ms, ∀ xs, H p ≠ some (.tup xs)) (h : RowAt H v m) : RowAt H' v m := by
  obtain ⟨t, sh, h1, h2, h3, h4⟩ := h
  exact ⟨t, sh, h1, k _ _ (fun m => n _ m _ h2) h2, k _ _ (fun m => n _ m _ h3) h3, h4⟩
theorem LandAt.pen {H H' : Hp} {p pc l : Addr} {N : Nat} {sp : List Str} {rs : List RoadM} (h : LandAt H l sp rs) (k : Kp [p] H H') (hp : PenAt H p pc N) (n : p ≠ l) : LandAt H' l sp rs := by
  obtain ⟨s, q, rows, h1, h2, h3, h4⟩ := h
  refine ⟨s, q, rows, k _ _ (by simpa using n.symm) h1, lst_pen k hp h2, lst_pen k hp h3, h4.imp fun _ _ => RowAt.kp k fun u m xs e => ?_⟩
  obtain ⟨kvs, g, _⟩ := hp
  rw [List.mem_singleton.mp m, g] at e
  cases e
theorem LandAt.mono {H H' : Hp} {l : Addr} {sp : List Str} {rs : List RoadM} (h : LandAt H l sp rs) (k : Ex H H') : LandAt H' l sp rs := by
  obtain ⟨s, q, rows, h1, h2, h3, h4⟩ := h
  exact ⟨s, q, rows, k _ _ h1, k _ _ h2, k _ _ h3, h4.imp fun _ _ => RowAt.kp (Kp.of (ms := []) k) (by simp)⟩
def spotSets : List (List Str) := [[("a" : Str)], [("a" : Str), ("a1" : Str)], [("a1" : Str), ("a" : Str), ("b.a" : Str)], [("go" : Str), ("at" : Str)], [("least" : Str), ("a" : Str), ("goal" : Str)]]
def nameSet : List Str := [("r" : Str), ("r1" : Str), ("r12" : Str), ("e.r" : Str), ("if" : Str), ("go" : Str)]
structure RowOk (sp : List Str) (m : RoadM) : Prop where
  nm : m.name ∈ nameSet
  st : m.start ∈ sp
  en : m.stop ∈ sp
  dx : -1 ≤ m.dx ∧ m.dx ≤ 1
  dy : -1 ≤ m.dy ∧ m.dy ≤ 1
  pr : 1 ≤ m.price ∧ m.price ≤ 9
  lb : m.label = none
structure LandOk (sp : List Str) (rs : List RoadM) : Prop where
  spots : sp ∈ spotSets
  nd : (rs.map (·.name)).Nodup
  ne : rs ≠ []
  le : rs.length ≤ 5
  ok : ∀ m ∈ rs, RowOk sp m
def strV (x : V) : Str := match x with
  | .str s => s
  | _ => ⟨#[]⟩
theorem perm_str {ys : List V} {xs : List Str} (h : ys.Perm (xs.map V.str)) : ∃ zs : List Str, ys = zs.map V.str ∧ zs.Perm xs := by
  refine ⟨ys.map strV, ?_, ?_⟩
  · rw [List.map_map]
    have : ys = ys.map id := (List.map_id _).symm
    conv => lhs; rw [this]
    apply List.map_congr_left
    intro y hy
    obtain ⟨s, _, rfl⟩ := List.mem_map.mp (h.mem_iff.mp hy)
    rfl
  · have := h.map strV
    rw [List.map_map] at this
    have e : xs.map (strV ∘ V.str) = xs := by
      conv => rhs; rw [← List.map_id xs]
      rfl
    rw [e] at this
    exact this
theorem rows_pen {H H' : Hp} {p pc : Addr} {N : Nat} {rows : List V} {rs : List RoadM} (k : Kp [p] H H') (hp : PenAt H p pc N) (h : All2 (RowAt H) rows rs) : All2 (RowAt H') rows rs :=
  h.imp fun _ _ => RowAt.kp k fun u m xs e => by
    obtain ⟨kvs, g, _⟩ := hp
    rw [List.mem_singleton.mp m, g] at e
    cases e
theorem rows_mono {H H' : Hp} {rows : List V} {rs : List RoadM} (k : Ex H H') (h : All2 (RowAt H) rows rs) : All2 (RowAt H') rows rs := h.imp fun _ _ => RowAt.kp (Kp.of (ms := []) k) (by simp)
def spNames (K : PySem.W.Frag) : Sp := fun vs H Q _ => ∃ (p pc : Addr) (N : Nat), vs = [.ref p] ∧ PenAt H p pc N ∧ N ≤ 100000 ∧ ∀ (l : Addr) (sp : List Str) (rs : List RoadM) H', LandOk sp rs → Kp [p] H H' → PenAt H' p pc (N + 100) → H l = none → LandAt H' l sp rs → Q (.ref l) H'
theorem ok__law_names_land (T : TT K mg base) : Ok P w K mg base 4 (He.ga K "_law_names_land") ["_law_pen_here"] [] (spNames K) := by
  refine ok_mk T.f__law_names_land sc__law_names_land (fun vs H Q E h => ?_) (fun _ _ _ _ _ _ us hl => match us, hl with | [_], _ => rfl) (fun cdv A outer s H vs Q E hr h => ?_)
  · obtain ⟨p, pc, N, rfl, _⟩ := h
    rfl
  · obtain ⟨p, pc, N, rfl, hp, hN, k⟩ := h
    refine ⟨_, (pss_cons (ps_set (i := 1) sc__law_names_land.nd rfl (by first | exact Or.inl rfl | exact Or.inr rfl) (po_call (ok__law_pick T) (hr.mono (by decide)) rfl T.g__law_pick px_of (pa_cons (pv 0) (pa_cons (pe_lst (pa_cons (pe_lst (pa_cons pe_str pa_nil)) (pa_cons (pe_lst (pa_cons pe_str (pa_cons pe_str pa_nil))) (pa_cons (pe_lst (pa_cons pe_str (pa_cons pe_str (pa_cons pe_str pa_nil)))) (pa_cons (pe_lst (pa_cons pe_str (pa_cons pe_str pa_nil))) (pa_cons (pe_lst (pa_cons pe_str (pa_cons pe_str (pa_cons pe_str pa_nil)))) pa_nil)))))) pa_nil))))
      (pss_cons (ps_set (i := 2) sc__law_names_land.nd rfl (by first | exact Or.inl rfl | exact Or.inr rfl) (po_call (ok__law_shuffled T) (hr.mono (by decide)) rfl T.g__law_shuffled px_of (pa_cons (pv 0) (pa_cons (pe_lst (pa_cons pe_str (pa_cons pe_str (pa_cons pe_str (pa_cons pe_str (pa_cons pe_str (pa_cons pe_str pa_nil))))))) pa_nil))))
      (pss_cons (ps_set (i := 3) sc__law_names_land.nd rfl (by first | exact Or.inl rfl | exact Or.inr rfl) (pe_lst pa_nil))
      (Evl.pss_cut (ps_for po_own rfl (pi_range1 rfl T.b_range (pa_cons (pe_op op_add pe_int (po_call (ok__law_draw T) (hr.mono (by decide)) rfl T.g__law_draw px_of (pa_cons (pv 0) (pa_cons pe_int pa_nil)))) pa_nil)) (pg_name (i := 4) sc__law_names_land.nd rfl (by first | exact Or.inl rfl | exact Or.inr rfl))
      (Evl.pss_cut (ps_set (i := 5) sc__law_names_land.nd rfl (by first | exact Or.inl rfl | exact Or.inr rfl) (pe_ifExp (pt_cmpR op_eq (po_call (ok__law_draw T) (hr.mono (by decide)) rfl T.g__law_draw px_of (pa_cons (pv 0) (pa_cons pe_int pa_nil))) pe_int (nomark _)) (pe_ix ix_list (pv 1) (po_call (ok__law_draw T) (hr.mono (by decide)) rfl T.g__law_draw px_of (pa_cons (pv 0) (pa_cons (pe_callB call_len_seq (by rfl) T.b_len PySem.boot_len (pa_cons (pv 1) pa_nil)) pa_nil))) (fun _ _ => rfl)) (pe_ix ix_list (pv 1) pe_int (fun _ _ => rfl))))
      (pss_one (ps_expr (pe_bm PySem.F.plainAttrs_list PySem.F.slot_list_append PySem.F.type_list_append mt_append (pv 3) (pa_cons (pe_tup (pa_cons (pe_ix ix_list (pv 2) (pv 4) (fun _ _ => rfl)) (pa_cons (pv 5) (pa_cons (po_call (ok__law_pick T) (hr.mono (by decide)) rfl T.g__law_pick px_of (pa_cons (pv 0) (pa_cons (pv 1) pa_nil))) (pa_cons (po_call (ok__law_shift T) (hr.mono (by decide)) rfl T.g__law_shift px_of (pa_cons (pv 0) (pa_cons pe_bl pa_nil))) (pa_cons (pe_op op_add pe_int (po_call (ok__law_draw T) (hr.mono (by decide)) rfl T.g__law_draw px_of (pa_cons (pv 0) (pa_cons pe_int pa_nil)))) (pa_cons pe_non pa_nil))))))) pa_nil))))))
      (pss_one (ps_ret (pe_disp (pps_cons pe_str (pv 1) (pps_cons pe_str (pv 3) pps_nil)) (by rfl) (by rfl) (fun z => by cases z) (by decide)))))))), ?_⟩
    refine ⟨_, rfl, by decide, fun l1 h1 => ⟨by decide, fun l2 h2 => ⟨by decide, fun l3 h3 => ⟨by decide, fun l4 h4 => ⟨by decide, fun l5 h5 => ⟨of_decide_eq_true rfl, fun q hq => ?_⟩⟩⟩⟩⟩⟩
    have x1 := Evl.Ex.new (o := .lst ([("a" : Str)].map V.str)) h1
    have x2 := Evl.Ex.new (o := .lst ([("a" : Str), ("a1" : Str)].map V.str)) h2
    have x3 := Evl.Ex.new (o := .lst ([("a1" : Str), ("a" : Str), ("b.a" : Str)].map V.str)) h3
    have x4 := Evl.Ex.new (o := .lst ([("go" : Str), ("at" : Str)].map V.str)) h4
    have x5 := Evl.Ex.new (o := .lst ([("least" : Str), ("a" : Str), ("goal" : Str)].map V.str)) h5
    have x6 := Evl.Ex.new (o := .lst [.ref l1, .ref l2, .ref l3, .ref l4, .ref l5]) hq
    have x26 := x2.trans (x3.trans (x4.trans (x5.trans x6)))
    have x36 := x3.trans (x4.trans (x5.trans x6))
    have x46 := x4.trans (x5.trans x6)
    have x56 := x5.trans x6
    have g1 := x26 l1 _ upd_same
    have g2 := x36 l2 _ upd_same
    have g3 := x46 l3 _ upd_same
    have g4 := x56 l4 _ upd_same
    have g5 := x6 l5 _ upd_same
    have x06 := x1.trans x26
    refine ⟨p, pc, .ref q, _, N, rfl, hp.mono x06, by omega, .inl ⟨q, rfl, SqL.of upd_same⟩, List.cons_ne_nil _ _, of_decide_eq_true rfl, fun v hv H1 k1 p1 => ?_⟩
    have p0 := hp.mono x06
    obtain ⟨sa, sp, rfl, hsp, hs⟩ : ∃ sa sp, v = .ref sa ∧ sp ∈ spotSets ∧ H1 sa = some (.lst (sp.map V.str)) := by
      rcases List.mem_cons.mp hv with rfl | hv
      · exact ⟨l1, _, rfl, List.mem_cons_self .., lst_pen k1 p0 g1⟩
      rcases List.mem_cons.mp hv with rfl | hv
      · exact ⟨l2, _, rfl, List.mem_cons_of_mem _ (List.mem_cons_self ..), lst_pen k1 p0 g2⟩
      rcases List.mem_cons.mp hv with rfl | hv
      · exact ⟨l3, _, rfl, List.mem_cons_of_mem _ (List.mem_cons_of_mem _ (List.mem_cons_self ..)), lst_pen k1 p0 g3⟩
      rcases List.mem_cons.mp hv with rfl | hv
      · exact ⟨l4, _, rfl, List.mem_cons_of_mem _ (List.mem_cons_of_mem _ (List.mem_cons_of_mem _ (List.mem_cons_self ..))), lst_pen k1 p0 g4⟩
      · rw [List.mem_singleton.mp hv]
        exact ⟨l5, _, rfl, List.mem_cons_of_mem _ (List.mem_cons_of_mem _ (List.mem_cons_of_mem _ (List.mem_cons_of_mem _ (List.mem_cons_self ..)))), lst_pen k1 p0 g5⟩
    have kk1 : Kp [p] H H1 := (Kp.of x06).trans k1
    have spl : 1 ≤ sp.length ∧ sp.length ≤ 3 := by
      have : ∀ s ∈ spotSets, 1 ≤ s.length ∧ s.length ≤ 3 := by decide
      exact this sp hsp
    have sp0 : ∀ s ∈ sp, s.length ≤ 10 := by
      have : ∀ t ∈ spotSets, ∀ s ∈ t, s.length ≤ 10 := by decide
      exact this sp hsp
    clear g1 g2 g3 g4 g5 x1 x2 x3 x4 x5 x6 x26 x36 x46 x56 p0 hv
    refine ⟨_, rfl, by decide, fun nl hnl => ?_⟩
    have x7 := Evl.Ex.new (o := .lst (nameSet.map V.str)) hnl
    refine ⟨p, pc, nl, nameSet.map V.str, N + 1, rfl, p1.mono x7, by omega, SqL.of upd_same, by decide, fun na ys H2 pm k2 p2 nna hna => ?_⟩
    obtain ⟨nm, rfl, pn⟩ := perm_str pm
    have hs2 := lst_pen k2 (p1.mono x7) (x7 _ _ hs)
    have kk2 := (kk1.trans (Kp.of x7)).trans k2
    refine ⟨by decide, fun ra hra => ?_⟩
    have x8 := Evl.Ex.new (o := .lst []) hra
    have p3 := p2.mono x8
    have hs3 := x8 _ _ hs2
    have hn3 := x8 _ _ hna
    have kk3 := kk2.trans (Kp.of x8)
    have hr3 : upd H2 ra (.lst []) ra = some (.lst []) := upd_same
    have nra : H ra = none := by
      refine fresh kk2 hra (fun m => ?_)
      obtain ⟨kv, g, _⟩ := p2
      rw [List.mem_singleton.mp m, g] at hra
      cases hra
    have nsr : sa ≠ ra := ne_of_none hs2 hra
    have nnr : na ≠ ra := ne_of_none hna hra
    obtain ⟨xc, hxc⟩ := hp.cells
    have pcr : pc ≠ ra := ne_of_none hxc nra
    obtain ⟨kp0, hkp0, _⟩ := id hp
    have pr : p ≠ ra := ne_of_none hkp0 nra
    have nml := pn.length_eq
    have nml : nm.length = 6 := nml
    have p3 : PenAt (upd H2 ra (.lst [])) p pc (N + 7) := p3
    generalize upd H2 ra (.lst []) = H3 at p3 hs3 hn3 kk3 hr3 ⊢
    refine ⟨fun σ H' => ∃ (rs : List RoadM) (rows : List V) (s4 s5 : Option V), σ = [some (.ref p), some (.ref sa), some (.ref na), some (.ref ra), s4, s5] ∧ Kp [p] H H' ∧ PenAt H' p pc (N + 100) ∧ H' sa = some (.lst (sp.map V.str)) ∧ H' ra = some (.lst rows) ∧ All2 (RowAt H') rows rs ∧ LandOk sp rs, ?_, ?_⟩
    · refine ⟨_, rfl, p, pc, 5, N + 7, rfl, p3, by omega, by decide, by decide, fun d4 H4 hd4 k4 p4 _ => ⟨_, _, rfl, rfl, _, rfl, by omega, by omega, ?_⟩⟩
      have hn : (1 + (d4 : Int)).toNat = d4 + 1 := by omega
      rw [hn]
      refine for_range (lo := 0) (n := d4 + 1) (fun i σ H' => ∃ (rs : List RoadM) (rows : List V) (s4 s5 : Option V), σ = [some (.ref p), some (.ref sa), some (.ref na), some (.ref ra), s4, s5] ∧ Kp [p] H H' ∧ PenAt H' p pc (N + 8 + 10 * i) ∧ H' sa = some (.lst (sp.map V.str)) ∧ H' na = some (.lst (nm.map V.str)) ∧ H' ra = some (.lst rows) ∧
          All2 (RowAt H') rows rs ∧ rs.length = i ∧ rs.map (·.name) = nm.take i ∧ ∀ m ∈ rs, RowOk sp m) ⟨[], [], none, none, rfl, kk3.trans k4, p4, lst_pen k4 p3 hs3, lst_pen k4 p3 hn3, lst_pen k4 p3 hr3, .nil, rfl, rfl, fun _ h => by cases h⟩ (fun i σ H' hi q => ?_) (fun σ H' q => ?_)
      · obtain ⟨rs, rows, s4, s5, rfl, k5, p5, hs5, hn5, hr5, al5, li, nmi, ok5⟩ := q
        -- where the road begins
        refine ⟨fun σ H' => ∃ (rs : List RoadM) (st : Str), σ = [some (.ref p), some (.ref sa), some (.ref na), some (.ref ra), some (.int (0 + (i : Int))), some (.str st)] ∧ st ∈ sp ∧ Kp [p] H H' ∧ PenAt H' p pc (N + 8 + 10 * i + 2) ∧ H' sa = some (.lst (sp.map V.str)) ∧ H' na = some (.lst (nm.map V.str)) ∧ H' ra = some (.lst rows) ∧
          All2 (RowAt H') rows rs ∧ rs.length = i ∧ rs.map (·.name) = nm.take i ∧ ∀ m ∈ rs, RowOk sp m, ?_, ?_⟩
        · refine ⟨_, rfl, p, pc, 3, _, rfl, p5, by omega, by decide, by decide, fun d6 H6 hd6 k6 p6 _ => ⟨rfl, _, rfl, ?_⟩⟩
          have hs6 := lst_pen k6 p5 hs5
          have hn6 := lst_pen k6 p5 hn5
          have hr6 := lst_pen k6 p5 hr5
          have al6 := rows_pen k6 p5 al5
          by_cases c6 : (d6 : Int) = 0
          · rw [decide_eq_true (congrArg V.int c6)]
            refine iteT ⟨_, rfl, _, rfl, _, rfl, sa, _, rfl, .inl (SqL.of hs6), p, pc, _, _, rfl, p6, by omega, ?_, ?_, fun d7 H7 hd7 k7 p7 _ => ?_⟩
            · rw [List.length_map]; omega
            · rw [List.length_map]; omega
            rw [List.length_map] at hd7
            have hd : d7 < sp.length := by omega
            have hat : (sp.map V.str)[d7]? = some (.str sp[d7]) := by rw [List.getElem?_map, List.getElem?_eq_getElem hd]; rfl
            exact ⟨sa, _, d7, _, rfl, rfl, SqL.of (lst_pen k7 p6 hs6), atI_nat hat, rs, sp[d7], rfl, List.getElem_mem hd, (k5.trans k6).trans k7, p7, lst_pen k7 p6 hs6, lst_pen k7 p6 hn6, lst_pen k7 p6 hr6, rows_pen k7 p6 al6, li, nmi, ok5⟩
          · rw [decide_eq_false (fun q => c6 (V.int.inj q))]
            have hd : 0 < sp.length := by omega
            have hat : (sp.map V.str)[0]? = some (.str sp[0]) := by rw [List.getElem?_map, List.getElem?_eq_getElem hd]; rfl
            exact iteF ⟨_, rfl, sa, _, 0, _, rfl, rfl, SqL.of hs6, atI_nat (j := 0) hat, rs, sp[0], rfl, List.getElem_mem hd, k5.trans k6, p6.le (by omega), hs6, hn6, hr6, al6, li, nmi, ok5⟩
        · rintro σ H' ⟨rs, st, rfl, hst, k5, p5, hs5, hn5, hr5, al5, li, nmi, ok5⟩
          have hi6 : i < nm.length := by omega
          have hat : (nm.map V.str)[i]? = some (.str nm[i]) := by rw [List.getElem?_map, List.getElem?_eq_getElem hi6]; rfl
          have e0 : (0 : Int) + (i : Int) = (i : Int) := Int.zero_add _
          rw [e0]
          refine ⟨_, rfl, .inl ⟨rfl, _, SqL.of hr5⟩, _, rfl, _, rfl, na, _, i, _, rfl, rfl, SqL.of hn5, atI_nat hat, _, rfl, _, rfl, _, rfl, p, pc, .ref sa, sp.map V.str, _, rfl, p5, by omega, .inl ⟨sa, rfl, SqL.of hs5⟩, ?_, ?_, fun ve hve H6 k6 p6 => ?_⟩
          · intro q
            have := congrArg List.length q
            rw [List.length_map] at this
            simp at this
            rw [this] at spl
            exact absurd spl.1 (by decide)
          · rw [List.length_map]; omega
          obtain ⟨en, hen, rfl⟩ := List.mem_map.mp hve
          refine ⟨_, rfl, p, pc, _, rfl, p6, by omega, fun t dx dy H7 hdx hdy k7 p7 ht => ?_⟩
          refine ⟨_, rfl, p, pc, 9, _, rfl, p7, by omega, by decide, by decide, fun d8 H8 hd8 k8 p8 _ => ⟨_, _, rfl, rfl, of_decide_eq_true rfl, fun u hu => ?_⟩⟩
          have x9 := Evl.Ex.new (o := .tup [.str nm[i], .str st, .str en, .ref t, .int (1 + (d8 : Int)), .non]) hu
          have t8 : H8 t = some (.tup [.int dx, .int dy]) := k8 _ _ (fun m => by
            obtain ⟨kv, g, _⟩ := p7
            rw [List.mem_singleton.mp m, g] at ht
            cases ht) ht
          have r8 := x9 _ _ (lst_pen k8 p7 (lst_pen k7 p6 (lst_pen k6 p5 hr5)))
          have al8 := rows_mono x9 (rows_pen k8 p7 (rows_pen k7 p6 (rows_pen k6 p5 al5)))
          have kr : Kp [ra] (upd H8 u (.tup [.str nm[i], .str st, .str en, .ref t, .int (1 + (d8 : Int)), .non])) (upd (upd H8 u (.tup [.str nm[i], .str st, .str en, .ref t, .int (1 + (d8 : Int)), .non])) ra (.lst (rows ++ [.ref u]))) := (Kp.refl _ _).put (List.mem_singleton.mpr rfl)
          have rt : ∀ q ∈ [ra], ∀ xs, (upd H8 u (.tup [.str nm[i], .str st, .str en, .ref t, .int (1 + (d8 : Int)), .non])) q ≠ some (.tup xs) := fun q m xs e => by
            rw [List.mem_singleton.mp m, r8] at e
            cases e
          refine ⟨ra, rows, _, rfl, rfl, r8, ?_, rs ++ [⟨nm[i], st, en, dx, dy, 1 + (d8 : Int), none⟩], rows ++ [.ref u], _, _, rfl, ?_, ?_, ?_, ?_, upd_same, ?_, ?_, ?_, ?_⟩
          · rw [al5.len, li]
            exact Nat.lt_of_lt_of_le (show i < 100 by omega) (by decide)
          · exact ((((k5.trans k6).trans k7).trans k8).trans (Kp.of x9)).out kr nra
          · exact ((p8.mono x9).kp kr ⟨by simpa using pr, by simpa using pcr⟩).le (by omega)
          · exact (upd_ne nsr).trans (x9 _ _ (lst_pen k8 p7 (lst_pen k7 p6 (lst_pen k6 p5 hs5))))
          · exact (upd_ne nnr).trans (x9 _ _ (lst_pen k8 p7 (lst_pen k7 p6 (lst_pen k6 p5 hn5))))
          · exact (al8.imp fun _ _ => RowAt.kp kr rt).app (.cons (RowAt.kp kr rt ⟨u, t, rfl, upd_same, x9 _ _ t8, rfl⟩) .nil)
          · rw [List.length_append, li]
            rfl
          · rw [List.map_append, nmi, take_succ_of (List.getElem?_eq_getElem hi6)]
            rfl
          · intro m hm
            rcases List.mem_append.mp hm with hm | hm
            · exact ok5 m hm
            · rw [List.mem_singleton.mp hm]
              exact ⟨pn.mem_iff.mp (List.getElem_mem hi6), hst, hen, hdx, hdy, ⟨by show 1 ≤ 1 + (d8 : Int); omega, by show 1 + (d8 : Int) ≤ 9; omega⟩, rfl⟩
      · obtain ⟨rs, rows, s4, s5, rfl, k5, p5, hs5, hn5, hr5, al5, li, nmi, ok5⟩ := q
        refine ⟨rs, rows, s4, s5, rfl, k5, p5.le (by omega), hs5, hr5, al5, hsp, ?_, ?_, by omega, ok5⟩
        · rw [nmi]
          have nd : nm.Nodup := pn.nodup_iff.mpr (by decide)
          exact nd.sublist (List.take_sublist _ _)
        · intro q
          rw [q] at li
          cases li
    · rintro σ H' ⟨rs, rows, s4, s5, rfl, k5, p5, hs5, hr5, al5, ok5⟩
      refine fun l hl => ⟨_, rfl, _, rfl, upd_same, [(.inr "spots", .ref sa), (.inr "roads", .ref ra)], rfl, by simp, ?_⟩
      have xl := Evl.Ex.new (o := .dK []) hl
      have xm := xl.mut (o := .dK (mergeK [] [(.inr "spots", .ref sa), (.inr "roads", .ref ra)])) hl
      refine k l sp rs _ ok5 (k5.trans (Kp.of xm)) (p5.mono xm) ?_ ⟨sa, ra, rows, upd_same, xm _ _ hs5, xm _ _ hr5, rows_mono xm al5⟩
      refine fresh k5 hl (fun m => ?_)
      obtain ⟨kv, g, _⟩ := p5
      rw [List.mem_singleton.mp m, g] at hl
      cases hl
end
end Lx
set_option Elab.async false
set_option linter.all false
set_option maxRecDepth 100000
set_option maxHeartbeats 4000000
namespace Lx
open PySem PySem.Spec PyProof.Rows L2 Pz
def landTxt (sp : List Str) (rs : List RoadM) : Str := Txt.join "\n" (sp.map (fun n => ("spot " : Str) ++ n) ++ rs.map lineOf)
section
variable {P : Program} {w : World} {K : PySem.W.Frag} {mg : Str → Option Value} {base : Heap}
theorem land_sp {sp : List Str} {rs : List RoadM} (h : LandOk sp rs) : (1 ≤ sp.length ∧ sp.length ≤ 3) ∧ sp.Nodup ∧ ∀ s ∈ sp, 1 ≤ s.length ∧ s.length ≤ 10 := by
  have : ∀ s ∈ spotSets, (1 ≤ s.length ∧ s.length ≤ 3) ∧ s.Nodup ∧ ∀ t ∈ s, 1 ≤ t.length ∧ t.length ≤ 10 := by decide
  exact this sp h.spots
theorem land_road {sp : List Str} {rs : List RoadM} (h : LandOk sp rs) : ∀ m ∈ rs, RoadOk m := by
  intro m hm
  have o := h.ok m hm
  have hs := (land_sp h).2.2
  have hn : ∀ s ∈ nameSet, s.length ≤ 1000 := by decide
  have h1 := hs _ o.st
  have h2 := hs _ o.en
  have h3 := o.dx
  have h4 := o.dy
  have h5 := o.pr
  exact ⟨hn _ o.nm, by omega, by omega, by omega, by omega, by omega, fun s e => by rw [o.lb] at e; cases e⟩
def spLandText (K : PySem.W.Frag) : Sp := fun vs H Q _ => ∃ (l : Addr) (sp : List Str) (rs : List RoadM), vs = [.ref l] ∧ LandAt H l sp rs ∧ LandOk sp rs ∧ ∀ H', Ex H H' → Q (.str (landTxt sp rs)) H'
theorem ok__law_land_text (T : TT K mg base) : Ok P w K mg base 1 (He.ga K "_law_land_text") ["_law_land"] [] (spLandText K) := by
  refine ok_mk T.f__law_land_text sc__law_land_text (fun vs H Q E h => ?_) (fun _ _ _ _ _ _ us hl => match us, hl with | [_], _ => rfl) (fun cdv A outer s H vs Q E hr h => ?_)
  · obtain ⟨l, sp, rs, rfl, _⟩ := h
    rfl
  · obtain ⟨l, sp, rs, rfl, ⟨s1, q1, rows, h1, h2, h3, h4⟩, ok, k⟩ := h
    refine ⟨_, (pss_cons (ps_setLcB s H (i := 1) (own := [("_law_name", 2)]) rfl sc__law_land_text.nd rfl rfl (sw_true rfl rfl rfl (by decide +kernel)) (pi_list (pe_dget (hu1 hr) (pv 0) pe_str (fun _ _ => rfl))) (blkOk_by (own := [("_law_name", 2)]) (N := nm__law_land_text) (sc := defScope s__law_land_text) (by decide +kernel)) (fun _ _ _ _ _ => (pg_name (i := 2) sc__law_land_text.nd rfl (by first | exact Or.inl rfl | exact Or.inr rfl))) (fun _ _ _ _ _ => pts_nil) (fun _ _ _ _ _ => (pe_op op_add_str pe_str (pv 2))))
      (Evl.pss_cut (ps_for po_own rfl (pi_list (pe_dget (hu1 hr) (pv 0) pe_str (fun _ _ => rfl))) (pg_tup rfl (pgs_cons (pg_name (i := 2) sc__law_land_text.nd rfl (by first | exact Or.inl rfl | exact Or.inr rfl)) (pgs_cons (pg_name (i := 3) sc__law_land_text.nd rfl (by first | exact Or.inl rfl | exact Or.inr rfl)) (pgs_cons (pg_name (i := 4) sc__law_land_text.nd rfl (by first | exact Or.inl rfl | exact Or.inr rfl)) (pgs_cons (pg_name (i := 5) sc__law_land_text.nd rfl (by first | exact Or.inl rfl | exact Or.inr rfl)) (pgs_cons (pg_name (i := 6) sc__law_land_text.nd rfl (by first | exact Or.inl rfl | exact Or.inr rfl)) (pgs_cons (pg_name (i := 7) sc__law_land_text.nd rfl (by first | exact Or.inl rfl | exact Or.inr rfl)) pgs_nil)))))))
      (pss_cons (ps_set (i := 8) sc__law_land_text.nd rfl (by first | exact Or.inl rfl | exact Or.inr rfl) (pe_lst (pa_cons pe_str (pa_cons (pv 2) (pa_cons (pv 3) (pa_cons (pv 4) (pa_cons (pe_callTy call_str_int (by rfl) T.b_str (by decide +kernel) (pa_cons (pe_ix ix_tup (pv 5) pe_int (fun _ _ => rfl)) pa_nil)) (pa_cons (pe_callTy call_str_int (by rfl) T.b_str (by decide +kernel) (pa_cons (pe_ix ix_tup (pv 5) pe_int (fun _ _ => rfl)) pa_nil)) (pa_cons (pe_callTy call_str_int (by rfl) T.b_str (by decide +kernel) (pa_cons (pv 6) pa_nil)) pa_nil)))))))))
      (pss_one (ps_set (i := 1) sc__law_land_text.nd rfl (by first | exact Or.inl rfl | exact Or.inr rfl) (pe_op op_cat (pv 1) (pe_lst (pa_cons (pe_join pe_str (pe_op op_cat (pv 8) (pe_ifExp (pt_cmpR op_notN (pv 7) pe_non (nomark _)) (pe_lst (pa_cons (pv 7) pa_nil)) (pe_lst pa_nil)))) pa_nil)))))))
      (pss_one (ps_ret (pe_join pe_str (pv 1)))))), ?_⟩
    have lsp := land_sp ok
    refine Evl.s_asgL (xs := (sp.map (fun n => ("spot " : Str) ++ n)).map V.str) ?_ fun a H1 na x1 ea => ?_
    · have e : (((sp.map V.str).filter fun _ => true).map fun x => match x with | .str n => V.str (("spot " : Str) ++ n) | v => v) = (sp.map (fun n => ("spot " : Str) ++ n)).map V.str := by
        rw [List.filter_eq_self.mpr (fun _ _ => rfl), List.map_map, List.map_map]
        rfl
      rw [← e]
      refine el_lcL _ _ (ev_dk (Evl.ev_var rfl) (.inl h1) rfl) (SqL.of h2) (by rw [List.length_map]; omega) (fun x => rfl) (fun x hx => ev_yes) (fun x hx _ => ?_)
      obtain ⟨n, hn, rfl⟩ := List.mem_map.mp hx
      exact Evl.ev_op Evl.ev_c (Evl.ev_var rfl) (rv_addS (Nat.le_trans (Nat.add_le_add_left (lsp.2.2 n hn).2 _) (by decide)))
    have nHa : H a = none := na
    have lrs := ok.le
    refine ⟨fun σ H' => ∃ (a2 : Addr) (s2 s3 s4 s5 s6 s7 s8 : Option V), σ = [some (.ref l), some (.ref a2), s2, s3, s4, s5, s6, s7, s8] ∧ Ex H H' ∧ H' a2 = some (.lst ((sp.map (fun n => ("spot " : Str) ++ n) ++ rs.map lineOf).map V.str)), ?_, ?_⟩
    · refine Evl.s_forL (ev_dk (Evl.ev_var rfl) (.inl (x1 _ _ h1)) rfl) (SqL.of (x1 _ _ h3)) (fun i σ H' => ∃ (a2 : Addr) (s2 s3 s4 s5 s6 s7 s8 : Option V), σ = [some (.ref l), some (.ref a2), s2, s3, s4, s5, s6, s7, s8] ∧ Ex H H' ∧ H' a2 = some (.lst ((sp.map (fun n => ("spot " : Str) ++ n) ++ (rs.take i).map lineOf).map V.str)))
        (fun H2 x2 => ⟨a, none, none, none, none, none, none, none, rfl, x1.trans x2, ?_⟩) (fun i σ H' _ p => ?_) (fun i x σ H' hx p => ?_) (fun σ H' p => ?_)
      · show H2 a = some (.lst ((sp.map (fun n => ("spot " : Str) ++ n) ++ []).map V.str))
        rw [List.append_nil]
        exact x2 _ _ ea
      · obtain ⟨a2, s2, s3, s4, s5, s6, s7, s8, rfl, xx, e⟩ := p
        exact SqL.of (xx _ _ h3)
      · obtain ⟨a2, s2, s3, s4, s5, s6, s7, s8, rfl, xx, e⟩ := p
        obtain ⟨m, hm, hr⟩ := h4.get hx
        obtain ⟨t, sh, rfl, g1, g2, g3⟩ := RowAt.kp (Kp.of (ms := []) xx) (by simp) hr
        have ro := land_road ok m (List.mem_of_getElem? hm)
        refine ⟨t, _, rfl, SqT.of g1, rfl, _, _, rfl, _, _, rfl, _, _, rfl, _, _, rfl, _, _, rfl, _, _, rfl, rfl, ?_⟩
        refine Evl.q_asgL (xs := (roadWords m).map V.str) (Evl.el_lst (Evl.ea_cons Evl.ev_c (Evl.ea_cons (Evl.ev_var rfl) (Evl.ea_cons (Evl.ev_var rfl) (Evl.ea_cons (Evl.ev_var rfl)
          (Evl.ea_cons (Evl.ev_cb (Evl.ea_cons (Evl.ev_op (Evl.ev_var rfl) Evl.ev_c (Evl.rv_ixT (SqT.of g2) (atI_nat (j := 0) rfl))) Evl.ea_nil) (rc_str (log_small ro.x1.1 ro.x1.2)))
          (Evl.ea_cons (Evl.ev_cb (Evl.ea_cons (Evl.ev_op (Evl.ev_var rfl) Evl.ev_c (Evl.rv_ixT (SqT.of g2) (atI_nat (j := 1) rfl))) Evl.ea_nil) (rc_str (log_small ro.x2.1 ro.x2.2)))
          (Evl.ea_cons (Evl.ev_cb (Evl.ea_cons (Evl.ev_var rfl) Evl.ea_nil) (rc_str (log_small ro.x3.1 ro.x3.2))) Evl.ea_nil))))))) (of_decide_eq_true rfl)) fun b H2 nb x2 eb => ?_
        have e2 := x2 _ _ e
        have elm : lineOf m = Txt.join " " (roadWords m ++ []) := by
          unfold lineOf
          rw [g3]
          rfl
        refine Evl.s_asgL (xs := ((sp.map (fun n => ("spot " : Str) ++ n) ++ (rs.take i).map lineOf).map V.str) ++ [.str (Txt.join " " (roadWords m ++ []))]) (el_catV (Evl.ev_var rfl) e2 (Evl.el_lst (Evl.ea_cons (ev_joinL (ys := roadWords m ++ []) ?_ ?_) Evl.ea_nil) (of_decide_eq_true rfl)) ?_) fun c H3 nc x3 ec => ⟨c, _, _, _, _, _, _, _, rfl, (xx.trans x2).trans x3, ?_⟩
        · rw [List.map_append]
          refine el_catV (Evl.ev_var rfl) eb (el_if (Evl.et_is (et_notN (v := .non) (Evl.ev_var rfl)) (b := false) rfl) (fun h => by cases h) (fun _ => Evl.el_lst Evl.ea_nil (by decide))) (by simp [roadWords])
        · have hw := words_len ro
          rw [g3] at hw
          exact join_ok (n := 1000) (c := 8) (y := " ") hw (by simp [roadWords]) (by decide)
        · simp
          omega
        · rw [ec, ← elm, take_succ_of hm]
          simp
      · obtain ⟨a2, s2, s3, s4, s5, s6, s7, s8, rfl, xx, e⟩ := p
        rw [h4.len, List.take_length] at e
        exact ⟨a2, s2, s3, s4, s5, s6, s7, s8, rfl, xx, e⟩
    · rintro σ H' ⟨a2, s2, s3, s4, s5, s6, s7, s8, rfl, xx, e⟩
      refine ⟨⟨_, rfl⟩, _, rfl, "\n", a2, _, rfl, rfl, .inl (SqL.of e), join_ok (y := "\n") (n := 10000) (c := 10) (fun p hp => ?_) ?_ (by decide), k _ xx⟩
      · rcases List.mem_append.mp hp with hp | hp
        · obtain ⟨n, hn, rfl⟩ := List.mem_map.mp hp
          have := (lsp.2.2 n hn).2
          rw [Str.length_append]
          exact Nat.le_trans (Nat.add_le_add_left this _) (by decide)
        · obtain ⟨m, hm, rfl⟩ := List.mem_map.mp hp
          exact line_len (land_road ok m hm)
      · rw [List.length_append, List.length_map, List.length_map]
        omega
end
end Lx
set_option Elab.async false
set_option linter.all false
set_option maxRecDepth 100000
set_option maxHeartbeats 4000000
namespace Lx
open PySem PySem.Spec PyProof.Rows L2 Pz
section
variable {P : Program} {w : World} {K : PySem.W.Frag} {mg : Str → Option Value} {base : Heap}
def LineAt (K : PySem.W.Frag) (H : Hp) (v : V) : LineM → Prop
  | .goal g => ∃ t, v = .ref t ∧ SqT K H t [.str "goal", .str g]
  | .at_ s cs rd => ∃ t c cv, v = .ref t ∧ SqT K H t [.str "at", .str s, .ref c, .str rd] ∧ SqT K H c cv ∧ CondsAt K H cv cs
theorem line_odd {H H' : Hp} {ms : List Addr} {v : V} {ln : LineM} (k : Kp ms H H') (o : ∀ p ∈ ms, ∃ u, H p = some u ∧ Odd u) (h : LineAt K H v ln) : LineAt K H' v ln := by
  cases ln with
  | goal g =>
    obtain ⟨t, h1, h2⟩ := h
    exact ⟨t, h1, st_odd k o h2⟩
  | at_ s cs rd =>
    obtain ⟨t, c, cv, h1, h2, h3, h4⟩ := h
    exact ⟨t, c, cv, h1, st_odd k o h2, st_odd k o h3, conds_odd k o h4⟩
abbrev LinesAt (K : PySem.W.Frag) (H : Hp) (vs : List V) (ls : List LineM) : Prop := All2 (LineAt K H) vs ls
theorem lines_odd {H H' : Hp} {ms : List Addr} {vs : List V} {ls : List LineM} (k : Kp ms H H') (o : ∀ p ∈ ms, ∃ u, H p = some u ∧ Odd u) (h : LinesAt K H vs ls) : LinesAt K H' vs ls := h.imp fun _ _ => line_odd k o
theorem lines_mono {H H' : Hp} {vs : List V} {ls : List LineM} (k : Ex H H') (h : LinesAt K H vs ls) : LinesAt K H' vs ls := lines_odd (Kp.of (ms := []) k) (by simp) h
/-- item k of a tuple -/
def tupOf (H : Hp) (k : Nat) (x : V) : V := match x with
  | .ref t => match H t with
    | some (.tup xs) => xs.getD k .non
    | _ => .non
  | _ => .non
theorem tupOf_eq {H : Hp} {t : Addr} {xs : List V} {k : Nat} (h : H t = some (.tup xs)) : tupOf H k (.ref t) = xs.getD k .non := by
  show (match H t with | some (.tup xs) => xs.getD k .non | _ => .non) = _
  rw [h]
theorem rows_names {H : Hp} {rows : List V} {rs : List RoadM} (h : All2 (RowAt H) rows rs) (s : Str) : ((rows.filter fun x => decide (tupOf H 1 x = .str s)).map (tupOf H 0)) = (namesAt rs s).map V.str := by
  induction h with
  | nil => rfl
  | @cons a m as ms h1 _ ih =>
    obtain ⟨t, sh, rfl, g1, g2, g3⟩ := h1
    have e1 : tupOf H 1 (.ref t) = .str m.start := tupOf_eq g1
    have e0 : tupOf H 0 (.ref t) = .str m.name := tupOf_eq g1
    unfold namesAt at ih ⊢
    rw [List.filter_cons, List.filter_cons, e1]
    by_cases c : m.start = s
    · rw [decide_eq_true c, decide_eq_true (congrArg V.str c), if_pos rfl, if_pos rfl, List.map_cons, List.map_cons, List.map_cons, ih, e0]
    · rw [decide_eq_false c, decide_eq_false (fun q => c (V.str.inj q)), if_neg (by decide), if_neg (by decide), ih]
/-- the rules of a spot -/
structure AtOk (rs : List RoadM) (s : Str) (ln : LineM) : Prop where
  ex : ∃ cs rd, ln = .at_ s cs rd ∧ rd ∈ namesAt rs s ∧ cs.length ≤ 4 ∧ ∀ c ∈ cs, CondOk c
def spSpotRules (K : PySem.W.Frag) : Sp := fun vs H Q _ => ∃ (p pc l : Addr) (N : Nat) (s : Str) (b : Bool) (sp : List Str) (rs : List RoadM), vs = [.ref p, .ref l, .str s, .bl b] ∧ PenAt H p pc N ∧ N ≤ 800000 ∧ p ≠ l ∧ LandAt H l sp rs ∧ LandOk sp rs ∧
  ∀ (t : Addr) (vals : List V) (ls : List LineM) H', Kp [p] H H' → PenAt H' p pc (N + 300) → H t = none → H' t = some (.lst vals) → LinesAt K H' vals ls → ls.length ≤ 4 → (∀ ln ∈ ls, AtOk rs s ln) → Q (.ref t) H'
theorem ok__law_spot_rules (T : TT K mg base) : Ok P w K mg base 4 (He.ga K "_law_spot_rules") ["_law_pen_here", "_law_land", "_law_spot", "_law_whole"] [] (spSpotRules K) := by
  refine ok_mk T.f__law_spot_rules sc__law_spot_rules (fun vs H Q E h => ?_) (fun _ _ _ _ _ _ us hl => match us, hl with | [_, _, _, _], _ => rfl) (fun cdv A outer s H vs Q E hr h => ?_)
  · obtain ⟨p, pc, l, N, s, b, sp, rs, rfl, _⟩ := h
    rfl
  · obtain ⟨p, pc, l, N, x, wh, sp, rs, rfl, hp, hN, pl, la, ok, k⟩ := h
    refine ⟨_, (pss_cons (ps_setLcB s H (i := 4) (own := [("_law_row", 5)]) rfl sc__law_spot_rules.nd rfl rfl (sw_true rfl rfl rfl (by decide +kernel)) (pi_list (pe_dget (hu1 hr) (pv 1) pe_str (fun _ _ => rfl))) (blkOk_by (own := [("_law_row", 5)]) (N := nm__law_spot_rules) (sc := defScope s__law_spot_rules) (by decide +kernel)) (fun _ _ _ _ _ => (pg_name (i := 5) sc__law_spot_rules.nd rfl (by first | exact Or.inl rfl | exact Or.inr rfl))) (fun _ _ _ _ _ => (pts_one (pt_cmpR op_eq (pe_ix ix_tup (pv 5) pe_int (fun _ _ => rfl)) (pv 2) (nomark _)))) (fun _ _ _ _ _ => (pe_ix ix_tup (pv 5) pe_int (fun _ _ => rfl))))
      (pss_cons (ps_if (pt_cmpR (op_eqNil hr.units0) (pv 4) (pe_lst pa_nil) (nomark _))
      (pss_one (ps_ret (pe_lst pa_nil)))
      pss_nil)
      (pss_cons (ps_set (i := 6) sc__law_spot_rules.nd rfl (by first | exact Or.inl rfl | exact Or.inr rfl) (pe_lst pa_nil))
      (Evl.pss_cut (ps_for po_own rfl (pi_range1 rfl T.b_range (pa_cons (po_call (ok__law_pick T) (hr.mono (by decide)) rfl T.g__law_pick px_of (pa_cons (pv 0) (pa_cons (pe_lst (pa_cons pe_int (pa_cons pe_int (pa_cons pe_int (pa_cons pe_int (pa_cons pe_int pa_nil)))))) pa_nil))) pa_nil)) (pg_name (i := 7) sc__law_spot_rules.nd rfl (by first | exact Or.inl rfl | exact Or.inr rfl))
      (pss_cons (ps_set (i := 8) sc__law_spot_rules.nd rfl (by first | exact Or.inl rfl | exact Or.inr rfl) (pe_callB (cr_min rfl) (by rfl) T.b_min (by decide +kernel) (pa_cons (pe_lst (pa_cons (po_call (ok__law_pick T) (hr.mono (by decide)) rfl T.g__law_pick px_of (pa_cons (pv 0) (pa_cons (pe_lst (pa_cons pe_int (pa_cons pe_int (pa_cons pe_int (pa_cons pe_int (pa_cons pe_int (pa_cons pe_int (pa_cons pe_int (pa_cons pe_int pa_nil))))))))) pa_nil))) (pa_cons (pe_op op_sub pe_int (pe_dget2 (hu1 hr) (pv 0) pe_str pe_int ⟨rfl, rfl, rfl, rfl⟩)) pa_nil))) pa_nil)))
      (pss_cons (ps_dput (hu1 hr) (pv 0) pe_str (pe_op op_add (pe_dget2 (hu1 hr) (pv 0) pe_str pe_int ⟨rfl, rfl, rfl, rfl⟩) (pv 8)) rfl)
      (pss_one (ps_if (pt_cmpR op_gt (pv 8) pe_int (nomark _))
      (pss_one (ps_expr (pe_bm PySem.F.plainAttrs_list PySem.F.slot_list_append PySem.F.type_list_append mt_append (pv 6) (pa_cons (pe_tup (pa_cons pe_str (pa_cons (pv 2) (pa_cons (pe_callTy call_tuple_of (by rfl) T.b_tuple (by decide +kernel) (pa_cons (pe_lcB s H (own := [("_law_j", 9)]) rfl sc__law_spot_rules.nd (pi_range1 rfl T.b_range (pa_cons (pv 8) pa_nil)) (blkOk_by (own := [("_law_j", 9)]) (N := nm__law_spot_rules) (sc := defScope s__law_spot_rules) (by decide +kernel)) (fun _ _ _ _ _ => (pg_name (i := 9) sc__law_spot_rules.nd rfl (by first | exact Or.inl rfl | exact Or.inr rfl))) (fun _ _ _ _ _ => pts_nil) (fun _ _ _ _ _ => (po_call (ok__law_condition T) (hr.mono (by decide)) rfl T.g__law_condition passL (pa_cons (pv 0) pa_nil)))) pa_nil)) (pa_cons (po_call (ok__law_pick T) (hr.mono (by decide)) rfl T.g__law_pick px_of (pa_cons (pv 0) (pa_cons (pv 4) pa_nil))) pa_nil))))) pa_nil))))
      pss_nil)))))
      (Evl.pss_cut (ps_if (pt_val (pv 3))
      (pss_one (ps_expr (pe_bm PySem.F.plainAttrs_list PySem.F.slot_list_append PySem.F.type_list_append mt_append (pv 6) (pa_cons (pe_tup (pa_cons pe_str (pa_cons (pv 2) (pa_cons (pe_tup pa_nil) (pa_cons (po_call (ok__law_pick T) (hr.mono (by decide)) rfl T.g__law_pick px_of (pa_cons (pv 0) (pa_cons (pv 4) pa_nil))) pa_nil))))) pa_nil))))
      pss_nil)
      (pss_one (ps_ret (pv 6)))))))), ?_⟩
    obtain ⟨sa, qa, rows, l1, l2, l3, l4⟩ := la
    have lrs := ok.le
    refine Evl.s_asgL (xs := (namesAt rs x).map V.str) ?_ fun ra H1 nra x1 era => ?_
    · rw [← rows_names l4 x]
      refine el_lcL _ _ (ev_dk (Evl.ev_var rfl) (.inl l1) rfl) (SqL.of l3) (by rw [l4.len]; omega) (fun x => rfl) (fun v hv => ?_) (fun v hv _ => ?_)
      · obtain ⟨m, _, t, sh, rfl, g1, _⟩ := l4.mem hv
        rw [tupOf_eq g1]
        exact Evl.et_test (Evl.ev_op (Evl.ev_op (Evl.ev_var rfl) Evl.ev_c (Evl.rv_ixT (SqT.of g1) (atI_nat (j := 1) rfl))) (Evl.ev_var rfl) (Evl.rv_eq rfl))
      · obtain ⟨m, _, t, sh, rfl, g1, _⟩ := l4.mem hv
        rw [tupOf_eq g1]
        exact Evl.ev_op (Evl.ev_var rfl) Evl.ev_c (Evl.rv_ixT (SqT.of g1) (atI_nat (j := 0) rfl))
    refine Evl.s_if (et_nil false rfl (SqL.of era)) (fun h H2 x2 => ?_) (fun h H2 x2 => ?_)
    · refine ⟨by decide, fun t ht => ?_⟩
      have x3 := Evl.Ex.new (o := .lst []) ht
      have xx := (x1.trans x2).trans x3
      exact k t [] [] _ (Kp.of xx) ((hp.mono xx).le (by omega)) (Evl.fresh_back (x1.trans x2) ht) upd_same .nil (by decide) (fun _ h => by cases h)
    · have hne : namesAt rs x ≠ [] := fun q => by
        rw [q] at h
        cases h
      have hlen : (namesAt rs x).length ≤ 5 := by
        unfold namesAt
        rw [List.length_map]
        exact Nat.le_trans (List.length_filter_le _ _) lrs
      have x12 := x1.trans x2
      refine ⟨by decide, fun ru hru => ?_⟩
      have x3 := Evl.Ex.new (o := .lst []) hru
      have x13 := x12.trans x3
      have nru : H ru = none := Evl.fresh_back x12 hru
      have era3 := x3 _ _ (x2 _ _ era)
      have eru3 : upd H2 ru (.lst []) ru = some (.lst []) := upd_same
      have rar : ra ≠ ru := ne_of_none (x2 _ _ era) hru
      have p3 := hp.mono x13
      obtain ⟨xc, hxc⟩ := hp.cells
      have pcr : pc ≠ ru := ne_of_none hxc nru
      obtain ⟨kp0, hkp0, _⟩ := id hp
      have pr : p ≠ ru := ne_of_none hkp0 nru
      have kk3 : Kp [p] H (upd H2 ru (.lst [])) := Kp.of x13
      clear h x1 x2 x3 x12
      generalize upd H2 ru (.lst []) = H3 at era3 eru3 p3 kk3 ⊢
      -- one rule more
      have app : ∀ (H5 : Hp) (M : Nat) (vals : List V) (ls : List LineM) (c : Addr) (cv : List V) (cs : List CondM), Kp [p] H H5 → PenAt H5 p pc M → M ≤ 900000 → H5 ra = some (.lst ((namesAt rs x).map V.str)) → H5 ru = some (.lst vals) → LinesAt K H5 vals ls → ls.length ≤ 3 → (∀ ln ∈ ls, AtOk rs x ln) →
          SqT K H5 c cv → CondsAt K H5 cv cs → cs.length ≤ 4 → (∀ d ∈ cs, CondOk d) → ∀ (Q5 : V → Hp → Prop), (∀ (vals2 : List V) (ls2 : List LineM) H6, Kp [p] H H6 → PenAt H6 p pc (M + 1) → H6 ra = some (.lst ((namesAt rs x).map V.str)) → H6 ru = some (.lst vals2) → LinesAt K H6 vals2 ls2 → ls2.length = ls.length + 1 → (∀ ln ∈ ls2, AtOk rs x ln) → Q5 .non H6) →
          spPick K [.ref p, .ref ra] H5 (fun rd H6 => [V.str "at", .str x, .ref c, rd].length ≤ sizeLine ∧ ∀ u, H6 u = none → rAppend (.ref ru) [.ref u] (upd H6 u (.tup [.str "at", .str x, .ref c, rd])) Q5) E := fun H5 M vals ls c cv cs k5 p5 hM era5 eru5 la5 lle lok hc hcs hcl hco Q5 go => by
        refine ⟨p, pc, .ref ra, (namesAt rs x).map V.str, M, rfl, p5, by omega, .inl ⟨ra, rfl, SqL.of era5⟩, fun q => hne (List.map_eq_nil_iff.mp q), by rw [List.length_map]; omega, fun v hv H6 k6 p6 => ⟨of_decide_eq_true rfl, fun u hu => ?_⟩⟩
        obtain ⟨rd, hrd, rfl⟩ := List.mem_map.mp hv
        have x7 := Evl.Ex.new (o := .tup [.str "at", .str x, .ref c, .str rd]) hu
        have od := pen_odd p5
        have eru7 := x7 _ _ (lst_pen k6 p5 eru5)
        have kr : Kp [ru] (upd H6 u (.tup [.str "at", .str x, .ref c, .str rd])) (upd (upd H6 u (.tup [.str "at", .str x, .ref c, .str rd])) ru (.lst (vals ++ [.ref u]))) := (Kp.refl _ _).put (List.mem_singleton.mpr rfl)
        have o7 := odd_lst eru7
        refine ⟨ru, vals, _, rfl, rfl, eru7, ?_, go _ (ls ++ [.at_ x cs rd]) _ (((k5.trans k6).trans (Kp.of x7)).out kr nru) ((p6.mono x7).kp kr ⟨by simpa using pr, by simpa using pcr⟩) ((upd_ne rar).trans (x7 _ _ (lst_pen k6 p5 era5))) upd_same ?_ ?_ ?_⟩
        · rw [la5.len]
          exact Nat.lt_of_lt_of_le (show ls.length < 100 by omega) (by decide)
        · refine (lines_odd kr o7 (lines_mono x7 (lines_odd k6 od la5))).app (.cons ⟨u, c, cv, rfl, st_odd kr o7 (SqT.of upd_same), st_odd kr o7 (st_mono x7 (st_odd k6 od hc)), conds_odd kr o7 (conds_mono x7 (conds_odd k6 od hcs))⟩ .nil)
        · rw [List.length_append]
          rfl
        · intro ln hln
          rcases List.mem_append.mp hln with h | h
          · exact lok ln h
          · rw [List.mem_singleton.mp h]
            exact ⟨⟨cs, rd, rfl, hrd, hcl, hco⟩⟩
      refine ⟨fun σ H' => ∃ (vals : List V) (ls : List LineM) (s5 s7 s8 s9 : Option V), σ = [some (.ref p), some (.ref l), some (.str x), some (.bl wh), some (.ref ra), s5, some (.ref ru), s7, s8, s9] ∧ Kp [p] H H' ∧ PenAt H' p pc (N + 200) ∧ H' ra = some (.lst ((namesAt rs x).map V.str)) ∧ H' ru = some (.lst vals) ∧ LinesAt K H' vals ls ∧ ls.length ≤ 3 ∧ ∀ ln ∈ ls, AtOk rs x ln, ?_, ?_⟩
      · refine ⟨_, rfl, by decide, fun q1 hq1 => ?_⟩
        have x4 := Evl.Ex.new (o := .lst [.int 0, .int 1, .int 1, .int 2, .int 3]) hq1
        refine ⟨p, pc, .ref q1, _, N, rfl, p3.mono x4, by omega, .inl ⟨q1, rfl, SqL.of upd_same⟩, List.cons_ne_nil _ _, by decide, fun v hv H4 k4 p4 => ?_⟩
        obtain ⟨n, rfl, hn⟩ : ∃ n : Nat, v = .int (n : Int) ∧ n ≤ 3 := by
          simp at hv
          rcases hv with rfl | rfl | rfl | rfl
          · exact ⟨0, rfl, by decide⟩
          · exact ⟨1, rfl, by decide⟩
          · exact ⟨2, rfl, by decide⟩
          · exact ⟨3, rfl, by decide⟩
        have p3x := p3.mono x4
        refine ⟨_, rfl, by omega, by omega, ?_⟩
        rw [Int.toNat_natCast]
        refine for_range (lo := 0) (n := n) (fun i σ H' => ∃ (vals : List V) (ls : List LineM) (s5 s7 s8 s9 : Option V), σ = [some (.ref p), some (.ref l), some (.str x), some (.bl wh), some (.ref ra), s5, some (.ref ru), s7, s8, s9] ∧ Kp [p] H H' ∧ PenAt H' p pc (N + 1 + 60 * i) ∧ H' ra = some (.lst ((namesAt rs x).map V.str)) ∧ H' ru = some (.lst vals) ∧ LinesAt K H' vals ls ∧ ls.length ≤ i ∧ ∀ ln ∈ ls, AtOk rs x ln)
          ⟨[], [], none, none, none, none, rfl, (kk3.trans (Kp.of x4)).trans k4, p4, lst_pen k4 p3x (x4 _ _ era3), lst_pen k4 p3x (x4 _ _ eru3), .nil, Nat.zero_le _, fun _ h => by cases h⟩ (fun i σ H' hi q => ?_) (fun σ H' q => ?_)
        · obtain ⟨vals, ls, s5, s7, s8, s9, rfl, k5, p5, era5, eru5, la5, li5, lo5⟩ := q
          refine ⟨_, rfl, by decide, fun q2 hq2 => ?_⟩
          have x6 := Evl.Ex.new (o := .lst [.int 1, .int 1, .int 1, .int 1, .int 2, .int 2, .int 3, .int 4]) hq2
          refine ⟨p, pc, .ref q2, _, _, rfl, p5.mono x6, by omega, .inl ⟨q2, rfl, SqL.of upd_same⟩, List.cons_ne_nil _ _, by decide, fun v hv H6 k6 p6 => ?_⟩
          obtain ⟨m1, rfl, hm1⟩ : ∃ n : Int, v = .int n ∧ 1 ≤ n ∧ n ≤ 4 := by
            simp at hv
            rcases hv with rfl | rfl | rfl | rfl <;> exact ⟨_, rfl, by decide, by decide⟩
          obtain ⟨kvs, o, hk1, hk2, cc, hcc, hc8⟩ := pen_cond p6
          refine ⟨_, rfl, p, rfl, .inl ⟨kvs, .inl hk1⟩, o, .inl ⟨kvs, .inr "conditions", .inl hk1, rfl, hk2.symm⟩, ?_⟩
          rw [hcc]
          refine ⟨_, _, rfl, rfl, of_decide_eq_true rfl, fun q3 hq3 => ?_⟩
          have x7 := Evl.Ex.new (o := .lst [.int m1, .int (8 - (cc : Int))]) hq3
          refine ⟨q3, [m1, 8 - (cc : Int)], rfl, SqL.of upd_same, Nat.succ_pos _, fun mo hmo hle => ?_⟩
          have hmo0 : 0 ≤ mo ∧ mo ≤ 4 ∧ mo ≤ 8 - (cc : Int) := by
            have a1 := hle m1 (List.mem_cons_self ..)
            have a2 := hle (8 - (cc : Int)) (List.mem_cons_of_mem _ (List.mem_cons_self ..))
            simp at hmo
            rcases hmo with rfl | rfl <;> omega
          obtain ⟨mn, rfl⟩ : ∃ mn : Nat, mo = (mn : Int) := ⟨mo.toNat, (Int.toNat_of_nonneg hmo0.1).symm⟩
          -- the conditions counted
          have era6 := lst_pen k6 (p5.mono x6) (x6 _ _ era5)
          have eru6 := lst_pen k6 (p5.mono x6) (x6 _ _ eru5)
          have la6 := lines_odd k6 (pen_odd (p5.mono x6)) (lines_mono x6 la5)
          have p7 := p6.mono x7
          obtain ⟨kv7, g1, g2⟩ := id p7
          have e7 : kv7 = kvs := by
            rw [x7 _ _ hk1] at g1
            cases g1
            rfl
          subst e7
          have gl := g2.len
          refine ⟨_, rfl, p, rfl, .inl ⟨kv7, .inl g1⟩, o, .inl ⟨kv7, .inr "conditions", .inl g1, rfl, hk2.symm⟩, ?_⟩
          rw [hcc]
          refine ⟨_, rfl, _, _, rfl, rfl, _, rfl, p, _, rfl, .inl ⟨kv7, .inr "conditions", g1, rfl, Nat.lt_of_le_of_lt (show kv7.length ≤ 2000000 by omega) (by decide), rfl⟩, ?_⟩
          have pa8 := PenAt.put g1 (g2.conds (x := cc + mn) (by omega))
          have pa8 : PenAt (upd (upd H6 q3 (.lst [.int m1, .int (8 - (cc : Int))])) p (.dK (putK kv7 (.inr "conditions") (.int ((cc : Int) + (mn : Int)))))) p pc (N + 1 + 60 * i + 1 + 1) := pa8
          have kp8 : Kp [p] (upd H6 q3 (.lst [.int m1, .int (8 - (cc : Int))])) (upd (upd H6 q3 (.lst [.int m1, .int (8 - (cc : Int))])) p (.dK (putK kv7 (.inr "conditions") (.int ((cc : Int) + (mn : Int)))))) := (Kp.refl _ _).put (List.mem_singleton.mpr rfl)
          have era8 := lst_pen kp8 p7 (x7 _ _ era6)
          have eru8 := lst_pen kp8 p7 (x7 _ _ eru6)
          have la8 := lines_odd kp8 (pen_odd p7) (lines_mono x7 la6)
          have k8 := (((k5.trans (Kp.of x6)).trans k6).trans (Kp.of x7)).trans kp8
          generalize upd (upd H6 q3 (.lst [.int m1, .int (8 - (cc : Int))])) p (.dK (putK kv7 (.inr "conditions") (.int ((cc : Int) + (mn : Int))))) = H8 at pa8 era8 eru8 la8 k8 ⊢
          refine ⟨_, rfl, _, _, rfl, rfl, _, rfl, ?_⟩
          by_cases c8 : (0 : Int) < (mn : Int)
          · rw [decide_eq_true c8]
            refine iteT ⟨_, rfl, .inl ⟨rfl, _, SqL.of eru8⟩, _, rfl, _, rfl, _, rfl, by omega, by omega, fun D hD => ?_⟩
            rw [Int.toNat_natCast]
            have xD := Evl.Ex.new (o := .lst []) hD
            have DnH : H D = none := fresh k8 hD (fun m => by
              obtain ⟨kk, g, _⟩ := pa8
              rw [List.mem_singleton.mp m, g] at hD
              cases hD)
            refine lc_range (lo := 0) (n := mn) (fun j H' => Kp [p] H8 H' ∧ PenAt H' p pc (N + 1 + 60 * i + 2 + 10 * j) ∧ ∃ vs cs, H' D = some (.lst vs) ∧ CondsAt K H' vs cs ∧ cs.length = j ∧ ∀ d ∈ cs, CondOk d) ⟨Kp.of xD, pa8.mono xD, [], [], upd_same, .nil, rfl, fun _ h => by cases h⟩ (fun j H' hj q => ?_) (fun H9 q => ?_)
            · obtain ⟨kj, pj, vs, cs, ed, ca, cl, co⟩ := q
              refine ⟨rfl, yesT ⟨_, rfl, p, pc, _, rfl, pj, by omega, fun t c H9 hc k9 p9 hcc => ?_⟩⟩
              have ed9 := lst_pen k9 pj ed
              have ca9 := conds_odd k9 (pen_odd pj) ca
              have kD : Kp [D] H9 (upd H9 D (.lst (vs ++ [.ref t]))) := (Kp.refl _ _).put (List.mem_singleton.mpr rfl)
              obtain ⟨x8c, hx8c⟩ := pa8.cells
              obtain ⟨kp8c, hkp8c, _⟩ := id pa8
              refine ⟨vs, ed9, ?_, (kj.trans k9).out kD hD, (p9.kp kD ⟨by simpa using ne_of_none hkp8c hD, by simpa using ne_of_none hx8c hD⟩).le (by omega), _, cs ++ [c], upd_same, ?_, ?_, fun d hd => ?_⟩
              · rw [ca.len, cl]
                exact Nat.lt_of_lt_of_le (show j < 100 by omega) (by decide)
              · exact (conds_odd kD (odd_lst ed9) ca9).app (.cons (by
                  obtain ⟨tt, h1, h2⟩ := hcc
                  exact ⟨tt, h1, st_odd kD (odd_lst ed9) h2⟩) .nil)
              · rw [List.length_append, cl]
                rfl
              · rcases List.mem_append.mp hd with hd | hd
                · exact co d hd
                · rw [List.mem_singleton.mp hd]
                  exact hc
            · obtain ⟨k9, p9, vs, cs, ed, ca, cl, co⟩ := q
              refine ⟨D, vs, rfl, .inl ⟨SqL.of ed, fun c hc => ?_⟩⟩
              have xc := Evl.Ex.new (o := .tup vs) hc
              refine ⟨_, rfl, _, rfl, ?_⟩
              refine app _ _ vals ls c vs cs ((k8.trans k9).trans (Kp.of xc)) (p9.mono xc) (by omega) (xc _ _ (lst_pen k9 pa8 era8)) (xc _ _ (lst_pen k9 pa8 eru8)) (lines_mono xc (lines_odd k9 (pen_odd pa8) la8)) (by omega) lo5 (SqT.of upd_same) (conds_mono xc ca) (by omega) co
                (fun _ H' => ∃ (vals : List V) (ls : List LineM) (t5 t7 t8 t9 : Option V), [some (.ref p), some (.ref l), some (.str x), some (.bl wh), some (.ref ra), s5, some (.ref ru), some (.int (0 + (i : Int))), some (.int (mn : Int)), s9] = [some (.ref p), some (.ref l), some (.str x), some (.bl wh), some (.ref ra), t5, some (.ref ru), t7, t8, t9] ∧ Kp [p] H H' ∧ PenAt H' p pc (N + 1 + 60 * (i + 1)) ∧ H' ra = some (.lst ((namesAt rs x).map V.str)) ∧ H' ru = some (.lst vals) ∧ LinesAt K H' vals ls ∧ ls.length ≤ i + 1 ∧ ∀ ln ∈ ls, AtOk rs x ln) fun vals2 ls2 HA kA pA eraA eruA laA lA loA => ?_
              exact ⟨vals2, ls2, _, _, _, _, rfl, kA, pA.le (by omega), eraA, eruA, laA, by omega, loA⟩
          · rw [decide_eq_false c8]
            exact iteF ⟨vals, ls, _, _, _, _, rfl, k8, pa8.le (by omega), era8, eru8, la8, by omega, lo5⟩
        · obtain ⟨vals, ls, s5, s7, s8, s9, rfl, k5, p5, era5, eru5, la5, li5, lo5⟩ := q
          exact ⟨vals, ls, s5, s7, s8, s9, rfl, k5, p5.le (by omega), era5, eru5, la5, by omega, lo5⟩
      · rintro σ H' ⟨vals, ls, s5, s7, s8, s9, rfl, k5, p5, era5, eru5, la5, li5, lo5⟩
        refine ⟨fun σ H' => ∃ (vals : List V) (ls : List LineM) (s5 s7 s8 s9 : Option V), σ = [some (.ref p), some (.ref l), some (.str x), some (.bl wh), some (.ref ra), s5, some (.ref ru), s7, s8, s9] ∧ Kp [p] H H' ∧ PenAt H' p pc (N + 300) ∧ H' ru = some (.lst vals) ∧ LinesAt K H' vals ls ∧ ls.length ≤ 4 ∧ ∀ ln ∈ ls, AtOk rs x ln, ?_, ?_⟩
        · refine ⟨_, rfl, wh, rfl, ?_⟩
          cases wh with
          | false => exact iteF ⟨vals, ls, s5, s7, s8, s9, rfl, k5, p5.le (by omega), eru5, la5, by omega, lo5⟩
          | true =>
            refine iteT ⟨_, rfl, .inl ⟨rfl, _, SqL.of eru5⟩, _, rfl, by decide, fun c hc => ?_⟩
            have x6 := Evl.Ex.new (o := .tup []) hc
            refine ⟨_, rfl, _, rfl, ?_⟩
            refine app _ (N + 200) vals ls c [] [] (k5.trans (Kp.of x6)) (p5.mono x6) (by omega) (x6 _ _ era5) (x6 _ _ eru5) (lines_mono x6 la5) li5 lo5 (SqT.of upd_same) .nil (by decide) (fun _ h => by cases h) (fun _ H' => ∃ (vals : List V) (ls : List LineM) (t5 t7 t8 t9 : Option V), [some (.ref p), some (.ref l), some (.str x), some (.bl true), some (.ref ra), s5, some (.ref ru), s7, s8, s9] = [some (.ref p), some (.ref l), some (.str x), some (.bl true), some (.ref ra), t5, some (.ref ru), t7, t8, t9] ∧ Kp [p] H H' ∧ PenAt H' p pc (N + 300) ∧ H' ru = some (.lst vals) ∧ LinesAt K H' vals ls ∧ ls.length ≤ 4 ∧ ∀ ln ∈ ls, AtOk rs x ln) fun vals2 ls2 H6 k6 p6 era6 eru6 la6 l6 lo6 => ?_
            exact ⟨vals2, ls2, s5, s7, s8, s9, rfl, k6, p6.le (by omega), eru6, la6, by omega, lo6⟩
        · rintro σ H' ⟨vals, ls, s5, s7, s8, s9, rfl, k6, p6, eru6, la6, l6, lo6⟩
          exact ⟨_, rfl, k ru vals ls _ k6 p6 nru eru6 la6 l6 lo6⟩
/-- what may stand as a line behind others -/
def LineGood (sp : List Str) (rs : List RoadM) (ls : List LineM) : LineM → Prop
  | .goal g => g ∈ sp ∧ g ∉ goalsOf ls
  | .at_ s cs rd => s ∈ sp ∧ goalsOf ls ≠ [] ∧ cntOf ls s < 4 ∧ rd ∈ namesAt rs s ∧ cs.length ≤ 4 ∧ ∀ c ∈ cs, CondOk c
inductive Valid (sp : List Str) (rs : List RoadM) : List LineM → Prop where
  | nil : Valid sp rs []
  | snoc {ls : List LineM} {ln : LineM} : Valid sp rs ls → LineGood sp rs ls ln → Valid sp rs (ls ++ [ln])
/-- lists of rules that are left, by spots -/
abbrev LeftAt (K : PySem.W.Frag) (H : Hp) (as : List Addr) (its : List (Str × List LineM)) : Prop := All2 (fun a it => ∃ vals, H a = some (.lst vals) ∧ LinesAt K H vals it.2) as its
structure LeftOk (sp : List Str) (rs : List RoadM) (ls : List LineM) (its : List (Str × List LineM)) : Prop where
  nd : (its.map (·.1)).Nodup
  ok : ∀ it ∈ its, it.1 ∈ sp ∧ (∀ ln ∈ it.2, AtOk rs it.1 ln) ∧ cntOf ls it.1 + it.2.length ≤ 4
/-- is it a list that is not empty -/
def fullV (H : Hp) (x : V) : Bool := match x with
  | .ref a => match H a with
    | some (.lst xs) => !xs.isEmpty
    | _ => false
  | _ => false
theorem fullV_eq {H : Hp} {a : Addr} {xs : List V} (h : H a = some (.lst xs)) : fullV H (.ref a) = !xs.isEmpty := by
  show (match H a with | some (.lst xs) => !xs.isEmpty | _ => false) = _
  rw [h]
theorem left_full {H : Hp} {as : List Addr} {its : List (Str × List LineM)} (h : LeftAt K H as its) : ∃ bs, (as.map V.ref).filter (fullV H) = bs.map V.ref ∧ bs.Sublist as ∧ LeftAt K H bs (its.filter fun it => !it.2.isEmpty) := by
  induction h with
  | nil => exact ⟨[], rfl, List.Sublist.refl _, .nil⟩
  | @cons a it as its h1 _ ih =>
    obtain ⟨bs, e1, e2, e3⟩ := ih
    obtain ⟨vals, g1, g2⟩ := h1
    have e : vals.isEmpty = it.2.isEmpty := by
      generalize it.2 = ms at g2
      cases g2 <;> rfl
    rw [List.map_cons, List.filter_cons, List.filter_cons, fullV_eq g1, e, e1]
    cases it.2.isEmpty with
    | true => exact ⟨bs, rfl, e2.cons _, e3⟩
    | false => exact ⟨a :: bs, rfl, e2.cons₂ _, .cons ⟨vals, g1, g2⟩ e3⟩
theorem LeftOk.filter {sp : List Str} {rs : List RoadM} {ls : List LineM} {its : List (Str × List LineM)} (h : LeftOk sp rs ls its) (f : Str × List LineM → Bool) : LeftOk sp rs ls (its.filter f) :=
  ⟨h.nd.sublist (List.filter_sublist.map _), fun it hit => h.ok it (List.mem_filter.mp hit).1⟩
theorem left_kp {H H' : Hp} {ms : List Addr} {as : List Addr} {its : List (Str × List LineM)} (k : Kp ms H H') (o : ∀ p ∈ ms, ∃ u, H p = some u ∧ Odd u) (n : ∀ a ∈ as, a ∉ ms) (h : LeftAt K H as its) : LeftAt K H' as its := by
  induction h with
  | nil => exact .nil
  | cons h1 _ ih =>
    obtain ⟨vals, g1, g2⟩ := h1
    exact .cons ⟨vals, k _ _ (n _ (List.mem_cons_self ..)) g1, lines_odd k o g2⟩ (ih fun a ha => n a (List.mem_cons_of_mem _ ha))
theorem left_mono {H H' : Hp} {as : List Addr} {its : List (Str × List LineM)} (k : Ex H H') (h : LeftAt K H as its) : LeftAt K H' as its := left_kp (Kp.of (ms := []) k) (by simp) (by simp) h
theorem left_pen {H H' : Hp} {p pc : Addr} {N : Nat} {as : List Addr} {its : List (Str × List LineM)} (k : Kp [p] H H') (hp : PenAt H p pc N) (h : LeftAt K H as its) : LeftAt K H' as its := by
  refine left_kp k (pen_odd hp) (fun a ha m => ?_) h
  obtain ⟨it, _, vals, g, _⟩ := h.mem ha
  obtain ⟨kvs, g2, _⟩ := hp
  rw [List.mem_singleton.mp m, g2] at g
  cases g
/-- the first rule of one list is taken -/
theorem left_pop {H H' : Hp} {as : List Addr} {its : List (Str × List LineM)} (h : LeftAt K H as its) (nd : as.Nodup) {i : Nat} {a : Addr} (ha : as[i]? = some a) {v : V} {vs : List V} (hv : H a = some (.lst (v :: vs))) (k : Kp [a] H H') (hv2 : H' a = some (.lst vs)) :
    ∃ (s : Str) (ln : LineM) (ms : List LineM), its[i]? = some (s, ln :: ms) ∧ LineAt K H v ln ∧ LeftAt K H' as (its.set i (s, ms)) := by
  induction h generalizing i with
  | nil => cases ha
  | @cons b it as its h1 h2 ih =>
    obtain ⟨n1, n2⟩ := List.nodup_cons.mp nd
    have od := odd_lst hv
    cases i with
    | zero =>
      cases ha
      obtain ⟨vals, g1, g2⟩ := h1
      rw [hv] at g1
      cases g1
      obtain ⟨s, ms0⟩ := it
      cases g2 with
      | @cons _ ln _ ms g3 g4 =>
        exact ⟨s, ln, ms, rfl, g3, .cons ⟨vs, hv2, lines_odd k od g4⟩ (left_kp k od (fun c hc m => n1 (by rw [← List.mem_singleton.mp m]; exact hc)) h2)⟩
    | succ i =>
      have ha2 : as[i]? = some a := ha
      obtain ⟨s, ln, ms, e1, e2, e3⟩ := ih n2 ha2
      obtain ⟨vals, g1, g2⟩ := h1
      refine ⟨s, ln, ms, e1, e2, .cons ⟨vals, k _ _ (fun m => n1 ?_) g1, lines_odd k od g2⟩ e3⟩
      rw [List.mem_singleton.mp m]
      exact List.mem_of_getElem? ha2
theorem LeftOk.pop {sp : List Str} {rs : List RoadM} {ls : List LineM} {its : List (Str × List LineM)} (h : LeftOk sp rs ls its) {i : Nat} {s : Str} {ln : LineM} {ms : List LineM} (e : its[i]? = some (s, ln :: ms)) (hg : goalsOf ls ≠ []) :
    LineGood sp rs ls ln ∧ LeftOk sp rs (ls ++ [ln]) (its.set i (s, ms)) ∧ goalsOf (ls ++ [ln]) = goalsOf ls := by
  obtain ⟨o1, o2, o3⟩ := h.ok _ (List.mem_of_getElem? e)
  have o1 : s ∈ sp := o1
  have o3 : cntOf ls s + (ms.length + 1) ≤ 4 := o3
  have o2 : ∀ l2 ∈ ln :: ms, AtOk rs s l2 := o2
  obtain ⟨cs, rd, rfl, c1, c2, c3⟩ := (o2 ln (List.mem_cons_self ..)).ex
  obtain ⟨hi, e2⟩ := List.getElem?_eq_some_iff.mp e
  refine ⟨⟨o1, hg, by omega, c1, c2, c3⟩, ⟨?_, fun it hit => ?_⟩, ?_⟩
  · have : (its.set i (s, ms)).map (·.1) = its.map (·.1) := by
      apply List.ext_getElem?
      intro j
      rw [List.getElem?_map, List.getElem?_map, List.getElem?_set]
      split
      · rename_i q
        subst q
        rw [e]
        rfl
      · rfl
    rw [this]
    exact h.nd
  · obtain ⟨j, hj, ej⟩ := List.getElem_of_mem hit
    rw [List.length_set] at hj
    rw [List.getElem_set] at ej
    rw [cntOf_at]
    split at ej
    · subst ej
      show s ∈ sp ∧ (∀ ln ∈ ms, AtOk rs s ln) ∧ (if s = s then cntOf ls s + 1 else cntOf ls s) + ms.length ≤ 4
      rw [if_pos rfl]
      exact ⟨o1, fun x hx => o2 x (List.mem_cons_of_mem _ hx), by omega⟩
    · rename_i ne
      have hm : it ∈ its := ej ▸ List.getElem_mem hj
      obtain ⟨q1, q2, q3⟩ := h.ok it hm
      refine ⟨q1, q2, ?_⟩
      have ns : ¬ s = it.1 := fun q => ne (nodup_at h.nd (i := i) (j := j) (x := s) (by rw [List.getElem?_map, e]; rfl) (by rw [List.getElem?_map, List.getElem?_eq_getElem hj, ej, q]; rfl))
      rw [if_neg ns]
      exact q3
  · rw [goalsOf_app]
    exact List.append_nil _
end
end Lx
set_option Elab.async false
set_option linter.all false
set_option maxRecDepth 100000
set_option maxHeartbeats 4000000
namespace Lx
open PySem PySem.Spec PyProof.Rows L2 Pz
section
variable {P : Program} {w : World} {K : PySem.W.Frag} {mg : Str → Option Value} {base : Heap}
def spTabLines (K : PySem.W.Frag) : Sp := fun vs H Q _ => ∃ (p pc l : Addr) (N : Nat) (sp : List Str) (rs : List RoadM), vs = [.ref p, .ref l] ∧ PenAt H p pc N ∧ N ≤ 100000 ∧ p ≠ l ∧ LandAt H l sp rs ∧ LandOk sp rs ∧
  ∀ (t : Addr) (vals : List V) (ls : List LineM) H', Kp [p] H H' → PenAt H' p pc (N + 20000) → H t = none → H' t = some (.lst vals) → LinesAt K H' vals ls → Valid sp rs ls → ls.length ≤ 400 → Q (.ref t) H'
theorem ok__law_table_lines (T : TT K mg base) : Ok P w K mg base 5 (He.ga K "_law_table_lines") ["_law_pen_here", "_law_land"] [] (spTabLines K) := by
  refine ok_mk T.f__law_table_lines sc__law_table_lines (fun vs H Q E h => ?_) (fun _ _ _ _ _ _ us hl => match us, hl with | [_, _], _ => rfl) (fun cdv A outer s H vs Q E hr h => ?_)
  · obtain ⟨p, pc, l, N, sp, rs, rfl, _⟩ := h
    rfl
  · obtain ⟨p, pc, l, N, sp, rs, rfl, hp, hN, pl, la, ok, k⟩ := h
    refine ⟨_, (pss_cons (ps_set (i := 2) sc__law_table_lines.nd rfl (by first | exact Or.inl rfl | exact Or.inr rfl) (pe_lst pa_nil))
      (Evl.pss_cut (ps_for po_own rfl (pi_list (pe_slice sl_list (po_call (ok__law_shuffled T) (hr.mono (by decide)) rfl T.g__law_shuffled px_of (pa_cons (pv 0) (pa_cons (pe_dget (hu1 hr) (pv 1) pe_str (fun _ _ => rfl)) pa_nil))) po_none (po_some (po_call (ok__law_pick T) (hr.mono (by decide)) rfl T.g__law_pick px_of (pa_cons (pv 0) (pa_cons (pe_lst (pa_cons pe_int (pa_cons pe_int (pa_cons pe_int (pa_cons pe_int (pa_cons pe_int pa_nil)))))) pa_nil)))))) (pg_name (i := 3) sc__law_table_lines.nd rfl (by first | exact Or.inl rfl | exact Or.inr rfl))
      (pss_cons (ps_expr (pe_bm PySem.F.plainAttrs_list PySem.F.slot_list_append PySem.F.type_list_append mt_append (pv 2) (pa_cons (pe_tup (pa_cons pe_str (pa_cons (pv 3) pa_nil))) pa_nil)))
      (pss_cons (ps_setLcB s H (i := 4) (own := [("_law_spot", 5)]) rfl sc__law_table_lines.nd rfl rfl (sw_true rfl rfl rfl (by decide +kernel)) (pi_list (pe_dget (hu1 hr) (pv 1) pe_str (fun _ _ => rfl))) (blkOk_by (own := [("_law_spot", 5)]) (N := nm__law_table_lines) (sc := defScope s__law_table_lines) (by decide +kernel)) (fun _ _ _ _ _ => (pg_name (i := 5) sc__law_table_lines.nd rfl (by first | exact Or.inl rfl | exact Or.inr rfl))) (fun _ _ _ _ _ => pts_nil) (fun _ _ _ _ _ => (po_call (ok__law_spot_rules T) (hr.mono (by decide)) rfl T.g__law_spot_rules passL (pa_cons (pv 0) (pa_cons (pv 1) (pa_cons (pv 5) (pa_cons (pe_cmpR op_gt (po_call (ok__law_draw T) (hr.mono (by decide)) rfl T.g__law_draw passL (pa_cons (pv 0) (pa_cons pe_int pa_nil))) pe_int (nomark _)) pa_nil)))))))
      (pss_cons (ps_setLcB s H (i := 4) (own := [("_law_rules_here", 6)]) rfl sc__law_table_lines.nd rfl rfl (sw_true rfl rfl rfl (by decide +kernel)) (pi_list (pv 4)) (blkOk_by (own := [("_law_rules_here", 6)]) (N := nm__law_table_lines) (sc := defScope s__law_table_lines) (by decide +kernel)) (fun _ _ _ _ _ => (pg_name (i := 6) sc__law_table_lines.nd rfl (by first | exact Or.inl rfl | exact Or.inr rfl))) (fun _ _ _ _ _ => (pts_one (pt_cmpR (op_neNil hr.units0) (pv 6) (pe_lst pa_nil) (nomark _)))) (fun _ _ _ _ _ => (pv 6)))
      (pss_one (ps_for po_own rfl (pi_range1 rfl T.b_range (pa_cons (pe_op op_mul pe_int (pe_callB call_len_seq (by rfl) T.b_len PySem.boot_len (pa_cons (pe_dget (hu1 hr) (pv 1) pe_str (fun _ _ => rfl)) pa_nil))) pa_nil)) (pg_name (i := 7) sc__law_table_lines.nd rfl (by first | exact Or.inl rfl | exact Or.inr rfl))
      (pss_cons (ps_if (pt_cmpR (op_eqNil hr.units0) (pv 4) (pe_lst pa_nil) (nomark _))
      (pss_one ps_break)
      pss_nil)
      (pss_cons (ps_set (i := 6) sc__law_table_lines.nd rfl (by first | exact Or.inl rfl | exact Or.inr rfl) (po_call (ok__law_pick T) (hr.mono (by decide)) rfl T.g__law_pick px_of (pa_cons (pv 0) (pa_cons (pv 4) pa_nil))))
      (pss_cons (ps_expr (pe_bm PySem.F.plainAttrs_list PySem.F.slot_list_append PySem.F.type_list_append mt_append (pv 2) (pa_cons (pe_bm PySem.F.plainAttrs_list PySem.F.slot_list_pop PySem.F.type_list_pop mt_popAt (pv 6) (pa_cons pe_int pa_nil)) pa_nil)))
      (pss_one (ps_setLcB s H (i := 4) (own := [("_law_row", 8)]) rfl sc__law_table_lines.nd rfl rfl (sw_true rfl rfl rfl (by decide +kernel)) (pi_list (pv 4)) (blkOk_by (own := [("_law_row", 8)]) (N := nm__law_table_lines) (sc := defScope s__law_table_lines) (by decide +kernel)) (fun _ _ _ _ _ => (pg_name (i := 8) sc__law_table_lines.nd rfl (by first | exact Or.inl rfl | exact Or.inr rfl))) (fun _ _ _ _ _ => (pts_one (pt_cmpR (op_neNil hr.units0) (pv 8) (pe_lst pa_nil) (nomark _)))) (fun _ _ _ _ _ => (pv 8)))))))))))))
      (pss_one (ps_ret (pv 2))))), ?_⟩
    refine ⟨by decide, fun L hL => ?_⟩
    have lsp := land_sp ok
    have lnd := lsp.2.1
    obtain ⟨⟨sp1, sp3⟩, _, _⟩ := lsp
    have xL := Evl.Ex.new (o := .lst []) hL
    obtain ⟨sa, qa, rows, l1, l2, l3, l4⟩ := id la
    have pL := hp.mono xL
    have eL0 : upd H L (.lst []) L = some (.lst []) := upd_same
    have kL : Kp [p] H (upd H L (.lst [])) := Kp.of xL
    refine ⟨fun σ H' => ∃ (vals : List V) (ls : List LineM) (s3 s4 s5 s6 s7 s8 : Option V), σ = [some (.ref p), some (.ref l), some (.ref L), s3, s4, s5, s6, s7, s8] ∧ Kp [p] H H' ∧ PenAt H' p pc (N + 20000) ∧ H' L = some (.lst vals) ∧ LinesAt K H' vals ls ∧ Valid sp rs ls ∧ ls.length ≤ 400, ?_, ?_⟩
    · refine ⟨_, rfl, _, rfl, l, _, rfl, .inl ⟨_, .inr "spots", .inl (xL _ _ l1), rfl, rfl⟩, p, pc, sa, sp.map V.str, N, rfl, pL, by omega, SqL.of (xL _ _ l2), by rw [List.length_map]; omega, fun ga ys H2 pm k2 p2 nga hga => ?_⟩
      obtain ⟨gs, rfl, pg⟩ := perm_str pm
      have eL2 := lst_pen k2 pL eL0
      refine ⟨_, rfl, by decide, fun q1 hq1 => ?_⟩
      have x3 := Evl.Ex.new (o := .lst [.int 1, .int 1, .int 1, .int 2, .int 3]) hq1
      refine ⟨p, pc, .ref q1, _, _, rfl, p2.mono x3, by rw [List.length_map]; omega, .inl ⟨q1, rfl, SqL.of upd_same⟩, List.cons_ne_nil _ _, by decide, fun v hv H3 k3 p3 => ?_⟩
      obtain ⟨m, rfl⟩ : ∃ n : Int, v = .int n := by
        simp at hv
        rcases hv with rfl | rfl | rfl <;> exact ⟨_, rfl⟩
      have ega := lst_pen k3 (p2.mono x3) (x3 _ _ hga)
      have eL3 := lst_pen k3 (p2.mono x3) (x3 _ _ eL2)
      refine ⟨m, rfl, ga, _, rfl, SqL.of ega, fun T hT => ?_⟩
      obtain ⟨kk, hkk⟩ : ∃ kk, cutV (gs.map V.str) none (some m) = (gs.map V.str).take kk := ⟨_, rfl⟩
      rw [hkk, ← List.map_take]
      have gnd : (gs.take kk).Nodup := (pg.nodup_iff.mpr lnd).sublist (List.take_sublist _ _)
      have gsp : ∀ g ∈ gs.take kk, g ∈ sp := fun g hg => pg.mem_iff.mp ((List.take_sublist _ _).mem hg)
      have glen : (gs.take kk).length ≤ 3 := by
        rw [List.length_take, pg.length_eq]
        omega
      generalize gs.take kk = gg at gnd gsp glen ⊢
      have xT := Evl.Ex.new (o := .lst (gg.map V.str)) hT
      have k4 : Kp [p] H (upd H3 T (.lst (gg.map V.str))) := (((kL.trans k2).trans (Kp.of x3)).trans k3).trans (Kp.of xT)
      have eT : upd H3 T (.lst (gg.map V.str)) T = some (.lst (gg.map V.str)) := upd_same
      have TL : T ≠ L := fun q => by rw [q, eL3] at hT; cases hT
      refine ⟨T, rfl, ⟨_, SqL.of eT⟩, ?_⟩
      refine for_list (xs := gg.map V.str) (fun i σ H' => ∃ (vals : List V) (ls : List LineM) (s3 s4 s5 s6 s7 s8 : Option V), σ = [some (.ref p), some (.ref l), some (.ref L), s3, s4, s5, s6, s7, s8] ∧ Kp [p] H H' ∧ PenAt H' p pc (N + 100 + 5000 * i) ∧ H' L = some (.lst vals) ∧ LinesAt K H' vals ls ∧ Valid sp rs ls ∧
          goalsOf ls = gg.take i ∧ ls.length ≤ 100 * i ∧ H' T = some (.lst (gg.map V.str)))
        ⟨[], [], none, none, none, none, none, none, rfl, k4, (p3.mono xT).le (by rw [List.length_map]; omega), xT _ _ eL3, .nil, .nil, rfl, Nat.le_refl _, eT⟩ (fun i σ H' _ q => ?_) (fun i x σ H' hx q => ?_) (fun σ H' q => ?_)
      · obtain ⟨vals, ls, s3, s4, s5, s6, s7, s8, rfl, _, _, _, _, _, _, _, e⟩ := q
        exact SqL.of e
      · obtain ⟨vals, ls, s3, s4, s5, s6, s7, s8, rfl, k5, p5, eL5, la5, va5, go5, li5, eT5⟩ := q
        rw [List.getElem?_map] at hx
        obtain ⟨g, hg, rfl⟩ : ∃ g, gg[i]? = some g ∧ x = .str g := by
          cases hgi : gg[i]? with
          | none =>
            rw [hgi] at hx
            cases hx
          | some g =>
            rw [hgi] at hx
            cases hx
            exact ⟨g, rfl, rfl⟩
        have hil := (List.getElem?_eq_some_iff.mp hg).1
        have hgs := gsp g (List.mem_of_getElem? hg)
        have lil : ls.length ≤ 300 := by omega
        refine ⟨_, rfl, .inl ⟨rfl, _, SqL.of eL5⟩, _, rfl, of_decide_eq_true rfl, fun t ht => ?_⟩
        have xt := Evl.Ex.new (o := .tup [.str "goal", .str g]) ht
        have eLt := xt _ _ eL5
        refine ⟨L, vals, _, rfl, rfl, eLt, ?_, ?_⟩
        · rw [la5.len]
          exact Nat.lt_of_lt_of_le (show ls.length < 1000 by omega) (by decide)
        obtain ⟨xc, hxc⟩ := hp.cells
        obtain ⟨kp0, hkp0, _⟩ := id hp
        have pLn : p ≠ L ∧ pc ≠ L := ⟨ne_of_none hkp0 hL, ne_of_none hxc hL⟩
        have kLt : Kp [L] (upd H' t (.tup [.str "goal", .str g])) (upd (upd H' t (.tup [.str "goal", .str g])) L (.lst (vals ++ [.ref t]))) := (Kp.refl _ _).put (List.mem_singleton.mpr rfl)
        have k6 : Kp [p] H (upd (upd H' t (.tup [.str "goal", .str g])) L (.lst (vals ++ [.ref t]))) := (k5.trans (Kp.of xt)).out kLt hL
        have p6 : PenAt (upd (upd H' t (.tup [.str "goal", .str g])) L (.lst (vals ++ [.ref t]))) p pc (N + 100 + 5000 * i) := (p5.mono xt).kp kLt ⟨by simpa using pLn.1, by simpa using pLn.2⟩
        have eL6 : upd (upd H' t (.tup [.str "goal", .str g])) L (.lst (vals ++ [.ref t])) L = some (.lst (vals ++ [.ref t])) := upd_same
        have eT6 : upd (upd H' t (.tup [.str "goal", .str g])) L (.lst (vals ++ [.ref t])) T = some (.lst (gg.map V.str)) := (upd_ne TL).trans (xt _ _ eT5)
        have la6 : LinesAt K (upd (upd H' t (.tup [.str "goal", .str g])) L (.lst (vals ++ [.ref t]))) (vals ++ [.ref t]) (ls ++ [.goal g]) := (lines_odd kLt (odd_lst eLt) (lines_mono xt la5)).app (.cons ⟨t, rfl, st_odd kLt (odd_lst eLt) (SqT.of upd_same)⟩ .nil)
        have va6 : Valid sp rs (ls ++ [.goal g]) := va5.snoc ⟨hgs, by rw [go5]; exact nodup_take gnd hg⟩
        have go6 : goalsOf (ls ++ [.goal g]) = gg.take (i + 1) := by
          rw [goalsOf_app, go5, take_succ_of hg]
          rfl
        have li6 : (ls ++ [LineM.goal g]).length ≤ 100 * i + 1 := by
          rw [List.length_append]
          exact Nat.succ_le_succ li5
        have cn6 : ∀ s, cntOf (ls ++ [.goal g]) s = 0 := fun s => cntOf_goal s g ls
        generalize upd (upd H' t (.tup [.str "goal", .str g])) L (.lst (vals ++ [.ref t])) = H6 at k6 p6 eL6 eT6 la6 ⊢
        generalize vals ++ [.ref t] = vals6 at eL6 la6
        generalize hls6 : ls ++ [.goal g] = ls6 at la6 va6 go6 li6 cn6
        have la0 := la.pen k6 hp pl
        obtain ⟨sa6, qa6, rows6, m1, m2, m3, m4⟩ := id la0
        have nr : ∀ {Hx : Hp} {M : Nat} {u : Addr}, Kp [p] H6 Hx → PenAt Hx p pc M → Hx u = none → H6 u = none := fun kx px hu => fresh kx hu (fun m => by
          obtain ⟨kk, g, _⟩ := px
          rw [List.mem_singleton.mp m, g] at hu
          cases hu)
        -- the rules of all spots
        refine ⟨_, rfl, l, _, rfl, .inl ⟨_, .inr "spots", .inl m1, rfl, rfl⟩, sa6, rfl, ⟨_, SqL.of m2⟩, fun D hD => ?_⟩
        have xD := Evl.Ex.new (o := .lst []) hD
        refine lc_list (K := K) (xs := sp.map V.str) (fun j H' => Kp [p] H6 H' ∧ PenAt H' p pc (N + 100 + 5000 * i + 400 * j) ∧ ∃ (as : List Addr) (its : List (Str × List LineM)), H' D = some (.lst (as.map V.ref)) ∧ as.Nodup ∧ (∀ a ∈ as, H6 a = none ∧ a ≠ D) ∧ LeftAt K H' as its ∧ its.map (·.1) = sp.take j ∧
            ∀ it ∈ its, (∀ ln ∈ it.2, AtOk rs it.1 ln) ∧ it.2.length ≤ 4) ⟨Kp.of xD, p6.mono xD, [], [], upd_same, List.nodup_nil, (fun _ h => by cases h), .nil, rfl, (fun _ h => by cases h)⟩ (fun j H' _ q => SqL.of (lst_pen q.1 p6 m2)) (fun j y H' hy q => ?_) (fun H7 q => ?_)
        · obtain ⟨kj, pj, as, its, eD, and, anew, lf, ifs, iok⟩ := q
          rw [List.getElem?_map] at hy
          obtain ⟨s, hs, rfl⟩ : ∃ s, sp[j]? = some s ∧ y = .str s := by
            cases hsj : sp[j]? with
            | none =>
              rw [hsj] at hy
              cases hy
            | some s =>
              rw [hsj] at hy
              cases hy
              exact ⟨s, rfl, rfl⟩
          have hjl := (List.getElem?_eq_some_iff.mp hs).1
          have laj := la0.pen kj p6 pl
          refine ⟨rfl, yesT ⟨_, rfl, _, rfl, _, rfl, _, rfl, p, pc, 5, _, rfl, pj, by omega, by decide, by decide, fun d8 H8 hd8 k8 p8 _ => ⟨_, _, rfl, rfl, ?_⟩⟩⟩
          refine ⟨p, pc, l, _, s, _, sp, rs, rfl, p8, by omega, pl, laj.pen k8 pj pl, ok, fun u uv ms H9 k9 p9 nu eu lm llm lok => ?_⟩
          have eD9 := lst_pen k9 p8 (lst_pen k8 pj eD)
          have lf9 := left_pen k9 p8 (left_pen k8 pj lf)
          have kD : Kp [D] H9 (upd H9 D (.lst (as.map V.ref ++ [.ref u]))) := (Kp.refl _ _).put (List.mem_singleton.mpr rfl)
          have nuH : H6 u = none := nr (kj.trans k8) p8 nu
          have uD : u ≠ D := fun q => by
            rw [q, lst_pen k8 pj eD] at nu
            cases nu
          obtain ⟨x6c, hx6c⟩ := p6.cells
          obtain ⟨kp6c, hkp6c, _⟩ := id p6
          refine ⟨_, eD9, ?_, ((kj.trans k8).trans k9).out kD hD, (p9.kp kD ⟨by simpa using ne_of_none hkp6c hD, by simpa using ne_of_none hx6c hD⟩).le (by omega), as ++ [u], its ++ [(s, ms)], ?_, ?_, ?_, ?_, ?_, ?_⟩
          · rw [List.length_map, lf.len]
            have := congrArg List.length ifs
            rw [List.length_map, List.length_take] at this
            exact Nat.lt_of_lt_of_le (show its.length < 100 by omega) (by decide)
          · rw [upd_same, List.map_append]
            rfl
          · rw [List.nodup_append]
            refine ⟨and, List.nodup_cons.mpr ⟨(by simp), List.nodup_nil⟩, fun c hc e he q => ?_⟩
            rw [List.mem_singleton.mp he] at q
            subst q
            obtain ⟨it, _, vv, g1, _⟩ := (left_pen k8 pj lf).mem hc
            rw [g1] at nu
            cases nu
          · intro c hc
            rcases List.mem_append.mp hc with hc | hc
            · exact anew c hc
            · rw [List.mem_singleton.mp hc]
              exact ⟨nuH, uD⟩
          · refine (left_kp kD (odd_lst eD9) (fun c hc m => (anew c hc).2 (List.mem_singleton.mp m)) lf9).app (.cons ⟨uv, (upd_ne uD).trans eu, lines_odd kD (odd_lst eD9) lm⟩ .nil)
          · rw [List.map_append, ifs, take_succ_of hs]
            rfl
          · intro it hit
            rcases List.mem_append.mp hit with h | h
            · exact iok it h
            · rw [List.mem_singleton.mp h]
              exact ⟨lok, llm⟩
        · obtain ⟨k7, p7, as, its, eD7, and7, anew7, lf7, ifs7, iok7⟩ := q
          rw [List.length_map] at p7 ifs7
          rw [List.take_length] at ifs7
          have eL7 := lst_pen k7 p6 eL6
          have eT7 := lst_pen k7 p6 eT6
          have la7 := lines_odd k7 (pen_odd p6) la6
          have lok7 : LeftOk sp rs ls6 its := ⟨by rw [ifs7]; exact lnd, fun it hit => ⟨by rw [← ifs7]; exact List.mem_map.mpr ⟨it, hit, rfl⟩, (iok7 it hit).1, by rw [cn6]; have := (iok7 it hit).2; omega⟩⟩
          have al7 : as.length ≤ 3 := by
            have := congrArg List.length ifs7
            rw [List.length_map] at this
            rw [lf7.len, this]
            exact sp3
          have fil : ∀ (Hx : Hp) (cs : List Addr) (js : List (Str × List LineM)), LeftAt K Hx cs js → ∀ v ∈ cs.map V.ref, ∃ xs a, v = .ref a ∧ Hx a = some (.lst xs) := fun Hx cs js h v hv => by
            obtain ⟨a, ha, rfl⟩ := List.mem_map.mp hv
            obtain ⟨it, _, vv, g1, _⟩ := h.mem ha
            exact ⟨vv, a, rfl, g1⟩
          refine Evl.s_asgL (xs := ((as.map V.ref).filter (fullV H7)).map id) (el_lcL _ id (Evl.ev_var rfl) (SqL.of eD7) (by rw [List.length_map]; omega) (fun x => rfl) (fun v hv => ?_) (fun v hv _ => Evl.ev_var rfl)) fun D2 H8 nD2 x8 eD2 => ?_
          · obtain ⟨xs, a, rfl, g1⟩ := fil H7 as its lf7 v hv
            rw [fullV_eq g1]
            exact et_nil true rfl (SqL.of g1)
          obtain ⟨bs, ebs, sub, lf8⟩ := left_full lf7
          rw [List.map_id, ebs] at eD2
          have lf8 := left_mono x8 lf8
          have lok8 := lok7.filter (fun it => !it.2.isEmpty)
          have bnd8 : bs.Nodup := and7.sublist sub
          have bnew : ∀ a ∈ bs, H a = none ∧ a ≠ L ∧ a ≠ T ∧ a ≠ D2 := fun a ha => by
            have h1 := (anew7 a (sub.mem ha)).1
            refine ⟨fresh k6 h1 (fun m => ?_), fun q => ?_, fun q => ?_, fun q => ?_⟩
            · obtain ⟨kk, g, _⟩ := p6
              rw [List.mem_singleton.mp m, g] at h1
              cases h1
            · rw [q, eL6] at h1
              cases h1
            · rw [q, eT6] at h1
              cases h1
            · obtain ⟨it, _, vv, g1, _⟩ := lf7.mem (sub.mem ha)
              rw [q, nD2] at g1
              cases g1
          have full8 : ∀ it ∈ its.filter (fun it => !it.2.isEmpty), it.2 ≠ [] := fun it hit q => by
            have := (List.mem_filter.mp hit).2
            rw [q] at this
            cases this
          generalize its.filter (fun it => !it.2.isEmpty) = its8 at lf8 lok8 full8
          have l4n : ((4 : Int) * (((sp.map V.str).length : Nat) : Int)).toNat = 4 * sp.length := by
            rw [List.length_map]
            omega
          have la8 := lines_mono x8 la7
          have eL8 := x8 _ _ eL7
          have eT8 := x8 _ _ eT7
          have p8 := p7.mono x8
          have k8 := (k6.trans k7).trans (Kp.of x8)
          have land8 := la.pen k8 hp pl
          obtain ⟨sb, qb, rowsb, n1, n2, _⟩ := id land8
          refine ⟨_, rfl, l, _, rfl, .inl ⟨_, .inr "spots", .inl n1, rfl, rfl⟩, sb, _, rfl, .inl (SqL.of n2), _, _, rfl, rfl, .inl ⟨by decide, by decide⟩, _, rfl, by rw [List.length_map]; omega, by rw [List.length_map]; omega, ?_⟩
          rw [l4n]
          have done : ∀ (Hx : Hp) (vx : List V) (lx : List LineM) (t3 t4 t5 t6 t7 t8 : Option V) (jx : Nat), Kp [p] H Hx → PenAt Hx p pc (N + 100 + 5000 * i + 400 * sp.length + 10 * jx) → jx ≤ 4 * sp.length → Hx L = some (.lst vx) → LinesAt K Hx vx lx → Valid sp rs lx → goalsOf lx = gg.take (i + 1) → lx.length ≤ 100 * i + 1 + jx → Hx T = some (.lst (gg.map V.str)) →
              ∃ (vals : List V) (ls : List LineM) (s3 s4 s5 s6 s7 s8 : Option V), [some (V.ref p), some (.ref l), some (.ref L), t3, t4, t5, t6, t7, t8] = [some (.ref p), some (.ref l), some (.ref L), s3, s4, s5, s6, s7, s8] ∧ Kp [p] H Hx ∧ PenAt Hx p pc (N + 100 + 5000 * (i + 1)) ∧ Hx L = some (.lst vals) ∧ LinesAt K Hx vals ls ∧ Valid sp rs ls ∧
              goalsOf ls = gg.take (i + 1) ∧ ls.length ≤ 100 * (i + 1) ∧ Hx T = some (.lst (gg.map V.str)) := fun Hx vx lx t3 t4 t5 t6 t7 t8 jx a1 a2 a3 a4 a5 a6 a7 a8 a9 => ⟨vx, lx, t3, t4, t5, t6, t7, t8, rfl, a1, a2.le (by omega), a4, a5, a6, a7, by omega, a9⟩
          refine for_range (lo := 0) (n := 4 * sp.length) (fun j σ H' => ∃ (vals : List V) (ls : List LineM) (lf : Addr) (as : List Addr) (its : List (Str × List LineM)) (s3 s5 s6 s7 s8 : Option V), σ = [some (.ref p), some (.ref l), some (.ref L), s3, some (.ref lf), s5, s6, s7, s8] ∧ Kp [p] H H' ∧ PenAt H' p pc (N + 100 + 5000 * i + 400 * sp.length + 10 * j) ∧
            H' L = some (.lst vals) ∧ LinesAt K H' vals ls ∧ Valid sp rs ls ∧ goalsOf ls = gg.take (i + 1) ∧ ls.length ≤ 100 * i + 1 + j ∧ H' T = some (.lst (gg.map V.str)) ∧ H' lf = some (.lst (as.map V.ref)) ∧ as.Nodup ∧ (∀ a ∈ as, H a = none ∧ a ≠ L ∧ a ≠ T ∧ a ≠ lf) ∧ LeftAt K H' as its ∧ LeftOk sp rs ls its ∧ (∀ it ∈ its, it.2 ≠ []) ∧ as.length ≤ 3 ∧ lf ≠ L)
            ⟨vals6, ls6, D2, bs, its8, _, _, _, _, _, rfl, k8, p8, eL8, la8, va6, go6, li6, eT8, eD2, bnd8, bnew, lf8, lok8, full8, Nat.le_trans sub.length_le al7, fun q => by rw [q, eL7] at nD2; cases nD2⟩ (fun j σ H' hj q => ?_) (fun σ H' q => ?_)
          · obtain ⟨vals, ls, lf, as, its, t3, t5, t6, t7, t8, rfl, k9, p9, eL9, la9, va9, go9, li9, eT9, elf, and9, anew9, lf9, lok9, full9, al9, hlfL⟩ := q
            refine Evl.s_if (et_nil false rfl (SqL.of elf)) (fun h HA xA => ?_) (fun h HA xA => ?_)
            · exact done HA vals ls _ _ _ _ _ _ j (k9.trans (Kp.of xA)) (p9.mono xA) (Nat.le_of_lt hj) (xA _ _ eL9) (lines_mono xA la9) va9 go9 li9 (xA _ _ eT9)
            · have asne : as ≠ [] := fun q => by
                rw [q] at h
                cases h
              have elfA := xA _ _ elf
              have pA := p9.mono xA
              refine ⟨_, rfl, _, rfl, p, pc, .ref lf, as.map V.ref, _, rfl, pA, by omega, .inl ⟨lf, rfl, SqL.of elfA⟩, fun q => asne (List.map_eq_nil_iff.mp q), by rw [List.length_map]; omega, fun v hv HB kB pB => ?_⟩
              obtain ⟨a, ha, rfl⟩ := List.mem_map.mp hv
              obtain ⟨ix, hix, eix⟩ := List.getElem_of_mem ha
              have haix : as[ix]? = some a := by rw [List.getElem?_eq_getElem hix, eix]
              obtain ⟨aH, aL, aT, alf⟩ := anew9 a ha
              have lfB := left_pen kB pA (left_mono xA lf9)
              obtain ⟨it, hit, av, ga, gl⟩ := lfB.get haix
              have itne := full9 it (List.mem_of_getElem? hit)
              obtain ⟨v0, vs, rfl⟩ : ∃ v0 vs, av = v0 :: vs := by
                cases av with
                | nil =>
                  generalize it.2 = ms at gl itne
                  cases gl
                  exact absurd rfl itne
                | cons v0 vs => exact ⟨v0, vs, rfl⟩
              have eLB := lst_pen kB pA (xA _ _ eL9)
              have eTB := lst_pen kB pA (xA _ _ eT9)
              have laB := lines_odd kB (pen_odd pA) (lines_mono xA la9)
              have kC : Kp [a] HB (upd HB a (.lst vs)) := (Kp.refl _ _).put (List.mem_singleton.mpr rfl)
              obtain ⟨s, ln, ms, e1, e2, e3⟩ := left_pop (H' := upd HB a (.lst vs)) lfB and9 haix ga kC upd_same
              obtain ⟨o1, o2, o3⟩ := lok9.pop e1 (by
                rw [go9, take_succ_of hg]
                intro q
                have := congrArg List.length q
                rw [List.length_append] at this
                simp at this)
              have eLC : upd HB a (.lst vs) L = some (.lst vals) := (upd_ne aL.symm).trans eLB
              refine ⟨_, rfl, .inl ⟨rfl, _, SqL.of eLB⟩, _, rfl, .inl ⟨rfl, _, SqL.of ga⟩, a, v0 :: vs, 0, 0, v0, rfl, rfl, ga, by decide, by decide, seqIx (d := 0) (Nat.succ_pos _), rfl, L, vals, v0, rfl, rfl, eLC, ?_, ?_⟩
              · rw [laB.len]
                exact Nat.lt_of_lt_of_le (show ls.length < 10000 by omega) (by decide)
              have kD2 : Kp [L] (upd HB a (.lst vs)) (upd (upd HB a (.lst vs)) L (.lst (vals ++ [v0]))) := (Kp.refl _ _).put (List.mem_singleton.mpr rfl)
              have kkD : Kp [p] H (upd (upd HB a (.lst vs)) L (.lst (vals ++ [v0]))) := ((((k9.trans (Kp.of xA)).trans kB)).out kC aH).out kD2 hL
              have pD : PenAt (upd (upd HB a (.lst vs)) L (.lst (vals ++ [v0]))) p pc (N + 100 + 5000 * i + 400 * sp.length + 10 * j + 1) := (pB.kp kC ⟨by simpa using ne_of_none hkp0 aH, by simpa using ne_of_none hxc aH⟩).kp kD2 ⟨by simpa using pLn.1, by simpa using pLn.2⟩
              have odC := odd_lst eLC
              have laD : LinesAt K (upd (upd HB a (.lst vs)) L (.lst (vals ++ [v0]))) (vals ++ [v0]) (ls ++ [ln]) := (lines_odd kD2 odC (lines_odd kC (odd_lst ga) laB)).app (.cons (line_odd kD2 odC (line_odd kC (odd_lst ga) e2)) .nil)
              have lfD := left_kp kD2 odC (fun c hc m => (anew9 c hc).2.1 (List.mem_singleton.mp m)) e3
              have elfD : upd (upd HB a (.lst vs)) L (.lst (vals ++ [v0])) lf = some (.lst (as.map V.ref)) := by
                exact (upd_ne hlfL).trans ((upd_ne alf.symm).trans (lst_pen kB pA elfA))
              have eTD : upd (upd HB a (.lst vs)) L (.lst (vals ++ [v0])) T = some (.lst (gg.map V.str)) := (upd_ne TL).trans ((upd_ne aT.symm).trans eTB)
              have eLD : upd (upd HB a (.lst vs)) L (.lst (vals ++ [v0])) L = some (.lst (vals ++ [v0])) := upd_same
              rw [show (v0 :: vs).eraseIdx 0 = vs from rfl]
              generalize upd (upd HB a (.lst vs)) L (.lst (vals ++ [v0])) = HD at kkD pD laD lfD elfD eTD eLD ⊢
              dsimp only
              refine Evl.s_asgL (xs := ((as.map V.ref).filter (fullV HD)).map id) (el_lcL _ id (Evl.ev_var rfl) (SqL.of elfD) (by rw [List.length_map]; omega) (fun x => rfl) (fun v hv => ?_) (fun v hv _ => ?_)) fun D3 HE nD3 xE eD3 => ?_
              · obtain ⟨xs, c, rfl, g1⟩ := fil HD as _ lfD v hv
                rw [fullV_eq g1]
                exact et_nil true rfl (SqL.of g1)
              · exact Evl.ev_var rfl
              obtain ⟨cs, ecs, sub2, lfE⟩ := left_full lfD
              rw [List.map_id, ecs] at eD3
              refine ⟨vals ++ [v0], ls ++ [ln], D3, cs, _, _, _, _, _, _, rfl, kkD.trans (Kp.of xE), (pD.mono xE).le (by omega), xE _ _ eLD, lines_mono xE laD, va9.snoc o1, o3.trans go9, ?_, xE _ _ eTD, eD3, and9.sublist sub2, fun c hc => ?_, left_mono xE lfE, o2.filter _, fun it hit q => ?_, Nat.le_trans sub2.length_le al9, fun q => by rw [q, eLD] at nD3; cases nD3⟩
              · rw [List.length_append]
                exact Nat.add_le_add_right li9 1
              · obtain ⟨c1, c2, c3, _⟩ := anew9 c (sub2.mem hc)
                refine ⟨c1, c2, c3, fun q => ?_⟩
                obtain ⟨_, _, vv, g1, _⟩ := lfD.mem (sub2.mem hc)
                rw [q, nD3] at g1
                cases g1
              · have := (List.mem_filter.mp hit).2
                rw [q] at this
                cases this
          · obtain ⟨vals, ls, lf, as, its, t3, t5, t6, t7, t8, rfl, k9, p9, eL9, la9, va9, go9, li9, eT9, _⟩ := q
            exact done H' vals ls _ _ _ _ _ _ _ k9 p9 (Nat.le_refl _) eL9 la9 va9 go9 li9 eT9
      · obtain ⟨vals, ls, s3, s4, s5, s6, s7, s8, rfl, k5, p5, eL5, la5, va5, go5, li5, eT5⟩ := q
        rw [List.length_map] at p5 li5
        exact ⟨vals, ls, s3, s4, s5, s6, s7, s8, rfl, k5, p5.le (by omega), eL5, la5, va5, by omega⟩
    · rintro σ H' ⟨vals, ls, s3, s4, s5, s6, s7, s8, rfl, k5, p5, eL5, la5, va5, ln5⟩
      exact ⟨_, rfl, k L vals ls H' k5 p5 hL eL5 la5 va5 ln5⟩
end
end Lx
set_option Elab.async false
set_option linter.all false
set_option maxRecDepth 100000
set_option maxHeartbeats 4000000
namespace Lx
open PySem PySem.Spec PyProof.Rows L2 Pz
section
variable {P : Program} {w : World} {K : PySem.W.Frag} {mg : Str → Option Value} {base : Heap}
theorem Valid.at_ {sp : List Str} {rs : List RoadM} {ls : List LineM} (h : Valid sp rs ls) {i : Nat} {ln : LineM} (e : ls[i]? = some ln) : LineGood sp rs (ls.take i) ln := by
  induction h with
  | nil => cases e
  | @snoc ls l2 h1 h2 ih =>
    have hi := (List.getElem?_eq_some_iff.mp e).1
    rw [List.length_append] at hi
    have : [l2].length = 1 := rfl
    by_cases c : i < ls.length
    · rw [List.getElem?_append_left c] at e
      rw [List.take_append_of_le_length (by omega)]
      exact ih e
    · have ei : i = ls.length := by omega
      subst ei
      rw [List.getElem?_concat_length] at e
      cases e
      rw [List.take_left]
      exact h2
/-- what a line is as a tuple -/
def lineV (ln : LineM) (c : Addr) : List V := match ln with
  | .goal g => [.str "goal", .str g]
  | .at_ s _ rd => [.str "at", .str s, .ref c, .str rd]
def spMore2 (K : PySem.W.Frag) : Sp := fun vs H Q _ => ∃ (p pc t : Addr) (N : Nat) (vals : List V) (ls : List LineM) (sp : List Str) (rs : List RoadM), vs = [.ref p, .ref t] ∧ PenAt H p pc N ∧ N ≤ 200000 ∧ SqL K H t vals ∧ LinesAt K H vals ls ∧ Valid sp rs ls ∧ ls.length ≤ 400 ∧
  ∀ (t2 : Addr) (vals2 : List V) (ls2 : List LineM) H', Kp [p] H H' → PenAt H' p pc (N + 100000) → H' t2 = some (.lst vals2) → LinesAt K H' vals2 ls2 → Valid sp rs ls2 → ls2.length ≤ 400 → Q (.ref t2) H'
theorem ok__law_conditions_more (T : TT K mg base) : Ok P w K mg base 4 (He.ga K "_law_conditions_more") ["_law_pen_here", "_law_lines"] [] (spMore2 K) := by
  refine ok_mk T.f__law_conditions_more sc__law_conditions_more (fun vs H Q E h => ?_) (fun _ _ _ _ _ _ us hl => match us, hl with | [_, _], _ => rfl) (fun cdv A outer s H vs Q E hr h => ?_)
  · obtain ⟨p, pc, t, N, vals, ls, sp, rs, rfl, _⟩ := h
    rfl
  · obtain ⟨p, pc, t, N, vals, ls, sp, rs, rfl, hp, hN, ht, la, va, hl, k⟩ := h
    refine ⟨_, (pss_cons (ps_set (i := 2) sc__law_conditions_more.nd rfl (by first | exact Or.inl rfl | exact Or.inr rfl) (pe_lst pa_nil))
      (Evl.pss_cut (ps_for po_own rfl (pi_list (pv 1)) (pg_name (i := 3) sc__law_conditions_more.nd rfl (by first | exact Or.inl rfl | exact Or.inr rfl))
      (Evl.pss_cut (ps_set (i := 4) sc__law_conditions_more.nd rfl (by first | exact Or.inl rfl | exact Or.inr rfl) (pe_ifExp (PW.pt (pw_and (pt_cmpR op_eq (pe_ix ix_tup (pv 3) pe_int (fun _ _ => rfl)) pe_str (nomark _)) (pw_and1 (pt_cmpR op_eq (po_call (ok__law_draw T) (hr.mono (by decide)) rfl T.g__law_draw px_of (pa_cons (pv 0) (pa_cons pe_int pa_nil))) pe_int (nomark _))))) (po_call (ok__law_draw T) (hr.mono (by decide)) rfl T.g__law_draw px_of (pa_cons (pv 0) (pa_cons pe_int pa_nil))) pe_int))
      (Evl.pss_cut (ps_if (pt_cmpR op_gt (pv 4) pe_int (nomark _))
      (pss_one (ps_set (i := 3) sc__law_conditions_more.nd rfl (by first | exact Or.inl rfl | exact Or.inr rfl) (pe_tup (pa_cons pe_str (pa_cons (pe_ix ix_tup (pv 3) pe_int (fun _ _ => rfl)) (pa_cons (pe_callTy call_tuple_of (by rfl) T.b_tuple (by decide +kernel) (pa_cons (pe_lcB s H (own := [("_law_k", 5)]) rfl sc__law_conditions_more.nd (pi_range1 rfl T.b_range (pa_cons (pv 4) pa_nil)) (blkOk_by (own := [("_law_k", 5)]) (N := nm__law_conditions_more) (sc := defScope s__law_conditions_more) (by decide +kernel)) (fun _ _ _ _ _ => (pg_name (i := 5) sc__law_conditions_more.nd rfl (by first | exact Or.inl rfl | exact Or.inr rfl))) (fun _ _ _ _ _ => pts_nil) (fun _ _ _ _ _ => (po_call (ok__law_condition T) (hr.mono (by decide)) rfl T.g__law_condition passL (pa_cons (pv 0) pa_nil)))) pa_nil)) (pa_cons (pe_ix ix_tup (pv 3) pe_int (fun _ _ => rfl)) pa_nil)))))))
      pss_nil)
      (pss_one (ps_expr (pe_bm PySem.F.plainAttrs_list PySem.F.slot_list_append PySem.F.type_list_append mt_append (pv 2) (pa_cons (pv 3) pa_nil)))))))
      (pss_one (ps_ret (pv 2))))), ?_⟩
    refine ⟨by decide, fun F hF => ?_⟩
    have xF := Evl.Ex.new (o := .lst []) hF
    obtain ⟨xc, hxc⟩ := hp.cells
    obtain ⟨kp0, hkp0, _⟩ := id hp
    have pF : p ≠ F ∧ pc ≠ F := ⟨ne_of_none hkp0 hF, ne_of_none hxc hF⟩
    have lal := la.len
    refine ⟨fun σ H' => ∃ (vs2 : List V) (ls2 : List LineM) (s3 s4 s5 : Option V), σ = [some (.ref p), some (.ref t), some (.ref F), s3, s4, s5] ∧ Kp [p] H H' ∧ PenAt H' p pc (N + 100000) ∧ H' F = some (.lst vs2) ∧ LinesAt K H' vs2 ls2 ∧ Valid sp rs ls2 ∧ ls2.length ≤ 400, ?_, ?_⟩
    · refine ⟨_, rfl, t, rfl, ⟨_, sl_mono xF ht⟩, ?_⟩
      refine for_list (xs := vals) (fun i σ H' => ∃ (vs2 : List V) (ls2 : List LineM) (s3 s4 s5 : Option V), σ = [some (.ref p), some (.ref t), some (.ref F), s3, s4, s5] ∧ Kp [p] H H' ∧ PenAt H' p pc (N + 100 * i) ∧ H' F = some (.lst vs2) ∧ LinesAt K H' vs2 ls2 ∧ Valid sp rs ls2 ∧ ls2.length = i ∧
          goalsOf ls2 = goalsOf (ls.take i) ∧ ∀ s, cntOf ls2 s = cntOf (ls.take i) s)
        ⟨[], [], none, none, none, rfl, Kp.of xF, hp.mono xF, upd_same, .nil, .nil, rfl, rfl, fun _ => rfl⟩ (fun i σ H' _ q => ?_) (fun i x σ H' hx q => ?_) (fun σ H' q => ?_)
      · obtain ⟨_, _, _, _, _, _, k5, _⟩ := q
        exact sl_pen k5 hp ht
      · obtain ⟨vs2, ls2, s3, s4, s5, rfl, k5, p5, eF5, la5, va5, li5, go5, cn5⟩ := q
        obtain ⟨ln, hln, hx2⟩ := la.get hx
        have hil := (List.getElem?_eq_some_iff.mp hx).1
        have good := va.at_ hln
        have hx5 := line_odd k5 (pen_odd hp) hx2
        have good2 : LineGood sp rs ls2 ln := by
          cases ln with
          | goal g => exact ⟨good.1, by rw [go5]; exact good.2⟩
          | at_ s cs rd => exact ⟨good.1, by rw [go5]; exact good.2.1, by rw [cn5]; exact good.2.2.1, good.2.2.2⟩
        obtain ⟨tt, c, ett, htt⟩ : ∃ tt c, x = .ref tt ∧ SqT K H' tt (lineV ln c) := by
          cases ln with
          | goal g =>
            obtain ⟨tt, e1, e2⟩ := hx5
            exact ⟨tt, 0, e1, e2⟩
          | at_ s cs rd =>
            obtain ⟨tt, c, cv, e1, e2, _⟩ := hx5
            exact ⟨tt, c, e1, e2⟩
        subst ett
        have first : (lineV ln c)[0]? = some (match ln with | .goal _ => V.str "goal" | .at_ _ _ _ => V.str "at") := by cases ln <;> rfl
        refine ⟨fun σ H2 => ∃ (mn : Nat) (u5 : Option V), σ = [some (.ref p), some (.ref t), some (.ref F), some (.ref tt), some (.int (mn : Int)), u5] ∧ mn ≤ 4 ∧ (0 < mn → ∃ s cs rd, ln = .at_ s cs rd) ∧ Kp [p] H' H2 ∧ PenAt H2 p pc (N + 100 * i + 2), ?_, ?_⟩
        · refine ⟨_, rfl, tt, _, 0, _, rfl, rfl, htt, atI_nat (j := 0) first, ?_⟩
          cases ln with
          | goal g =>
            refine ⟨rfl, _, rfl, ?_⟩
            have e : decide (V.str ("goal" : Str) = V.str ("at" : Str)) = false := by decide
            show (if decide (V.str ("goal" : Str) = V.str ("at" : Str)) = true then _ else _)
            rw [e]
            exact iteF (iteF ⟨0, _, rfl, by decide, fun h => absurd h (by decide), Kp.refl _ _, p5.le (by omega)⟩)
          | at_ s cs rd =>
            refine ⟨rfl, _, rfl, ?_⟩
            rw [decide_eq_true rfl]
            refine iteT ⟨_, rfl, p, pc, 3, _, rfl, p5, by omega, by decide, by decide, fun d6 H6 hd6 k6 p6 _ => ⟨rfl, _, rfl, ?_⟩⟩
            by_cases c6 : (d6 : Int) = 0
            · rw [decide_eq_true (congrArg V.int c6)]
              refine iteT ⟨_, rfl, p, pc, 5, _, rfl, p6, by omega, by decide, by decide, fun d7 H7 hd7 k7 p7 _ => ?_⟩
              exact ⟨d7, _, rfl, by omega, fun _ => ⟨s, cs, rd, rfl⟩, k6.trans k7, p7⟩
            · rw [decide_eq_false (fun q => c6 (V.int.inj q))]
              exact iteF ⟨0, _, rfl, by decide, fun h => absurd h (by decide), k6, p6.le (by omega)⟩
        · rintro σ H6 ⟨mn, u5, rfl, hmn, hat, k6, p6⟩
          have la6 := lines_odd k6 (pen_odd p5) la5
          have eF6 := lst_pen k6 p5 eF5
          have hx6 := line_odd k6 (pen_odd p5) hx5
          have htt6 := st_odd k6 (pen_odd p5) htt
          refine ⟨fun σ H2 => ∃ (tt2 : Addr) (ln2 : LineM) (u4 u5 : Option V), σ = [some (.ref p), some (.ref t), some (.ref F), some (.ref tt2), u4, u5] ∧ Kp [p] H6 H2 ∧ PenAt H2 p pc (N + 100 * i + 60) ∧ LineAt K H2 (.ref tt2) ln2 ∧ LineGood sp rs ls2 ln2 ∧
            (ln2 = ln ∨ ∃ s cs rd cs2, ln = .at_ s cs rd ∧ ln2 = .at_ s cs2 rd), ?_, ?_⟩
          · refine ⟨_, rfl, _, _, rfl, rfl, _, rfl, ?_⟩
            by_cases c7 : (0 : Int) < (mn : Int)
            · rw [decide_eq_true c7]
              obtain ⟨s, cs, rd, rfl⟩ := hat (by omega)
              have htt6 : SqT K H6 tt [.str "at", .str s, .ref c, .str rd] := htt6
              refine iteT ⟨_, rfl, tt, _, 1, _, rfl, rfl, htt6, atI_nat (j := 1) rfl, _, rfl, _, rfl, by omega, by omega, fun D hD => ?_⟩
              rw [Int.toNat_natCast]
              have xD := Evl.Ex.new (o := .lst []) hD
              refine lc_range (lo := 0) (n := mn) (fun j H' => Kp [p] H6 H' ∧ PenAt H' p pc (N + 100 * i + 2 + 10 * j) ∧ ∃ vs cs, H' D = some (.lst vs) ∧ CondsAt K H' vs cs ∧ cs.length = j ∧ ∀ d ∈ cs, CondOk d) ⟨Kp.of xD, p6.mono xD, [], [], upd_same, .nil, rfl, fun _ h => by cases h⟩ (fun j H' hj q => ?_) (fun H9 q => ?_)
              · obtain ⟨kj, pj, vs, cs, ed, ca, cl, co⟩ := q
                refine ⟨rfl, yesT ⟨_, rfl, p, pc, _, rfl, pj, by omega, fun t c H9 hc k9 p9 hcc => ?_⟩⟩
                have ed9 := lst_pen k9 pj ed
                have ca9 := conds_odd k9 (pen_odd pj) ca
                have kD : Kp [D] H9 (upd H9 D (.lst (vs ++ [.ref t]))) := (Kp.refl _ _).put (List.mem_singleton.mpr rfl)
                obtain ⟨x8c, hx8c⟩ := p6.cells
                obtain ⟨kp8c, hkp8c, _⟩ := id p6
                refine ⟨vs, ed9, ?_, (kj.trans k9).out kD hD, (p9.kp kD ⟨by simpa using ne_of_none hkp8c hD, by simpa using ne_of_none hx8c hD⟩).le (by omega), _, cs ++ [c], upd_same, ?_, ?_, fun d hd => ?_⟩
                · rw [ca.len, cl]
                  exact Nat.lt_of_lt_of_le (show j < 100 by omega) (by decide)
                · exact (conds_odd kD (odd_lst ed9) ca9).app (.cons (by
                    obtain ⟨tt, h1, h2⟩ := hcc
                    exact ⟨tt, h1, st_odd kD (odd_lst ed9) h2⟩) .nil)
                · rw [List.length_append, cl]
                  rfl
                · rcases List.mem_append.mp hd with hd | hd
                  · exact co d hd
                  · rw [List.mem_singleton.mp hd]
                    exact hc
              · obtain ⟨k9, p9, vs, cs2, ed, ca, cl, co⟩ := q
                refine ⟨D, vs, rfl, .inl ⟨SqL.of ed, fun c2 hc2 => ?_⟩⟩
                have xc2 := Evl.Ex.new (o := .tup vs) hc2
                have htt9 := st_mono xc2 (st_odd k9 (pen_odd p6) htt6)
                refine ⟨_, rfl, tt, _, 3, _, rfl, rfl, htt9, atI_nat (j := 3) rfl, of_decide_eq_true rfl, fun u hu => ?_⟩
                have xu := Evl.Ex.new (o := .tup [.str "at", .str s, .ref c2, .str rd]) hu
                have xx := xc2.trans xu
                refine ⟨u, .at_ s cs2 rd, _, _, rfl, k9.trans (Kp.of xx), (p9.mono xx).le (by omega), ⟨u, c2, vs, rfl, SqT.of upd_same, SqT.of (xu _ _ upd_same), conds_mono xx ca⟩, ⟨good2.1, good2.2.1, good2.2.2.1, good2.2.2.2.1, by omega, co⟩, .inr ⟨s, cs, rd, cs2, rfl, rfl⟩⟩
            · rw [decide_eq_false c7]
              exact iteF ⟨tt, ln, _, _, rfl, Kp.refl _ _, p6.le (by omega), hx6, good2, .inl rfl⟩
          · rintro σ H9 ⟨tt2, ln2, u4, u5, rfl, k9, p9, hx9, good9, shape⟩
            have eF9 := lst_pen k9 p6 eF6
            have la9 := lines_odd k9 (pen_odd p6) la6
            have kF : Kp [F] H9 (upd H9 F (.lst (vs2 ++ [.ref tt2]))) := (Kp.refl _ _).put (List.mem_singleton.mpr rfl)
            refine ⟨_, rfl, .inl ⟨rfl, _, SqL.of eF9⟩, _, rfl, F, vs2, _, rfl, rfl, eF9, ?_, vs2 ++ [.ref tt2], ls2 ++ [ln2], _, _, _, rfl, ((k5.trans k6).trans k9).out kF hF, (p9.kp kF ⟨by simpa using pF.1, by simpa using pF.2⟩).le (by omega), upd_same, ?_, va5.snoc good9, ?_, ?_, ?_⟩
            · rw [la9.len, li5]
              exact Nat.lt_of_lt_of_le (show i < 1000 by omega) (by decide)
            · exact (lines_odd kF (odd_lst eF9) la9).app (.cons (line_odd kF (odd_lst eF9) hx9) .nil)
            · rw [List.length_append, li5]
              rfl
            · rw [take_succ_of hln, goalsOf_app, goalsOf_app, go5]
              rcases shape with rfl | ⟨s, cs, rd, cs2, rfl, rfl⟩ <;> rfl
            · intro s
              rw [take_succ_of hln]
              cases ln with
              | goal g =>
                rcases shape with rfl | ⟨_, _, _, _, h, _⟩
                · rw [cntOf_goal, cntOf_goal]
                · cases h
              | at_ s0 cs rd =>
                rcases shape with rfl | ⟨s1, cs1, rd1, cs2, h, rfl⟩
                · rw [cntOf_at, cntOf_at, cn5]
                · cases h
                  rw [cntOf_at, cntOf_at, cn5]
      · obtain ⟨vs2, ls2, s3, s4, s5, rfl, k5, p5, eF5, la5, va5, li5, go5, cn5⟩ := q
        exact ⟨vs2, ls2, s3, s4, s5, rfl, k5, p5.le (by omega), eF5, la5, va5, by omega⟩
    · rintro σ H' ⟨vs2, ls2, s3, s4, s5, rfl, k5, p5, eF5, la5, va5, li5⟩
      exact ⟨_, rfl, k F vs2 ls2 H' k5 p5 eF5 la5 va5 li5⟩
end
end Lx
set_option Elab.async false
set_option linter.all false
set_option maxRecDepth 100000
set_option maxHeartbeats 4000000
namespace Lx
open PySem PySem.Spec PyProof.Rows L2 Pz
section
variable {P : Program} {w : World} {K : PySem.W.Frag} {mg : Str → Option Value} {base : Heap}
/-- a line as a tuple -/
theorem line_tup {H : Hp} {v : V} {ln : LineM} (h : LineAt K H v ln) : ∃ tt c, v = .ref tt ∧ SqT K H tt (lineV ln c) := by
  cases ln with
  | goal g =>
    obtain ⟨tt, e1, e2⟩ := h
    exact ⟨tt, 0, e1, e2⟩
  | at_ s cs rd =>
    obtain ⟨tt, c, cv, e1, e2, _⟩ := h
    exact ⟨tt, c, e1, e2⟩
def kindV (ln : LineM) : V := match ln with
  | .goal _ => .str "goal"
  | .at_ _ _ _ => .str "at"
def nameV (ln : LineM) : V := match ln with
  | .goal g => .str g
  | .at_ s _ _ => .str s
theorem lineV0 (ln : LineM) (c : Addr) : (lineV ln c)[0]? = some (kindV ln) := by cases ln <;> rfl
theorem lineV1 (ln : LineM) (c : Addr) : (lineV ln c)[1]? = some (nameV ln) := by cases ln <;> rfl
def isGoal (ln : LineM) : Bool := match ln with
  | .goal _ => true
  | .at_ _ _ _ => false
theorem goals_filter : ∀ ls : List LineM, ((ls.filter isGoal).map nameV) = (goalsOf ls).map V.str
  | [] => rfl
  | .goal g :: r => congrArg (V.str g :: ·) (goals_filter r)
  | .at_ _ _ _ :: r => goals_filter r
def spGoals (K : PySem.W.Frag) : Sp := fun vs H Q _ => ∃ (t : Addr) (vals : List V) (ls : List LineM), vs = [.ref t] ∧ SqL K H t vals ∧ LinesAt K H vals ls ∧ ls.length ≤ 4000000 ∧ ∀ u H', H u = none → Ex H H' → H' u = some (.lst ((goalsOf ls).map V.str)) → Q (.ref u) H'
theorem ok__law_goals (T : TT K mg base) : Ok P w K mg base 1 (He.ga K "_law_goals") ["_law_lines"] [] (spGoals K) := by
  refine ok_mk T.f__law_goals sc__law_goals (fun vs H Q E h => ?_) (fun _ _ _ _ _ _ us hl => match us, hl with | [_], _ => rfl) (fun cdv A outer s H vs Q E hr h => ?_)
  · obtain ⟨t, vals, ls, rfl, _⟩ := h
    rfl
  · obtain ⟨t, vals, ls, rfl, ht, la, hl, k⟩ := h
    refine ⟨_, (pss_one (ps_ret (pe_lcB s H (own := [("_law_line", 1)]) rfl sc__law_goals.nd (pi_list (pv 0)) (blkOk_by (own := [("_law_line", 1)]) (N := nm__law_goals) (sc := defScope s__law_goals) (by decide +kernel)) (fun _ _ _ _ _ => (pg_name (i := 1) sc__law_goals.nd rfl (by first | exact Or.inl rfl | exact Or.inr rfl))) (fun _ _ _ _ _ => (pts_one (pt_cmpR op_eq (pe_ix ix_tup (pv 1) pe_int (fun _ _ => rfl)) pe_str (nomark _)))) (fun _ _ _ _ _ => (pe_ix ix_tup (pv 1) pe_int (fun _ _ => rfl)))))), ?_⟩
    refine Evl.s_retL (el_lcRel isGoal nameV (Evl.ev_var rfl) ht la (by rw [la.len]; exact hl) (fun x => rfl) (fun x ln hx _ => ?_) (fun x ln hx _ _ => ?_)) fun u H' nu xu eu => k u H' nu xu (by rw [eu, goals_filter])
    · obtain ⟨tt, c, rfl, htt⟩ := line_tup hx
      refine Evl.et_is (Evl.et_test (Evl.ev_op (Evl.ev_op (Evl.ev_var rfl) Evl.ev_c (Evl.rv_ixT htt (atI_nat (j := 0) (lineV0 ln c)))) Evl.ev_c (Evl.rv_eq ?_))) ?_
      · cases ln <;> rfl
      · cases ln <;> rfl
    · obtain ⟨tt, c, rfl, htt⟩ := line_tup hx
      exact Evl.ev_op (Evl.ev_var rfl) Evl.ev_c (Evl.rv_ixT htt (atI_nat (j := 1) (lineV1 ln c)))
/-- the law's rules of a spot in the section of a goal -/
def rulesGo (g s : Str) : Option Str → List LineM → List LineM
  | _, [] => []
  | _, .goal h :: r => rulesGo g s (some h) r
  | o, .at_ t cs rd :: r => if o = some g ∧ t = s then .at_ t cs rd :: rulesGo g s o r else rulesGo g s o r
def spRules (K : PySem.W.Frag) : Sp := fun vs H Q _ => ∃ (t : Addr) (g s : Str) (vals : List V) (ls : List LineM), vs = [.ref t, .str g, .str s] ∧ SqL K H t vals ∧ LinesAt K H vals ls ∧ ls.length ≤ 4000000 ∧ ∀ u xs H', H u = none → Ex H H' → H' u = some (.lst xs) → xs.length = (rulesGo g s none ls).length → Q (.ref u) H'
def secV : Option Str → V
  | none => .non
  | some g => .str g
def secOf : Option Str → List LineM → Option Str
  | o, [] => o
  | _, .goal h :: r => secOf (some h) r
  | o, .at_ _ _ _ :: r => secOf o r
theorem secOf_goal (g : Str) : ∀ (ls : List LineM) (o : Option Str), secOf o (ls ++ [.goal g]) = some g
  | [], _ => rfl
  | .goal _ :: r, _ => secOf_goal g r _
  | .at_ _ _ _ :: r, o => secOf_goal g r o
theorem secOf_at (s : Str) (cs : List CondM) (rd : Str) : ∀ (ls : List LineM) (o : Option Str), secOf o (ls ++ [.at_ s cs rd]) = secOf o ls
  | [], _ => rfl
  | .goal _ :: r, _ => secOf_at s cs rd r _
  | .at_ _ _ _ :: r, o => secOf_at s cs rd r o
theorem rulesGo_goal (g s h : Str) : ∀ (ls : List LineM) (o : Option Str), rulesGo g s o (ls ++ [.goal h]) = rulesGo g s o ls
  | [], _ => rfl
  | .goal _ :: r, _ => rulesGo_goal g s h r _
  | .at_ t cs rd :: r, o => by
    have ih : rulesGo g s o (r.append [.goal h]) = rulesGo g s o r := rulesGo_goal g s h r o
    show (if o = some g ∧ t = s then _ else _) = (if o = some g ∧ t = s then _ else _)
    rw [ih]
theorem rulesGo_at (g s t : Str) (cs : List CondM) (rd : Str) : ∀ (ls : List LineM) (o : Option Str), rulesGo g s o (ls ++ [.at_ t cs rd]) = rulesGo g s o ls ++ (if secOf o ls = some g ∧ t = s then [.at_ t cs rd] else [])
  | [], o => by
    show (if o = some g ∧ t = s then _ else _) = [] ++ (if o = some g ∧ t = s then _ else _)
    split <;> rfl
  | .goal _ :: r, _ => rulesGo_at g s t cs rd r _
  | .at_ u cs2 rd2 :: r, o => by
    have ih : rulesGo g s o (r.append [.at_ t cs rd]) = _ := rulesGo_at g s t cs rd r o
    show (if o = some g ∧ u = s then _ else _) = (if o = some g ∧ u = s then _ else _) ++ (if secOf o r = some g ∧ t = s then _ else _)
    rw [ih]
    split <;> rfl
theorem ok__law_rules (T : TT K mg base) : Ok P w K mg base 1 (He.ga K "_law_rules") ["_law_lines", "_law_goal", "_law_spot"] [] (spRules K) := by
  refine ok_mk T.f__law_rules sc__law_rules (fun vs H Q E h => ?_) (fun _ _ _ _ _ _ us hl => match us, hl with | [_, _, _], _ => rfl) (fun cdv A outer s H vs Q E hr h => ?_)
  · obtain ⟨t, g, s, vals, ls, rfl, _⟩ := h
    rfl
  · obtain ⟨t, g, x, vals, ls, rfl, ht, la, hl, k⟩ := h
    refine ⟨_, (pss_cons (ps_par (i := 3) (j := 4) (by rfl) sc__law_rules.nd rfl rfl (by decide) rfl rfl (pa_cons (pe_lst pa_nil) (pa_cons pe_non pa_nil)) (by rfl))
      (Evl.pss_cut (ps_for po_own rfl (pi_list (pv 0)) (pg_name (i := 5) sc__law_rules.nd rfl (by first | exact Or.inl rfl | exact Or.inr rfl))
      (pss_one (ps_if (pt_cmpR op_eq (pe_ix ix_tup (pv 5) pe_int (fun _ _ => rfl)) pe_str (nomark _))
      (pss_one (ps_set (i := 4) sc__law_rules.nd rfl (by first | exact Or.inl rfl | exact Or.inr rfl) (pe_ix ix_tup (pv 5) pe_int (fun _ _ => rfl))))
      (pss_one (ps_if (PW.pt (pw_and (pt_cmpR op_eq (pv 4) (pv 1) (nomark _)) (pw_and1 (pt_cmpR op_eq (pe_ix ix_tup (pv 5) pe_int (fun _ _ => rfl)) (pv 2) (nomark _)))))
      (pss_one (ps_expr (pe_bm PySem.F.plainAttrs_list PySem.F.slot_list_append PySem.F.type_list_append mt_append (pv 3) (pa_cons (pe_tup (pa_cons (pe_ix ix_tup (pv 5) pe_int (fun _ _ => rfl)) (pa_cons (pe_ix ix_tup (pv 5) pe_int (fun _ _ => rfl)) pa_nil))) pa_nil))))
      pss_nil)))))
      (pss_one (ps_ret (pv 3))))), ?_⟩
    refine ⟨by decide, fun F hF => ⟨_, _, rfl, ?_⟩⟩
    have xF := Evl.Ex.new (o := .lst []) hF
    have lal := la.len
    refine ⟨fun σ H' => ∃ (xs : List V) (s4 s5 : Option V), σ = [some (.ref t), some (.str g), some (.str x), some (.ref F), s4, s5] ∧ Ex H H' ∧ H' F = some (.lst xs) ∧ xs.length = (rulesGo g x none ls).length, ?_, ?_⟩
    · refine ⟨_, rfl, t, rfl, ⟨_, sl_mono xF ht⟩, ?_⟩
      refine for_list (xs := vals) (fun i σ H' => ∃ (xs : List V) (s5 : Option V), σ = [some (.ref t), some (.str g), some (.str x), some (.ref F), some (secV (secOf none (ls.take i))), s5] ∧ Ex H H' ∧ H' F = some (.lst xs) ∧ xs.length = (rulesGo g x none (ls.take i)).length)
        ⟨[], none, rfl, xF, upd_same, rfl⟩ (fun i σ H' _ q => ?_) (fun i v σ H' hv q => ?_) (fun σ H' q => ?_)
      · obtain ⟨_, _, _, xx, _⟩ := q
        exact sl_mono xx ht
      · obtain ⟨xs, s5, rfl, xx, eF, lx⟩ := q
        obtain ⟨ln, hln, hx⟩ := la.get hv
        obtain ⟨tt, c, rfl, htt⟩ := line_tup hx
        have htt := st_mono xx htt
        have hil := (List.getElem?_eq_some_iff.mp hv).1
        refine ⟨_, rfl, tt, _, 0, _, rfl, rfl, htt, atI_nat (j := 0) (lineV0 ln c), ?_⟩
        cases ln with
        | goal h =>
          refine ⟨rfl, _, rfl, ?_⟩
          show (if decide (V.str ("goal" : Str) = V.str ("goal" : Str)) = true then _ else _)
          rw [decide_eq_true rfl]
          refine iteT ⟨_, rfl, tt, _, 1, _, rfl, rfl, htt, atI_nat (j := 1) rfl, xs, some (.ref tt), ?_, xx, eF, ?_⟩
          · rw [take_succ_of hln, secOf_goal]
            rfl
          · rw [take_succ_of hln, rulesGo_goal]
            exact lx
        | at_ s0 cs rd =>
          refine ⟨rfl, _, rfl, ?_⟩
          have e0 : decide (V.str ("at" : Str) = V.str ("goal" : Str)) = false := by decide
          show (if decide (V.str ("at" : Str) = V.str ("goal" : Str)) = true then _ else _)
          rw [e0]
          refine iteF ⟨_, rfl, _, rfl, ?_, _, rfl, ?_⟩
          · cases secOf none (ls.take i) <;> rfl
          have eg : (secV (secOf none (ls.take i)) = V.str g) ↔ secOf none (ls.take i) = some g := by
            cases secOf none (ls.take i) with
            | none => exact ⟨fun h => (by cases h), fun h => (by cases h)⟩
            | some h => exact ⟨fun q => by rw [V.str.inj q], fun q => by rw [Option.some.inj q]; rfl⟩
          have no : ¬ (secOf none (ls.take i) = some g ∧ s0 = x) → ∃ (xs : List V) (s5 : Option V), [some (V.ref t), some (.str g), some (.str x), some (.ref F), some (secV (secOf none (ls.take i))), some (.ref tt)] = [some (.ref t), some (.str g), some (.str x), some (.ref F), some (secV (secOf none (ls.take (i + 1)))), s5] ∧ Ex H H' ∧ H' F = some (.lst xs) ∧ xs.length = (rulesGo g x none (ls.take (i + 1))).length := fun h => by
            refine ⟨xs, some (.ref tt), ?_, xx, eF, ?_⟩
            · rw [take_succ_of hln, secOf_at]
            · rw [take_succ_of hln, rulesGo_at, if_neg h, List.append_nil]
              exact lx
          by_cases c1 : secOf none (ls.take i) = some g
          · rw [decide_eq_true (eg.mpr c1)]
            refine iteT ⟨_, rfl, tt, _, 1, _, rfl, rfl, htt, atI_nat (j := 1) rfl, _, rfl, rfl, _, rfl, ?_⟩
            by_cases c2 : s0 = x
            · rw [decide_eq_true (congrArg V.str c2)]
              refine iteT ⟨_, rfl, .inl ⟨rfl, _, SqL.of eF⟩, _, rfl, tt, _, 2, _, rfl, rfl, htt, atI_nat (j := 2) rfl, _, rfl, tt, _, 3, _, rfl, rfl, htt, atI_nat (j := 3) rfl, of_decide_eq_true rfl, fun u hu => ?_⟩
              have xu := Evl.Ex.new (o := .tup [.ref c, .str rd]) hu
              have eFu := xu _ _ eF
              refine ⟨F, xs, _, rfl, rfl, eFu, ?_, xs ++ [.ref u], some (.ref tt), ?_, (xx.trans xu).mut hF, upd_same, ?_⟩
              · have h3 : (rulesGo g x none (ls.take i)).length ≤ i := by
                  have : ∀ (l : List LineM) (o : Option Str), (rulesGo g x o l).length ≤ l.length := fun l => by
                    induction l with
                    | nil => exact fun _ => Nat.le_refl _
                    | cons a l ih =>
                      intro o
                      cases a with
                      | goal h => exact Nat.le_succ_of_le (ih _)
                      | at_ t cs rd =>
                        show (if o = some g ∧ t = x then _ else _ : List LineM).length ≤ _
                        split
                        · exact Nat.succ_le_succ (ih o)
                        · exact Nat.le_succ_of_le (ih o)
                  have h4 := this (ls.take i) none
                  rw [List.length_take] at h4
                  omega
                rw [lx]
                exact Nat.lt_of_le_of_lt (show _ ≤ 4000000 by omega) (by decide)
              · rw [take_succ_of hln, secOf_at]
                rfl
              · rw [take_succ_of hln, rulesGo_at, if_pos ⟨c1, c2⟩, List.length_append, List.length_append, lx]
                rfl
            · rw [decide_eq_false (fun q => c2 (V.str.inj q))]
              exact iteF (no fun h => c2 h.2)
          · rw [decide_eq_false (fun q => c1 (eg.mp q))]
            exact iteF (iteF (no fun h => c1 h.1))
      · obtain ⟨xs, s5, rfl, xx, eF, lx⟩ := q
        rw [lal, List.take_length] at lx
        exact ⟨xs, _, s5, rfl, xx, eF, lx⟩
    · rintro σ H' ⟨xs, s4, s5, rfl, xx, eF, lx⟩
      exact ⟨_, rfl, k F xs H' hF xx eF lx⟩
end
end Lx
set_option Elab.async false
set_option linter.all false
set_option maxRecDepth 100000
set_option maxHeartbeats 4000000
namespace Lx
open PySem PySem.Spec PyProof.Rows L2 Pz
section
variable {P : Program} {w : World} {K : PySem.W.Frag} {mg : Str → Option Value} {base : Heap}
theorem cond_ok {c : CondM} (h : CondOk c) : condOk c := by
  obtain ⟨h1, h2⟩ := h
  refine ⟨h1, h2.len, fun n hn => ?_⟩
  obtain ⟨b, hb, h3, h4⟩ := h2.mem hn
  have := bounds_ok c.1 b hb
  omega
def atPre (s : Str) (cs : List CondM) : List Str := [("at" : Str), s] ++ (if cs ≠ [] then [("if" : Str)] else [])
def spLineText (K : PySem.W.Frag) : Sp := fun vs H Q _ => ∃ (v : V) (ln : LineM), vs = [v] ∧ LineAt K H v ln ∧ lineOk ln ∧ ∀ H', Ex H H' → Q (.str (lineTxt ln)) H'
theorem ok__law_line_text (T : TT K mg base) : Ok P w K mg base 1 (He.ga K "_law_line_text") ["_law_line"] [] (spLineText K) := by
  refine ok_mk T.f__law_line_text sc__law_line_text (fun vs H Q E h => ?_) (fun _ _ _ _ _ _ us hl => match us, hl with | [_], _ => rfl) (fun cdv A outer s H vs Q E hr h => ?_)
  · obtain ⟨v, ln, rfl, _⟩ := h
    rfl
  · obtain ⟨v, ln, rfl, hl, ho, k⟩ := h
    refine ⟨_, (pss_cons (ps_if (pt_cmpR op_eq (pe_ix ix_tup (pv 0) pe_int (fun _ _ => rfl)) pe_str (nomark _))
      (pss_one (ps_ret (pe_op op_add_str pe_str (pe_ix ix_tup (pv 0) pe_int (fun _ _ => rfl)))))
      pss_nil)
      (pss_cons (ps_set (i := 1) sc__law_line_text.nd rfl (by first | exact Or.inl rfl | exact Or.inr rfl) (pe_op op_cat (pe_lst (pa_cons pe_str (pa_cons (pe_ix ix_tup (pv 0) pe_int (fun _ _ => rfl)) pa_nil))) (pe_op op_rep (pe_lst (pa_cons pe_str pa_nil)) (pe_callTy call_int1 (by rfl) T.b_int (by decide +kernel) (pa_cons (pe_cmpR (op_neNilT hr.units0) (pe_ix ix_tup (pv 0) pe_int (fun _ _ => rfl)) (pe_tup pa_nil) (nomark _)) pa_nil)))))
      (Evl.pss_cut (ps_for po_own rfl (pi_tup (pe_ix ix_tup (pv 0) pe_int (fun _ _ => rfl))) (pg_name (i := 2) sc__law_line_text.nd rfl (by first | exact Or.inl rfl | exact Or.inr rfl))
      (pss_one (ps_set (i := 1) sc__law_line_text.nd rfl (by first | exact Or.inl rfl | exact Or.inr rfl) (pe_op op_cat (pv 1) (pe_lcB s H (own := [("_law_item", 3)]) rfl sc__law_line_text.nd (pi_tup (pv 2)) (blkOk_by (own := [("_law_item", 3)]) (N := nm__law_line_text) (sc := defScope s__law_line_text) (by decide +kernel)) (fun _ _ _ _ _ => (pg_name (i := 3) sc__law_line_text.nd rfl (by first | exact Or.inl rfl | exact Or.inr rfl))) (fun _ _ _ _ _ => pts_nil) (fun _ _ _ _ _ => (pe_callTy call_str_q (by rfl) T.b_str (by decide +kernel) (pa_cons (pv 3) pa_nil))))))))
      (pss_one (ps_ret (pe_join pe_str (pe_op op_cat (pv 1) (pe_lst (pa_cons pe_str (pa_cons (pe_ix ix_tup (pv 0) pe_int (fun _ _ => rfl)) pa_nil)))))))))), ?_⟩
    obtain ⟨tt, c0, rfl, htt⟩ := line_tup hl
    refine ⟨_, rfl, tt, _, 0, _, rfl, rfl, htt, atI_nat (j := 0) (lineV0 ln c0), ?_⟩
    cases ln with
    | goal g =>
      refine ⟨rfl, _, rfl, ?_⟩
      show (if decide (V.str ("goal" : Str) = V.str ("goal" : Str)) = true then _ else _)
      rw [decide_eq_true rfl]
      refine iteT ⟨_, rfl, tt, _, 1, _, rfl, rfl, htt, atI_nat (j := 1) rfl, _, _, rfl, rfl, ?_, k H (Evl.Ex.refl H)⟩
      exact Nat.le_trans (Nat.add_le_add_left (show g.length ≤ 4000000 from ho) _) (by decide)
    | at_ x cl rd =>
      refine ⟨rfl, _, rfl, ?_⟩
      have e0 : decide (V.str ("at" : Str) = V.str ("goal" : Str)) = false := by decide
      show (if decide (V.str ("at" : Str) = V.str ("goal" : Str)) = true then _ else _)
      rw [e0]
      refine iteF ?_
      unfold tNext
      dsimp only
      obtain ⟨tt2, c, cv, e2, h2, h3, h4⟩ := hl
      cases e2
      clear htt
      obtain ⟨o1, o2, o3⟩ := ho
      refine Evl.s_asgL (xs := (atPre x cl).map V.str) ?_ fun l H1 nl x1 e1 => ?_
      · have epre : (atPre x cl).map V.str = [V.str "at", .str x] ++ (List.replicate ((if (!cv.isEmpty) = true then (1 : Int) else 0)).toNat [V.str "if"]).flatten := by
          unfold atPre
          rw [List.map_append]
          cases h4 with
          | nil => rfl
          | cons _ _ => rfl
        rw [epre]
        refine el_cat (Evl.el_lst (Evl.ea_cons Evl.ev_c (Evl.ea_cons (Evl.ev_op (Evl.ev_var rfl) Evl.ev_c (Evl.rv_ixT h2 (atI_nat (j := 1) rfl))) Evl.ea_nil)) (of_decide_eq_true rfl)) ?_ (by cases cv <;> simp)
        intro HA xA QA qA
        refine ⟨by decide, fun li hli => ⟨_, rfl, tt, _, 2, _, rfl, rfl, st_mono (xA.trans (Evl.Ex.new hli)) h2, atI_nat (j := 2) rfl, by decide, fun lj hlj => ?_⟩⟩
        have xi := Evl.Ex.new (o := .lst [.str "if"]) hli
        have xj := Evl.Ex.new (o := .tup []) hlj
        refine ⟨c, lj, cv, rfl, rfl, st_mono ((xA.trans xi).trans xj) h3, SqT.of upd_same, .inr ⟨_, rfl, ?_⟩⟩
        refine ⟨li, _, _, rfl, rfl, xj _ _ upd_same, ?_, ?_, ?_, fun p hp => qA p _ (Evl.fresh_back (xi.trans xj) hp) ((xi.trans xj).trans (Evl.Ex.new hp)) upd_same⟩
        · cases cv <;> exact of_decide_eq_true rfl
        · cases cv <;> exact of_decide_eq_true rfl
        · cases cv <;> exact of_decide_eq_true rfl
      have prl : (atPre x cl).length ≤ 3 := by
        unfold atPre
        split <;> simp
      have cwl : ∀ c ∈ cl, (condWords c).length ≤ 5 := fun c hc => by
        have h := (o2 c hc).2.1
        unfold condWords
        rw [List.length_cons, List.length_map, h]
        unfold bounds
        split <;> simp
      refine ⟨fun σ H' => ∃ (l2 : Addr) (s2 s3 : Option V), σ = [some (.ref tt), some (.ref l2), s2, s3] ∧ Ex H H' ∧ H' l2 = some (.lst ((atPre x cl ++ (cl.map condWords).flatten).map V.str)), ?_, ?_⟩
      · have fl : ∀ i, ((cl.take i).map condWords).flatten.length ≤ (cl.take i).length * 5 := fun i => by
          rw [List.length_flatten, List.map_map]
          exact sum_le fun c hc => cwl c (List.mem_of_mem_take hc)
        refine Evl.s_forT (Evl.ev_op (Evl.ev_var rfl) Evl.ev_c (Evl.rv_ixT (st_mono x1 h2) (atI_nat (j := 2) rfl))) (st_mono x1 h3) (fun i σ H' => ∃ (l2 : Addr) (s2 s3 : Option V), σ = [some (.ref tt), some (.ref l2), s2, s3] ∧ Ex H1 H' ∧ H' l2 = some (.lst ((atPre x cl ++ ((cl.take i).map condWords).flatten).map V.str)))
          (fun H2 x2 => ⟨l, none, none, rfl, x2, by
            show H2 l = some (.lst ((atPre x cl ++ []).map V.str))
            rw [List.append_nil]
            exact x2 _ _ e1⟩) (fun i σ H' hi p => ?_) (fun i v σ H' hv p => ?_) (fun σ H' p => ?_)
        · obtain ⟨_, _, _, _, k', _⟩ := p
          exact st_mono (x1.trans k') h3
        · obtain ⟨l2, s2, s3, rfl, k', e'⟩ := p
          obtain ⟨cd, hcd, t, rfl, ht⟩ := (conds_mono (x1.trans k') h4).get hv
          have co := o2 cd (List.mem_of_getElem? hcd)
          have hic := (List.getElem?_eq_some_iff.mp hcd).1
          have en : ((V.str cd.1 :: cd.2.map V.int).filter fun _ => true).map strQ = (condWords cd).map V.str := by
            rw [List.filter_eq_self.mpr (fun _ _ => rfl)]
            unfold condWords
            rw [List.map_cons, List.map_cons, List.map_map, List.map_map]
            rfl
          refine Evl.s_asgL (xs := (atPre x cl ++ ((cl.take i).map condWords).flatten).map V.str ++ (condWords cd).map V.str) (el_catV (Evl.ev_var rfl) e' ?_ ?_) fun l3 H3 n3 x3 e3 => ⟨l3, _, _, rfl, k'.trans x3, ?_⟩
          · rw [← en]
            refine el_lcT (xs := .str cd.1 :: cd.2.map V.int) (fun _ => true) strQ (Evl.ev_var rfl) ht ?_ (fun x => rfl) (fun x hx => ev_yes) (fun v hv _ => ?_)
            · rw [List.length_cons, List.length_map, co.2.1]
              unfold bounds
              split <;> simp
            · rcases List.mem_cons.mp hv with rfl | hv
              · exact fun H2 x2 Q' q' => ⟨_, rfl, .inr ⟨_, rfl, q' H2 (Evl.Ex.refl H2)⟩⟩
              · obtain ⟨n, hn, rfl⟩ := List.mem_map.mp hv
                have hb := co.2.2 n hn
                exact fun H2 x2 Q' q' => ⟨_, rfl, .inl ⟨n, rfl, log_small hb.1 hb.2, q' H2 (Evl.Ex.refl H2)⟩⟩
          · have h5 := fl i
            have h6 := cwl cd (List.mem_of_getElem? hcd)
            rw [List.length_take] at h5
            rw [List.length_map, List.length_map, List.length_append]
            omega
          · have et : atPre x cl ++ ((cl.take (i + 1)).map condWords).flatten = (atPre x cl ++ ((cl.take i).map condWords).flatten) ++ condWords cd := by
              rw [take_succ_of hcd, List.map_append, List.flatten_append]
              simp
            rw [e3, et]
            exact congrArg (fun z => some (HO.lst z)) List.map_append.symm
        · obtain ⟨l2, s2, s3, rfl, k', e'⟩ := p
          rw [h4.len, List.take_length] at e'
          exact ⟨l2, s2, s3, rfl, x1.trans k', e'⟩
      · rintro σ H2 ⟨l2, s2, s3, rfl, kk, e2⟩
        have eat : atWords x cl rd = (atPre x cl ++ (cl.map condWords).flatten) ++ [("go" : Str), rd] := rfl
        have fl : (cl.map condWords).flatten.length ≤ cl.length * 5 := by
          rw [List.length_flatten, List.map_map]
          exact sum_le fun c hc => cwl c hc
        refine Evl.s_ret (v := .str (lineTxt (.at_ x cl rd))) (ev_joinL (ys := atWords x cl rd) ?_ ?_) fun H3 x3 => k H3 (kk.trans x3)
        · rw [eat, List.map_append]
          refine el_catV (Evl.ev_var rfl) e2 (Evl.el_lst (Evl.ea_cons Evl.ev_c (Evl.ea_cons (Evl.ev_op (Evl.ev_var rfl) Evl.ev_c (Evl.rv_ixT (st_mono kk h2) (atI_nat (j := 3) rfl))) Evl.ea_nil)) (of_decide_eq_true rfl)) ?_
          rw [List.length_map, List.length_append]
          show _ + 2 ≤ 4000000
          omega
        · have e4 : ∀ ws : List Str, (ws.map (·.length)).sum + ws.length * (" " : Str).length = tot ws := fun ws => by
            induction ws with
            | nil => rfl
            | cons a ws ih =>
              show a.length + (ws.map (·.length)).sum + (ws.length + 1) * (" " : Str).length = (a.length + 1) + tot ws
              rw [← ih]
              have : (" " : Str).length = 1 := rfl
              rw [this]
              omega
          rw [e4]
          exact Nat.le_trans o1 (by decide)
def spTabText (K : PySem.W.Frag) : Sp := fun vs H Q _ => ∃ (t : Addr) (vals : List V) (ls : List LineM), vs = [.ref t] ∧ SqL K H t vals ∧ LinesAt K H vals ls ∧ (∀ ln ∈ ls, lineOk ln) ∧ ls.length ≤ 4000000 ∧ szOf ls ≤ 16000000 ∧ ∀ H', Ex H H' → Q (.str (tabTxt ls)) H'
theorem ok__law_table_text (T : TT K mg base) : Ok P w K mg base 2 (He.ga K "_law_table_text") ["_law_lines"] [] (spTabText K) := by
  refine ok_mk T.f__law_table_text sc__law_table_text (fun vs H Q E h => ?_) (fun _ _ _ _ _ _ us hl => match us, hl with | [_], _ => rfl) (fun cdv A outer s H vs Q E hr h => ?_)
  · obtain ⟨t, vals, ls, rfl, _⟩ := h
    rfl
  · obtain ⟨t, vals, ls, rfl, ht, la, lo, hl, hs, k⟩ := h
    refine ⟨_, (pss_one (ps_ret (pe_join pe_str (pe_lcB s H (own := [("_law_line", 1)]) rfl sc__law_table_text.nd (pi_list (pv 0)) (blkOk_by (own := [("_law_line", 1)]) (N := nm__law_table_text) (sc := defScope s__law_table_text) (by decide +kernel)) (fun _ _ _ _ _ => (pg_name (i := 1) sc__law_table_text.nd rfl (by first | exact Or.inl rfl | exact Or.inr rfl))) (fun _ _ _ _ _ => pts_nil) (fun _ _ _ _ _ => (pe_op op_add_str (po_call (ok__law_line_text T) (hr.mono (by decide)) rfl T.g__law_line_text passL (pa_cons (pv 1) pa_nil)) pe_str)))))), ?_⟩
    have ln2 : ∀ l : List LineM, ∀ b ∈ l, (lineTxt b).length ≤ szOf l := fun l => by
      induction l with
      | nil => exact fun _ h => by cases h
      | cons c l ih =>
        intro b hb
        show _ ≤ ((lineTxt c).length + 1) + szOf l
        rcases List.mem_cons.mp hb with rfl | hb
        · omega
        · have := ih b hb
          omega
    refine Evl.s_ret (v := .str (tabTxt ls)) (ev_joinL (ys := ls.map fun ln => lineTxt ln ++ ("\n" : Str)) ?_ ?_) fun H3 x3 => k H3 x3
    · have e : ((ls.filter fun _ => true).map fun ln => V.str (lineTxt ln ++ ("\n" : Str))) = (ls.map fun ln => lineTxt ln ++ ("\n" : Str)).map V.str := by
        rw [List.filter_eq_self.mpr (fun _ _ => rfl), List.map_map]
        rfl
      rw [← e]
      refine el_lcRel _ _ (Evl.ev_var rfl) ht la (by rw [la.len]; exact hl) (fun x => rfl) (fun x ln hx _ => ev_yes) (fun x ln hx hm _ => ?_)
      refine Evl.ev_op (Evl.ev_call (Evl.ea_cons (Evl.ev_var rfl) Evl.ea_nil) (fun H1 x1 Q q E => ⟨x, ln, rfl, line_odd (Kp.of (ms := []) x1) (by simp) hx, lo ln hm, q⟩)) Evl.ev_c ?_
      have := ln2 ls ln hm
      exact fun H1 _ Q q => ⟨_, _, rfl, rfl, Nat.le_trans (Nat.add_le_add_right (show (lineTxt ln).length ≤ 16000000 by omega) _) (by decide), q H1 (Evl.Ex.refl H1)⟩
    · have e7 : ((ls.map fun ln => lineTxt ln ++ ("\n" : Str)).map (·.length)).sum = szOf ls := by
        unfold szOf
        rw [List.map_map]
        congr 1
        apply List.map_congr_left
        intro b _
        show (lineTxt b ++ ("\n" : Str)).length = _
        rw [Str.length_append]
        rfl
      have e8 : ("" : Str).length = 0 := rfl
      rw [e7, e8, Nat.mul_zero]
      omega
end
end Lx
set_option Elab.async false
set_option linter.all false
set_option maxRecDepth 100000
set_option maxHeartbeats 4000000
namespace Lx
open PySem PySem.Spec PyProof.Rows L2 Pz
section
variable {P : Program} {w : World} {K : PySem.W.Frag} {mg : Str → Option Value} {base : Heap}
/-- the cursor -/
def curK (z : Str) (i : Nat) (b : Bool) : List (Key × V) := [(.inr "text", .str z), (.inr "at", .int (i : Int)), (.inr "bad", .bl b)]
def CurAt (H : Hp) (c : Addr) (z : Str) (i : Nat) (b : Bool) : Prop := H c = some (.dK (curK z i b)) ∧ i ≤ z.length ∧ z.length ≤ 4000000
theorem cur_at {z : Str} {i j : Nat} {b : Bool} : putK (curK z i b) (.inr "at") (.int (j : Int)) = curK z j b := rfl
theorem cur_bad {z : Str} {i : Nat} {b d : Bool} : putK (curK z i b) (.inr "bad") (.bl d) = curK z i d := rfl
theorem cur_text {z : Str} {i : Nat} {b : Bool} : valV (curK z i b) (.inr "text") = some (.str z) := rfl
theorem cur_i {z : Str} {i : Nat} {b : Bool} : valV (curK z i b) (.inr "at") = some (.int (i : Int)) := rfl
theorem cur_b {z : Str} {i : Nat} {b : Bool} : valV (curK z i b) (.inr "bad") = some (.bl b) := rfl
theorem CurAt.mono {H H' : Hp} {c : Addr} {z : Str} {i : Nat} {b : Bool} (h : CurAt H c z i b) (e : Ex H H') : CurAt H' c z i b := ⟨e _ _ h.1, h.2⟩
/-- the sign that is seen -/
def seenS (z : Str) (i : Nat) (b : Bool) : Str := if b = true then sS [] else sg z i
def spLSeen (K : PySem.W.Frag) : Sp := fun vs H Q _ => ∃ c z i b, vs = [.ref c] ∧ CurAt H c z i b ∧ Q (.str (seenS z i b)) H
theorem ok__law_seen (T : TT K mg base) : Ok P w K mg base 1 (He.ga K "_law_seen") ["_law_cur"] [] (spLSeen K) := by
  refine ok_mk T.f__law_seen sc__law_seen (fun vs H Q E h => ?_) (fun _ _ _ _ _ _ us hl => match us, hl with | [_], _ => rfl) (fun cdv A outer s H vs Q E hr h => ?_)
  · obtain ⟨c, z, i, b, rfl, _⟩ := h
    rfl
  · obtain ⟨c, z, i, b, rfl, ⟨h1, h2, h3⟩, k⟩ := h
    refine ⟨_, (pss_one (ps_ret (pe_ifExp (pt_val (pe_dget (hu1 hr) (pv 0) pe_str (fun _ _ => rfl))) pe_str (pe_slice sl_str (pe_dget (hu1 hr) (pv 0) pe_str (fun _ _ => rfl)) (po_some (pe_dget (hu1 hr) (pv 0) pe_str (fun _ _ => rfl))) (po_some (pe_op op_add (pe_dget (hu1 hr) (pv 0) pe_str (fun _ _ => rfl)) pe_int)))))), ?_⟩
    refine ⟨_, rfl, c, _, rfl, .inl ⟨_, .inr "bad", .inl h1, rfl, rfl⟩, _, rfl, ?_⟩
    cases b with
    | true => exact iteT k
    | false =>
      refine iteF ⟨_, rfl, c, _, rfl, .inl ⟨_, .inr "text", .inl h1, rfl, rfl⟩, ?_⟩
      refine ⟨_, rfl, c, _, rfl, .inl ⟨_, .inr "at", .inl h1, rfl, rfl⟩, _, rfl, ?_⟩
      refine ⟨_, rfl, c, _, rfl, .inl ⟨_, .inr "at", .inl h1, rfl, rfl⟩, _, _, rfl, rfl, _, rfl, z, rfl, szl h3, ?_⟩
      rw [cut_sg]
      exact k
theorem ev_seen {σ : L2.St} {H : Hp} {c : Addr} {z : Str} {i : Nat} {b : Bool} {E : XK} (hs : σ[0]? = some (some (.ref c))) (h : CurAt H c z i b) : Evl.Ev (tCall (spLSeen K) [] E (tCons (tVar 0) tNil)) σ H (.str (seenS z i b)) :=
  Evl.ev_call (Evl.ea_cons (Evl.ev_var hs) Evl.ea_nil) (fun H1 e Q q E => ⟨c, z, i, b, rfl, h.mono e, q H1 (Evl.Ex.refl H1)⟩)
theorem seen_is {z : Str} {i : Nat} {b : Bool} {c : Nat} {t : Str} (ht : t = sS [c]) : decide (V.str (seenS z i b) = V.str t) = (!b && decide ((cs z)[i]? = some c)) := by
  cases b with
  | true =>
    subst ht
    have n : ¬ V.str (sS []) = V.str (sS [c]) := fun q => by
      have := sS_inj (V.str.inj q)
      cases this
    show decide (V.str (sS []) = V.str (sS [c])) = _
    rw [decide_eq_false n]
    rfl
  | false => exact sg_is ht
theorem CurAt.put {H : Hp} {c : Addr} {z : Str} {i j : Nat} {b d : Bool} (h : CurAt H c z i b) (hj : j ≤ z.length) : CurAt (upd H c (.dK (curK z j d))) c z j d := ⟨upd_same, hj, h.2.2⟩
def spLGap (K : PySem.W.Frag) : Sp := fun vs H Q _ => ∃ c z i, vs = [.ref c] ∧ ((CurAt H c z i true ∧ ∀ H', Kp [c] H H' → CurAt H' c z i true → Q .non H') ∨ (CurAt H c z i false ∧ match pGap (cs z) i with
  | .ok j => ∀ H', Kp [c] H H' → CurAt H' c z j false → Q .non H'
  | .error j => ∀ H', Kp [c] H H' → CurAt H' c z j true → Q .non H'))
theorem ok__law_gap (T : TT K mg base) : Ok P w K mg base 2 (He.ga K "_law_gap") ["_law_cur"] [] (spLGap K) := by
  refine ok_mk T.f__law_gap sc__law_gap (fun vs H Q E h => ?_) (fun _ _ _ _ _ _ us hl => match us, hl with | [_], _ => rfl) (fun cdv A outer s H vs Q E hr h => ?_)
  · obtain ⟨c, z, i, rfl, _⟩ := h
    rfl
  · obtain ⟨c, z, i, rfl, k⟩ := h
    refine ⟨_, (pss_cons (ps_dput (hu1 hr) (pv 0) pe_str (pe_or (pe_dget (hu1 hr) (pv 0) pe_str (fun _ _ => rfl)) (pe_one (pe_cmpR op_ne (po_call (ok__law_seen T) (hr.mono (by decide)) rfl T.g__law_seen px_of (pa_cons (pv 0) pa_nil)) pe_str (nomark _)))) rfl)
      (pss_one (ps_for po_own rfl (pi_range1 rfl T.b_range (pa_cons (pe_callB call_len_str (by rfl) T.b_len PySem.boot_len (pa_cons (pe_dget (hu1 hr) (pv 0) pe_str (fun _ _ => rfl)) pa_nil)) pa_nil)) (pg_name (i := 1) sc__law_gap.nd rfl (by first | exact Or.inl rfl | exact Or.inr rfl))
      (pss_cons (ps_if (pt_cmpR op_ne (po_call (ok__law_seen T) (hr.mono (by decide)) rfl T.g__law_seen px_of (pa_cons (pv 0) pa_nil)) pe_str (nomark _))
      (pss_one ps_break)
      pss_nil)
      (pss_one (ps_dput (hu1 hr) (pv 0) pe_str (pe_op op_add (pe_dget (hu1 hr) (pv 0) pe_str (fun _ _ => rfl)) pe_int) rfl)))))), ?_⟩
    have cin : c ∈ [c] := List.mem_singleton.mpr rfl
    have slj : ∀ j b, (curK z j b).length < sizeLine := fun j b => of_decide_eq_true rfl
    -- the loop, from a place whose sign may be wrong
    have loop : ∀ (D : Ends) (H0 H1 : Hp) (s1 : Option V) (i : Nat) (b : Bool), CurAt H1 c z i b → Kp [c] H0 H1 → (∀ s1 H', Kp [c] H0 H' → CurAt H' c z (if b = true then i else skipN isSp (cs z) i) b → D.nx [some (.ref c), s1] H') →
        tFor (iRng1 (tCons (tCB (fun xs H Q => ∃ z : Str, xs = [V.str z] ∧ z.length ≤ sizeLine ∧ Q (V.int z.length) H) (tCons (tDGet (tVar 0) (tC (V.str "text"))) tNil)) tNil)) (gName 1)
          (tSeq (tIfS (tTest (tOp rNe (tCall (spLSeen K) [] E (tCons (tVar 0) tNil)) (tC (V.str " ")))) tBreak tNext)
            (sDPut (tVar 0) (tC (V.str "at")) (tOp (rI0 fun i j => V.int (i + j)) (tDGet (tVar 0) (tC (V.str "at"))) (tC (V.int 1))))) D [some (.ref c), s1] H1 := fun D H0 H1 s1 i b hc hk go => by
      have hl := hc.2.2
      refine ⟨_, rfl, c, _, rfl, .inl ⟨_, .inr "text", .inl hc.1, rfl, rfl⟩, z, rfl, szl hl, _, rfl, by omega, by omega, ?_⟩
      rw [Int.toNat_natCast]
      refine for_range (lo := 0) (n := z.length) (fun j σ H' => ∃ (q : Nat) (s1 : Option V), σ = [some (.ref c), s1] ∧ Kp [c] H0 H' ∧ CurAt H' c z q b ∧ (b = true → q = i) ∧ (b = false → q = i + j ∧ skipN isSp (cs z) q = skipN isSp (cs z) i)) ⟨i, s1, rfl, hk, hc, fun _ => rfl, fun _ => ⟨rfl, rfl⟩⟩ (fun j σ H' hj q => ?_) (fun σ H' q => ?_)
      · obtain ⟨q, t1, rfl, k', c', e1, e2⟩ := q
        have stop : (!b && decide ((cs z)[q]? = some 32)) = false → ∀ (H2 : Hp) (t2 : Option V), Ex H' H2 → D.nx [some (.ref c), t2] H2 := fun h H2 t2 x2 => by
          refine go _ _ (k'.trans (Kp.of x2)) ?_
          cases b with
          | true =>
            rw [e1 rfl] at c'
            exact c'.mono x2
          | false =>
            have hn : ¬ (cs z)[q]? = some 32 := of_decide_eq_false h
            have : skipN isSp (cs z) q = q := skip_no fun d hd => by
              unfold isSp
              have : d ≠ 32 := fun e => hn (by rw [hd, e])
              simpa using this
            rw [← (e2 rfl).2, this]
            exact c'.mono x2
        refine Evl.s_if (Evl.et_test (Evl.ev_op (ev_seen rfl c') Evl.ev_c (Evl.rv_ne rfl))) (fun h H2 x2 => ?_) (fun h H2 x2 => ?_)
        · rw [seen_is (t := " ") (c := 32) rfl] at h
          refine stop ?_ H2 _ x2
          cases hh : (!b && decide ((cs z)[q]? = some 32)) with
          | false => rfl
          | true =>
            rw [hh] at h
            cases h
        · rw [seen_is (t := " ") (c := 32) rfl] at h
          have h : (!b && decide ((cs z)[q]? = some 32)) = true := by
            cases hh : (!b && decide ((cs z)[q]? = some 32)) with
            | true => rfl
            | false =>
              rw [hh] at h
              cases h
          rw [Bool.and_eq_true] at h
          cases b with
          | true => cases h.1
          | false =>
            have hs := of_decide_eq_true h.2
            have hq := sg_lt hs
            have c2 := c'.mono x2
            refine s_dput (v := .int ((q : Int) + 1)) rfl (Evl.ev_op (ev_dk (Evl.ev_var rfl) (.inl c2.1) cur_i) Evl.ev_c Evl.rv_I0) c2.1 (slj _ _) fun H3 x3 => ?_
            have e : putK (curK z q false) (.inr "at") (.int ((q : Int) + 1)) = curK z (q + 1) false := cur_at (j := q + 1)
            rw [e]
            exact ⟨q + 1, _, rfl, ((k'.trans (Kp.of x2)).trans (Kp.of x3)).put cin, (c2.mono x3).put hq, (fun h => by cases h), fun _ => ⟨by rw [(e2 rfl).1]; omega, (skip_yes hs rfl).symm.trans (e2 rfl).2⟩⟩
      · obtain ⟨q, t1, rfl, k', c', e1, e2⟩ := q
        refine go _ _ k' ?_
        cases b with
        | true =>
          rw [e1 rfl] at c'
          exact c'
        | false =>
          obtain ⟨f1, f2⟩ := e2 rfl
          have hq := c'.2.1
          have : skipN isSp (cs z) q = q := skip_no fun d hd => by
            have := sg_lt hd
            omega
          rw [this] at f2
          show CurAt H' c z (skipN isSp (cs z) i) false
          rw [← f2]
          exact c'
    rcases k with ⟨hc, k⟩ | ⟨hc, k⟩
    · refine q_dput (v := .bl (true || false)) rfl (Evl.ev_orV (ev_dk (Evl.ev_var rfl) (.inl hc.1) cur_b) (fun h => by cases h)) hc.1 (slj _ _) fun H1 x1 => ?_
      rw [cur_bad]
      refine loop _ H _ _ i true ((hc.mono x1).put hc.2.1) ((Kp.of x1).put cin) fun s1 H' k' c' => k H' k' c'
    · refine q_dput (v := .bl (false || !(!false && decide ((cs z)[i]? = some 32)))) rfl (Evl.ev_orV (ev_dk (Evl.ev_var rfl) (.inl hc.1) cur_b) (fun _ => Evl.ev_is (Evl.ev_op (ev_seen rfl hc) Evl.ev_c (Evl.rv_ne rfl)) (by rw [seen_is (t := " ") (c := 32) rfl]))) hc.1 (slj _ _) fun H1 x1 => ?_
      rw [cur_bad]
      unfold pGap at k
      by_cases h : (cs z)[i]? = some 32
      · rw [if_pos h] at k
        rw [decide_eq_true h]
        exact loop _ H _ _ i false ((hc.mono x1).put hc.2.1) ((Kp.of x1).put cin) fun s1 H' k' c' => k H' k' c'
      · rw [if_neg h] at k
        rw [decide_eq_false h]
        exact loop _ H _ _ i true ((hc.mono x1).put hc.2.1) ((Kp.of x1).put cin) fun s1 H' k' c' => k H' k' c'
end
end Lx
set_option Elab.async false
set_option linter.all false
set_option maxRecDepth 100000
set_option maxHeartbeats 4000000
namespace Lx
open PySem PySem.Spec PyProof.Rows L2 Pz
section
variable {P : Program} {w : World} {K : PySem.W.Frag} {mg : Str → Option Value} {base : Heap}
theorem starts_pre (w : Str) (t : Cs) : Txt.startswith w (sS t) = t.isPrefixOf (cs w) := by
  have e : Builtin.Str.subAt w (sS t) 0 = t.isPrefixOf (cs w) := by
    rw [PySem.StrLaws.subAt_eq]
    show ((List.drop 0 (cs w)).take (sS t).length == cs (sS t)) = _
    rw [List.drop_zero, len_sS, cs_sS]
    by_cases h : t <+: cs w
    · rw [List.isPrefixOf_iff_prefix.mpr h, ← List.prefix_iff_eq_take.mp h]
      exact beq_self_eq_true _
    · cases q : t.isPrefixOf (cs w) with
      | true => exact absurd (List.isPrefixOf_iff_prefix.mp q) h
      | false =>
        refine beq_eq_false_iff_ne.mpr fun e => h ?_
        rw [← e]
        exact List.take_prefix _ _
  unfold Txt.startswith
  rw [e]
  cases q : t.isPrefixOf (cs w) with
  | false => exact Bool.and_false _
  | true =>
    have := (List.isPrefixOf_iff_prefix.mp q).length_le
    rw [cs_len] at this
    have h2 : 0 + (sS t).length ≤ w.length := by
      rw [len_sS]
      omega
    rw [decide_eq_true h2]
    rfl
def spLWord (K : PySem.W.Frag) : Sp := fun vs H Q _ => ∃ c a z i ws, vs = [.ref c, .ref a] ∧ SqL K H a (ws.map V.str) ∧ ws.length ≤ 1000 ∧ (∀ w ∈ ws, 1 ≤ w.length ∧ w.length ≤ 50) ∧ ((CurAt H c z i true ∧ ∀ H', Kp [c] H H' → CurAt H' c z i true → Q (.str "") H') ∨ (CurAt H c z i false ∧ match pWord (cs z) ws i with
  | .ok (w, j) => ∀ H', Kp [c] H H' → CurAt H' c z j false → Q (.str w) H'
  | .error j => ∀ H', Kp [c] H H' → CurAt H' c z j true → Q (.str "") H'))
theorem ok__law_word (T : TT K mg base) : Ok P w K mg base 2 (He.ga K "_law_word") ["_law_cur", "_law_words"] [] (spLWord K) := by
  refine ok_mk T.f__law_word sc__law_word (fun vs H Q E h => ?_) (fun _ _ _ _ _ _ us hl => match us, hl with | [_, _], _ => rfl) (fun cdv A outer s H vs Q E hr h => ?_)
  · obtain ⟨c, a, z, i, ws, rfl, _⟩ := h
    rfl
  · obtain ⟨c, a, z, i, ws, rfl, ha, hl, hw, k⟩ := h
    refine ⟨_, (pss_cons (ps_set (i := 2) sc__law_word.nd rfl (by first | exact Or.inl rfl | exact Or.inr rfl) pe_str)
      (Evl.pss_cut (ps_for po_own rfl (pi_range1 rfl T.b_range (pa_cons pe_int pa_nil)) (pg_name (i := 3) sc__law_word.nd rfl (by first | exact Or.inl rfl | exact Or.inr rfl))
      (pss_cons (ps_set (i := 4) sc__law_word.nd rfl (by first | exact Or.inl rfl | exact Or.inr rfl) (pe_op op_add_str (pv 2) (po_call (ok__law_seen T) (hr.mono (by decide)) rfl T.g__law_seen px_of (pa_cons (pv 0) pa_nil))))
      (pss_cons (ps_if (PW.pt (pw_or (pt_cmpR op_eq (pv 4) (pv 2) (nomark _)) (pw_or1 (pt_cmpR (op_eqNil hr.units0) (pe_lcB s H (own := [("_law_word_here", 5)]) rfl sc__law_word.nd (pi_list (pv 1)) (blkOk_by (own := [("_law_word_here", 5)]) (N := nm__law_word) (sc := defScope s__law_word) (by decide +kernel)) (fun _ _ _ _ _ => (pg_name (i := 5) sc__law_word.nd rfl (by first | exact Or.inl rfl | exact Or.inr rfl))) (fun _ _ _ _ _ => (pts_one (pt_val (pe_m1 PySem.F.slot_str_startswith PySem.F.type_str_startswith mt_startswith (pv 5) (pv 4))))) (fun _ _ _ _ _ => (pv 5))) (pe_lst pa_nil) (nomark _)))))
      (pss_one ps_break)
      pss_nil)
      (pss_one (ps_asg (pe_tup (pa_cons (pv 4) (pa_cons (pe_op op_add (pe_dget (hu1 hr) (pv 0) pe_str (fun _ _ => rfl)) pe_int) pa_nil))) (pg_tup rfl (pgs_cons (pg_name (i := 2) sc__law_word.nd rfl (by first | exact Or.inl rfl | exact Or.inr rfl)) (pgs_cons (pg_sub (pv 0) pe_str (set_dK (hu1 hr))) pgs_nil))))))))
      (pss_cons (ps_if (pt_cmpR op_notIn_seq (pv 2) (pv 1) rfl)
      (pss_cons (ps_dput (hu1 hr) (pv 0) pe_str pe_bl rfl)
      (pss_one (ps_ret pe_str)))
      pss_nil)
      (pss_one (ps_ret (pv 2)))))), ?_⟩
    have cin : c ∈ [c] := List.mem_singleton.mpr rfl
    have slj : ∀ j b, (curK z j b).length < sizeLine := fun j b => of_decide_eq_true rfl
    have hcd : ∃ b, CurAt H c z i b := by
      rcases k with ⟨h, _⟩ | ⟨h, _⟩
      · exact ⟨_, h⟩
      · exact ⟨_, h⟩
    have nw : sS [] ∉ ws := fun m => by
      have := (hw _ m).1
      rw [len_sS] at this
      exact absurd this (by decide)
    have slk : ∀ {H' : Hp}, Kp [c] H H' → SqL K H' a (ws.map V.str) := fun {H'} k' => by
      obtain ⟨b, h1, _⟩ := hcd
      have nn : ∀ o, H a = some o → (∀ kk, o ≠ .dK kk) → H' a = some o := fun o ho hn => k' _ _ (fun m => by
        rw [List.mem_singleton.mp m, h1] at ho
        exact hn _ (Option.some.inj ho).symm) ho
      rcases ha with (ha | ⟨o, ha⟩) | ha
      · exact .inl (.inl (nn _ ha (fun kk q => by cases q)))
      · exact .inl (.inr ⟨o, nn _ ha (fun kk q => by cases q)⟩)
      · exact .inr ha
    -- what stands behind the loop
    refine ⟨fun σ H' => ∃ (t : Cs) (b : Bool) (s3 s4 s5 : Option V), σ = [some (.ref c), some (.ref a), some (.str (sS t)), s3, s4, s5] ∧ Kp [c] H H' ∧ CurAt H' c z (i + t.length) b ∧ ((b = true ∧ t = [] ∧ CurAt H c z i true) ∨ (b = false ∧ t = wtold ws (cs z) i ∧ CurAt H c z i false)), ?_, ?_⟩
    · refine ⟨60, rfl, by decide, by decide, ?_⟩
      obtain ⟨b, hb⟩ := hcd
      refine for_range (lo := 0) (n := 60) (fun j σ H' => ∃ (t : Cs) (s3 s4 s5 : Option V), σ = [some (.ref c), some (.ref a), some (.str (sS t)), s3, s4, s5] ∧ Kp [c] H H' ∧ CurAt H' c z (i + t.length) b ∧ t.length = j ∧ (t = [] ∨ fits ws t = true) ∧ (b = true → t = []) ∧ (b = false → wgo ws t ((cs z).drop (i + t.length)) = wtold ws (cs z) i))
        ⟨[], none, none, none, rfl, Kp.refl _ _, hb, rfl, .inl rfl, fun _ => rfl, fun _ => rfl⟩ (fun j σ H' hj q => ?_) (fun σ H' q => ?_)
      · obtain ⟨t, s3, s4, s5, rfl, k', c', lt, hf, hbt, hg⟩ := q
        have tl : (sS t).length ≤ 60 := by rw [len_sS]; omega
        have sgl : (seenS z (i + t.length) b).length ≤ 1 := by
          unfold seenS
          split
          · exact Nat.zero_le _
          · cases cc : (cs z)[i + t.length]? with
            | none => rw [sg_none cc, len_sS]; exact Nat.zero_le _
            | some d => rw [sg_some cc, len_sS]; exact Nat.le_refl _
        have stop : ∀ (H2 : Hp), Ex H' H2 → (b = false → wtold ws (cs z) i = t) → Kp [c] H H2 ∧ CurAt H2 c z (i + t.length) b ∧ ((b = true ∧ t = [] ∧ CurAt H c z i true) ∨ (b = false ∧ t = wtold ws (cs z) i ∧ CurAt H c z i false)) := fun H2 x2 e => by
          refine ⟨k'.trans (Kp.of x2), c'.mono x2, ?_⟩
          cases b with
          | true => exact .inl ⟨rfl, hbt rfl, hb⟩
          | false => exact .inr ⟨rfl, (e rfl).symm, hb⟩
        refine Evl.q_asg (v := .str (sS t ++ seenS z (i + t.length) b)) (Evl.ev_op (Evl.ev_var rfl) (ev_seen rfl c') (rv_addS (by omega))) fun H2 x2 => ?_
        have c2 := c'.mono x2
        have k2 := k'.trans (Kp.of x2)
        have sS0 : ∀ u : Cs, (V.str (sS t ++ sS u) = V.str (sS t)) ↔ u = [] := fun u => by
          rw [sS_app]
          constructor
          · intro q
            have := congrArg List.length (sS_inj (V.str.inj q))
            rw [List.length_append] at this
            exact List.length_eq_zero_iff.mp (by omega)
          · intro q
            rw [q, List.append_nil]
        refine ⟨_, rfl, _, rfl, rfl, _, rfl, ?_⟩
        have cas : (seenS z (i + t.length) b = sS [] ∧ (b = false → (cs z)[i + t.length]? = none)) ∨ ∃ d, b = false ∧ (cs z)[i + t.length]? = some d ∧ seenS z (i + t.length) b = sS [d] := by
          cases b with
          | true => exact .inl ⟨rfl, fun h => by cases h⟩
          | false =>
            cases cc : (cs z)[i + t.length]? with
            | none => exact .inl ⟨sg_none cc, fun _ => rfl⟩
            | some d => exact .inr ⟨d, rfl, rfl, sg_some cc⟩
        rcases cas with ⟨es, en⟩ | ⟨d, rfl, ed, es⟩
        · rw [es, decide_eq_true ((sS0 []).mpr rfl)]
          refine iteT (iteT ?_)
          refine ⟨t, b, _, _, _, rfl, stop H2 x2 fun hb2 => ?_⟩
          rw [← hg hb2]
          exact wgo_stop fun d hd => by rw [en hb2] at hd; cases hd
        · rw [es, decide_eq_false (fun q => by have := (sS0 [d]).mp q; cases this), sS_app]
          have hlt := sg_lt ed
          have slm : (sS (t ++ [d])).length ≤ 61 := by
            rw [len_sS, List.length_append]
            have : [d].length = 1 := rfl
            omega
          refine iteF ⟨_, rfl, a, rfl, ⟨_, slk k2⟩, fun D hD => ?_⟩
          refine lc_fm (K := K) (xs := ws.map V.str) (fun x => match x with | .str w => (t ++ [d]).isPrefixOf (cs w) | _ => false) id (slk k2) hD (by rw [List.length_map]; omega) (fun x => rfl) (fun x hx => ?_) (fun x hx _ => Evl.ev_var rfl) (fun H3 x3 e3 => ?_)
          · obtain ⟨w, hw1, rfl⟩ := List.mem_map.mp hx
            intro H4 x4 Q' q'
            refine ⟨_, rfl, ⟨_, rfl⟩, _, rfl, w, _, rfl, rfl, _, rfl, ?_⟩
            rw [starts_pre]
            exact q' H4 (Evl.Ex.refl H4)
          · have ef : (((ws.map V.str).filter fun x => match x with | .str w => (t ++ [d]).isPrefixOf (cs w) | _ => false).map id) = (withP ws (t ++ [d])).map V.str := by
              rw [List.map_id, List.filter_map]
              rfl
            rw [ef] at e3
            refine ⟨by decide, fun q2 hq2 => ⟨D, q2, _, rfl, rfl, SqL.of ((upd_ne (ne_of_none e3 hq2)).trans e3), SqL.of upd_same, _, rfl, ?_⟩⟩
            have x4 := x3.trans (Evl.Ex.new (o := .lst []) hq2)
            rw [empty_map, withP_empty]
            cases hf2 : fits ws (t ++ [d]) with
            | false =>
              refine iteT ?_
              refine ⟨t, false, _, _, _, rfl, stop _ (x2.trans x4) fun _ => ?_⟩
              rw [← hg rfl]
              exact wgo_stop fun d' hd => by rw [ed] at hd; cases hd; exact hf2
            | true =>
              have c4 := c2.mono x4
              have k4 := k2.trans (Kp.of x4)
              refine iteF ⟨_, rfl, _, rfl, c, _, rfl, .inl ⟨_, .inr "at", .inl c4.1, rfl, rfl⟩, _, _, rfl, rfl, of_decide_eq_true rfl, fun qt hqt => ?_⟩
              have x5 := Evl.Ex.new (o := .tup [.str (sS (t ++ [d])), .int (((i + t.length : Nat) : Int) + 1)]) hqt
              have c5 := c4.mono x5
              refine ⟨qt, _, rfl, SqT.of upd_same, rfl, _, _, rfl, _, _, rfl, _, rfl, c, _, rfl, .inl ⟨_, .inr "at", c5.1, rfl, slj _ _, rfl⟩, rfl, ?_⟩
              have e5 : putK (curK z (i + t.length) false) (.inr "at") (.int (((i + t.length : Nat) : Int) + 1)) = curK z (i + t.length + 1) false := cur_at (j := i + t.length + 1)
              rw [e5]
              have el2 : i + (t ++ [d]).length = i + t.length + 1 := by rw [List.length_append]; rfl
              refine ⟨t ++ [d], _, _, _, rfl, (k4.trans (Kp.of x5)).put cin, ?_, ?_, .inr hf2, (fun h => by cases h), fun _ => ?_⟩
              · rw [el2]
                exact c5.put hlt
              · rw [List.length_append, lt]
                rfl
              · rw [← hg rfl]
                exact (wgo_some ed hf2).symm
      · obtain ⟨t, s3, s4, s5, rfl, k', c', lt, hf, hbt, hg⟩ := q
        rcases hf with rfl | hf
        · cases lt
        · unfold fits at hf
          obtain ⟨w0, hw0, hp⟩ := List.any_eq_true.mp hf
          have h1 := (List.isPrefixOf_iff_prefix.mp hp).length_le
          rw [cs_len] at h1
          have h2 := (hw w0 hw0).2
          omega
    · rintro σ H' ⟨t, b, s3, s4, s5, rfl, k', c', hb⟩
      refine ⟨_, rfl, _, rfl, a, _, rfl, .inl (slk k'), rfl, flat_strs ws, _, rfl, ?_⟩
      show (if (!inV (.str (sS t)) (ws.map V.str)) = true then _ else _)
      rw [inV_strs]
      rcases hb with ⟨rfl, rfl, hb⟩ | ⟨rfl, et, hb⟩
      · rw [decide_eq_false nw]
        refine iteT (q_dput (v := .bl true) rfl Evl.ev_c c'.1 (slj _ _) fun H1 x1 => ?_)
        rw [cur_bad]
        rcases k with ⟨_, k⟩ | ⟨h, _⟩
        · exact k _ ((k'.trans (Kp.of x1)).put cin) ((c'.mono x1).put c'.2.1)
        · have h1 := h.1
          rw [hb.1] at h1
          cases h1
      · rcases k with ⟨h, _⟩ | ⟨_, k⟩
        · have h1 := h.1
          rw [hb.1] at h1
          cases h1
        unfold pWord at k
        rw [← et] at k
        by_cases hm : sS t ∈ ws
        · rw [decide_eq_true hm]
          have hne : t ≠ [] := fun q => nw (by rw [q] at hm; exact hm)
          rw [if_pos ⟨hm, hne⟩] at k
          exact iteF ⟨_, rfl, k H' k' c'⟩
        · rw [decide_eq_false hm]
          rw [if_neg (fun q => hm q.1)] at k
          refine iteT (q_dput (v := .bl true) rfl Evl.ev_c c'.1 (slj _ _) fun H1 x1 => ?_)
          rw [cur_bad]
          exact k _ ((k'.trans (Kp.of x1)).put cin) ((c'.mono x1).put c'.2.1)
end
end Lx
set_option Elab.async false
set_option linter.all false
set_option maxRecDepth 100000
set_option maxHeartbeats 4000000
namespace Lx
open PySem PySem.Spec PyProof.Rows L2 Pz
section
variable {P : Program} {w : World} {K : PySem.W.Frag} {mg : Str → Option Value} {base : Heap}
/-- what a part of the law's reader leaves: none behind something wrong -/
def LGot {α : Type} (H : Hp) (c : Addr) (z : Str) (res : Except Nat (α × Nat)) (Q : Option α → Hp → Prop) : Prop := match res with
  | .ok (a, j) => ∀ H', Kp [c] H H' → CurAt H' c z j false → Q (some a) H'
  | .error j => ∀ H', Kp [c] H H' → CurAt H' c z j true → Q none H'
def spLNum (K : PySem.W.Frag) : Sp := fun vs H Q _ => ∃ c z i lo hi, vs = [.ref c, .int lo, .int hi] ∧ -100 ≤ lo ∧ hi ≤ 100 ∧ lo ≤ hi ∧ ((CurAt H c z i true ∧ ∀ H', Kp [c] H H' → CurAt H' c z i true → Q (.int 0) H') ∨
  (CurAt H c z i false ∧ LGot H c z (bnd (gapU (cs z) i) fun _ i => pNum (cs z) lo hi i) (fun o H' => Q (.int (o.getD 0)) H')))
theorem ok__law_number (T : TT K mg base) : Ok P w K mg base 3 (He.ga K "_law_number") ["_law_cur", "_law_low", "_law_high"] [] (spLNum K) := by
  refine ok_mk T.f__law_number sc__law_number (fun vs H Q E h => ?_) (fun _ _ _ _ _ _ us hl => match us, hl with | [_, _, _], _ => rfl) (fun cdv A outer s H vs Q E hr h => ?_)
  · obtain ⟨c, z, i, lo, hi, rfl, _⟩ := h
    rfl
  · obtain ⟨c, z, i, lo, hi, rfl, h1, h2, h3, k⟩ := h
    refine ⟨_, (Evl.pss_cut (ps_expr (po_call (ok__law_gap T) (hr.mono (by decide)) rfl T.g__law_gap px_of (pa_cons (pv 0) pa_nil)))
      (Evl.pss_cut (ps_set (i := 3) sc__law_number.nd rfl (by first | exact Or.inl rfl | exact Or.inr rfl) (po_call (ok__law_word T) (hr.mono (by decide)) rfl T.g__law_word px_of (pa_cons (pv 0) (pa_cons (pe_lcB s H (own := [("_law_number_here", 4)]) rfl sc__law_number.nd (pi_range2 rfl T.b_range (pa_cons (pv 1) (pa_cons (pe_op op_add (pv 2) pe_int) pa_nil))) (blkOk_by (own := [("_law_number_here", 4)]) (N := nm__law_number) (sc := defScope s__law_number) (by decide +kernel)) (fun _ _ _ _ _ => (pg_name (i := 4) sc__law_number.nd rfl (by first | exact Or.inl rfl | exact Or.inr rfl))) (fun _ _ _ _ _ => pts_nil) (fun _ _ _ _ _ => (pe_callTy call_str_int (by rfl) T.b_str (by decide +kernel) (pa_cons (pv 4) pa_nil)))) pa_nil))))
      (pss_one (ps_ret (pe_ifExp (pt_val (pe_dget (hu1 hr) (pv 0) pe_str (fun _ _ => rfl))) pe_int (pe_callTy call_int_str (by rfl) T.b_int (by decide +kernel) (pa_cons (pv 3) pa_nil))))))), ?_⟩
    have wsm : ∀ v ∈ nums lo hi, 1 ≤ v.length ∧ v.length ≤ 50 := fun v hv => by
      obtain ⟨n, hn1, hn2, rfl⟩ := mem_nums hv
      have hf := num_fact (n := n) (by omega) (by omega)
      refine ⟨?_, Nat.le_trans hf.1 (by decide)⟩
      rcases Nat.eq_zero_or_pos (toString n : Str).length with e | e
      · have e2 : (toString n : Str) = sS [] := cs_inj (by rw [cs_sS]; exact List.length_eq_zero_iff.mp (by rw [cs_len]; exact e))
        rw [e2] at hf
        have hb : intText? (sS []) = none := by decide +kernel
        rw [hb] at hf
        cases hf.2
      · exact e
    have wl : (nums lo hi).length ≤ 1000 := by
      unfold nums
      rw [List.length_map, List.length_range]
      omega
    refine ⟨fun σ H1 => ∃ i1 b, σ = [some (.ref c), some (.int lo), some (.int hi), none, none] ∧ Kp [c] H H1 ∧ CurAt H1 c z i1 b ∧ ((b = true ∧ ∀ H', Kp [c] H H' → CurAt H' c z i1 true → Q (.int 0) H') ∨ (b = false ∧ LGot H c z (pNum (cs z) lo hi i1) (fun o H' => Q (.int (o.getD 0)) H'))), ?_, ?_⟩
    · refine ⟨_, rfl, c, z, i, rfl, ?_⟩
      rcases k with ⟨hc, k⟩ | ⟨hc, k⟩
      · exact .inl ⟨hc, fun H' k' c' => ⟨i, true, rfl, k', c', .inl ⟨rfl, k⟩⟩⟩
      · refine .inr ⟨hc, ?_⟩
        cases hg : pGap (cs z) i with
        | ok j =>
          have e : gapU (cs z) i = .ok ((), j) := by
            unfold gapU
            rw [hg]
            rfl
          rw [e, bnd_of] at k
          exact fun H' k' c' => ⟨j, false, rfl, k', c', .inr ⟨rfl, k⟩⟩
        | error j =>
          have e : gapU (cs z) i = .error j := by
            unfold gapU
            rw [hg]
            rfl
          rw [e] at k
          exact fun H' k' c' => ⟨j, true, rfl, k', c', .inl ⟨rfl, k⟩⟩
    · rintro σ H1 ⟨i1, b, rfl, k1, c1, hb⟩
      refine ⟨fun σ H2 => ∃ w : Str, σ = [some (.ref c), some (.int lo), some (.int hi), some (.str w), none] ∧ ∃ j d, CurAt H2 c z j d ∧ ((d = true ∧ Q (.int 0) H2) ∨ (d = false ∧ ∃ n, intText? w = some n ∧ w.length ≤ 640 ∧ Q (.int n) H2)), ?_, ?_⟩
      · refine ⟨_, rfl, _, rfl, _, rfl, _, _, rfl, rfl, lo, hi + 1, rfl, ⟨by omega, by omega, by omega, by omega⟩, fun D hD => ?_⟩
        refine lcR_fm (fun _ => true) strOf hD (by omega) (fun x => rfl) (fun x hx => ev_yes) (fun x hx _ => ?_) (fun H2 x2 e2 => ?_)
        · obtain ⟨n, hn, rfl⟩ := List.mem_map.mp hx
          have hn2 := List.mem_range.mp hn
          exact fun H2 x2 Q' q' => ⟨_, rfl, _, rfl, log_small (by omega) (by omega), q' H2 (Evl.Ex.refl H2)⟩
        · rw [List.filter_eq_self.mpr (fun _ _ => rfl), nums_map] at e2
          have c2 := c1.mono x2
          have k2 := k1.trans (Kp.of x2)
          refine ⟨c, D, z, i1, nums lo hi, rfl, SqL.of e2, wl, wsm, ?_⟩
          rcases hb with ⟨rfl, hb⟩ | ⟨rfl, hb⟩
          · exact .inl ⟨c2, fun H' k' c' => ⟨_, rfl, i1, true, c', .inl ⟨rfl, hb H' (k2.trans k') c'⟩⟩⟩
          · refine .inr ⟨c2, ?_⟩
            unfold pNum at hb
            cases hw : pWord (cs z) (nums lo hi) i1 with
            | ok p =>
              obtain ⟨v, j⟩ := p
              rw [hw] at hb
              intro H' k' c'
              obtain ⟨hm, _⟩ := pWord_ok hw
              obtain ⟨n, hn1, hn2, rfl⟩ := mem_nums hm
              have hf := num_fact (n := n) (by omega) (by omega)
              have k3 := hb H' (k2.trans k') c'
              rw [numV_of (by omega) (by omega)] at k3
              exact ⟨_, rfl, j, false, c', .inr ⟨rfl, n, hf.2, Nat.le_trans hf.1 (by decide), k3⟩⟩
            | error j =>
              rw [hw] at hb
              exact fun H' k' c' => ⟨_, rfl, j, true, c', .inl ⟨rfl, hb H' (k2.trans k') c'⟩⟩
      · rintro σ H2 ⟨w, rfl, j, d, c2, hb⟩
        refine ⟨_, rfl, c, _, rfl, .inl ⟨_, .inr "bad", .inl c2.1, rfl, rfl⟩, _, rfl, ?_⟩
        rcases hb with ⟨rfl, hb⟩ | ⟨rfl, n, hn, hl, hb⟩
        · exact iteT hb
        · exact iteF ⟨_, rfl, w, n, rfl, hn, hl, hb⟩
end
end Lx
set_option Elab.async false
set_option linter.all false
set_option maxRecDepth 100000
set_option maxHeartbeats 4000000
namespace Lx
open PySem PySem.Spec PyProof.Rows L2 Pz
section
variable {P : Program} {w : World} {K : PySem.W.Frag} {mg : Str → Option Value} {base : Heap}
/-- where the law's cursor stands: at a place, or behind the wrong place -/
def PosAt (H : Hp) (c : Addr) (z : Str) (r : Except Nat Nat) : Prop := match r with
  | .ok i => CurAt H c z i false
  | .error j => CurAt H c z j true
def stp {α : Type} (r : Except Nat Nat) (f : Nat → Except Nat (α × Nat)) : Except Nat (α × Nat) := match r with
  | .ok i => f i
  | .error j => .error j
def posOf {α : Type} (q : Except Nat (α × Nat)) : Except Nat Nat := match q with
  | .ok p => .ok p.2
  | .error j => .error j
def valOf {α : Type} (d : α) (q : Except Nat (α × Nat)) : α := match q with
  | .ok p => p.1
  | .error _ => d
theorem PosAt.mono {H H' : Hp} {c : Addr} {z : Str} {r : Except Nat Nat} (h : PosAt H c z r) (e : Ex H H') : PosAt H' c z r := by
  cases r with
  | ok i => exact CurAt.mono h e
  | error j => exact CurAt.mono h e
theorem lgap_of {H : Hp} {c : Addr} {z : Str} {r : Except Nat Nat} {Q : VK} {E : XK} (h : PosAt H c z r) (k : ∀ H', Kp [c] H H' → PosAt H' c z (posOf (stp r (gapU (cs z)))) → Q .non H') : spLGap K [.ref c] H Q E := by
  cases r with
  | error j => exact ⟨c, z, j, rfl, .inl ⟨h, k⟩⟩
  | ok i =>
    refine ⟨c, z, i, rfl, .inr ⟨h, ?_⟩⟩
    have e : stp (.ok i) (gapU (cs z)) = gapU (cs z) i := rfl
    rw [e] at k
    unfold gapU at k
    cases hg : pGap (cs z) i with
    | ok j =>
      rw [hg] at k
      exact k
    | error j =>
      rw [hg] at k
      exact k
theorem lword_of {H : Hp} {c a : Addr} {z : Str} {ws : List Str} {r : Except Nat Nat} {Q : VK} {E : XK} (h : PosAt H c z r) (ha : SqL K H a (ws.map V.str)) (hl : ws.length ≤ 1000) (hw : ∀ w ∈ ws, 1 ≤ w.length ∧ w.length ≤ 50)
    (k : ∀ H', Kp [c] H H' → PosAt H' c z (posOf (stp r (pWord (cs z) ws))) → Q (.str (valOf ("" : Str) (stp r (pWord (cs z) ws)))) H') : spLWord K [.ref c, .ref a] H Q E := by
  cases r with
  | error j => exact ⟨c, a, z, j, ws, rfl, ha, hl, hw, .inl ⟨h, k⟩⟩
  | ok i =>
    refine ⟨c, a, z, i, ws, rfl, ha, hl, hw, .inr ⟨h, ?_⟩⟩
    have e : stp (.ok i) (pWord (cs z) ws) = pWord (cs z) ws i := rfl
    rw [e] at k
    cases hg : pWord (cs z) ws i with
    | ok p =>
      rw [hg] at k
      exact k
    | error j =>
      rw [hg] at k
      exact k
theorem lnum_of {H : Hp} {c : Addr} {z : Str} {lo hi : Int} {r : Except Nat Nat} {Q : VK} {E : XK} (h : PosAt H c z r) (h1 : -100 ≤ lo) (h2 : hi ≤ 100) (h3 : lo ≤ hi)
    (k : ∀ H', Kp [c] H H' → PosAt H' c z (posOf (stp r fun i => bnd (gapU (cs z) i) fun _ i => pNum (cs z) lo hi i)) → Q (.int (valOf (0 : Int) (stp r fun i => bnd (gapU (cs z) i) fun _ i => pNum (cs z) lo hi i))) H') : spLNum K [.ref c, .int lo, .int hi] H Q E := by
  cases r with
  | error j => exact ⟨c, z, j, lo, hi, rfl, h1, h2, h3, .inl ⟨h, k⟩⟩
  | ok i =>
    refine ⟨c, z, i, lo, hi, rfl, h1, h2, h3, .inr ⟨h, ?_⟩⟩
    have e : (stp (.ok i) fun i => bnd (gapU (cs z) i) fun _ i => pNum (cs z) lo hi i) = bnd (gapU (cs z) i) fun _ i => pNum (cs z) lo hi i := rfl
    rw [e] at k
    cases hg : (bnd (gapU (cs z) i) fun _ i => pNum (cs z) lo hi i) with
    | ok p =>
      rw [hg] at k
      exact k
    | error j =>
      rw [hg] at k
      exact k
abbrev numG (l : Cs) (lo hi : Int) (i : Nat) : Except Nat (Int × Nat) := bnd (gapU l i) fun _ i => pNum l lo hi i
theorem nums_cons (l : Cs) (b : Int × Int) (bs : List (Int × Int)) (i : Nat) : pNums l (b :: bs) i = bnd (numG l b.1 b.2 i) fun n i => bnd (pNums l bs i) fun ns i => .ok (n :: ns, i) := by
  unfold numG
  rw [bnd_bnd]
  rfl
theorem nums_pos (l : Cs) (b : Int × Int) (bs : List (Int × Int)) (r : Except Nat Nat) : posOf (stp r (pNums l (b :: bs))) = posOf (stp (posOf (stp r (numG l b.1 b.2))) (pNums l bs)) := by
  cases r with
  | error j => rfl
  | ok i =>
    show posOf (pNums l (b :: bs) i) = posOf (stp (posOf (numG l b.1 b.2 i)) (pNums l bs))
    rw [nums_cons]
    cases numG l b.1 b.2 i with
    | error j => rfl
    | ok p =>
      show posOf (bnd (pNums l bs p.2) fun ns i => .ok (p.1 :: ns, i)) = posOf (pNums l bs p.2)
      cases pNums l bs p.2 <;> rfl
theorem nums_val (l : Cs) (b : Int × Int) (bs : List (Int × Int)) (r : Except Nat Nat) {i : Nat} (h : posOf (stp r (pNums l (b :: bs))) = .ok i) :
    valOf [] (stp r (pNums l (b :: bs))) = valOf 0 (stp r (numG l b.1 b.2)) :: valOf [] (stp (posOf (stp r (numG l b.1 b.2))) (pNums l bs)) := by
  cases r with
  | error j => cases h
  | ok i =>
    have h : posOf (pNums l (b :: bs) i) = _ := h
    show valOf [] (pNums l (b :: bs) i) = valOf 0 (numG l b.1 b.2 i) :: valOf [] (stp (posOf (numG l b.1 b.2 i)) (pNums l bs))
    rw [nums_cons] at h ⊢
    cases e : numG l b.1 b.2 i with
    | error j =>
      rw [e] at h
      cases h
    | ok p =>
      rw [e] at h
      have h : posOf (bnd (pNums l bs p.2) fun ns i => .ok (p.1 :: ns, i)) = _ := h
      show valOf [] (bnd (pNums l bs p.2) fun ns i => .ok (p.1 :: ns, i)) = p.1 :: valOf [] (pNums l bs p.2)
      cases e2 : pNums l bs p.2 with
      | error j =>
        rw [e2] at h
        cases h
      | ok q => rfl
theorem nums_nil (l : Cs) (r : Except Nat Nat) : posOf (stp r (pNums l [])) = r := by cases r <;> rfl
theorem nums_nilv (l : Cs) (r : Except Nat Nat) : valOf [] (stp r (pNums l [])) = [] := by cases r <;> rfl
/-- behind the three first numbers of a condition -/
def q3 (l : Cs) (i : Nat) : Except Nat Nat := posOf (stp (posOf (stp (posOf (stp (.ok i) (numG l (-2) 2))) (numG l (-2) 2))) (numG l (-9) 9))
def n3 (l : Cs) (i : Nat) : List Int := [valOf (0 : Int) (stp (.ok i) (numG l (-2) 2)), valOf (0 : Int) (stp (posOf (stp (.ok i) (numG l (-2) 2))) (numG l (-2) 2)), valOf (0 : Int) (stp (posOf (stp (posOf (stp (.ok i) (numG l (-2) 2))) (numG l (-2) 2))) (numG l (-9) 9))]
theorem nums3 (l : Cs) (i : Nat) (bs : List (Int × Int)) : posOf (stp (.ok i) (pNums l ((-2, 2) :: (-2, 2) :: (-9, 9) :: bs))) = posOf (stp (q3 l i) (pNums l bs)) := by
  rw [nums_pos, nums_pos, nums_pos]
  rfl
theorem nums3v (l : Cs) (i : Nat) (bs : List (Int × Int)) {j : Nat} (h : posOf (stp (.ok i) (pNums l ((-2, 2) :: (-2, 2) :: (-9, 9) :: bs))) = .ok j) : valOf [] (stp (.ok i) (pNums l ((-2, 2) :: (-2, 2) :: (-9, 9) :: bs))) = n3 l i ++ valOf [] (stp (q3 l i) (pNums l bs)) := by
  have h1 := nums_val l _ _ _ h
  rw [nums_pos] at h
  have h2 := nums_val l _ _ _ h
  rw [nums_pos] at h
  have h3 := nums_val l _ _ _ h
  rw [h1, h2, h3]
  rfl
theorem pos_err {α : Type} (j : Nat) (f : Nat → Except Nat (α × Nat)) : posOf (stp (.error j) f) = .error j := rfl
theorem pos_bad {α : Type} {r : Except Nat Nat} {f : Nat → Except Nat (α × Nat)} {i : Nat} (h : posOf (stp r f) = .ok i) : ∃ j a, r = .ok j ∧ f j = .ok (a, i) ∧ ∀ d, valOf d (stp r f) = a := by
  cases r with
  | error j => cases h
  | ok j =>
    have h : posOf (f j) = .ok i := h
    refine ⟨j, ?_⟩
    show ∃ a, Except.ok j = .ok j ∧ f j = .ok (a, i) ∧ ∀ d, valOf d (f j) = a
    cases e : f j with
    | error k =>
      rw [e] at h
      cases h
    | ok p =>
      rw [e] at h
      have h : p.2 = i := Except.ok.inj h
      obtain ⟨a, b⟩ := p
      cases h
      exact ⟨a, rfl, rfl, fun _ => rfl⟩
theorem PosAt.bad {H : Hp} {c : Addr} {z : Str} {r : Except Nat Nat} (h : PosAt H c z r) : ∃ i b, CurAt H c z i b ∧ (b = true → r = .error i) ∧ (b = false → r = .ok i) := by
  cases r with
  | ok i => exact ⟨i, false, h, fun q => (by cases q), fun _ => rfl⟩
  | error i => exact ⟨i, true, h, fun _ => rfl, fun q => (by cases q)⟩
theorem pos_odd {H : Hp} {c : Addr} {z : Str} {r : Except Nat Nat} (h : PosAt H c z r) : ∀ p ∈ [c], ∃ u, H p = some u ∧ Odd u := by
  obtain ⟨i, b, hc, _⟩ := h.bad
  exact odd1 hc.1 (.inr (.inr ⟨_, rfl⟩))
theorem lst_pos {H H' : Hp} {c l : Addr} {z : Str} {r : Except Nat Nat} {xs : List V} (k : Kp [c] H H') (h : PosAt H c z r) (hl : H l = some (.lst xs)) : H' l = some (.lst xs) := by
  obtain ⟨i, b, hc, _⟩ := h.bad
  refine k _ _ (fun m => ?_) hl
  rw [List.mem_singleton.mp m, hc.1] at hl
  cases hl
theorem PosAt.kp {H H' : Hp} {c : Addr} {z : Str} {r : Except Nat Nat} {ms : List Addr} (h : PosAt H c z r) (k : Kp ms H H') (n : c ∉ ms) : PosAt H' c z r := by
  cases r with
  | ok i => exact ⟨k _ _ n h.1, h.2⟩
  | error i => exact ⟨k _ _ n h.1, h.2⟩
theorem PosAt.ne {H : Hp} {c l : Addr} {z : Str} {r : Except Nat Nat} (h : PosAt H c z r) {o : HO} (hl : H l = some o) (n : ∀ kk, o ≠ .dK kk) : c ≠ l := fun q => by
  obtain ⟨i, b, hc, _⟩ := h.bad
  rw [← q, hc.1] at hl
  exact n _ (Option.some.inj hl).symm
theorem ev_bad {σ : L2.St} {H : Hp} {c : Addr} {z : Str} {i j : Nat} {b : Bool} (hs : σ[j]? = some (some (.ref c))) (h : CurAt H c z i b) : Evl.EvT (tTest (tDGet (tVar j) (tC (.str "bad")))) σ H b := Evl.et_test (ev_dk (Evl.ev_var hs) (.inl h.1) cur_b)
def cWs (n : Nat) : List Str := (if n < 4 then [("least" : Str), ("rest" : Str)] else []) ++ (if n ≠ 0 then [("go" : Str)] else [])
theorem cWords_cWs (cl : List CondM) : cWords cl = cWs cl.length := by
  unfold cWords cWs
  cases cl with
  | nil => rfl
  | cons a b =>
    have h : a :: b ≠ [] := List.cons_ne_nil _ _
    have h2 : (a :: b).length ≠ 0 := by simp
    rw [if_pos h, if_pos h2]
theorem cWs_ok (n : Nat) : (cWs n).length ≤ 1000 ∧ ∀ w ∈ cWs n, 1 ≤ w.length ∧ w.length ≤ 50 := by
  have h : ∀ b c : Bool, (((if b = true then [("least" : Str), ("rest" : Str)] else []) ++ (if c = true then [("go" : Str)] else [])).length ≤ 1000 ∧ ∀ w ∈ ((if b = true then [("least" : Str), ("rest" : Str)] else []) ++ (if c = true then [("go" : Str)] else [])), 1 ≤ w.length ∧ w.length ≤ 50) := by decide +kernel
  have h := h (decide (n < 4)) (decide (n ≠ 0))
  unfold cWs
  by_cases h1 : n < 4 <;> by_cases h2 : n ≠ 0 <;> simp [h1, h2] at h ⊢ <;> exact h
theorem conds_step {l : Cs} {k : Nat} {cl : List CondM} {w : Str} {i : Nat} {R : Except Nat (List CondM × Nat)} (hR : pCondsT l (k + 1) cl w i = R) {q : Except Nat Nat} (h : posOf (stp (.ok i) (pNums l (bounds w))) = q) :
    (∃ e, q = .error e ∧ posOf R = .error e) ∨ (∃ i3, q = .ok i3 ∧ pConds l k (cl ++ [(w, valOf [] (stp (.ok i) (pNums l (bounds w))))]) i3 = R) := by
  have h : posOf (pNums l (bounds w) i) = q := h
  show (∃ e, q = .error e ∧ posOf R = .error e) ∨ (∃ i3, q = .ok i3 ∧ pConds l k (cl ++ [(w, valOf [] (pNums l (bounds w) i))]) i3 = R)
  unfold pCondsT at hR
  cases e : pNums l (bounds w) i with
  | error j =>
    rw [e] at h hR
    exact .inl ⟨j, h.symm, by rw [← hR]; rfl⟩
  | ok p =>
    rw [e] at h hR
    exact .inr ⟨p.2, h.symm, hR⟩
section
variable {σ : L2.St} {H : Hp} {c : Addr} {z : Str} {r : Except Nat Nat} {E : XK} {D : Ends} {tz : TS} {i : Nat} {Q : VK} {te tlo thi : TE} {ws : List Str} {lo hi : Int}
theorem q_gap (hs : σ[i]? = some (some (.ref c))) (h : PosAt H c z r) (k : ∀ H', Kp [c] H H' → PosAt H' c z (posOf (stp r (gapU (cs z)))) → tz D σ H') : tSeq (tDrop (tCall (spLGap K) [] E (tCons (tVar i) tNil))) tz D σ H :=
  ⟨_, hs, lgap_of (K := K) (Q := fun _ H1 => tz D σ H1) (E := E) h fun H' a b => k H' a b⟩
theorem c_word (hs : σ[i]? = some (some (.ref c))) (h : PosAt H c z r) (ht : Evl.EvL te σ H (ws.map V.str)) (hl : ws.length ≤ 1000) (hw : ∀ w ∈ ws, 1 ≤ w.length ∧ w.length ≤ 50)
    (k : ∀ H', Kp [c] H H' → PosAt H' c z (posOf (stp r (pWord (cs z) ws))) → Q (.str (valOf ("" : Str) (stp r (pWord (cs z) ws)))) H') : tCall (spLWord K) [] E (tCons (tVar i) (tCons te tNil)) σ H Q :=
  ⟨_, hs, ht H (Evl.Ex.refl H) _ fun p H2 _ x2 e2 => lword_of (K := K) (Q := Q) (E := E) (h.mono x2) (SqL.of e2) hl hw fun H' k' p' => k H' ((Kp.of x2).trans k') p'⟩
theorem c_wordV {a : Addr} (hs : σ[i]? = some (some (.ref c))) (h : PosAt H c z r) (ht : Evl.Ev te σ H (.ref a)) (ha : SqL K H a (ws.map V.str)) (hl : ws.length ≤ 1000) (hw : ∀ w ∈ ws, 1 ≤ w.length ∧ w.length ≤ 50)
    (k : ∀ H', Kp [c] H H' → PosAt H' c z (posOf (stp r (pWord (cs z) ws))) → Q (.str (valOf ("" : Str) (stp r (pWord (cs z) ws)))) H') : tCall (spLWord K) [] E (tCons (tVar i) (tCons te tNil)) σ H Q :=
  ⟨_, hs, ht H (Evl.Ex.refl H) _ fun H2 x2 => lword_of (K := K) (Q := Q) (E := E) (h.mono x2) (sl_mono x2 ha) hl hw fun H' k' p' => k H' ((Kp.of x2).trans k') p'⟩
theorem c_num (hs : σ[i]? = some (some (.ref c))) (h : PosAt H c z r) (hlo : Evl.Ev tlo σ H (.int lo)) (hhi : Evl.Ev thi σ H (.int hi)) (h1 : -100 ≤ lo) (h2 : hi ≤ 100) (h3 : lo ≤ hi)
    (k : ∀ H', Kp [c] H H' → PosAt H' c z (posOf (stp r (numG (cs z) lo hi))) → Q (.int (valOf (0 : Int) (stp r (numG (cs z) lo hi)))) H') : tCall (spLNum K) [] E (tCons (tVar i) (tCons tlo (tCons thi tNil))) σ H Q :=
  ⟨_, hs, hlo H (Evl.Ex.refl H) _ fun H2 x2 => hhi H2 x2 _ fun H3 x3 => lnum_of (K := K) (Q := Q) (E := E) ((h.mono x2).mono x3) h1 h2 h3 fun H' k' p' => k H' (((Kp.of x2).trans (Kp.of x3)).trans k') p'⟩
theorem q_asgC {j : Nat} (h : te σ H fun v H1 => tz D (σ.set j (some v)) H1) : tSeq (tAsg te (gName j)) tz D σ H := h
theorem a_cons {ta : TA} {QA : List V → Hp → Prop} (h : te σ H fun v H1 => ta σ H1 fun vs H2 => QA (v :: vs) H2) : tCons te ta σ H QA := h
end
def spLConds (K : PySem.W.Frag) : Sp := fun vs H Q _ => ∃ c z r, vs = [.ref c] ∧ PosAt H c z r ∧ ∀ t vals H', Kp [c] H H' → PosAt H' c z (posOf (stp r (pConds (cs z) 4 []))) → SqT K H' t vals →
  ((∃ i, posOf (stp r (pConds (cs z) 4 [])) = .ok i) → CondsAt K H' vals (valOf [] (stp r (pConds (cs z) 4 [])))) → Q (.ref t) H'
theorem ok__law_conditions_read (T : TT K mg base) : Ok P w K mg base 4 (He.ga K "_law_conditions_read") ["_law_cur"] [] (spLConds K) := by
  refine ok_mk T.f__law_conditions_read sc__law_conditions_read (fun vs H Q E h => ?_) (fun _ _ _ _ _ _ us hl => match us, hl with | [_], _ => rfl) (fun cdv A outer s H vs Q E hr h => ?_)
  · obtain ⟨c, z, r, rfl, _⟩ := h
    rfl
  · obtain ⟨c, z, r, rfl, hc, k⟩ := h
    refine ⟨_, (pss_cons (ps_set (i := 1) sc__law_conditions_read.nd rfl (by first | exact Or.inl rfl | exact Or.inr rfl) (pe_lst pa_nil))
      (Evl.pss_cut (ps_for po_own rfl (pi_range1 rfl T.b_range (pa_cons pe_int pa_nil)) (pg_name (i := 2) sc__law_conditions_read.nd rfl (by first | exact Or.inl rfl | exact Or.inr rfl))
      (pss_cons (ps_expr (po_call (ok__law_gap T) (hr.mono (by decide)) rfl T.g__law_gap px_of (pa_cons (pv 0) pa_nil)))
      (pss_cons (ps_set (i := 3) sc__law_conditions_read.nd rfl (by first | exact Or.inl rfl | exact Or.inr rfl) (po_call (ok__law_word T) (hr.mono (by decide)) rfl T.g__law_word px_of (pa_cons (pv 0) (pa_cons (pe_op op_cat (pe_op op_rep (pe_lst (pa_cons pe_str (pa_cons pe_str pa_nil))) (pe_callTy call_int1 (by rfl) T.b_int (by decide +kernel) (pa_cons (pe_cmpR op_lt (pe_callB call_len_seq (by rfl) T.b_len PySem.boot_len (pa_cons (pv 1) pa_nil)) pe_int (nomark _)) pa_nil))) (pe_op op_rep (pe_lst (pa_cons pe_str pa_nil)) (pe_callTy call_int1 (by rfl) T.b_int (by decide +kernel) (pa_cons (pe_cmpR (op_neNil hr.units0) (pv 1) (pe_lst pa_nil) (nomark _)) pa_nil)))) pa_nil))))
      (pss_cons (ps_if (PW.pt (pw_or (pt_val (pe_dget (hu1 hr) (pv 0) pe_str (fun _ _ => rfl))) (pw_or1 (pt_cmpR op_eq (pv 3) pe_str (nomark _)))))
      (pss_one ps_break)
      pss_nil)
      (pss_cons (ps_set (i := 4) sc__law_conditions_read.nd rfl (by first | exact Or.inl rfl | exact Or.inr rfl) (pe_lst (pa_cons (pv 3) (pa_cons (po_call (ok__law_number T) (hr.mono (by decide)) rfl T.g__law_number px_of (pa_cons (pv 0) (pa_cons (pe_un un_neg pe_int) (pa_cons pe_int pa_nil)))) (pa_cons (po_call (ok__law_number T) (hr.mono (by decide)) rfl T.g__law_number px_of (pa_cons (pv 0) (pa_cons (pe_un un_neg pe_int) (pa_cons pe_int pa_nil)))) (pa_cons (po_call (ok__law_number T) (hr.mono (by decide)) rfl T.g__law_number px_of (pa_cons (pv 0) (pa_cons (pe_un un_neg pe_int) (pa_cons pe_int pa_nil)))) pa_nil))))))
      (Evl.pss_cut (ps_if (pt_cmpR op_eq (pv 3) pe_str (nomark _))
      (pss_one (ps_expr (pe_bm PySem.F.plainAttrs_list PySem.F.slot_list_append PySem.F.type_list_append mt_append (pv 4) (pa_cons (po_call (ok__law_number T) (hr.mono (by decide)) rfl T.g__law_number px_of (pa_cons (pv 0) (pa_cons pe_int (pa_cons pe_int pa_nil)))) pa_nil))))
      pss_nil)
      (pss_one (ps_expr (pe_bm PySem.F.plainAttrs_list PySem.F.slot_list_append PySem.F.type_list_append mt_append (pv 1) (pa_cons (pe_callTy call_tuple_of (by rfl) T.b_tuple (by decide +kernel) (pa_cons (pv 4) pa_nil)) pa_nil))))))))))
      (pss_one (ps_ret (pe_callTy call_tuple_of (by rfl) T.b_tuple (by decide +kernel) (pa_cons (pv 1) pa_nil)))))), ?_⟩
    refine Evl.q_asgL (xs := []) (Evl.el_lst Evl.ea_nil (by decide)) fun F H1 nF x1 eF => ?_
    generalize hR : stp r (pConds (cs z) 4 []) = R at k
    refine ⟨fun σ H' => ∃ (xs : List V) (s2 s3 s4 : Option V), σ = [some (.ref c), some (.ref F), s2, s3, s4] ∧ Kp [c] H H' ∧ PosAt H' c z (posOf R) ∧ H' F = some (.lst xs) ∧ xs.length ≤ 6 ∧ ((∃ i, posOf R = .ok i) → CondsAt K H' xs (valOf [] R)), ?_, ?_⟩
    · refine ⟨6, rfl, by decide, by decide, ?_⟩
      refine for_range (lo := 0) (n := 6) (fun j σ H' => ∃ (xs : List V) (r' : Except Nat Nat) (s2 s3 s4 : Option V), σ = [some (.ref c), some (.ref F), s2, s3, s4] ∧ Kp [c] H H' ∧ PosAt H' c z r' ∧ H' F = some (.lst xs) ∧ xs.length ≤ j ∧
          ((∃ e, r' = .error e ∧ posOf R = .error e) ∨ (∃ i cl, r' = .ok i ∧ j ≤ 4 ∧ cl.length = j ∧ pConds (cs z) (4 - j) cl i = R ∧ CondsAt K H' xs cl)))
        ⟨[], r, none, none, none, rfl, Kp.of x1, hc.mono x1, eF, Nat.le_refl _, ?_⟩ (fun j σ H' hj q => ?_) (fun σ H' q => ?_)
      · cases r with
        | error e => exact .inl ⟨e, rfl, by rw [← hR]; rfl⟩
        | ok i => exact .inr ⟨i, [], rfl, Nat.zero_le _, rfl, hR, .nil⟩
      · obtain ⟨xs, r', s2, s3, s4, rfl, k', p', eF', lx, st⟩ := q
        refine q_gap rfl p' fun H2 k2 p2 => ?_
        have eF2 := lst_pos k2 p' eF'
        have kk2 := k'.trans k2
        generalize hr1 : posOf (stp r' (gapU (cs z))) = r1 at p2
        have nF2 : c ≠ F := p2.ne eF2 (by intros; intro q; cases q)
        have ew : (if decide ((xs.length : Int) < 4) = true then [V.str "least", .str "rest"] else []) ++ (if (if true = true then !xs.isEmpty else xs.isEmpty) = true then [V.str "go"] else []) = (cWs xs.length).map V.str := by
          unfold cWs
          have e1 : decide ((xs.length : Int) < 4) = decide (xs.length < 4) := by
            apply decide_eq_decide.mpr
            omega
          rw [e1]
          cases xs with
          | nil => rfl
          | cons a b =>
            by_cases h : (a :: b).length < 4
            · rw [decide_eq_true h, if_pos h]
              rfl
            · rw [decide_eq_false h, if_neg h]
              rfl
        refine q_asgC (c_word rfl p2 (ws := cWs xs.length) ?_ (cWs_ok _).1 (cWs_ok _).2 fun H4 k4 p4 => ?_)
        · rw [← ew]
          exact el_cat (el_repB (Evl.el_lst (Evl.ea_cons Evl.ev_c (Evl.ea_cons Evl.ev_c Evl.ea_nil)) (by decide)) (Evl.ev_op (Evl.ev_len (Evl.ev_var rfl) (SqL.of eF2)) Evl.ev_c Evl.rv_I0) (by decide)) (el_repB (Evl.el_lst (Evl.ea_cons Evl.ev_c Evl.ea_nil) (by decide)) (ev_nil true rfl (SqL.of eF2)) (by decide)) (by cases xs.isEmpty <;> cases decide ((xs.length : Int) < 4) <;> decide)
        have eF4 := lst_pos k4 p2 eF2
        have kk4 := kk2.trans k4
        have hst2 : (∃ e, posOf (stp r1 (pWord (cs z) (cWs xs.length))) = .error e ∧ posOf R = .error e) ∨ (∃ i2 cl, posOf (stp r1 (pWord (cs z) (cWs xs.length))) = .ok i2 ∧ j ≤ 4 ∧ cl.length = j ∧ valOf ("" : Str) (stp r1 (pWord (cs z) (cWs xs.length))) ∈ cWords cl ∧
            (if valOf ("" : Str) (stp r1 (pWord (cs z) (cWs xs.length))) = "go" then .ok (cl, i2) else pCondsT (cs z) (4 - j) cl (valOf ("" : Str) (stp r1 (pWord (cs z) (cWs xs.length)))) i2) = R ∧ CondsAt K H' xs cl) := by
          rcases st with ⟨e, rfl, hRe⟩ | ⟨i, cl, rfl, h4, hcl, hR', hC⟩
          · subst hr1
            exact .inl ⟨e, rfl, hRe⟩
          · have exl : cWs xs.length = cWords cl := by rw [cWords_cWs, hC.len]
            rw [exl]
            subst hr1
            rw [pConds_eq] at hR'
            show (∃ e, posOf (stp (posOf (gapU (cs z) i)) (pWord (cs z) (cWords cl))) = .error e ∧ posOf R = .error e) ∨ (∃ i2 cl2, posOf (stp (posOf (gapU (cs z) i)) (pWord (cs z) (cWords cl))) = .ok i2 ∧ j ≤ 4 ∧ cl2.length = j ∧ valOf ("" : Str) (stp (posOf (gapU (cs z) i)) (pWord (cs z) (cWords cl))) ∈ cWords cl2 ∧
              (if valOf ("" : Str) (stp (posOf (gapU (cs z) i)) (pWord (cs z) (cWords cl))) = "go" then .ok (cl2, i2) else pCondsT (cs z) (4 - j) cl2 (valOf ("" : Str) (stp (posOf (gapU (cs z) i)) (pWord (cs z) (cWords cl)))) i2) = R ∧ CondsAt K H' xs cl2)
            cases hg : gapU (cs z) i with
            | error e =>
              rw [hg] at hR'
              exact .inl ⟨e, rfl, by rw [← hR']; rfl⟩
            | ok p =>
              rw [hg] at hR'
              show (∃ e, posOf (pWord (cs z) (cWords cl) p.2) = .error e ∧ posOf R = .error e) ∨ (∃ i2 cl2, posOf (pWord (cs z) (cWords cl) p.2) = .ok i2 ∧ j ≤ 4 ∧ cl2.length = j ∧ valOf ("" : Str) (pWord (cs z) (cWords cl) p.2) ∈ cWords cl2 ∧
                (if valOf ("" : Str) (pWord (cs z) (cWords cl) p.2) = "go" then .ok (cl2, i2) else pCondsT (cs z) (4 - j) cl2 (valOf ("" : Str) (pWord (cs z) (cWords cl) p.2)) i2) = R ∧ CondsAt K H' xs cl2)
              have hR' : (bnd (pWord (cs z) (cWords cl) p.2) fun w i => if w = "go" then .ok (cl, i) else pCondsT (cs z) (4 - j) cl w i) = R := hR'
              cases hw : pWord (cs z) (cWords cl) p.2 with
              | error e =>
                rw [hw] at hR'
                exact .inl ⟨e, rfl, by rw [← hR']; rfl⟩
              | ok q =>
                rw [hw] at hR'
                exact .inr ⟨q.2, cl, rfl, h4, hcl, (pWord_ok (w := q.1) (j := q.2) hw).1, hR', hC⟩
        generalize posOf (stp r1 (pWord (cs z) (cWs xs.length))) = r2 at p4 hst2
        generalize valOf ("" : Str) (stp r1 (pWord (cs z) (cWs xs.length))) = wv at hst2
        obtain ⟨i2, b, c4, hb1, hb2⟩ := p4.bad
        refine Evl.q_when (Evl.et_or (ev_bad rfl c4) (fun _ => Evl.et_test (Evl.ev_op (Evl.ev_var rfl) Evl.ev_c (Evl.rv_eq rfl)))) (fun hbt H5 x5 => ?_) (fun hbf H5 x5 => ?_)
        · refine ⟨xs, _, _, _, rfl, kk4.trans (Kp.of x5), ?_, x5 _ _ eF4, by omega, ?_⟩
          · rcases hst2 with ⟨e, h1, h2⟩ | ⟨i3, cl, h1, _, _, _, h2, _⟩
            · rw [h2, ← h1]
              exact p4.mono x5
            · have hbn : b = false := by
                cases b with
                | false => rfl
                | true =>
                  rw [hb1 rfl] at h1
                  cases h1
              rw [hbn, Bool.false_or, decide_eq_true_eq] at hbt
              rw [if_pos (V.str.inj hbt)] at h2
              rw [← h2]
              show PosAt H5 c z (.ok i3)
              rw [← h1]
              exact p4.mono x5
          · rintro ⟨i4, h4⟩
            rcases hst2 with ⟨e, h1, h2⟩ | ⟨i3, cl, h1, _, _, _, h2, hC⟩
            · rw [h2] at h4
              cases h4
            · have hbn : b = false := by
                cases b with
                | false => rfl
                | true =>
                  rw [hb1 rfl] at h1
                  cases h1
              rw [hbn, Bool.false_or, decide_eq_true_eq] at hbt
              rw [if_pos (V.str.inj hbt)] at h2
              rw [← h2]
              show CondsAt K H5 xs cl
              exact conds_mono x5 (conds_odd k4 (pos_odd p2) (conds_odd k2 (pos_odd p') hC))
        · rw [Bool.or_eq_false_iff] at hbf
          obtain ⟨rfl, hbf⟩ := hbf
          have hne : wv ≠ "go" := fun q => of_decide_eq_false hbf (congrArg V.str q)
          have hr2 := hb2 rfl
          subst hr2
          obtain ⟨cl, hj4, hcl, hm, hR2, hC⟩ : ∃ cl, j ≤ 4 ∧ cl.length = j ∧ wv ∈ cWords cl ∧ pCondsT (cs z) (4 - j) cl wv i2 = R ∧ CondsAt K H' xs cl := by
            rcases hst2 with ⟨e, h1, h2⟩ | ⟨i3, cl, h1, h4, h5, h6, h2, hC⟩
            · cases h1
            · cases h1
              rw [if_neg hne] at h2
              exact ⟨cl, h4, h5, h6, h2, hC⟩
          obtain ⟨hwv, hj3⟩ : (wv = "least" ∨ wv = "rest") ∧ cl.length < 4 := by
            rcases cWords_mem hm with h | ⟨h, _⟩
            · exact h
            · exact absurd h hne
          have hCx : CondsAt K H5 xs cl := conds_mono x5 (conds_odd k4 (pos_odd p2) (conds_odd k2 (pos_odd p') hC))
          have p5 := p4.mono x5
          have eF5 := x5 _ _ eF4
          have kk5 := kk4.trans (Kp.of x5)
          clear hst2 hm hb1 hb2 hbf p4 p2 st hC eF4 eF2
          have ek : 4 - j = (3 - j) + 1 := by omega
          rw [ek] at hR2
          refine q_asgC (a_cons ⟨_, rfl, ?_⟩)
          refine a_cons (c_num rfl p5 (Evl.ev_un Evl.ev_c Evl.ru_neg) Evl.ev_c (by decide) (by decide) (by decide) fun H6 k6 p6 => ?_)
          refine a_cons (c_num rfl p6 (Evl.ev_un Evl.ev_c Evl.ru_neg) Evl.ev_c (by decide) (by decide) (by decide) fun H7 k7 p7 => ?_)
          refine a_cons (c_num rfl p7 (Evl.ev_un Evl.ev_c Evl.ru_neg) Evl.ev_c (by decide) (by decide) (by decide) fun H8 k8 p8 => ?_)
          refine ⟨of_decide_eq_true rfl, fun RW hRW => ?_⟩
          have p8 : PosAt H8 c z (q3 (cs z) i2) := p8
          have x9 := Evl.Ex.new (o := .lst (.str wv :: (n3 (cs z) i2).map V.int)) hRW
          have eF8 := lst_pos k8 p7 (lst_pos k7 p6 (lst_pos k6 p5 eF5))
          have hC8 := conds_odd k8 (pos_odd p7) (conds_odd k7 (pos_odd p6) (conds_odd k6 (pos_odd p5) hCx))
          have kk8 := ((kk5.trans k6).trans k7).trans k8
          have p9 := p8.mono x9
          have eF9 := x9 _ _ eF8
          have hC9 := conds_mono x9 hC8
          have kk9 := kk8.trans (Kp.of (ms := [c]) x9)
          have eR9 : upd H8 RW (.lst (.str wv :: (n3 (cs z) i2).map V.int)) RW = some (.lst (.str wv :: (n3 (cs z) i2).map V.int)) := upd_same
          have hcR : c ≠ RW := p9.ne eR9 (by intros; intro q; cases q)
          have hFR : F ≠ RW := fun q => by
            rw [← q, eF8] at hRW
            cases hRW
          have hR0 : H RW = none := fresh kk8 hRW (fun m => hcR (List.mem_singleton.mp m).symm)
          show Evl.tCut _ _ _ _ (upd H8 RW (.lst (.str wv :: (n3 (cs z) i2).map V.int)))
          generalize upd H8 RW (.lst (.str wv :: (n3 (cs z) i2).map V.int)) = H9 at p9 eF9 hC9 kk9 eR9 ⊢
          refine ⟨fun σ' HA => ∃ (q : Except Nat Nat) (its : List V) (s2 : Option V), σ' = [some (.ref c), some (.ref F), s2, some (.str wv), some (.ref RW)] ∧ Kp [c] H HA ∧ PosAt HA c z q ∧ HA F = some (.lst xs) ∧ HA RW = some (.lst its) ∧ posOf (stp (.ok i2) (pNums (cs z) (bounds wv))) = q ∧
            ((∃ i, q = .ok i) → its = .str wv :: (valOf [] (stp (.ok i2) (pNums (cs z) (bounds wv)))).map V.int) ∧ CondsAt K HA xs cl, ?_, ?_⟩
          · refine Evl.s_if (Evl.et_test (Evl.ev_op (Evl.ev_var rfl) Evl.ev_c (Evl.rv_eq rfl))) (fun hb HB xB => ?_) (fun hb HB xB => ?_)
            · have hb := V.str.inj (of_decide_eq_true hb)
              have eb : bounds wv = (-2, 2) :: (-2, 2) :: (-9, 9) :: [(2, 3)] := by
                unfold bounds
                rw [if_pos hb]
                rfl
              have pB := p9.mono xB
              have eRB := xB _ _ eR9
              refine ⟨_, rfl, .inl ⟨rfl, _, SqL.of eRB⟩, c_num rfl pB Evl.ev_c Evl.ev_c (by decide) (by decide) (by decide) fun HC kC pC => ⟨RW, _, _, rfl, rfl, lst_pos kC pB eRB, of_decide_eq_true rfl, ?_⟩⟩
              have kR : Kp [RW] HC (upd HC RW (.lst (.str wv :: (n3 (cs z) i2).map V.int ++ [.int (valOf (0 : Int) (stp (q3 (cs z) i2) (numG (cs z) 2 3)))]))) := (Kp.refl _ _).put (List.mem_singleton.mpr rfl)
              have hRC := lst_pos kC pB eRB
              refine ⟨_, _, _, rfl, ((kk9.trans (Kp.of xB)).trans kC).out kR hR0, pC.kp kR (by simpa using hcR), (upd_ne hFR).trans (lst_pos kC pB (xB _ _ eF9)), upd_same, ?_, ?_, conds_odd kR (odd_lst hRC) (conds_odd kC (pos_odd pB) (conds_mono xB hC9))⟩
              · rw [eb, nums3, nums_pos, nums_nil]
              · rintro ⟨i, hi⟩
                have hpos : posOf (stp (.ok i2) (pNums (cs z) ((-2, 2) :: (-2, 2) :: (-9, 9) :: [(2, 3)]))) = .ok i := by
                  rw [nums3, nums_pos, nums_nil]
                  exact hi
                rw [eb, nums3v _ _ _ hpos, nums_val _ _ _ _ (by rw [nums_pos, nums_nil]; exact hi), nums_nilv, List.map_append]
                rfl
            · have hb : ¬ wv = "rest" := fun q => of_decide_eq_false hb (congrArg V.str q)
              have eb : bounds wv = (-2, 2) :: (-2, 2) :: (-9, 9) :: [] := by
                unfold bounds
                rw [if_neg hb]
                rfl
              refine ⟨_, _, _, rfl, kk9.trans (Kp.of xB), p9.mono xB, xB _ _ eF9, xB _ _ eR9, ?_, ?_, conds_mono xB hC9⟩
              · rw [eb, nums3, nums_nil]
              · rintro ⟨i, hi⟩
                have hpos : posOf (stp (.ok i2) (pNums (cs z) ((-2, 2) :: (-2, 2) :: (-9, 9) :: []))) = .ok i := by
                  rw [nums3, nums_nil]
                  exact hi
                rw [eb, nums3v _ _ _ hpos, nums_nilv, List.append_nil]
          · rintro σ' HA ⟨q, its, s2', rfl, kA, pA, eFA, eRA, hq, hits, hCA⟩
            refine ⟨_, rfl, .inl ⟨rfl, _, SqL.of eFA⟩, _, rfl, RW, its, rfl, .inl ⟨SqL.of eRA, fun t ht => ?_⟩⟩
            have xt := Evl.Ex.new (o := .tup its) ht
            have eFt := xt _ _ eFA
            have hFH : H F = none := nF
            refine ⟨F, xs, _, rfl, rfl, eFt, Nat.lt_of_le_of_lt (show xs.length ≤ 100 by omega) (by decide), ?_⟩
            have kF : Kp [F] (upd HA t (.tup its)) (upd (upd HA t (.tup its)) F (.lst (xs ++ [.ref t]))) := (Kp.refl _ _).put (List.mem_singleton.mpr rfl)
            refine ⟨_, q, _, _, _, rfl, (kA.trans (Kp.of xt)).out kF hFH, (pA.mono xt).kp kF (by simpa using nF2), upd_same, by rw [List.length_append]; exact Nat.succ_le_succ lx, ?_⟩
            rcases conds_step hR2 hq with ⟨e, h1, h2⟩ | ⟨i3, h1, h2⟩
            · exact .inl ⟨e, h1, h2⟩
            · refine .inr ⟨i3, cl ++ [(wv, valOf [] (stp (.ok i2) (pNums (cs z) (bounds wv))))], h1, by omega, by rw [List.length_append, hcl]; rfl, ?_, (conds_odd kF (odd_lst eFt) (conds_mono xt hCA)).app (.cons ⟨t, rfl, st_odd kF (odd_lst eFt) (SqT.of ?_)⟩ .nil)⟩
              · have e9 : 4 - (j + 1) = 3 - j := by omega
                rw [e9]
                exact h2
              · rw [hits ⟨i3, h1⟩]
                exact upd_same
      · obtain ⟨xs, r', s2, s3, s4, rfl, k', p', eF', lx, st⟩ := q
        rcases st with ⟨e, rfl, hRe⟩ | ⟨i, cl, rfl, h4, _⟩
        · refine ⟨xs, s2, s3, s4, rfl, k', by rw [hRe]; exact p', eF', lx, fun ⟨i, q⟩ => ?_⟩
          rw [hRe] at q
          cases q
        · exact absurd h4 (by decide)
    · rintro σ H' ⟨xs, s2, s3, s4, rfl, k', p', eF', lx, hC⟩
      refine ⟨_, rfl, F, xs, rfl, .inl ⟨SqL.of eF', fun t ht => ?_⟩⟩
      have xt := Evl.Ex.new (o := .tup xs) ht
      exact k t xs _ (k'.trans (Kp.of xt)) (p'.mono xt) (SqT.of upd_same) fun h => conds_mono xt (hC h)
end
end Lx
set_option Elab.async false
set_option linter.all false
set_option maxRecDepth 100000
set_option maxHeartbeats 4000000
namespace Lx
open PySem PySem.Spec PyProof.Rows L2 Pz
section
variable {P : Program} {w : World} {K : PySem.W.Frag} {mg : Str → Option Value} {base : Heap}
theorem rules_some (g s : Str) : ∀ (ls : List LineM) (n : Nat), goalsOf ls = [] → (rulesGo g s (some g) ls).length + n = cntGo s n ls
  | [], n, _ => Nat.zero_add n
  | .goal h :: r, n, e => by cases e
  | .at_ t cs rd :: r, n, e => by
    show (if some g = some g ∧ t = s then LineM.at_ t cs rd :: rulesGo g s (some g) r else rulesGo g s (some g) r).length + n = cntGo s (if t = s then n + 1 else n) r
    by_cases c : t = s
    · rw [if_pos ⟨rfl, c⟩, if_pos c, ← rules_some g s r (n + 1) e, List.length_cons]
      omega
    · rw [if_neg (fun q => c q.2), if_neg c, ← rules_some g s r n e]
theorem rules_cnt (g s : Str) : ∀ (ls : List LineM) (n : Nat) (o : Option Str), (goalsOf ls).Nodup → (goalsOf ls).getLast? = some g → o ≠ some g → (rulesGo g s o ls).length = cntGo s n ls
  | [], n, o, _, h, _ => by cases h
  | .goal h :: r, n, o, nd, hl, ho => by
    show (rulesGo g s (some h) r).length = cntGo s 0 r
    have nd : (h :: goalsOf r).Nodup := nd
    have hl : (h :: goalsOf r).getLast? = some g := hl
    cases e : goalsOf r with
    | nil =>
      rw [e] at hl
      have : h = g := Option.some.inj hl
      subst this
      have := rules_some h s r 0 e
      omega
    | cons a b =>
      rw [List.getLast?_cons, e] at hl
      have hl2 : (goalsOf r).getLast? = some g := by
        rw [e]
        rw [← hl]
        simp [List.getLast?_cons]
      have hm : g ∈ goalsOf r := List.mem_of_getLast? hl2
      refine rules_cnt g s r 0 (some h) (List.nodup_cons.mp nd).2 hl2 (fun q => ?_)
      cases q
      exact (List.nodup_cons.mp nd).1 hm
  | .at_ t cs rd :: r, n, o, nd, hl, ho => by
    show (if o = some g ∧ t = s then LineM.at_ t cs rd :: rulesGo g s o r else rulesGo g s o r).length = cntGo s (if t = s then n + 1 else n) r
    rw [if_neg (fun q => ho q.1)]
    exact rules_cnt g s r _ o nd hl ho
theorem lastS_at {gs : List Str} (h : gs ≠ []) : ∃ g, gs.getLast? = some g ∧ atI (gs.map V.str) (-1) = some (.str g) := by
  have e := List.dropLast_concat_getLast h
  refine ⟨gs.getLast h, List.getLast?_eq_some_getLast h, ?_⟩
  conv => lhs; rw [← e]
  rw [List.map_append]
  exact atI_last _ _
/-! a line, step by step -/
theorem bnd_e {α β : Type} {e : Nat} {f : α → Nat → Except Nat (β × Nat)} : bnd (.error e) f = .error e := rfl
theorem bnd_o {α β : Type} {p : α × Nat} {f : α → Nat → Except Nat (β × Nat)} : bnd (.ok p) f = f p.1 p.2 := rfl
theorem stp_e {α : Type} {e : Nat} {f : Nat → Except Nat (α × Nat)} : stp (.error e) f = .error e := rfl
theorem stp_o {α : Type} {i : Nat} {f : Nat → Except Nat (α × Nat)} : stp (.ok i) f = f i := rfl
theorem pos_e {α : Type} {e : Nat} : posOf (.error e : Except Nat (α × Nat)) = .error e := rfl
theorem pos_o {α : Type} {p : α × Nat} : posOf (.ok p) = .ok p.2 := rfl
theorem val_e {α : Type} {d : α} {e : Nat} : valOf d (.error e) = d := rfl
theorem val_o {α : Type} {d : α} {p : α × Nat} : valOf d (.ok p) = p.1 := rfl
theorem line_goal {l : Cs} {sp : List Str} {rs : List RoadM} {ls : List LineM} {i : Nat} (hw : valOf ("" : Str) (pWord l (lineWords sp rs ls) i) = "goal") :
    posOf (pLine l sp rs ls i) = posOf (stp (posOf (stp (posOf (pWord l (lineWords sp rs ls) i)) (gapU l))) (pWord l (freshOf sp ls))) ∧
    ∀ ln j, pLine l sp rs ls i = .ok (ln, j) → ln = .goal (valOf ("" : Str) (stp (posOf (stp (posOf (pWord l (lineWords sp rs ls) i)) (gapU l))) (pWord l (freshOf sp ls)))) := by
  unfold pLine
  cases h1 : pWord l (lineWords sp rs ls) i with
  | error e => exact ⟨rfl, fun _ _ h => by cases h⟩
  | ok p =>
    rw [h1] at hw
    have hw : p.1 = "goal" := hw
    simp only [bnd_o, pos_o, stp_o]
    cases h2 : gapU l p.2 with
    | error e => exact ⟨rfl, fun _ _ h => by cases h⟩
    | ok q =>
      simp only [bnd_o, pos_o, stp_o]
      rw [if_pos hw]
      cases h3 : pWord l (freshOf sp ls) q.2 with
      | error e => exact ⟨rfl, fun _ _ h => by cases h⟩
      | ok v =>
        refine ⟨rfl, fun ln j h => ?_⟩
        have h : Except.ok (LineM.goal v.1, v.2) = (Except.ok (ln, j) : Except Nat (LineM × Nat)) := h
        injection h with h
        injection h with h _
        exact h.symm
/-- the conditions of a rule, behind if or go -/
def cndA (l : Cs) (w : Str) (r : Except Nat Nat) : Except Nat Nat := if w = "if" then posOf (stp r (pConds l 4 [])) else r
def cndB (l : Cs) (w : Str) (r : Except Nat Nat) : List CondM := if w = "if" then valOf [] (stp r (pConds l 4 [])) else []
def cndR (l : Cs) (r : Except Nat Nat) : Except Nat Nat := cndA l (valOf ("" : Str) (stp r (pWord l [("if" : Str), ("go" : Str)]))) (posOf (stp r (pWord l [("if" : Str), ("go" : Str)])))
def cndV (l : Cs) (r : Except Nat Nat) : List CondM := cndB l (valOf ("" : Str) (stp r (pWord l [("if" : Str), ("go" : Str)]))) (posOf (stp r (pWord l [("if" : Str), ("go" : Str)])))
theorem cndA_n (l : Cs) (r : Except Nat Nat) : cndA l "" r = r := by
  unfold cndA
  rw [if_neg (by decide)]
theorem cndR_e (l : Cs) (e : Nat) : cndR l (.error e) = .error e := by
  unfold cndR
  simp only [stp_e, val_e, pos_e]
  exact cndA_n l _
abbrev noR : List CondM × Str := ([], "")
theorem rule_stp (l : Cs) (roads : List Str) (r : Except Nat Nat) : posOf (stp r (pRule l roads)) = posOf (stp (posOf (stp (cndR l (posOf (stp r (gapU l)))) (gapU l))) (pWord l roads)) ∧
    ∀ i, posOf (stp r (pRule l roads)) = .ok i → valOf noR (stp r (pRule l roads)) = (cndV l (posOf (stp r (gapU l))), valOf ("" : Str) (stp (posOf (stp (cndR l (posOf (stp r (gapU l)))) (gapU l))) (pWord l roads))) := by
  cases r with
  | error e =>
    simp only [stp_e, pos_e, cndR_e]
    exact ⟨trivial, fun i h => by cases h⟩
  | ok i =>
    simp only [stp_o]
    unfold pRule
    cases h1 : gapU l i with
    | error e =>
      simp only [bnd_e, stp_e, pos_e, cndR_e]
      exact ⟨trivial, fun i h => by cases h⟩
    | ok p =>
      simp only [bnd_o, pos_o]
      unfold cndR cndV
      simp only [stp_o]
      cases h2 : pWord l [("if" : Str), ("go" : Str)] p.2 with
      | error e =>
        simp only [bnd_e, stp_e, pos_e, val_e, cndA_n]
        exact ⟨trivial, fun i h => by cases h⟩
      | ok q =>
        obtain ⟨wq, iq⟩ := q
        have hm := (pWord_ok h2).1
        have tailE : ∀ (cl : List CondM) (i3 : Nat), posOf (bnd (gapU l i3) fun _ i => bnd (pWord l roads i) fun r i => (Except.ok ((cl, r), i) : Except Nat ((List CondM × Str) × Nat))) = posOf (stp (posOf (gapU l i3)) (pWord l roads)) ∧
            ∀ j, posOf (bnd (gapU l i3) fun _ i => bnd (pWord l roads i) fun r i => (Except.ok ((cl, r), i) : Except Nat ((List CondM × Str) × Nat))) = .ok j → valOf noR (bnd (gapU l i3) fun _ i => bnd (pWord l roads i) fun r i => Except.ok ((cl, r), i)) = (cl, valOf ("" : Str) (stp (posOf (gapU l i3)) (pWord l roads))) := fun cl i3 => by
          cases gapU l i3 with
          | error e => exact ⟨rfl, fun i h => by cases h⟩
          | ok p4 =>
            simp only [bnd_o, pos_o, stp_o]
            cases pWord l roads p4.2 with
            | error e => exact ⟨rfl, fun i h => by cases h⟩
            | ok p5 => exact ⟨rfl, fun _ _ => rfl⟩
        simp only [bnd_o, pos_o, val_o, stp_o]
        unfold cndA cndB
        simp only [stp_o]
        rcases List.mem_cons.mp hm with rfl | hm
        · rw [if_neg (by decide), if_pos rfl, if_pos rfl]
          cases h3 : pConds l 4 [] iq with
          | error e => exact ⟨rfl, fun i h => by cases h⟩
          | ok p3 => exact tailE p3.1 p3.2
        · rw [List.mem_singleton.mp hm, if_pos rfl, if_neg (by decide), if_neg (by decide)]
          exact tailE [] iq
theorem line_at {l : Cs} {sp : List Str} {rs : List RoadM} {ls : List LineM} {i : Nat} (hw : valOf ("" : Str) (pWord l (lineWords sp rs ls) i) ≠ "goal") :
    ∀ (r7 r8 : Except Nat Nat) (s : Str), posOf (stp (posOf (pWord l (lineWords sp rs ls) i)) (gapU l)) = r7 → posOf (stp r7 (pWord l (opnOf sp rs ls))) = r8 → valOf ("" : Str) (stp r7 (pWord l (opnOf sp rs ls))) = s →
    posOf (pLine l sp rs ls i) = posOf (stp r8 (pRule l (namesAt rs s))) ∧
    ∀ ln j, pLine l sp rs ls i = .ok (ln, j) → ln = .at_ s (valOf noR (stp r8 (pRule l (namesAt rs s)))).1 (valOf noR (stp r8 (pRule l (namesAt rs s)))).2 := by
  intro r7 r8 s e7 e8 es
  subst e7 e8 es
  unfold pLine
  cases h1 : pWord l (lineWords sp rs ls) i with
  | error e => exact ⟨rfl, fun _ _ h => by cases h⟩
  | ok p =>
    rw [h1] at hw
    have hw : p.1 ≠ "goal" := hw
    simp only [bnd_o, pos_o, stp_o]
    cases h2 : gapU l p.2 with
    | error e => exact ⟨rfl, fun _ _ h => by cases h⟩
    | ok q =>
      simp only [bnd_o, pos_o, stp_o]
      rw [if_neg hw]
      cases h3 : pWord l (opnOf sp rs ls) q.2 with
      | error e => exact ⟨rfl, fun _ _ h => by cases h⟩
      | ok v =>
        simp only [bnd_o, pos_o, stp_o, val_o]
        cases pRule l (namesAt rs v.1) v.2 with
        | error e => exact ⟨rfl, fun _ _ h => by cases h⟩
        | ok u =>
          refine ⟨rfl, fun ln j h => ?_⟩
          have h : Except.ok (LineM.at_ v.1 u.1.1 u.1.2, u.2) = (Except.ok (ln, j) : Except Nat (LineM × Nat)) := h
          injection h with h
          injection h with h _
          exact h.symm
theorem line_nd {l : Cs} {sp : List Str} {rs : List RoadM} {ls : List LineM} {i j : Nat} {ln : LineM} (h : pLine l sp rs ls i = .ok (ln, j)) (nd : (goalsOf ls).Nodup) : (goalsOf (ls ++ [ln])).Nodup := by
  rw [goalsOf_app]
  unfold pLine at h
  obtain ⟨w, j1, e1, h⟩ := bnd_ok h
  obtain ⟨_, j2, e2, h⟩ := bnd_ok h
  split at h
  · obtain ⟨g, j3, e3, h⟩ := bnd_ok h
    injection h with h
    injection h with h _
    subst h
    have := (freshOf_mem (pWord_ok e3).1).2
    refine List.nodup_append.mpr ⟨nd, List.pairwise_singleton _ _, fun a ha b hb q => ?_⟩
    have hb : b ∈ [g] := hb
    rw [List.mem_singleton.mp hb] at q
    exact this (q ▸ ha)
  · obtain ⟨s, j3, e3, h⟩ := bnd_ok h
    obtain ⟨r, j4, e4, h⟩ := bnd_ok h
    injection h with h
    injection h with h _
    subst h
    show (goalsOf ls ++ []).Nodup
    rw [List.append_nil]
    exact nd
end
end Lx
set_option Elab.async false
set_option linter.all false
set_option maxRecDepth 100000
set_option maxHeartbeats 4000000
namespace Lx
open PySem PySem.Spec PyProof.Rows L2 Pz
section
variable {P : Program} {w : World} {K : PySem.W.Frag} {mg : Str → Option Value} {base : Heap}
theorem filt_strs (p : Str → Bool) (ws : List Str) : (((ws.map V.str).filter fun v => p (strV v)).map id) = (ws.filter p).map V.str := by
  rw [List.map_id, List.filter_map]
  rfl
theorem mem_strs {v : V} {ws : List Str} (h : v ∈ ws.map V.str) : ∃ s, s ∈ ws ∧ v = .str s := by
  obtain ⟨s, h1, h2⟩ := List.mem_map.mp h
  exact ⟨s, h1, h2.symm⟩
theorem curK_ne {z : Str} {i : Nat} {b : Bool} {s q : Addr} : curK z i b ≠ landK s q := fun h => by
  have := congrArg List.length h
  cases this
theorem Kp.outs {ns ms : List Addr} {H H1 H2 : Hp} (a : Kp ns H H1) (b : Kp ms H1 H2) (n : ∀ q ∈ ms, H q = none) : Kp ns H H2 := fun x o m e => b x o (fun z => by
  rw [n x z] at e
  cases e) (a x o m e)
theorem names_len {sp : List Str} {rs : List RoadM} (h : LandOk sp rs) : ∀ m ∈ rs, 1 ≤ m.name.length ∧ m.name.length ≤ 10 := fun m hm => by
  have h1 := (h.ok m hm).nm
  have h2 : ∀ s ∈ nameSet, 1 ≤ s.length ∧ s.length ≤ 10 := by decide +kernel
  exact h2 _ h1
def spLLine (K : PySem.W.Frag) : Sp := fun vs H Q _ => ∃ c l L z i sp rs vals ls, vs = [.ref c, .ref l, .ref L] ∧ CurAt H c z i false ∧ LandAt H l sp rs ∧ LandOk sp rs ∧ H L = some (.lst vals) ∧ LinesAt K H vals ls ∧ ls.length < 4000000 ∧ (goalsOf ls).Nodup ∧
  ∀ vals' H', Kp [c, L] H H' → PosAt H' c z (posOf (pLine (cs z) sp rs ls i)) → H' L = some (.lst vals') → (∀ ln j, pLine (cs z) sp rs ls i = .ok (ln, j) → LinesAt K H' vals' (ls ++ [ln])) → Q .non H'
theorem ok__law_line_read (T : TT K mg base) : Ok P w K mg base 5 (He.ga K "_law_line_read") ["_law_cur", "_law_land", "_law_lines"] [] (spLLine K) := by
  refine ok_mk T.f__law_line_read sc__law_line_read (fun vs H Q E h => ?_) (fun _ _ _ _ _ _ us hl => match us, hl with | [_, _, _], _ => rfl) (fun cdv A outer s H vs Q E hr h => ?_)
  · obtain ⟨c, l, L, z, i, sp, rs, vals, ls, rfl, _⟩ := h
    rfl
  · obtain ⟨c, l, L, z, i, sp, rs, vals, ls, rfl, hc, la, ok, eL, lal, hn, nd, k⟩ := h
    refine ⟨_, (pss_cons (ps_set (i := 3) sc__law_line_read.nd rfl (by first | exact Or.inl rfl | exact Or.inr rfl) (po_call (ok__law_goals T) (hr.mono (by decide)) rfl T.g__law_goals px_of (pa_cons (pv 2) pa_nil)))
      (pss_cons (ps_setLcB s H (i := 4) (own := [("_law_spot", 5)]) rfl sc__law_line_read.nd rfl rfl (sw_true rfl rfl rfl (by decide +kernel)) (pi_list (pe_dget (hu1 hr) (pv 1) pe_str (fun _ _ => rfl))) (blkOk_by (own := [("_law_spot", 5)]) (N := nm__law_line_read) (sc := defScope s__law_line_read) (by decide +kernel)) (fun _ _ _ _ _ => (pg_name (i := 5) sc__law_line_read.nd rfl (by first | exact Or.inl rfl | exact Or.inr rfl))) (fun _ _ _ _ _ => (pts_one (pt_cmpR op_notIn_seq (pv 5) (pv 3) rfl))) (fun _ _ _ _ _ => (pv 5)))
      (pss_cons (ps_set (i := 6) sc__law_line_read.nd rfl (by first | exact Or.inl rfl | exact Or.inr rfl) (pe_lcB s H (own := [("_law_road", 7)]) rfl sc__law_line_read.nd (pi_list (pe_dget (hu1 hr) (pv 1) pe_str (fun _ _ => rfl))) (blkOk_by (own := [("_law_road", 7)]) (N := nm__law_line_read) (sc := defScope s__law_line_read) (by decide +kernel)) (fun _ _ _ _ _ => (pg_name (i := 7) sc__law_line_read.nd rfl (by first | exact Or.inl rfl | exact Or.inr rfl))) (fun _ _ _ _ _ => pts_nil) (fun _ _ _ _ _ => (pe_ix ix_tup (pv 7) pe_int (fun _ _ => rfl)))))
      (pss_cons (ps_setLcB s H (i := 8) (own := [("_law_spot", 5)]) rfl sc__law_line_read.nd rfl rfl (sw_true rfl rfl rfl (by decide +kernel)) (pi_list (pe_dget (hu1 hr) (pv 1) pe_str (fun _ _ => rfl))) (blkOk_by (own := [("_law_spot", 5)]) (N := nm__law_line_read) (sc := defScope s__law_line_read) (by decide +kernel)) (fun _ _ _ _ _ => (pg_name (i := 5) sc__law_line_read.nd rfl (by first | exact Or.inl rfl | exact Or.inr rfl))) (fun _ _ _ _ _ => (pts_one (PW.pt (pw_and (pt_cmpR (op_neNil hr.units0) (pv 3) (pe_lst pa_nil) (nomark _)) (pw_and1 (pt_cmpR op_in_seq (pv 5) (pv 6) rfl)))))) (fun _ _ _ _ _ => (pv 5)))
      (pss_cons (ps_setLcB s H (i := 8) (own := [("_law_spot", 5)]) rfl sc__law_line_read.nd rfl rfl (sw_true rfl rfl rfl (by decide +kernel)) (pi_list (pv 8)) (blkOk_by (own := [("_law_spot", 5)]) (N := nm__law_line_read) (sc := defScope s__law_line_read) (by decide +kernel)) (fun _ _ _ _ _ => (pg_name (i := 5) sc__law_line_read.nd rfl (by first | exact Or.inl rfl | exact Or.inr rfl))) (fun _ _ _ _ _ => (pts_one (pt_cmpR op_lt (pe_callB call_len_seq (by rfl) T.b_len PySem.boot_len (pa_cons (po_call (ok__law_rules T) (hr.mono (by decide)) rfl T.g__law_rules passL (pa_cons (pv 2) (pa_cons (pe_ix ix_list (pv 3) (pe_un un_neg pe_int) (fun _ _ => rfl)) (pa_cons (pv 5) pa_nil)))) pa_nil)) pe_int (nomark _)))) (fun _ _ _ _ _ => (pv 5)))
      (pss_cons (ps_set (i := 9) sc__law_line_read.nd rfl (by first | exact Or.inl rfl | exact Or.inr rfl) (po_call (ok__law_word T) (hr.mono (by decide)) rfl T.g__law_word px_of (pa_cons (pv 0) (pa_cons (pe_op op_cat (pe_op op_rep (pe_lst (pa_cons pe_str pa_nil)) (pe_callTy call_int1 (by rfl) T.b_int (by decide +kernel) (pa_cons (pe_cmpR (op_neNil hr.units0) (pv 4) (pe_lst pa_nil) (nomark _)) pa_nil))) (pe_op op_rep (pe_lst (pa_cons pe_str pa_nil)) (pe_callTy call_int1 (by rfl) T.b_int (by decide +kernel) (pa_cons (pe_cmpR (op_neNil hr.units0) (pv 8) (pe_lst pa_nil) (nomark _)) pa_nil)))) pa_nil))))
      (pss_cons (ps_expr (po_call (ok__law_gap T) (hr.mono (by decide)) rfl T.g__law_gap px_of (pa_cons (pv 0) pa_nil)))
      (pss_cons (ps_if (pt_cmpR op_eq (pv 9) pe_str (nomark _))
      (pss_cons (ps_expr (pe_bm PySem.F.plainAttrs_list PySem.F.slot_list_append PySem.F.type_list_append mt_append (pv 2) (pa_cons (pe_tup (pa_cons pe_str (pa_cons (po_call (ok__law_word T) (hr.mono (by decide)) rfl T.g__law_word px_of (pa_cons (pv 0) (pa_cons (pv 4) pa_nil))) pa_nil))) pa_nil)))
      (pss_one ps_retN))
      pss_nil)
      (pss_cons (ps_set (i := 5) sc__law_line_read.nd rfl (by first | exact Or.inl rfl | exact Or.inr rfl) (po_call (ok__law_word T) (hr.mono (by decide)) rfl T.g__law_word px_of (pa_cons (pv 0) (pa_cons (pv 8) pa_nil))))
      (pss_cons (ps_expr (po_call (ok__law_gap T) (hr.mono (by decide)) rfl T.g__law_gap px_of (pa_cons (pv 0) pa_nil)))
      (Evl.pss_cut (ps_set (i := 10) sc__law_line_read.nd rfl (by first | exact Or.inl rfl | exact Or.inr rfl) (pe_ifExp (pt_cmpR op_eq (po_call (ok__law_word T) (hr.mono (by decide)) rfl T.g__law_word px_of (pa_cons (pv 0) (pa_cons (pe_lst (pa_cons pe_str (pa_cons pe_str pa_nil))) pa_nil))) pe_str (nomark _)) (po_call (ok__law_conditions_read T) (hr.mono (by decide)) rfl T.g__law_conditions_read px_of (pa_cons (pv 0) pa_nil)) (pe_tup pa_nil)))
      (pss_cons (ps_expr (po_call (ok__law_gap T) (hr.mono (by decide)) rfl T.g__law_gap px_of (pa_cons (pv 0) pa_nil)))
      (pss_cons (ps_set (i := 7) sc__law_line_read.nd rfl (by first | exact Or.inl rfl | exact Or.inr rfl) (po_call (ok__law_word T) (hr.mono (by decide)) rfl T.g__law_word px_of (pa_cons (pv 0) (pa_cons (pe_lcB s H (own := [("_law_row", 11)]) rfl sc__law_line_read.nd (pi_list (pe_dget (hu1 hr) (pv 1) pe_str (fun _ _ => rfl))) (blkOk_by (own := [("_law_row", 11)]) (N := nm__law_line_read) (sc := defScope s__law_line_read) (by decide +kernel)) (fun _ _ _ _ _ => (pg_name (i := 11) sc__law_line_read.nd rfl (by first | exact Or.inl rfl | exact Or.inr rfl))) (fun _ _ _ _ _ => (pts_one (pt_cmpR op_eq (pe_ix ix_tup (pv 11) pe_int (fun _ _ => rfl)) (pv 5) (nomark _)))) (fun _ _ _ _ _ => (pe_ix ix_tup (pv 11) pe_int (fun _ _ => rfl)))) pa_nil))))
      (pss_one (ps_expr (pe_bm PySem.F.plainAttrs_list PySem.F.slot_list_append PySem.F.type_list_append mt_append (pv 2) (pa_cons (pe_tup (pa_cons pe_str (pa_cons (pv 5) (pa_cons (pv 10) (pa_cons (pv 7) pa_nil))))) pa_nil))))))))))))))))), ?_⟩
    have hcL : c ≠ L := fun q => by
      rw [← q, hc.1] at eL
      cases eL
    have lsp := land_sp ok
    have lrs := ok.le
    refine q_asgC ⟨_, rfl, L, vals, ls, rfl, SqL.of eL, lal, by omega, fun G H1 nG x1 eG => ?_⟩
    obtain ⟨sa, qa, rows, l1, l2, l3, l4⟩ := la.mono x1
    have hc1 := hc.mono x1
    have eL1 := x1 _ _ eL
    have lal1 := lines_mono x1 lal
    have hcl : c ≠ l := fun q => by
      have h1 := hc1.1
      rw [q, l1] at h1
      exact curK_ne (HO.dK.inj (Option.some.inj h1)).symm
    have glen : (goalsOf ls).length ≤ 4000000 := by
      have := goals_len ls
      omega
    -- the goals that are not told
    refine Evl.q_asgL (xs := (freshOf sp ls).map V.str) ?_ fun FR H2 nFR x2 eFR => ?_
    · unfold freshOf
      rw [← filt_strs]
      refine el_lcL _ _ (ev_dk (Evl.ev_var rfl) (.inl l1) rfl) (SqL.of l2) (by rw [List.length_map]; omega) (fun x => rfl) (fun v hv => ?_) (fun v hv _ => Evl.ev_var rfl)
      obtain ⟨s, hs, rfl⟩ := mem_strs hv
      refine Evl.et_is (Evl.et_test (Evl.ev_op (Evl.ev_var rfl) (Evl.ev_var rfl) (Evl.rv_niL (SqL.of eG) rfl (flat_strs _)))) ?_
      rw [inV_strs]
      show _ = decide (s ∉ goalsOf ls)
      by_cases h : s ∈ goalsOf ls <;> simp [h]
    -- the spots with a road
    refine Evl.q_asgL (xs := (rs.filter fun _ => true).map fun m => V.str m.start) ?_ fun ST H3 nST x3 eST => ?_
    · refine el_lcRel (fun _ => true) (fun m => V.str m.start) ?_ (SqL.of (x2 _ _ l3)) (rows_mono x2 l4) (by rw [l4.len]; omega) ?_ ?_ ?_
      · exact ev_dk (Evl.ev_var rfl) (.inl (x2 _ _ l1)) rfl
      · exact fun x => rfl
      · exact fun x m _ _ => ev_yes
      intro x m hx _ _
      obtain ⟨t, sh, rfl, g1, _⟩ := hx
      exact Evl.ev_op (Evl.ev_var rfl) Evl.ev_c (Evl.rv_ixT (SqT.of g1) (atI_nat (j := 1) rfl))
    have est : ((rs.filter fun _ => true).map fun m => V.str m.start) = (rs.map (·.start)).map V.str := by
      rw [List.filter_eq_self.mpr (fun _ _ => rfl), List.map_map]
      rfl
    rw [est] at eST
    have x13 := x2.trans x3
    -- the spots that may be told
    refine Evl.q_asgL (xs := (sp.filter fun s => !(goalsOf ls).isEmpty && decide (s ∈ rs.map (·.start))).map V.str) ?_ fun F1 H4 nF1 x4 eF1 => ?_
    · rw [← filt_strs]
      refine el_lcL _ _ (ev_dk (Evl.ev_var rfl) (.inl (x13 _ _ l1)) rfl) (SqL.of (x13 _ _ l2)) (by rw [List.length_map]; omega) (fun x => rfl) (fun v hv => ?_) (fun v hv _ => Evl.ev_var rfl)
      obtain ⟨s, hs, rfl⟩ := mem_strs hv
      refine Evl.et_is (Evl.et_and (Evl.et_test (ev_nil true rfl (SqL.of (x13 _ _ eG)))) fun _ => Evl.et_test (Evl.ev_op (Evl.ev_var rfl) (Evl.ev_var rfl) (Evl.rv_isL (SqL.of eST) rfl (flat_strs _)))) ?_
      rw [inV_strs, empty_map]
      rfl
    have x14 := x13.trans x4
    refine Evl.q_asgL (xs := (opnOf sp rs ls).map V.str) ?_ fun F2 H5 nF2 x5 eF2 => ?_
    · have eo : opnOf sp rs ls = (sp.filter fun s => !(goalsOf ls).isEmpty && decide (s ∈ rs.map (·.start))).filter fun s => decide (cntOf ls s < 4) := by
        unfold opnOf
        rw [List.filter_filter]
        by_cases h : goalsOf ls = []
        · rw [if_pos h, h]
          simp
        · rw [if_neg h]
          apply List.filter_congr
          intro s _
          have h1 : (goalsOf ls).isEmpty = false := by
            cases hg : goalsOf ls with
            | nil => exact absurd hg h
            | cons _ _ => rfl
          rw [h1]
          have h2 : decide (0 < (namesAt rs s).length) = decide (s ∈ rs.map (·.start)) := by
            apply decide_eq_decide.mpr
            unfold namesAt
            rw [List.length_map, List.length_pos_iff_exists_mem]
            constructor
            · rintro ⟨m, hm⟩
              obtain ⟨h1, h2⟩ := List.mem_filter.mp hm
              exact List.mem_map.mpr ⟨m, h1, of_decide_eq_true h2⟩
            · intro hm
              obtain ⟨m, h1, h2⟩ := List.mem_map.mp hm
              exact ⟨m, List.mem_filter.mpr ⟨h1, decide_eq_true h2⟩⟩
          rw [h2]
          simp
      rw [eo, ← filt_strs]
      refine el_lcL _ _ (Evl.ev_var rfl) (SqL.of eF1) (by
        have := List.length_filter_le (fun s => !(goalsOf ls).isEmpty && decide (s ∈ rs.map (·.start))) sp
        rw [List.length_map]
        omega) (fun x => rfl) (fun v hv => ?_) (fun v hv _ => Evl.ev_var rfl)
      obtain ⟨s, hs, rfl⟩ := mem_strs hv
      have hne : goalsOf ls ≠ [] := fun q => by
        have h1 := (List.mem_filter.mp hs).2
        rw [q] at h1
        cases h1
      obtain ⟨g, hg1, hg2⟩ := lastS_at hne
      refine Evl.et_is (a := decide (((rulesGo g s none ls).length : Int) < 4)) (Evl.et_test ?_) ?_
      · intro HA xA QA qA
        refine ⟨_, rfl, _, rfl, 1, rfl, G, _, -1, _, rfl, rfl, SqL.of (xA _ _ (x14 _ _ eG)), hg2, _, rfl, L, g, s, vals, ls, rfl, SqL.of (xA _ _ (x14 _ _ eL1)), lines_mono xA (lines_mono x14 lal1), by omega, fun u xs HB nu xB eu lu => ?_⟩
        refine ⟨u, xs, rfl, .inl (SqL.of eu), _, _, rfl, rfl, ?_⟩
        rw [lu]
        exact qA HB xB
      · show _ = decide (cntOf ls s < 4)
        rw [rules_cnt g s ls 0 none nd hg1 (by intro q; cases q)]
        apply decide_eq_decide.mpr
        show ((cntOf ls s : Nat) : Int) < 4 ↔ _
        omega
    have x15 := x14.trans x5
    have hc5 := hc1.mono x15
    have p5 : PosAt H5 c z (.ok i) := hc5
    have eL5 := x15 _ _ eL1
    have lal5 := lines_mono x15 lal1
    have eFR5 := (x3.trans (x4.trans x5)) _ _ eFR
    have l15 := x15 _ _ l1
    have l35 := x15 _ _ l3
    have l45 := rows_mono x15 l4
    have kk5 : Kp [c, L] H H5 := Kp.of (x1.trans x15)
    have hFRL : FR ≠ L := fun q => by
      rw [q, eL1] at nFR
      cases nFR
    have opl : (opnOf sp rs ls).length ≤ 3 ∧ ∀ s ∈ opnOf sp rs ls, 1 ≤ s.length ∧ s.length ≤ 10 := by
      refine ⟨?_, fun s hs => lsp.2.2 s (opnOf_mem hs).1⟩
      unfold opnOf
      split
      · exact Nat.zero_le _
      · have h1 := List.length_filter_le (fun s => decide (cntOf ls s < 4) && decide (0 < (namesAt rs s).length)) sp
        have h2 := lsp.1.2
        omega
    have frl : (freshOf sp ls).length ≤ 3 ∧ ∀ s ∈ freshOf sp ls, 1 ≤ s.length ∧ s.length ≤ 10 := by
      refine ⟨?_, fun s hs => lsp.2.2 s (freshOf_mem hs).1⟩
      have h1 := List.length_filter_le (fun s => decide (s ∉ goalsOf ls)) sp
      have h2 := lsp.1.2
      unfold freshOf
      omega
    clear eG eST eF1 nG nFR nST nF1 nF2 hc1 eL1 lal1 l1 l2 l3 l4 x1 x2 x3 x4 x5 x13 x14
    have ewl : (if (if true = true then !((freshOf sp ls).map V.str).isEmpty else ((freshOf sp ls).map V.str).isEmpty) = true then [V.str "goal"] else []) ++ (if (if true = true then !((opnOf sp rs ls).map V.str).isEmpty else ((opnOf sp rs ls).map V.str).isEmpty) = true then [V.str "at"] else []) = (lineWords sp rs ls).map V.str := by
      unfold lineWords
      rw [empty_map, empty_map]
      cases freshOf sp ls <;> cases opnOf sp rs ls <;> rfl
    have lwo : ∀ w ∈ lineWords sp rs ls, 1 ≤ w.length ∧ w.length ≤ 50 := fun w hw => by
      rcases lineWords_mem hw with rfl | rfl <;> decide
    refine q_asgC (c_word rfl p5 (ws := lineWords sp rs ls) ?_ (Nat.le_trans (lineWords_len _ _ _) (by decide)) lwo fun H6 k6 p6 => ?_)
    · rw [← ewl]
      exact el_cat (el_repB (Evl.el_lst (Evl.ea_cons Evl.ev_c Evl.ea_nil) (by decide)) (ev_nil true rfl (SqL.of eFR5)) (by decide)) (el_repB (Evl.el_lst (Evl.ea_cons Evl.ev_c Evl.ea_nil) (by decide)) (ev_nil true rfl (SqL.of eF2)) (by decide)) (by cases ((freshOf sp ls).map V.str).isEmpty <;> cases ((opnOf sp rs ls).map V.str).isEmpty <;> decide)
    have p6 : PosAt H6 c z (posOf (pWord (cs z) (lineWords sp rs ls) i)) := p6
    show tSeq _ _ _ [some (.ref c), some (.ref l), some (.ref L), some (.ref G), some (.ref FR), none, some (.ref ST), none, some (.ref F2), some (.str (valOf ("" : Str) (pWord (cs z) (lineWords sp rs ls) i))), none, none] H6
    have eFR6 := lst_pos k6 p5 eFR5
    have eF26 := lst_pos k6 p5 eF2
    have eL6 := lst_pos k6 p5 eL5
    have lal6 := lines_odd k6 (pos_odd p5) lal5
    have kr : ∀ {Ha Hb : Hp} {ra : Except Nat Nat}, Kp [c] Ha Hb → PosAt Ha c z ra → All2 (RowAt Ha) rows rs → All2 (RowAt Hb) rows rs := fun {Ha Hb ra} kab pa hr => hr.imp fun _ _ => RowAt.kp kab fun u m xs e => by
      obtain ⟨i, b, hc, _⟩ := pa.bad
      rw [List.mem_singleton.mp m, hc.1] at e
      cases e
    have l46 := kr k6 p5 l45
    have l16 := k6 _ _ (by simpa using hcl.symm) l15
    have l36 := lst_pos k6 p5 l35
    refine q_gap rfl p6 fun H7 k7 p7 => ?_
    generalize h7 : posOf (stp (posOf (pWord (cs z) (lineWords sp rs ls) i)) (gapU (cs z))) = r7 at p7
    have kk7 : Kp [c, L] H H7 := (kk5.trans (k6.mono (by simp))).trans (k7.mono (by simp))
    have eFR7 := lst_pos k7 p6 eFR6
    have eF27 := lst_pos k7 p6 eF26
    have eL7 := lst_pos k7 p6 eL6
    have lal7 := lines_odd k7 (pos_odd p6) lal6
    have l47 := kr k7 p6 l46
    have l17 := k7 _ _ (by simpa using hcl.symm) l16
    have l37 := lst_pos k7 p6 l36
    have vl : vals.length < 4000000 := by
      rw [lal.len]
      exact hn
    refine Evl.q_when (Evl.et_test (Evl.ev_op (Evl.ev_var rfl) Evl.ev_c (Evl.rv_eq rfl))) (fun hb H8 x8 => ?_) (fun hb H8 x8 => ?_)
    · have hw := V.str.inj (of_decide_eq_true hb)
      obtain ⟨hp1, hp2⟩ := line_goal hw
      rw [h7] at hp1 hp2
      refine ⟨_, rfl, .inl ⟨rfl, _, SqL.of (x8 _ _ eL7)⟩, a_cons (c_wordV rfl (p7.mono x8) (Evl.ev_var rfl) (SqL.of (x8 _ _ eFR7)) (by omega) (fun s hs => ?_) fun H9 k9 p9 => ?_)⟩
      · have := frl.2 s hs
        omega
      have eL9 := lst_pos k9 (p7.mono x8) (x8 _ _ eL7)
      have lal9 := lines_odd k9 (pos_odd (p7.mono x8)) (lines_mono x8 lal7)
      refine ⟨of_decide_eq_true rfl, fun t ht => ?_⟩
      have xt := Evl.Ex.new (o := .tup [.str "goal", .str (valOf ("" : Str) (stp r7 (pWord (cs z) (freshOf sp ls))))]) ht
      refine ⟨L, vals, _, rfl, rfl, xt _ _ eL9, Nat.lt_of_lt_of_le vl (by decide), ?_⟩
      have kL : Kp [L] (upd H9 t (.tup [.str "goal", .str (valOf ("" : Str) (stp r7 (pWord (cs z) (freshOf sp ls))))])) (upd (upd H9 t (.tup [.str "goal", .str (valOf ("" : Str) (stp r7 (pWord (cs z) (freshOf sp ls))))])) L (.lst (vals ++ [.ref t]))) := (Kp.refl _ _).put (List.mem_singleton.mpr rfl)
      have od := odd_lst (xt _ _ eL9)
      refine k _ _ ((((kk7.trans (Kp.of x8)).trans (k9.mono (by simp))).trans (Kp.of xt)).trans (kL.mono (by simp))) ?_ upd_same fun ln j hln => ?_
      · rw [hp1]
        exact (p9.mono xt).kp kL (by simpa using hcL)
      · rw [hp2 ln j hln]
        exact (lines_odd kL od (lines_mono xt lal9)).app (.cons ⟨t, rfl, st_odd kL od (SqT.of upd_same)⟩ .nil)
    · have hw : valOf ("" : Str) (pWord (cs z) (lineWords sp rs ls) i) ≠ "goal" := fun q => of_decide_eq_false hb (congrArg V.str q)
      have p8 := p7.mono x8
      refine q_asgC (c_wordV rfl p8 (Evl.ev_var rfl) (SqL.of (x8 _ _ eF27)) (by omega) (fun s hs => ?_) fun H9 k9 p9 => ?_)
      · have := opl.2 s hs
        omega
      obtain ⟨hp1, hp2⟩ := line_at hw r7 _ _ h7 rfl rfl
      generalize hr8 : posOf (stp r7 (pWord (cs z) (opnOf sp rs ls))) = r8 at p9 hp1 hp2
      generalize hsv : valOf ("" : Str) (stp r7 (pWord (cs z) (opnOf sp rs ls))) = sv at hp1 hp2
      obtain ⟨hq1, hq2⟩ := rule_stp (cs z) (namesAt rs sv) r8
      show tSeq _ _ _ [some (.ref c), some (.ref l), some (.ref L), some (.ref G), some (.ref FR), some (.str sv), some (.ref ST), none, some (.ref F2), some (.str (valOf ("" : Str) (pWord (cs z) (lineWords sp rs ls) i))), none, none] H9
      refine q_gap rfl p9 fun H10 k10 p10 => ?_
      have kk10 : Kp [c] H7 H10 := ((Kp.of x8).trans k9).trans k10
      generalize hr9 : posOf (stp r8 (gapU (cs z))) = r9 at p10 hq1 hq2
      have eL10 := lst_pos kk10 p7 eL7
      have lal10 := lines_odd kk10 (pos_odd p7) lal7
      have l410 := kr kk10 p7 l47
      have l110 := kk10 _ _ (by simpa using hcl.symm) l17
      have l310 := lst_pos kk10 p7 l37
      have kh10 : Kp [c, L] H H10 := kk7.trans (kk10.mono (by simp))
      refine ⟨fun σ' H11 => ∃ (C : Addr) (cv : List V), σ' = [some (.ref c), some (.ref l), some (.ref L), some (.ref G), some (.ref FR), some (.str sv), some (.ref ST), none, some (.ref F2), some (.str (valOf ("" : Str) (pWord (cs z) (lineWords sp rs ls) i))), some (.ref C), none] ∧
        Kp [c] H10 H11 ∧ PosAt H11 c z (cndR (cs z) r9) ∧ SqT K H11 C cv ∧ ((∃ i, cndR (cs z) r9 = .ok i) → CondsAt K H11 cv (cndV (cs z) r9)), ?_, ?_⟩
      · refine c_word rfl p10 (ws := [("if" : Str), ("go" : Str)]) (Evl.el_lst (Evl.ea_cons Evl.ev_c (Evl.ea_cons Evl.ev_c Evl.ea_nil)) (by decide)) (by decide) (by decide +kernel) fun H11 k11 p11 => ?_
        refine ⟨rfl, _, rfl, ?_⟩
        unfold cndR cndV cndA cndB
        generalize valOf ("" : Str) (stp r9 (pWord (cs z) [("if" : Str), ("go" : Str)])) = w2
        generalize posOf (stp r9 (pWord (cs z) [("if" : Str), ("go" : Str)])) = r10 at p11
        by_cases hw2 : w2 = "if"
        · rw [decide_eq_true (congrArg V.str hw2), if_pos hw2, if_pos hw2]
          refine iteT ⟨_, rfl, c, z, r10, rfl, p11, fun t cv H12 k12 p12 ht hcv => ?_⟩
          exact ⟨t, cv, rfl, k11.trans k12, p12, ht, hcv⟩
        · rw [decide_eq_false (fun q => hw2 (V.str.inj q)), if_neg hw2, if_neg hw2]
          refine iteF ⟨of_decide_eq_true rfl, fun t ht => ?_⟩
          have xt := Evl.Ex.new (o := .tup []) ht
          exact ⟨t, [], rfl, k11.trans (Kp.of xt), p11.mono xt, SqT.of upd_same, fun _ => .nil⟩
      · rintro σ' H11 ⟨C, cv, rfl, k11, p11, hC, hCv⟩
        have eL11 := lst_pos k11 p10 eL10
        have lal11 := lines_odd k11 (pos_odd p10) lal10
        have l411 := kr k11 p10 l410
        have l111 := k11 _ _ (by simpa using hcl.symm) l110
        have l311 := lst_pos k11 p10 l310
        refine q_gap rfl p11 fun H12 k12 p12 => ?_
        have eL12 := lst_pos k12 p11 eL11
        have lal12 := lines_odd k12 (pos_odd p11) lal11
        have l412 := kr k12 p11 l411
        have l112 := k12 _ _ (by simpa using hcl.symm) l111
        have l312 := lst_pos k12 p11 l311
        have hC12 := st_odd k12 (pos_odd p11) hC
        have nal : (namesAt rs sv).length ≤ 5 ∧ ∀ s ∈ namesAt rs sv, 1 ≤ s.length ∧ s.length ≤ 10 := by
          unfold namesAt
          refine ⟨?_, fun s hs => ?_⟩
          · rw [List.length_map]
            exact Nat.le_trans (List.length_filter_le _ _) lrs
          · obtain ⟨m, hm, rfl⟩ := List.mem_map.mp hs
            exact names_len ok m (List.mem_filter.mp hm).1
        refine q_asgC (c_word rfl p12 (ws := namesAt rs sv) ?_ (by omega) (fun s hs => ?_) fun H13 k13 p13 => ?_)
        · have e1 : (namesAt rs sv).map V.str = (rs.filter fun m => decide (m.start = sv)).map fun m => V.str m.name := by
            unfold namesAt
            rw [List.map_map]
            rfl
          rw [e1]
          refine el_lcRel (R := RowAt H12) (fun m => decide (m.start = sv)) (fun m => V.str m.name) ?_ (SqL.of l312) l412 (by rw [l412.len]; omega) ?_ ?_ ?_
          · exact ev_dk (Evl.ev_var rfl) (.inl l112) rfl
          · exact fun x => rfl
          · rintro x m ⟨t, sh, rfl, g1, _⟩ _
            refine Evl.et_is (Evl.et_test (Evl.ev_op (Evl.ev_op (Evl.ev_var rfl) Evl.ev_c (Evl.rv_ixT (SqT.of g1) (atI_nat (j := 1) rfl))) (Evl.ev_var rfl) (Evl.rv_eq rfl))) ?_
            apply decide_eq_decide.mpr
            exact ⟨fun q => V.str.inj q, fun q => congrArg V.str q⟩
          · rintro x m ⟨t, sh, rfl, g1, _⟩ _ _
            exact Evl.ev_op (Evl.ev_var rfl) Evl.ev_c (Evl.rv_ixT (SqT.of g1) (atI_nat (j := 0) rfl))
        · have := nal.2 s hs
          omega
        have eL13 := lst_pos k13 p12 eL12
        have lal13 := lines_odd k13 (pos_odd p12) lal12
        have hC13 := st_odd k13 (pos_odd p12) hC12
        refine ⟨_, rfl, .inl ⟨rfl, _, SqL.of eL13⟩, _, rfl, _, rfl, _, rfl, of_decide_eq_true rfl, fun t ht => ?_⟩
        have xt := Evl.Ex.new (o := .tup [.str "at", .str sv, .ref C, .str (valOf ("" : Str) (stp (posOf (stp (cndR (cs z) r9) (gapU (cs z)))) (pWord (cs z) (namesAt rs sv))))]) ht
        refine ⟨L, vals, _, rfl, rfl, xt _ _ eL13, Nat.lt_of_lt_of_le vl (by decide), ?_⟩
        have kL : Kp [L] (upd H13 t (.tup [.str "at", .str sv, .ref C, .str (valOf ("" : Str) (stp (posOf (stp (cndR (cs z) r9) (gapU (cs z)))) (pWord (cs z) (namesAt rs sv))))])) (upd (upd H13 t (.tup [.str "at", .str sv, .ref C, .str (valOf ("" : Str) (stp (posOf (stp (cndR (cs z) r9) (gapU (cs z)))) (pWord (cs z) (namesAt rs sv))))])) L (.lst (vals ++ [.ref t]))) := (Kp.refl _ _).put (List.mem_singleton.mpr rfl)
        have od := odd_lst (xt _ _ eL13)
        have kq : Kp [c, L] H10 H13 := ((k11.trans k12).trans k13).mono (by simp)
        refine k _ _ (((kh10.trans kq).trans (Kp.of xt)).trans (kL.mono (by simp))) ?_ upd_same fun ln j hln => ?_
        · rw [hp1, hq1]
          exact (p13.mono xt).kp kL (by simpa using hcL)
        · have hpos : posOf (stp r8 (pRule (cs z) (namesAt rs sv))) = .ok j := by
            rw [← hp1, hln]
            rfl
          have hln2 := hp2 ln j hln
          rw [hq2 j hpos] at hln2
          rw [hln2]
          rw [hq1] at hpos
          have hci : ∃ i, cndR (cs z) r9 = .ok i := by
            cases hcr : cndR (cs z) r9 with
            | error e =>
              rw [hcr] at hpos
              cases hpos
            | ok i => exact ⟨i, rfl⟩
          have ca := conds_odd kL od (conds_mono xt (conds_odd k13 (pos_odd p12) (conds_odd k12 (pos_odd p11) (hCv hci))))
          exact (lines_odd kL od (lines_mono xt lal13)).app (.cons ⟨t, C, cv, rfl, st_odd kL od (SqT.of upd_same), st_odd kL od (st_mono xt hC13), ca⟩ .nil)
end
end Lx
set_option Elab.async false
set_option linter.all false
set_option maxRecDepth 100000
set_option maxHeartbeats 4000000
/-! Lines by split. -/
namespace Pz
open PySem
theorem jn_nl {c : Nat} : ∀ {ps : List Cs}, ps ≠ [] → (∀ p ∈ ps, c ∉ p) → (jn [c] ps).count c + 1 = ps.length ∧ ∃ q, ps.getLast? = some q ∧ ((jn [c] ps).reverse.takeWhile (· != c)).length = q.length
  | [], h, _ => absurd rfl h
  | [p], _, hf => by
    have hp := hf p (List.mem_cons_self ..)
    refine ⟨?_, p, rfl, ?_⟩
    · show p.count c + 1 = 1
      rw [List.count_eq_zero.mpr hp]
    · show (p.reverse.takeWhile (· != c)).length = p.length
      exact tw_all fun i hi => hp (List.mem_of_getElem? hi)
  | p :: q :: r, _, hf => by
    obtain ⟨h1, u, h2, h3⟩ := jn_nl (ps := q :: r) (List.cons_ne_nil _ _) fun x hx => hf x (List.mem_cons_of_mem _ hx)
    have hp := hf p (List.mem_cons_self ..)
    have e : jn [c] (p :: q :: r) = p ++ (c :: jn [c] (q :: r)) := rfl
    have hu : c ∉ u := hf u (List.mem_cons_of_mem _ (List.mem_of_getLast? h2))
    refine ⟨?_, u, ?_, ?_⟩
    · rw [e, List.count_append, List.count_cons_self, List.count_eq_zero.mpr hp]
      show 0 + ((jn [c] (q :: r)).count c + 1) + 1 = (q :: r).length + 1
      omega
    · rw [← h2]
      simp [List.getLast?_cons]
    · rw [e, ← h3]
      have e2 : (p ++ (c :: jn [c] (q :: r))).reverse = (jn [c] (q :: r)).reverse ++ (c :: p.reverse) := by simp
      rw [e2, List.takeWhile_append]
      split
      · rename_i hh
        rw [List.takeWhile_cons, if_neg (by simp), List.append_nil]
        exact hh.symm
      · rfl
theorem split_nl (x : Str) : ∃ ps : List Str, Txt.split x "\n" = ps ∧ ps ≠ [] ∧ ps.length = (cs x).count 10 + 1 ∧ (∃ q, ps.getLast? = some q ∧ ((cs x).reverse.takeWhile (· != 10)).length = q.length) ∧ ps.length ≤ x.length + 2 ∧ (∀ p ∈ ps, p.length ≤ x.length) ∧ tot ps = x.length + 1 := by
  refine ⟨Txt.split x ⟨#[10]⟩, rfl, ?_, ?_⟩
  · intro h
    have := PyProof.Rows.split_pos x ⟨#[10]⟩
    rw [h] at this
    exact absurd this (by decide)
  have hne : Txt.split x ⟨#[10]⟩ ≠ [] := fun h => by
    have := PyProof.Rows.split_pos x ⟨#[10]⟩
    rw [h] at this
    exact absurd this (by decide)
  have e : cs x = jn [10] ((Txt.split x ⟨#[10]⟩).map cs) := by
    have h := PySem.StrLaws.join_split x ⟨#[10]⟩
    conv => lhs; rw [← h]
    exact TL.tl_join ⟨#[10]⟩ _
  obtain ⟨h1, q, h2, h3⟩ := jn_nl (c := 10) (ps := (Txt.split x ⟨#[10]⟩).map cs) (fun h => hne (List.map_eq_nil_iff.mp h)) (fun p hp => by
    obtain ⟨s, hs, rfl⟩ := List.mem_map.mp hp
    exact PySem.StrLaws.split_free x 10 s hs)
  rw [← e] at h1 h3
  rw [List.length_map] at h1
  rw [List.getLast?_map] at h2
  refine ⟨h1.symm, ?_⟩
  cases hg : (Txt.split x ⟨#[10]⟩).getLast? with
  | none =>
    rw [hg] at h2
    cases h2
  | some s =>
    rw [hg] at h2
    have h2 : cs s = q := Option.some.inj h2
    refine ⟨⟨s, rfl, ?_⟩, PyProof.Rows.split_le _ _, fun p hp => PyProof.Rows.part_short hp, ?_⟩
    · rw [h3, ← h2, cs_len]
    · have h5 := jn_one (y := [10]) rfl hne
      rw [← e, cs_len] at h5
      exact h5.symm
/-! sizes -/
theorem tot_take (ys : List Str) (k : Nat) : tot (ys.take k) ≤ tot ys := by
  have h := tot_app (ys.take k) (ys.drop k)
  rw [List.take_append_drop] at h
  have h : tot ys = tot (ys.take k) + tot (ys.drop k) := h
  omega
theorem tot_drop (ys : List Str) (k : Nat) : tot (ys.drop k) ≤ tot ys := by
  have h := tot_app (ys.take k) (ys.drop k)
  rw [List.take_append_drop] at h
  have h : tot ys = tot (ys.take k) + tot (ys.drop k) := h
  omega
theorem tot_mem {ys : List Str} {x : Str} (h : x ∈ ys) : x.length + 1 ≤ tot ys := by
  induction ys with
  | nil => cases h
  | cons y ys ih =>
    show _ ≤ (y.length + 1) + tot ys
    rcases List.mem_cons.mp h with rfl | h
    · omega
    · have := ih h
      omega
theorem tot_set : ∀ {ys : List Str} {i : Nat} {y x : Str}, ys[i]? = some y → tot (ys.set i x) + (y.length + 1) = tot ys + (x.length + 1)
  | [], i, y, x, h => by cases h
  | a :: ys, 0, y, x, h => by
    cases h
    show ((x.length + 1) + tot ys) + (a.length + 1) = ((a.length + 1) + tot ys) + (x.length + 1)
    omega
  | a :: ys, i + 1, y, x, h => by
    have ih := tot_set (ys := ys) (i := i) (x := x) h
    show ((a.length + 1) + tot (ys.set i x)) + (y.length + 1) = ((a.length + 1) + tot ys) + (x.length + 1)
    omega
theorem tot_len (ys : List Str) : ys.length ≤ tot ys := by
  induction ys with
  | nil => exact Nat.le_refl _
  | cons y ys ih =>
    show ys.length + 1 ≤ (y.length + 1) + tot ys
    omega
theorem join_tot (ys : List Str) : (Txt.join "\n" ys).length ≤ tot ys := by
  cases ys with
  | nil => exact Nat.le_of_eq rfl
  | cons a b =>
    have h := jn_one (y := cs "\n") rfl (ps := a :: b) (List.cons_ne_nil _ _)
    rw [← cs_len, cs_join]
    omega
theorem sum_tot (ys : List Str) : (ys.map (·.length)).sum + ys.length * ("\n" : Str).length = tot ys := by
  induction ys with
  | nil => rfl
  | cons a ys ih =>
    have h1 : ("\n" : Str).length = 1 := rfl
    rw [h1] at ih ⊢
    show (a.length + (ys.map (·.length)).sum) + (ys.length + 1) * 1 = (a.length + 1) + tot ys
    omega
/-- a text with four signs exchanged for up to seventeen -/
theorem replace_5 {x y z : Str} (hy : y.length = 4) (hz : z.length ≤ 17) : (Txt.replace x y z).length ≤ 5 * x.length := by
  unfold Txt.replace
  split
  · omega
  · have hyy : (Builtin.Str.glued y (Builtin.Str.partsBetween x (Builtin.Str.occurrences x y 0 x.length (x.length + 1)) y.length)).length = x.length := by rw [StrLaws.glued_between_self]
    rw [size_glued, length_partsBetween, Nat.add_sub_cancel, hy] at hyy
    rw [size_glued, length_partsBetween, Nat.add_sub_cancel, hy]
    have h2 : (Builtin.Str.occurrences x y 0 x.length (x.length + 1)).length * z.length ≤ (Builtin.Str.occurrences x y 0 x.length (x.length + 1)).length * 17 := Nat.mul_le_mul_left _ hz
    omega
theorem cutV_strs (ys : List Str) (lo hi : Option Int) : ∃ zs : List Str, L2.cutV (ys.map L2.V.str) lo hi = zs.map L2.V.str ∧ tot zs ≤ tot ys := by
  unfold L2.cutV
  rw [← List.map_drop, ← List.map_take]
  exact ⟨_, rfl, Nat.le_trans (tot_take _ _) (tot_drop _ _)⟩
theorem cutV_take (xs : List L2.V) (k : Nat) : L2.cutV xs none (some (k : Int)) = xs.take k := by
  unfold L2.cutV
  rw [HT.sIx_none, HT.sIx_nat, List.drop_zero, Nat.sub_zero]
  by_cases h : k ≤ xs.length
  · rw [Nat.min_eq_left h]
  · rw [Nat.min_eq_right (by omega), List.take_of_length_le (Nat.le_refl _), List.take_of_length_le (by omega)]
theorem cutV_drop (xs : List L2.V) (k : Nat) : L2.cutV xs (some (k : Int)) none = xs.drop k := by
  unfold L2.cutV
  rw [HT.sIx_none, HT.sIx_nat]
  by_cases h : k ≤ xs.length
  · rw [Nat.min_eq_left h, List.take_of_length_le (by rw [List.length_drop]; omega)]
  · rw [Nat.min_eq_right (by omega), List.drop_eq_nil_of_le (Nat.le_refl _), List.drop_eq_nil_of_le (by omega)]
    simp
end Pz
set_option Elab.async false
set_option linter.all false
set_option maxRecDepth 100000
set_option maxHeartbeats 4000000
namespace Lx
open PySem PySem.Spec PyProof.Rows L2 Pz
section
variable {P : Program} {w : World} {K : PySem.W.Frag} {mg : Str → Option Value} {base : Heap}
theorem ev_seenV {i0 : Nat} {σ : L2.St} {H : Hp} {c : Addr} {z : Str} {i : Nat} {b : Bool} {E : XK} (hs : σ[i0]? = some (some (.ref c))) (h : CurAt H c z i b) : Evl.Ev (tCall (spLSeen K) [] E (tCons (tVar i0) tNil)) σ H (.str (seenS z i b)) :=
  Evl.ev_call (Evl.ea_cons (Evl.ev_var hs) Evl.ea_nil) (fun H1 e Q q E => ⟨c, z, i, b, rfl, h.mono e, q H1 (Evl.Ex.refl H1)⟩)
/-- signs are passed over -/
theorem skip_loop {ta : TA} {tt : L2.TT} {p : Nat → Bool} {ci j : Nat} {σ : L2.St} {H : Hp} {D : Ends} {c : Addr} {z : Str} {i : Nat} {b : Bool} {s0 : Option V} (hci : ci ≠ j) (hs : σ[ci]? = some (some (.ref c))) (hj : σ[j]? = some s0) (hc : CurAt H c z i b)
    (hta : Evl.EvA ta σ H [.int (z.length : Int)])
    (ht : ∀ (σ' : L2.St) (H' : Hp) (q : Nat), σ'[ci]? = some (some (.ref c)) → CurAt H' c z q b → Evl.EvT tt σ' H' (b || !(match (cs z)[q]? with | some d => p d | none => false)))
    (go : ∀ s H', Kp [c] H H' → CurAt H' c z (if b = true then i else skipN p (cs z) i) b → D.nx (σ.set j s) H') :
    tFor (iRng1 ta) (gName j) (tSeq (tIfS tt tBreak tNext) (sDPut (tVar ci) (tC (.str "at")) (tOp (rI0 fun i j => V.int (i + j)) (tDGet (tVar ci) (tC (.str "at"))) (tC (.int 1))))) D σ H := by
  have cin : c ∈ [c] := List.mem_singleton.mpr rfl
  have slj : ∀ j b, (curK z j b).length < sizeLine := fun j b => of_decide_eq_true rfl
  have hl := hc.2.2
  have hset : σ.set j s0 = σ := by
    obtain ⟨h1, h2⟩ := List.getElem?_eq_some_iff.mp hj
    rw [← h2]
    exact List.set_getElem_self h1
  refine hta H (Evl.Ex.refl H) _ fun H1 x1 => ⟨_, rfl, by omega, by omega, ?_⟩
  rw [Int.toNat_natCast]
  have hsx : ∀ s, (σ.set j s)[ci]? = some (some (.ref c)) := fun s => by
    rw [List.getElem?_set_ne (Ne.symm hci)]
    exact hs
  refine for_range (lo := 0) (n := z.length) (fun m σ' H' => ∃ (q : Nat) (s : Option V), σ' = σ.set j s ∧ Kp [c] H H' ∧ CurAt H' c z q b ∧ (b = true → q = i) ∧ (b = false → q = i + m ∧ skipN p (cs z) q = skipN p (cs z) i)) ⟨i, s0, hset.symm, Kp.of x1, hc.mono x1, fun _ => rfl, fun _ => ⟨rfl, rfl⟩⟩ (fun m σ' H' hm q => ?_) (fun σ' H' q => ?_)
  · obtain ⟨q, s, rfl, k', c', e1, e2⟩ := q
    have hset2 : ∀ v, (σ.set j s).set j v = σ.set j v := fun v => List.set_set ..
    show tSeq (tIfS tt tBreak tNext) _ _ ((σ.set j s).set j _) H'
    rw [hset2]
    refine Evl.s_if (ht _ _ q (hsx _) c') (fun h H2 x2 => ?_) (fun h H2 x2 => ?_)
    · refine go _ _ (k'.trans (Kp.of x2)) ?_
      cases b with
      | true =>
        rw [e1 rfl] at c'
        exact c'.mono x2
      | false =>
        have h : (!(match (cs z)[q]? with | some d => p d | none => false)) = true := h
        have : skipN p (cs z) q = q := skip_no fun d hd => by
          rw [hd] at h
          cases hp : p d with
          | false => rfl
          | true =>
            have h : (!(p d)) = true := h
            rw [hp] at h
            cases h
        rw [if_neg (by decide), ← (e2 rfl).2, this]
        exact c'.mono x2
    · cases b with
      | true => cases h
      | false =>
        have h : (!(match (cs z)[q]? with | some d => p d | none => false)) = false := h
        obtain ⟨d, hd, hp⟩ : ∃ d, (cs z)[q]? = some d ∧ p d = true := by
          cases hd : (cs z)[q]? with
          | none =>
            rw [hd] at h
            cases h
          | some d =>
            rw [hd] at h
            refine ⟨d, rfl, ?_⟩
            have h : (!(p d)) = false := h
            cases hp : p d with
            | true => rfl
            | false =>
              rw [hp] at h
              cases h
        have hq := sg_lt hd
        have c2 := c'.mono x2
        refine s_dput (v := .int ((q : Int) + 1)) (hsx _) (Evl.ev_op (ev_dk (Evl.ev_var (hsx _)) (.inl c2.1) cur_i) Evl.ev_c Evl.rv_I0) c2.1 (slj _ _) fun H3 x3 => ?_
        have e : putK (curK z q false) (.inr "at") (.int ((q : Int) + 1)) = curK z (q + 1) false := cur_at (j := q + 1)
        rw [e]
        exact ⟨q + 1, _, rfl, ((k'.trans (Kp.of x2)).trans (Kp.of x3)).put cin, (c2.mono x3).put hq, (fun h => by cases h), fun _ => ⟨by rw [(e2 rfl).1]; omega, (skip_yes hd hp).symm.trans (e2 rfl).2⟩⟩
  · obtain ⟨q, s, rfl, k', c', e1, e2⟩ := q
    refine go _ _ k' ?_
    cases b with
    | true =>
      rw [e1 rfl] at c'
      exact c'
    | false =>
      obtain ⟨f1, f2⟩ := e2 rfl
      have hq := c'.2.1
      have : skipN p (cs z) q = q := skip_no fun d hd => by
        have := sg_lt hd
        omega
      rw [this] at f2
      show CurAt H' c z (skipN p (cs z) i) false
      rw [← f2]
      exact c'
theorem pTabGo_ws {l : Cs} {sp : List Str} {rs : List RoadM} {ls : List LineM} {i j : Nat} (h : skipN isWs l i = skipN isWs l j) : ∀ f, pTabGo l sp rs f ls i = pTabGo l sp rs f ls j
  | 0 => rfl
  | f + 1 => by
    rw [pTabGo, pTabGo, h]
theorem seen_ws {z : Str} {i : Nat} {b : Bool} : inV (.str (seenS z i b)) [.str " ", .str "\n"] = (!b && match (cs z)[i]? with | some d => isWs d | none => false) := by
  have e : ([V.str " ", V.str "\n"] : List V) = [sS [32], sS [10]].map V.str := rfl
  rw [e, inV_strs]
  cases b with
  | true =>
    show decide (sS [] ∈ [sS [32], sS [10]]) = false
    decide +kernel
  | false =>
    show decide (sg z i ∈ [sS [32], sS [10]]) = match (cs z)[i]? with | some d => isWs d | none => false
    cases h : (cs z)[i]? with
    | none =>
      rw [sg_none h]
      decide +kernel
    | some d =>
      rw [sg_some h]
      show decide (sS [d] ∈ [sS [32], sS [10]]) = isWs d
      unfold isWs
      have i1 : ∀ a b : Nat, sS [a] = sS [b] ↔ a = b := fun a b => ⟨fun q => by
        have := sS_inj q
        injection this, fun q => by rw [q]⟩
      simp [i1, Bool.beq_eq_decide_eq]
theorem seen_nl {z : Str} {i : Nat} : inV (.str (seenS z i false)) [.str "\n", .str ""] = (match (cs z)[i]? with | some d => d == 10 | none => true) := by
  have e : ([V.str "\n", V.str ""] : List V) = [sS [10], sS []].map V.str := rfl
  rw [e, inV_strs]
  show decide (sg z i ∈ [sS [10], sS []]) = _
  cases h : (cs z)[i]? with
  | none =>
    rw [sg_none h]
    decide +kernel
  | some d =>
    rw [sg_some h]
    have i1 : ∀ a b : Nat, sS [a] = sS [b] ↔ a = b := fun a b => ⟨fun q => by
      have := sS_inj q
      injection this, fun q => by rw [q]⟩
    have i2 : ¬ sS [d] = sS [] := fun q => by
      have := sS_inj q
      cases this
    simp [i1, i2, Bool.beq_eq_decide_eq]
def spLDue (K : PySem.W.Frag) : Sp := fun vs H Q _ => ∃ l z sp rs res, vs = [.ref l, .str z] ∧ LandAt H l sp rs ∧ LandOk sp rs ∧ z.length < 4000000 ∧ pTabGo (cs z) sp rs (z.length + 1) [] 0 = some res ∧ match res with
  | .ok ls => ∀ t L vals H', Ex H H' → H' t = some (.tup [.str "told", .ref L]) → H' L = some (.lst vals) → LinesAt K H' vals ls → Q (.ref t) H'
  | .error j => ∀ t H', Ex H H' → H' t = some (.tup [.str "text", .int (lnOf (cs z) j : Nat), .int (colOf (cs z) j : Nat)]) → Q (.ref t) H'
theorem ok__law_due (T : TT K mg base) : Ok P w K mg base 6 (He.ga K "_law_due") ["_law_land", "_law_text"] [] (spLDue K) := by
  refine ok_mk T.f__law_due sc__law_due (fun vs H Q E h => ?_) (fun _ _ _ _ _ _ us hl => match us, hl with | [_, _], _ => rfl) (fun cdv A outer s H vs Q E hr h => ?_)
  · obtain ⟨l, z, sp, rs, res, rfl, _⟩ := h
    rfl
  · obtain ⟨l, z, sp, rs, res, rfl, la, ok, hz, hres, k⟩ := h
    refine ⟨_, (pss_cons (ps_par (i := 2) (j := 3) (by rfl) sc__law_due.nd rfl rfl (by decide) rfl rfl (pa_cons (pe_disp (pps_cons pe_str (pv 1) (pps_cons pe_str pe_int (pps_cons pe_str pe_bl pps_nil))) (by rfl) (by rfl) (fun z => by cases z) (by decide)) (pa_cons (pe_lst pa_nil) pa_nil)) (by rfl))
      (Evl.pss_cut (ps_for po_own rfl (pi_range1 rfl T.b_range (pa_cons (pe_op op_add (pe_callB call_len_str (by rfl) T.b_len PySem.boot_len (pa_cons (pv 1) pa_nil)) pe_int) pa_nil)) (pg_name (i := 4) sc__law_due.nd rfl (by first | exact Or.inl rfl | exact Or.inr rfl))
      (Evl.pss_cut (ps_for po_own rfl (pi_range1 rfl T.b_range (pa_cons (pe_callB call_len_str (by rfl) T.b_len PySem.boot_len (pa_cons (pv 1) pa_nil)) pa_nil)) (pg_name (i := 5) sc__law_due.nd rfl (by first | exact Or.inl rfl | exact Or.inr rfl))
      (pss_cons (ps_if (pt_cmpR op_notIn_seq (po_call (ok__law_seen T) (hr.mono (by decide)) rfl T.g__law_seen px_of (pa_cons (pv 2) pa_nil)) (pe_lst (pa_cons pe_str (pa_cons pe_str pa_nil))) rfl)
      (pss_one ps_break)
      pss_nil)
      (pss_one (ps_dput (hu1 hr) (pv 2) pe_str (pe_op op_add (pe_dget (hu1 hr) (pv 2) pe_str (fun _ _ => rfl)) pe_int) rfl))))
      (pss_cons (ps_if (PW.pt (pw_or (pt_val (pe_dget (hu1 hr) (pv 2) pe_str (fun _ _ => rfl))) (pw_or1 (pt_cmpR op_eq (pe_dget (hu1 hr) (pv 2) pe_str (fun _ _ => rfl)) (pe_callB call_len_str (by rfl) T.b_len PySem.boot_len (pa_cons (pv 1) pa_nil)) (nomark _)))))
      (pss_one ps_break)
      pss_nil)
      (pss_cons (ps_expr (po_call (ok__law_line_read T) (hr.mono (by decide)) rfl T.g__law_line_read px_of (pa_cons (pv 2) (pa_cons (pv 0) (pa_cons (pv 3) pa_nil)))))
      (Evl.pss_cut (ps_for po_own rfl (pi_range1 rfl T.b_range (pa_cons (pe_callB call_len_str (by rfl) T.b_len PySem.boot_len (pa_cons (pv 1) pa_nil)) pa_nil)) (pg_name (i := 5) sc__law_due.nd rfl (by first | exact Or.inl rfl | exact Or.inr rfl))
      (pss_cons (ps_if (pt_cmpR op_ne (po_call (ok__law_seen T) (hr.mono (by decide)) rfl T.g__law_seen px_of (pa_cons (pv 2) pa_nil)) pe_str (nomark _))
      (pss_one ps_break)
      pss_nil)
      (pss_one (ps_dput (hu1 hr) (pv 2) pe_str (pe_op op_add (pe_dget (hu1 hr) (pv 2) pe_str (fun _ _ => rfl)) pe_int) rfl))))
      (pss_one (ps_dput (hu1 hr) (pv 2) pe_str (pe_or (pe_dget (hu1 hr) (pv 2) pe_str (fun _ _ => rfl)) (pe_one (pe_cmpR op_notIn_seq (po_call (ok__law_seen T) (hr.mono (by decide)) rfl T.g__law_seen px_of (pa_cons (pv 2) pa_nil)) (pe_lst (pa_cons pe_str (pa_cons pe_str pa_nil))) rfl))) rfl)))))))
      (pss_cons (ps_if (pt_not (pt_val (pe_dget (hu1 hr) (pv 2) pe_str (fun _ _ => rfl))))
      (pss_one (ps_ret (pe_tup (pa_cons pe_str (pa_cons (pv 3) pa_nil)))))
      pss_nil)
      (pss_cons (ps_set (i := 6) sc__law_due.nd rfl (by first | exact Or.inl rfl | exact Or.inr rfl) (pe_split (pe_slice sl_str (pv 1) po_none (po_some (pe_dget (hu1 hr) (pv 2) pe_str (fun _ _ => rfl)))) pe_str))
      (pss_one (ps_ret (pe_tup (pa_cons pe_str (pa_cons (pe_callB call_len_seq (by rfl) T.b_len PySem.boot_len (pa_cons (pv 6) pa_nil)) (pa_cons (pe_op op_add pe_int (pe_callB call_len_str (by rfl) T.b_len PySem.boot_len (pa_cons (pe_ix ix_list (pv 6) (pe_un un_neg pe_int) (fun _ _ => rfl)) pa_nil))) pa_nil)))))))))), ?_⟩
    refine fun c hcn => ⟨_, rfl, upd_same, [(.inr "text", .str z), (.inr "at", .int 0), (.inr "bad", .bl false)], rfl, by simp, of_decide_eq_true rfl, fun L hL => ⟨_, _, rfl, ?_⟩⟩
    have x0 : Ex H (upd (upd (upd H c (.dK [])) c (.dK (mergeK [] [(.inr "text", .str z), (.inr "at", .int 0), (.inr "bad", .bl false)]))) L (.lst [])) := (((Evl.Ex.new hcn)).mut hcn).trans (Evl.Ex.new hL)
    have hcL : c ≠ L := ne_of_none upd_same hL
    have c0 : CurAt (upd (upd (upd H c (.dK [])) c (.dK (mergeK [] [(.inr "text", .str z), (.inr "at", .int 0), (.inr "bad", .bl false)]))) L (.lst [])) c z 0 false := ⟨(upd_ne hcL).trans upd_same, Nat.zero_le _, by omega⟩
    have eL0 : (upd (upd (upd H c (.dK [])) c (.dK (mergeK [] [(.inr "text", .str z), (.inr "at", .int 0), (.inr "bad", .bl false)]))) L (.lst [])) L = some (.lst []) := upd_same
    have hL0 : H L = none := by
      rw [upd_ne hcL.symm, upd_ne hcL.symm] at hL
      exact hL
    show Evl.tCut _ _ _ [some (.ref l), some (.str z), some (.ref c), some (.ref L), none, none, none] _
    generalize upd (upd (upd H c (.dK [])) c (.dK (mergeK [] [(.inr "text", .str z), (.inr "at", .int 0), (.inr "bad", .bl false)]))) L (.lst []) = H0 at x0 c0 eL0 ⊢
    have slj : ∀ j b, (curK z j b).length < sizeLine := fun j b => of_decide_eq_true rfl
    have cin : c ∈ [c] := List.mem_singleton.mpr rfl
    have outc : ∀ {Ha Hb : Hp}, Ex H Ha → Kp [c] Ha Hb → Ex H Hb := fun {Ha Hb} xa kb => ((Kp.of (ms := []) xa).outs kb fun q hq => by rw [List.mem_singleton.mp hq]; exact hcn).ex
    have lenz : ∀ {σ : L2.St} {H' : Hp}, σ[1]? = some (some (.str z)) → Evl.Ev (tCB (fun xs H Q => ∃ z : Str, xs = [V.str z] ∧ z.length ≤ sizeLine ∧ Q (V.int z.length) H) (tCons (tVar 1) tNil)) σ H' (.int (z.length : Int)) := fun {σ H'} h1 =>
      Evl.ev_cb (Evl.ea_cons (Evl.ev_var h1) Evl.ea_nil) fun H1 _ Q q => ⟨z, rfl, szl (by omega), q H1 (Evl.Ex.refl H1)⟩
    refine ⟨fun σ H' => ∃ (vals : List V) (i : Nat) (b : Bool) (s4 s5 : Option V), σ = [some (.ref l), some (.str z), some (.ref c), some (.ref L), s4, s5, none] ∧ Ex H H' ∧ CurAt H' c z i b ∧ H' L = some (.lst vals) ∧
      ((b = true ∧ res = .error i) ∨ (b = false ∧ ∃ ls, res = .ok ls ∧ LinesAt K H' vals ls)), ?_, ?_⟩
    · refine ⟨_, rfl, z, rfl, szl (by omega), _, _, rfl, rfl, _, rfl, by omega, by omega, ?_⟩
      have e1 : ((z.length : Int) + 1).toNat = z.length + 1 := by omega
      rw [e1]
      refine for_range (lo := 0) (n := z.length + 1) (fun m σ H' => ∃ (vals : List V) (i : Nat) (b : Bool) (s4 s5 : Option V), σ = [some (.ref l), some (.str z), some (.ref c), some (.ref L), s4, s5, none] ∧ Ex H H' ∧ CurAt H' c z i b ∧ H' L = some (.lst vals) ∧
        ((b = true ∧ res = .error i) ∨ (b = false ∧ m ≤ i ∧ ∃ ls, LinesAt K H' vals ls ∧ (goalsOf ls).Nodup ∧ ls.length ≤ m ∧ pTabGo (cs z) sp rs (z.length + 1 - m) ls i = some res)))
        ⟨[], 0, false, none, none, rfl, x0, c0, eL0, .inr ⟨rfl, Nat.le_refl _, [], .nil, List.nodup_nil, Nat.le_refl _, hres⟩⟩ (fun m σ H' hm q => ?_) (fun σ H' q => ?_)
      · obtain ⟨vals, i, b, s4, s5, rfl, x', c', eL', st⟩ := q
        refine ⟨fun σ' H2 => ∃ s5, σ' = [some (.ref l), some (.str z), some (.ref c), some (.ref L), some (.int (0 + (m : Int))), s5, none] ∧ Kp [c] H' H2 ∧ CurAt H2 c z (if b = true then i else skipN isWs (cs z) i) b, ?_, ?_⟩
        · refine skip_loop (p := isWs) (ci := 2) (j := 5) (s0 := s5) (by decide) rfl rfl c' (Evl.ea_cons (lenz rfl) Evl.ea_nil) (fun σ1 Ha q hs hq => ?_) fun s Ha k2 c2 => ⟨s, rfl, k2, c2⟩
          have e9 : (b || !(match (cs z)[q]? with | some d => isWs d | none => false)) = (!inV (.str (seenS z q b)) [.str " ", .str "\n"]) := by
            rw [seen_ws]
            cases b <;> simp
          rw [e9]
          exact Evl.et_test (Evl.ev_opL (ev_seenV hs hq) (Evl.el_lst (Evl.ea_cons Evl.ev_c (Evl.ea_cons Evl.ev_c Evl.ea_nil)) (by decide)) fun p H1 hp x => Evl.rv_niL (SqL.of hp) (by rfl) (by rfl))
        · rintro σ' H2 ⟨s5', rfl, k2, c2⟩
          have x2 := outc x' k2
          have eL2 := k2 _ _ (by simpa using hcL.symm) eL'
          have od2 := odd1 c'.1 (.inr (.inr ⟨_, rfl⟩))
          refine Evl.q_when (Evl.et_or (ev_bad rfl c2) (fun hb => Evl.et_test (Evl.ev_op (ev_dk (Evl.ev_var rfl) (.inl c2.1) cur_i) (lenz rfl) (Evl.rv_eq rfl)))) (fun hb H3 x3 => ?_) (fun hb H3 x3 => ?_)
          · refine ⟨vals, _, b, _, _, rfl, x2.trans x3, c2.mono x3, x3 _ _ eL2, ?_⟩
            rcases st with ⟨rfl, hr⟩ | ⟨rfl, hmi, ls, lal, nd, hn, hp⟩
            · exact .inl ⟨rfl, hr⟩
            · refine .inr ⟨rfl, ls, ?_, lines_mono x3 (lines_odd k2 od2 lal)⟩
              rw [Bool.false_or, decide_eq_true_eq] at hb
              have hb : ((skipN isWs (cs z) i : Nat) : Int) = (z.length : Int) := V.int.inj hb
              have ef : z.length + 1 - m = (z.length - m) + 1 := by omega
              rw [ef, pTabGo, if_neg (by rw [cs_len]; omega)] at hp
              exact (Option.some.inj hp).symm
          · rw [Bool.or_eq_false_iff] at hb
            obtain ⟨rfl, hb⟩ := hb
            rcases st with ⟨h, _⟩ | ⟨_, hmi, ls, lal, nd, hn, hp⟩
            · cases h
            have c2 : CurAt H2 c z (skipN isWs (cs z) i) false := c2
            have hlt : skipN isWs (cs z) i < z.length := by
              have h1 := c2.2.1
              have h2 : ¬ ((skipN isWs (cs z) i : Nat) : Int) = (z.length : Int) := fun q => of_decide_eq_false hb (congrArg V.int q)
              omega
            have hge := skip_ge isWs (cs z) i
            have ef : z.length + 1 - m = (z.length - m) + 1 := by omega
            rw [ef, pTabGo, if_pos (by rw [cs_len]; exact hlt)] at hp
            have c3 := c2.mono x3
            have eL3 := x3 _ _ eL2
            have lal3 := lines_mono x3 (lines_odd k2 od2 lal)
            have hx3 := x2.trans x3
            refine ⟨_, rfl, _, rfl, _, rfl, c, l, L, z, skipN isWs (cs z) i, sp, rs, vals, ls, rfl, c3, la.mono hx3, ok, eL3, lal3, by omega, nd, fun vals' H4 k4 p4 eL4 hl4 => ?_⟩
            have hx4 : Ex H H4 := ((Kp.of (ms := []) hx3).outs k4 fun q hq => by
              rcases List.mem_cons.mp hq with rfl | hq
              · exact hcn
              · rw [List.mem_singleton.mp hq]
                exact hL0).ex
            obtain ⟨i4, b4, c4, hb1, hb2⟩ := p4.bad
            refine ⟨fun σ' H5 => ∃ s5, σ' = [some (.ref l), some (.str z), some (.ref c), some (.ref L), some (.int (0 + (m : Int))), s5, none] ∧ Kp [c] H4 H5 ∧ CurAt H5 c z (if b4 = true then i4 else skipN isSp (cs z) i4) b4, ?_, ?_⟩
            · refine skip_loop (p := isSp) (ci := 2) (j := 5) (s0 := s5') (by decide) rfl rfl c4 (Evl.ea_cons (lenz rfl) Evl.ea_nil) (fun σ1 Ha q hs hq => ?_) fun s Ha k2 c2 => ⟨s, rfl, k2, c2⟩
              refine Evl.et_is (Evl.et_test (Evl.ev_op (ev_seenV hs hq) Evl.ev_c (Evl.rv_ne (by rfl)))) ?_
              rw [seen_is (t := " ") (c := 32) rfl]
              cases b4 with
              | true => rfl
              | false =>
                cases hd : (cs z)[q]? with
                | none => simp
                | some d => simp [isSp, Bool.beq_eq_decide_eq]
            · rintro σ' H5 ⟨s5'', rfl, k5, c5⟩
              have x5 := outc hx4 k5
              have eL5 := k5 _ _ (by simpa using hcL.symm) eL4
              have od4 := odd1 c4.1 (.inr (.inr ⟨_, rfl⟩))
              cases b4 with
              | true =>
                have c5 : CurAt H5 c z i4 true := c5
                refine s_dput (v := .bl (true || false)) rfl (Evl.ev_orV (ev_dk (Evl.ev_var rfl) (.inl c5.1) cur_b) (fun h => by cases h)) c5.1 (slj _ _) fun H6 x6 => ?_
                rw [cur_bad]
                have k6 : Kp [c] H5 (upd H6 c (.dK (curK z i4 (true || false)))) := (Kp.of x6).put cin
                refine ⟨vals', i4, true, _, _, rfl, outc x5 k6, (c5.mono x6).put c5.2.1, k6 _ _ (by simpa using hcL.symm) eL5, .inl ⟨rfl, ?_⟩⟩
                have hpl : pLine (cs z) sp rs ls (skipN isWs (cs z) i) = .error i4 := by
                  have h1 := hb1 rfl
                  cases hq : pLine (cs z) sp rs ls (skipN isWs (cs z) i) with
                  | error e =>
                    rw [hq] at h1
                    have h1 : e = i4 := Except.error.inj h1
                    rw [h1]
                  | ok p =>
                    rw [hq] at h1
                    cases h1
                have hpe : pLineE (cs z) sp rs ls (skipN isWs (cs z) i) = .error i4 := by
                  unfold pLineE
                  rw [hpl]
                  rfl
                rw [hpe] at hp
                exact (Option.some.inj hp).symm
              | false =>
                have c5 : CurAt H5 c z (skipN isSp (cs z) i4) false := c5
                obtain ⟨ln, hpl⟩ : ∃ ln, pLine (cs z) sp rs ls (skipN isWs (cs z) i) = .ok (ln, i4) := by
                  have h1 := hb2 rfl
                  cases hq : pLine (cs z) sp rs ls (skipN isWs (cs z) i) with
                  | error e =>
                    rw [hq] at h1
                    cases h1
                  | ok p =>
                    rw [hq] at h1
                    have h1 : p.2 = i4 := Except.ok.inj h1
                    exact ⟨p.1, by rw [← h1]⟩
                have lal5 := lines_odd k5 od4 (hl4 ln i4 hpl)
                have nd5 := line_nd hpl nd
                have hi4 := (pLine_ok (by have := c4.2.1; have := c4.2.2; omega) hpl).2.1
                have hge4 := skip_ge isSp (cs z) i4
                obtain ⟨bb, hbb⟩ : ∃ bb : Bool, bb = (match (cs z)[skipN isSp (cs z) i4]? with | some d => d == 10 | none => true) := ⟨_, rfl⟩
                refine s_dput (v := .bl (false || !bb)) rfl (Evl.ev_orV (ev_dk (Evl.ev_var rfl) (.inl c5.1) cur_b) (fun _ => ?_)) c5.1 (slj _ _) fun H6 x6 => ?_
                · rw [hbb, ← seen_nl]
                  exact Evl.ev_opL (ev_seenV rfl c5) (Evl.el_lst (Evl.ea_cons Evl.ev_c (Evl.ea_cons Evl.ev_c Evl.ea_nil)) (by decide)) fun p H1 hp x => Evl.rv_niL (SqL.of hp) (by rfl) (by rfl)
                rw [cur_bad]
                have k6 : ∀ b, Kp [c] H5 (upd H6 c (.dK (curK z (skipN isSp (cs z) i4) b))) := fun b => (Kp.of x6).put cin
                have eL6 : ∀ b, upd H6 c (.dK (curK z (skipN isSp (cs z) i4) b)) L = some (.lst vals') := fun b => k6 b _ _ (by simpa using hcL.symm) eL5
                have od5 := odd1 c5.1 (.inr (.inr ⟨_, rfl⟩))
                have hpE : pLineE (cs z) sp rs ls (skipN isWs (cs z) i) = bnd (endU (cs z) i4) fun _ i => .ok (ln, i) := by
                  unfold pLineE
                  rw [hpl]
                  rfl
                have nl : (ls ++ [ln]).length ≤ m + 1 := by
                  rw [List.length_append]
                  exact Nat.succ_le_succ hn
                have ef2 : z.length + 1 - (m + 1) = z.length - m := by omega
                cases hd : (cs z)[skipN isSp (cs z) i4]? with
                | none =>
                  rw [hd] at hbb
                  subst hbb
                  refine ⟨vals', _, false, _, _, rfl, outc x5 (k6 _), (c5.mono x6).put c5.2.1, eL6 _, .inr ⟨rfl, by omega, ls ++ [ln], lines_odd (k6 _) od5 lal5, nd5, nl, ?_⟩⟩
                  have he : endU (cs z) i4 = .ok ((), skipN isSp (cs z) i4) := by
                    unfold endU pEnd
                    rw [if_neg (by rw [cs_len]; have := sg_ge hd; omega)]
                    rfl
                  rw [hpE, he] at hp
                  rw [ef2]
                  exact hp
                | some d =>
                  have hlt5 := sg_lt hd
                  rw [hd] at hbb
                  have hbb : bb = (d == 10) := hbb
                  by_cases h10 : d = 10
                  · subst h10
                    subst hbb
                    refine ⟨vals', _, false, _, _, rfl, outc x5 (k6 _), (c5.mono x6).put c5.2.1, eL6 _, .inr ⟨rfl, by omega, ls ++ [ln], lines_odd (k6 _) od5 lal5, nd5, nl, ?_⟩⟩
                    have he : endU (cs z) i4 = .ok ((), skipN isSp (cs z) i4 + 1) := by
                      unfold endU pEnd
                      rw [if_pos (by rw [cs_len]; exact hlt5), if_pos hd]
                      rfl
                    rw [hpE, he] at hp
                    rw [ef2, pTabGo_ws (skip_yes hd rfl)]
                    exact hp
                  · have e10 : (d == 10) = false := beq_eq_false_iff_ne.mpr h10
                    rw [e10] at hbb
                    subst hbb
                    refine ⟨vals', _, true, _, _, rfl, outc x5 (k6 _), (c5.mono x6).put c5.2.1, eL6 _, .inl ⟨rfl, ?_⟩⟩
                    have he : endU (cs z) i4 = .error (skipN isSp (cs z) i4) := by
                      unfold endU pEnd
                      rw [if_pos (by rw [cs_len]; exact hlt5), if_neg (fun q => h10 (by rw [hd] at q; exact Option.some.inj q))]
                      rfl
                    rw [hpE, he] at hp
                    exact (Option.some.inj hp).symm
      · obtain ⟨vals, i, b, s4, s5, rfl, x', c', eL', st⟩ := q
        refine ⟨vals, i, b, s4, s5, rfl, x', c', eL', ?_⟩
        rcases st with h | ⟨rfl, hmi, _⟩
        · exact .inl h
        · have := c'.2.1
          omega
    · rintro σ H' ⟨vals, i, b, s4, s5, rfl, x', c', eL', st⟩
      refine Evl.q_when (Evl.et_not (ev_bad rfl c')) (fun hb H2 x2 => ?_) (fun hb H2 x2 => ?_)
      · rcases st with ⟨rfl, _⟩ | ⟨rfl, ls, rfl, lal⟩
        · cases hb
        · refine ⟨_, rfl, of_decide_eq_true rfl, fun t ht => ?_⟩
          have xt := Evl.Ex.new (o := .tup [.str "told", .ref L]) ht
          exact k t L vals _ ((x'.trans x2).trans xt) upd_same (xt _ _ (x2 _ _ eL')) (lines_mono (x2.trans xt) lal)
      · rcases st with ⟨rfl, rfl⟩ | ⟨rfl, _⟩
        · have c2 := c'.mono x2
          have hi := c'.2.1
          refine ⟨_, rfl, _, rfl, c, _, rfl, .inl ⟨_, .inr "at", .inl c2.1, rfl, rfl⟩, _, rfl, z, rfl, szl (by omega), ?_⟩
          rw [cut_take]
          obtain ⟨ps, hps, hne, hlen, ⟨q, hq, hql⟩, hpl, hpx, _⟩ := split_nl (sS ((cs z).take i))
          have ex : (sS ((cs z).take i)).length = i := by
            rw [← cs_len, cs_sS, List.length_take, cs_len]
            omega
          rw [cs_sS] at hlen hql
          rw [ex] at hpl hpx
          refine ⟨⟨_, rfl⟩, _, _, rfl, rfl, rfl, ?_, fun p hp => ?_⟩
          · rw [ex]
            exact Nat.le_trans (show i + 2 ≤ 4000002 by omega) (by decide)
          rw [hps]
          have xp := Evl.Ex.new (o := .lst (ps.map V.str)) hp
          have ep : upd H2 p (.lst (ps.map V.str)) p = some (.lst (ps.map V.str)) := upd_same
          have hqx := hpx q (List.mem_of_getLast? hq)
          obtain ⟨g, hg, hga⟩ := lastS_at hne
          rw [hq] at hg
          cases hg
          refine ⟨_, rfl, p, _, rfl, .inl (SqL.of ep), _, rfl, 1, rfl, p, _, -1, _, rfl, rfl, SqL.of ep, hga, q, rfl, szl (by omega), _, _, rfl, rfl, of_decide_eq_true rfl, fun t ht => ?_⟩
          have e1 : ((ps.map V.str).length : Int) = (lnOf (cs z) i : Nat) := by
            rw [List.length_map, hlen]
            rfl
          have e2 : (1 : Int) + (q.length : Int) = (colOf (cs z) i : Nat) := by
            unfold colOf
            rw [hql]
            omega
          rw [e1]
          dsimp only
          rw [e2]
          exact k t _ (((x'.trans x2).trans xp).trans (Evl.Ex.new ht)) upd_same
        · cases hb
end
end Lx
set_option Elab.async false
set_option linter.all false
set_option maxRecDepth 100000
set_option maxHeartbeats 4000000
namespace Lx
open PySem PySem.Spec PyProof.Rows L2 Pz
section
variable {P : Program} {w : World} {K : PySem.W.Frag} {mg : Str → Option Value} {base : Heap}
/-- a picked item of a list whose object is known is one of its items -/
theorem pick_raw (T : TT K mg base) {A : Around} {outer : List Env} {s : Shared} {H : Hp} {p pc l : Addr} {N n : Nat} {its : List Value} {xs : List V} {E : XK} {R : Value → Shared → Prop} (hr : Room 2 A) (e0 : Env0 P w K mg base A outer s H) (hp : PenAt H p pc N) (hN : N ≤ 1000000)
    (hl : H l = some (.frz { cls := .type "list", data := .seq its.toArray n } (.lst xs))) (hx : Vals xs its) (hne : xs ≠ []) (hz : xs.length ≤ 1000000)
    (k : ∀ u s' H', u ∈ its → s'.os = s.os → AllBare s'.gens → Un (frs outer) [] H H' s.heap s'.heap → HOk P w H' s'.heap → Kp [p] H H' → PenAt H' p pc (N + 1) → R u s') :
    codeAny (model P w) A (.call (.ref (He.ga K "_law_pick")) ⟨[.ref p, .ref l], []⟩) (fun r s' => match r with | .ok (.ret u) => R u s' | .ok _ => False | .error e => L2.CX P w outer H s E e s') s := by
  obtain ⟨fd, F⟩ := T.f__law_pick
  obtain ⟨oc, od, dV, kV, doc, pm, an, cdv, ct, osl, rfl, lk, hcd, hD, hK⟩ := F.ex
  have hdV : dV = .none := by
    rcases hD with ⟨_, h⟩ | ⟨h, _⟩
    · exact h
    · exact absurd rfl h
  subst hdV
  have S := sc__law_pick
  have KX : K.In s.heap := e0.mod.kin.keeps fun b o e => (e0.bs b o e).1
  have lim : s.heap.NoLimit := e0.mod.nolimit.keeps fun b o e => (e0.bs b o e).1
  have hkind : ∀ v ∈ [("_law_pen_here" : Str), "_law_some"].zip [Value.ref p, .ref l], (defScope s__law_pick).names.lookup v.1 = some .local ∨ ((defScope s__law_pick).names.lookup v.1 = some .cell ∧ ((cellsFrom (s.heap.objs.size + 1) (defScope s__law_pick).names []).lookup v.1).isSome = true) := fun ⟨n, v⟩ hy => by
    rcases S.par n (List.of_mem_zip hy).1 with q | q
    · exact .inl q
    · exact .inr ⟨q, PySem.W.cellsFrom_some _ _ _ (.inl q)⟩
  refine codeAny_call_function hr.depth (KX _ _ lk) rfl S.co S.gen rfl (PySem.W.codeRec_of KX hcd) (BindsTo.of_eq (show bindArgs _ ⟨[.ref p, .ref l], []⟩ = pure ([("_law_pen_here" : Str), "_law_some"].zip [.ref p, .ref l]) from rfl) _ _ _ _ ?_)
  refine wpAny_newFunctionEnv_cells S.kind hkind fun env he s1 xx => ?_
  subst he
  refine ⟨lim.keeps xx.toInCall.keep, codeAny_func ?_⟩
  have rv : Vals [V.ref p, .ref l] [Value.ref p, .ref l] := .cons rfl (.cons rfl .nil)
  have I : Inv (cxOf (L2.CX P w) P w K mg base nm__law_pick "_law_pick" (defScope s__law_pick) (He.ga K "_law_pick") cdv A outer s H E) [] (start nm__law_pick [.ref p, .ref l]) H s1 := inv_start S hr.hd e0 rfl rv xx
  have hr := hr.deeper (envOfC "_law_pick" (defScope s__law_pick) s.heap.objs.size (He.ga K "_law_pick") cdv)
  have hlen := hx.length
  refine wpAny_execs_cons (wpAny_Return_some (Subscript_ (raw_name (i := 1) (v := .ref l) rfl (by first | exact Or.inl rfl | exact Or.inr (Or.inl rfl)) I rfl (fun v r => ?_))))
  have e : v = Value.ref l := r
  subst e
  refine thn (PE.run (t := ?t) (X := cxOf (L2.CX P w) P w K mg base nm__law_pick "_law_pick" (defScope s__law_pick) (He.ga K "_law_pick") cdv A outer s H E) ?he [] s1 (start nm__law_pick [.ref p, .ref l]) H (fun y H2 => ∃ d : Nat, y = .int d ∧ d < xs.length ∧ Kp [p] H H2 ∧ PenAt H2 p pc (N + 1)) I ?hq) fun iv s2 ⟨y, H2, I2, r2, d, ey, hd, k2, p2⟩ => ?_
  case he => exact (po_call (X := cxOf (L2.CX P w) P w K mg base nm__law_pick "_law_pick" (defScope s__law_pick) (He.ga K "_law_pick") cdv A outer s H E) (x := ("_law_draw" : Str)) (ok__law_draw T) (hr.mono (by decide)) rfl T.g__law_draw px_of (pa_cons (pv 0) (pa_cons (pe_callB call_len (by rfl) T.b_len PySem.boot_len (pa_cons (pv 1) pa_nil)) pa_nil)))
  case hq =>
    have h1 : xs.length ≠ 0 := fun q => hne (List.length_eq_zero_iff.mp q)
    exact ⟨_, rfl, _, rfl, .ref l, xs.length, rfl, .inl ⟨xs, .inl (.inr ⟨_, hl⟩), rfl⟩, p, pc, xs.length, N, rfl, hp, hN, by omega, by omega, fun d H2 hd k2 p2 _ => ⟨d, rfl, by omega, k2, p2⟩⟩
  · subst ey
    obtain ⟨t, rfl⟩ := r2
    have pl : l ≠ p := fun q => by
      obtain ⟨kvs, g, _⟩ := hp
      rw [q, g] at hl
      cases hl
    have hl2 : H2 l = some (.frz { cls := .type "list", data := .seq its.toArray n } (.lst xs)) := k2 _ _ (by simpa using pl) hl
    have ho := (show ObjOk P w H2 s2.heap l (.frz { cls := .type "list", data := .seq its.toArray n } (.lst xs)) from I2.hok l _ hl2).1
    have hil : s2.heap.IsList l its.toArray := ⟨_, ho, rfl, n, rfl⟩
    have hdi : d < its.length := by omega
    have hl63 := line63
    exact item_listR hil (Int.natCast_nonneg d) (by omega) (show its.toArray[((d : Nat) : Int).toNat]? = some its[d] by simp [hdi]) (k _ _ H2 (List.getElem_mem hdi) I2.os I2.bare I2.base I2.hok k2 p2) rfl
/-- .replace(y, _law_pick(pen, [a, b])): which of both is open -/
def tReplPick (ip : Nat) (y a b : Str) (to : TE) : TE := fun σ H Q => to σ H fun v H1 => ∃ (x : Str) (p pc : Addr) (N : Nat), v = .str x ∧ x.length + (x.length + 1) * a.length ≤ 16777216 ∧ x.length + (x.length + 1) * b.length ≤ 16777216 ∧ σ[ip]? = some (some (.ref p)) ∧ PenAt H1 p pc N ∧ N ≤ 1000000 ∧
  ∀ z, (z = a ∨ z = b) → ∀ H', Kp [p] H1 H' → PenAt H' p pc (N + 1) → Q (.str (Txt.replace x y z)) H'
theorem pet_replPick {X : Cx} {E0 : XK} (T : TT X.K X.mg X.base) {o : Expr} {to : TE} {ip : Nat} {px : Str} {y a b : Str} {j j1 j2 : Nat} {c0 c1 c2 pf p1 p2 p3 apos pos : Pos}
    (hr : Room 2 X.A) (hx : Passes (L2.CX X.prog X.w) X E0) (ho : PE X o to) (hg : Gl X "_law_pick") (hNp : X.N[ip]? = some px) (hvp : Vis X.env.scope px)
    (hya : (y == a) = false := by decide) (hyb : (y == b) = false := by decide) (hdp : (px == ("__debug__" : Str)) = false := by decide) (hcp : (px == ("__classdict__" : Str)) = false := by decide)
    (hst : starEach [.Constant (.str y) j c0, .Call (.Name "_law_pick" pf) [.Name px p1, .List [.Constant (.str a) j1 c1, .Constant (.str b) j2 c2] p2] [] p3] X.env = [(false, eval (.Constant (.str y) j c0) X.env), (false, eval (.Call (.Name "_law_pick" pf) [.Name px p1, .List [.Constant (.str a) j1 c1, .Constant (.str b) j2 c2] p2] [] p3) X.env)] := by rfl)
    (hst2 : starEach [.Name px p1, .List [.Constant (.str a) j1 c1, .Constant (.str b) j2 c2] p2] X.env = [(false, eval (.Name px p1) X.env), (false, eval (.List [.Constant (.str a) j1 c1, .Constant (.str b) j2 c2] p2) X.env)] := by rfl)
    (hst3 : starEach [.Constant (.str a) j1 c1, .Constant (.str b) j2 c2] X.env = [(false, eval (.Constant (.str a) j1 c1) X.env), (false, eval (.Constant (.str b) j2 c2) X.env)] := by rfl)
    (hbase : attributeBase o "replace" X.env (eval o X.env) = eval o X.env := by rfl) (hline : (apos.endLine == pos.line) = true := by rfl) :
    PET X (.Call (.Attribute o "replace" apos) [.Constant (.str y) j c0, .Call (.Name "_law_pick" pf) [.Name px p1, .List [.Constant (.str a) j1 c1, .Constant (.str b) j2 c2] p2] [] p3] [] pos) (tReplPick ip y a b to) := by
  intro pins s σ H Q h0 I h
  obtain ⟨fd, F⟩ := T.f__law_pick
  refine PySem.Call_method2 hbase hst hline (wpAny_mono (PySem.wpAny_toks (ho.run pins s σ H _ I h)) (fun v s1 q => ?_) fun _ _ z => z.2)
  obtain ⟨hk, v', H1, I1, r1, x, p, pc, N, e1, hba, hbb, hσ, hp, hN1, q⟩ := q
  subst e1
  obtain ⟨tx, e2⟩ := r1
  subst e2
  refine ⟨"str", _, PySem.F.plainAttrs_str, PySem.F.slot_str_replace, PySem.F.type_str_replace, typeIs_str _ _ _, (fun _ e => nomatch e), Calls.callWith_builtin rfl (Calls.evalArgs_plain (Calls.spliced_cons ?_))⟩
  refine Calls.Constant_str (Calls.spliced_cons ?_)
  have I2 : Inv X pins σ H1 { s1 with toks := s1.toks + 1 } := I1.tok _
  refine wpAny_Call_Name_kw (ld_glob I2 hg T.g__law_pick ?_ (by decide))
  refine PySem.W.callWith_K (h₀ := X.base) I2.ok.mod.kin F.kp ?_ (by rw [hst2]; rfl) rfl
  rw [hst2]
  refine Calls.spliced_cons (raw_name (v := .ref p) hNp hvp I2 hσ (fun u r => ?_) hdp hcp)
  obtain rfl : u = Value.ref p := r
  refine Calls.spliced_cons (wpAny_List_spliced ?_)
  rw [hst3]
  refine Calls.spliced_cons ?_
  show wpAny _ _ (eval (.Constant (.str a) j1 c1) X.env) _ _ _
  refine Calls.Constant_str ?_
  refine Calls.spliced_cons ?_
  show wpAny _ _ (eval (.Constant (.str b) j2 c2) X.env) _ _ _
  refine Calls.Constant_str ?_
  refine Calls.spliced_nil ⟨of_decide_eq_true rfl, ?_⟩
  refine Calls.spliced_nil ?_
  have hL : H1 s1.heap.objs.size = none := I1.hok.fresh (Nat.le_refl _)
  have rv : Vals [V.str a, .str b] [Value.str a (s1.toks + 1), .str b (s1.toks + 1 + 1)] := .cons ⟨_, rfl⟩ (.cons ⟨_, rfl⟩ .nil)
  have I3 : Inv X pins σ (upd H1 s1.heap.objs.size (.frz { cls := .type "list", data := .seq [Value.str a (s1.toks + 1), .str b (s1.toks + 1 + 1)].toArray 0 } (.lst [.str a, .str b]))) { s1 with heap := s1.heap.push { cls := .type "list", data := .seq [Value.str a (s1.toks + 1), .str b (s1.toks + 1 + 1)].toArray }, toks := s1.toks + 1 + 1 + 1 } :=
    I1.laid (t' := s1.toks + 1 + 1 + 1) (fun b u e => Heap.get?_push_of_some _ e) (Nat.le_refl _) ⟨Heap.get?_push_size _ rfl, of_decide_eq_true rfl, _, 0, rv, Heap.get?_push_size _ rfl⟩
  have x3 := Evl.Ex.new (o := .frz { cls := .type "list", data := .seq [Value.str a (s1.toks + 1), .str b (s1.toks + 1 + 1)].toArray 0 } (.lst [.str a, .str b])) hL
  refine ⟨I3.kIn, wpAny_call (codeAny_mono (pick_raw T (E := E0) (R := fun u s' => ∃ H', (u = Value.str a (s1.toks + 1) ∨ u = .str b (s1.toks + 1 + 1)) ∧ Inv X pins σ H' s' ∧ Kp [p] H1 H' ∧ PenAt H' p pc (N + 1)) hr I3.env0 (hp.mono x3) hN1 upd_same rv (List.cons_ne_nil _ _) (show 2 ≤ 1000000 by decide) fun u s' H' hu os bare un hok k p' => ?_) fun r s' hq => ?_)⟩
  · obtain ⟨hh, g, d, tk, os'⟩ := s'
    obtain rfl : os' = _ := os
    exact ⟨H', by simpa using hu, I3.call (h' := hh) (g' := g) (d' := d) (t' := tk) (ch := []) un hok bare (fun b z => absurd z (by simp)), (Kp.of x3).trans k, p'⟩
  · cases r with
    | error e => exact hx pins σ _ _ e s' I3 hq
    | ok fl =>
      cases fl with
      | ret u =>
        obtain ⟨H', hu, I4, k4, p4⟩ := hq
        refine Calls.spliced_nil ?_
        have ht0 : s1.toks ≠ 0 := by omega
        rcases hu with rfl | rfl
        · exact PySem.SC.replace ht0 (show s1.toks + 1 ≠ 0 by omega) (show s1.toks ≠ s1.toks + 1 by omega) hya hba fun t' k => ⟨.str (Txt.replace x y a), H', I4.tok k, ⟨t', rfl⟩, q a (.inl rfl) H' k4 p4⟩
        · exact PySem.SC.replace ht0 (show s1.toks + 1 + 1 ≠ 0 by omega) (show s1.toks ≠ s1.toks + 1 + 1 by omega) hyb hbb fun t' k => ⟨.str (Txt.replace x y b), H', I4.tok k, ⟨t', rfl⟩, q b (.inr rfl) H' k4 p4⟩
      | next => exact False.elim hq
      | brk => exact False.elim hq
      | cont => exact False.elim hq
/-- an assignment that wants a token -/
theorem pst_asg {X : Cx} {tg e : Expr} {te : TE} {g : TG} {pos : Pos} (he : PET X e te) (hg : PG X tg g) (hs : swapsWithSole [tg] e pos.line X.env = pure false := by rfl) (hw : swappedStores [tg] e X.env = pure none := by rfl)
    (h1 : (assignEach [tg] X.env).map (·.2) = [assign tg X.env] := by rfl) : PST X (.Assign [tg] e pos) (tAsg te g) := by
  intro pins s σ H D h0 I h
  refine wpAny_Assign_stores (thn (he pins s σ H _ h0 I h) fun v s1 ⟨x, H1, I1, r1, q1⟩ => ?_) hs hw
  rw [h1]
  exact thn (hg.run pins s1 σ H1 x v _ I1 r1 q1) fun _ s2 q => q
theorem pst_if {X : Cx} {c : Expr} {a b : List Stmt} {tc : L2.TT} {t u : TS} {pos : Pos} (hc : PT X c tc) (ha : PSsT X a t) (hb : PSsT X b u) : PST X (.If c a b pos) (tIfS tc t u) := CwR.pst_if hc ha hb
theorem psst_cut {X : Cx} {st : Stmt} {rest : List Stmt} {t u : TS} (h1 : PST X st t) (h2 : PSsT X rest u) : PSsT X (st :: rest) (Evl.tCut t u) := by
  intro pins s σ H D h0 I h
  obtain ⟨Mid, hm, hu⟩ := h
  refine wpAny_execs_cons (wpAny_mono (PySem.wpAny_toks (h1 pins s σ H { D with nx := Mid } h0 I hm)) (fun f s1 q => ?_) fun _ _ x => x.2)
  obtain ⟨hk, q⟩ := q
  cases f with
  | next =>
    obtain ⟨σ', H', I', q⟩ := q
    exact h2 pins s1 σ' H' D (Nat.le_trans h0 hk) I' (hu σ' H' q)
  | ret v => exact q
  | brk => exact q
  | cont => exact q
/-- a def whose body wants a token -/
theorem ok_mkT {x qual : Str} {params : Arguments} {body : List Stmt} {scope : Scope} {f : Addr} {N ps : List Str} {k : Nat} {sp : Sp} (F : ∃ fd, FunD K x qual params body scope [] [] f fd) (S : FnScope N ps scope) (hnc : ∀ y ∈ scope.names, y.2 ≠ .cell) (hps : 1 ≤ ps.length) (len : ∀ vs H Q E, sp vs H Q E → vs.length = ps.length)
    (hb : ∀ (kV doc pm : Value) (an : Option Addr) (cdv ct : Value) (us : List Value), us.length = ps.length → bindArgs (PySem.W.fnOf x qual params body scope .none kV doc pm an cdv ct) ⟨us, []⟩ = pure (ps.zip us))
    (hbody : ∀ (cdv : Value) (A : Around) (outer : List Env) (s : Shared) (H : Hp) (vs : List V) (Q : VK) (E : XK), Room k (A.deeper (envOfC qual scope s.heap.objs.size f cdv)) → sp vs H Q E →
      ∃ t, PSsT (cxOf (L2.CX P w) P w K mg base N qual scope f cdv A outer s H E) body t ∧ t { nx := fun _ H' => Q .non H', rt := Q } (start N vs) H) : Ok P w K mg base (k + 1) f ps [] sp := by
  obtain ⟨fd, F⟩ := F
  refine ⟨⟨fd, [], ?_, F.bindsN hb, .nil⟩, F.kp⟩
  obtain ⟨oc, od, dV, kV, doc, pm, an, cdv, ct, osl, rfl, lk, hcd, _, _⟩ := F.ex
  exact fn_ofT lk hcd S hnc hps len fun A outer s H vs Q E hr hsp => hbody cdv A outer s H vs Q E hr hsp
end
end Lx
set_option Elab.async false
set_option linter.all false
set_option maxRecDepth 100000
set_option maxHeartbeats 4000000
namespace Lx
open PySem PySem.Spec PyProof.Rows L2 Pz
section
variable {P : Program} {w : World} {K : PySem.W.Frag} {mg : Str → Option Value} {base : Heap}
section
variable {σ : L2.St} {H : Hp} {p pc : Addr} {N i : Nat} {m : Int} {te : TE} {E : XK} {Q : VK} {xs : List V}
theorem c_draw (hs : σ[i]? = some (some (.ref p))) (hp : PenAt H p pc N) (hN : N ≤ 1000000) (ht : Evl.Ev te σ H (.int m)) (h1 : 1 ≤ m) (h2 : m ≤ 1000000000) (k : ∀ (d : Nat) H', (d : Int) < m → Kp [p] H H' → PenAt H' p pc (N + 1) → Q (.int d) H') :
    tCall (spDraw K) [] E (tCons (tVar i) (tCons te tNil)) σ H Q :=
  ⟨_, hs, ht H (Evl.Ex.refl H) _ fun H2 x2 => ⟨p, pc, m, N, rfl, hp.mono x2, hN, h1, h2, fun d H' hd k' p' _ => k d H' hd ((Kp.of x2).trans k') p'⟩⟩
theorem c_pick (hs : σ[i]? = some (some (.ref p))) (hp : PenAt H p pc N) (hN : N ≤ 1000000) (ht : Evl.EvL te σ H xs) (h1 : xs ≠ []) (h2 : xs.length ≤ 1000000) (k : ∀ x ∈ xs, ∀ H', Kp [p] H H' → PenAt H' p pc (N + 1) → Q x H') :
    tCall (spPick K) [] E (tCons (tVar i) (tCons te tNil)) σ H Q :=
  ⟨_, hs, ht H (Evl.Ex.refl H) _ fun l H2 _ x2 e2 => ⟨p, pc, .ref l, xs, N, rfl, hp.mono x2, hN, .inl ⟨l, rfl, SqL.of e2⟩, h1, h2, fun x hx H' k' p' => k x hx H' ((Kp.of x2).trans k') p'⟩⟩
theorem c_pickV {l : Addr} (hs : σ[i]? = some (some (.ref p))) (hp : PenAt H p pc N) (hN : N ≤ 1000000) (ht : Evl.Ev te σ H (.ref l)) (hl : SqL K H l xs) (h1 : xs ≠ []) (h2 : xs.length ≤ 1000000) (k : ∀ x ∈ xs, ∀ H', Kp [p] H H' → PenAt H' p pc (N + 1) → Q x H') :
    tCall (spPick K) [] E (tCons (tVar i) (tCons te tNil)) σ H Q :=
  ⟨_, hs, ht H (Evl.Ex.refl H) _ fun H2 x2 => ⟨p, pc, .ref l, xs, N, rfl, hp.mono x2, hN, .inl ⟨l, rfl, sl_mono x2 hl⟩, h1, h2, fun x hx H' k' p' => k x hx H' ((Kp.of x2).trans k') p'⟩⟩
theorem c_pickS {z : Str} (hs : σ[i]? = some (some (.ref p))) (hp : PenAt H p pc N) (hN : N ≤ 1000000) (ht : Evl.Ev te σ H (.str z)) (hz : z.length ≤ 1000) (h1 : 1 ≤ z.length) (k : ∀ c : Nat, ∀ H', Kp [p] H H' → PenAt H' p pc (N + 1) → Q (.str ⟨#[c]⟩) H') :
    tCall (spPick K) [] E (tCons (tVar i) (tCons te tNil)) σ H Q := by
  have hl : (z.cps.toList.map fun c => V.str ⟨#[c]⟩).length = z.length := by
    rw [List.length_map]
    exact cs_len z
  refine ⟨_, hs, ht H (Evl.Ex.refl H) _ fun H2 x2 => ⟨p, pc, .str z, z.cps.toList.map fun c => V.str ⟨#[c]⟩, N, rfl, hp.mono x2, hN, .inr ⟨z, rfl, hz, rfl⟩, fun q => ?_, by rw [hl]; omega, fun x hx H' k' p' => ?_⟩⟩
  · rw [q] at hl
    have : z.length = 0 := hl.symm
    omega
  · obtain ⟨c, _, rfl⟩ := List.mem_map.mp hx
    exact k c H' ((Kp.of x2).trans k') p'
theorem ev_lenS {z : Str} {H' : Hp} (h1 : σ[i]? = some (some (.str z))) (hz : z.length ≤ 4000000) : Evl.Ev (tCB (fun xs H Q => ∃ z : Str, xs = [V.str z] ∧ z.length ≤ sizeLine ∧ Q (V.int z.length) H) (tCons (tVar i) tNil)) σ H' (.int (z.length : Int)) :=
  Evl.ev_cb (Evl.ea_cons (Evl.ev_var h1) Evl.ea_nil) fun H1 _ Q q => ⟨z, rfl, szl hz, q H1 (Evl.Ex.refl H1)⟩
end
/-- two lists that stand, one behind the other -/
theorem el_catVV {σ : L2.St} {H : Hp} {ta tb : TE} {xs ys : List V} {a b : Addr} (ha : Evl.Ev ta σ H (.ref a)) (h1 : H a = some (.lst xs)) (hb : Evl.Ev tb σ H (.ref b)) (h2 : H b = some (.lst ys)) (hl : xs.length + ys.length ≤ 4000000) : Evl.EvL (tOp rCat ta tb) σ H (xs ++ ys) := fun H1 e Q q =>
  ha H1 e _ fun H2 e2 => hb H2 (e.trans e2) _ fun H3 e3 => ⟨a, b, xs, ys, rfl, rfl, e3 _ _ (e2 _ _ (e _ _ h1)), e3 _ _ (e2 _ _ (e _ _ h2)), Nat.le_trans hl (by decide), fun r hr => q r _ (Evl.fresh_back (e2.trans e3) hr) ((e2.trans e3).trans (Evl.Ex.new hr)) upd_same⟩
theorem q_par {σ : L2.St} {H : Hp} {D : Ends} {tz : TS} {i j : Nat} {ta : TA} (h : ta σ H fun vs H1 => ∃ v w, vs = [v, w] ∧ tz D ((σ.set i (some v)).set j (some w)) H1) : tSeq (tPar i j ta) tz D σ H := h
theorem ev_joinV {σ : L2.St} {H : Hp} {i : Nat} {R : Addr} {sep : Str} {ys : List Str} (hs : σ[i]? = some (some (.ref R))) (h : SqL K H R (ys.map V.str)) (hb : (ys.map (·.length)).sum + ys.length * sep.length ≤ 16777216) :
    Evl.Ev (tM1 (fun x xs H Q => ∃ a p, ∃ ys : List Str, x = .str a ∧ xs = [.ref p] ∧ (SqL K H p (ys.map V.str) ∨ SqT K H p (ys.map V.str)) ∧ (ys.map (·.length)).sum + ys.length * a.length ≤ 16777216 ∧ Q (.str (Txt.join a ys)) H) (tC (.str sep)) (tVar i)) σ H (.str (Txt.join sep ys)) :=
  fun H1 e Q q => ⟨⟨_, rfl⟩, _, hs, sep, R, ys, rfl, rfl, .inl (sl_mono e h), hb, q H1 (Evl.Ex.refl H1)⟩
theorem set_strs (ys : List Str) (i : Nat) (x : Str) : (ys.map V.str).set i (.str x) = (ys.set i x).map V.str := by rw [List.map_set]
def spChanged (K : PySem.W.Frag) : Sp := fun vs H Q _ => ∃ (p pc l : Addr) (N : Nat) (z : Str) (sp : List Str) (rs : List RoadM), vs = [.ref p, .str z, .ref l] ∧ PenAt H p pc N ∧ N ≤ 900000 ∧ p ≠ l ∧ LandAt H l sp rs ∧ LandOk sp rs ∧ z.length ≤ 500000 ∧
  ∀ (z' : Str) H', z'.length ≤ 7 * z.length + 100 → Kp [p] H H' → PenAt H' p pc (N + 30) → Q (.str z') H'
theorem ok__law_changed (T : TT K mg base) : Ok P w K mg base 3 (He.ga K "_law_changed") ["_law_pen_here", "_law_text", "_law_land"] [] (spChanged K) := by
  refine ok_mkT T.f__law_changed sc__law_changed (by decide +kernel) (by decide) (fun vs H Q E h => ?_) (fun _ _ _ _ _ _ us hl => match us, hl with | [_, _, _], _ => rfl) (fun cdv A outer s H vs Q E hr h => ?_)
  · obtain ⟨p, pc, l, N, z, sp, rs, rfl, _⟩ := h
    rfl
  · obtain ⟨p, pc, l, N, z, sp, rs, rfl, hp, hN, pl, la, ok, hz, k⟩ := h
    refine ⟨_, psst_cut (PST.of (ps_par3 (i := 3) (j := 4) (l := 5) (by rfl) sc__law_changed.nd rfl rfl rfl (by decide) (by decide) (by decide) rfl rfl rfl (pa_cons (po_call (ok__law_draw T) (hr.mono (by decide)) rfl T.g__law_draw px_of (pa_cons (pv 0) (pa_cons pe_int pa_nil))) (pa_cons (po_call (ok__law_draw T) (hr.mono (by decide)) rfl T.g__law_draw px_of (pa_cons (pv 0) (pa_cons (pe_op op_add (pe_callB call_len_str (by rfl) T.b_len PySem.boot_len (pa_cons (pv 1) pa_nil)) pe_int) pa_nil))) (pa_cons (po_call (ok__law_draw T) (hr.mono (by decide)) rfl T.g__law_draw px_of (pa_cons (pv 0) (pa_cons (pe_op op_add (pe_callB call_len_str (by rfl) T.b_len PySem.boot_len (pa_cons (pv 1) pa_nil)) pe_int) pa_nil))) pa_nil))) (by rfl))) (psst_cons (PST.of (ps_set (i := 6) sc__law_changed.nd rfl (by first | exact Or.inl rfl | exact Or.inr rfl) (pe_split (pv 1) pe_str))) (psst_cons (pst_if (pt_cmpR op_gt (pv 3) pe_int (nomark _))
      (psst_cut (PST.of (ps_set (i := 7) sc__law_changed.nd rfl (by first | exact Or.inl rfl | exact Or.inr rfl) (po_call (ok__law_draw T) (hr.mono (by decide)) rfl T.g__law_draw px_of (pa_cons (pv 0) (pa_cons (pe_callB call_len_seq (by rfl) T.b_len PySem.boot_len (pa_cons (pv 6) pa_nil)) pa_nil))))) (psst_cut (pst_if (pt_cmpR op_eq (pv 3) pe_int (nomark _)) (CwR.psst_one (pst_asg (pet_replPick (ip := 0) T (hr.mono (by decide)) px_of (pe_ix ix_list (pv 6) (pv 7) (fun _ _ => rfl)) rfl rfl (by first | exact Or.inl rfl | exact Or.inr rfl | exact Or.inr (Or.inl rfl))) (pg_sub (pv 6) (pv 7) set_list))) (PSsT.of pss_nil)) (PSsT.of (pss_one (ps_ret (pe_join pe_str (pe_op op_cat (pe_slice sl_list (pv 6) po_none (po_some (pe_op op_add (pv 7) pe_int))) (pe_slice sl_list (pv 6) (po_some (pe_op op_sub (pe_op op_add (pv 7) pe_int) (pv 3))) po_none))))))))
      (PSsT.of pss_nil)) (PSsT.of (pss_cons (ps_if (pt_cmpR op_eq (pv 3) pe_int (nomark _))
      (pss_cons (ps_par (i := 7) (j := 8) (by rfl) sc__law_changed.nd rfl rfl (by decide) rfl rfl (pa_cons (po_call (ok__law_draw T) (hr.mono (by decide)) rfl T.g__law_draw px_of (pa_cons (pv 0) (pa_cons (pe_callB call_len_seq (by rfl) T.b_len PySem.boot_len (pa_cons (pv 6) pa_nil)) pa_nil))) (pa_cons (po_call (ok__law_draw T) (hr.mono (by decide)) rfl T.g__law_draw px_of (pa_cons (pv 0) (pa_cons (pe_callB call_len_seq (by rfl) T.b_len PySem.boot_len (pa_cons (pv 6) pa_nil)) pa_nil))) pa_nil)) (by rfl))
      (pss_cons (ps_asg (pe_tup (pa_cons (pe_ix ix_list (pv 6) (pv 8) (fun _ _ => rfl)) (pa_cons (pe_ix ix_list (pv 6) (pv 7) (fun _ _ => rfl)) pa_nil))) (pg_tup rfl (pgs_cons (pg_sub (pv 6) (pv 7) set_list) (pgs_cons (pg_sub (pv 6) (pv 8) set_list) pgs_nil))))
      (pss_one (ps_ret (pe_join pe_str (pv 6))))))
      pss_nil)
      (pss_cons (ps_if (pt_cmpR op_eq (pv 3) pe_int (nomark _))
      (pss_cons (ps_set (i := 7) sc__law_changed.nd rfl (by first | exact Or.inl rfl | exact Or.inr rfl) (po_call (ok__law_draw T) (hr.mono (by decide)) rfl T.g__law_draw px_of (pa_cons (pv 0) (pa_cons (pe_callB call_len_seq (by rfl) T.b_len PySem.boot_len (pa_cons (pv 6) pa_nil)) pa_nil))))
      (pss_one (ps_ret (pe_join pe_str (pe_op op_cat (pe_slice sl_list (pv 6) po_none (po_some (pe_op op_add (pv 7) (po_call (ok__law_draw T) (hr.mono (by decide)) rfl T.g__law_draw px_of (pa_cons (pv 0) (pa_cons pe_int pa_nil)))))) (pe_slice sl_list (pv 6) (po_some (pe_op op_add (pv 7) (po_call (ok__law_draw T) (hr.mono (by decide)) rfl T.g__law_draw px_of (pa_cons (pv 0) (pa_cons pe_int pa_nil))))) po_none))))))
      pss_nil)
      (pss_cons (ps_set (i := 9) sc__law_changed.nd rfl (by first | exact Or.inl rfl | exact Or.inr rfl) (pe_lst (pa_cons pe_str (pa_cons pe_str (pa_cons pe_str (pa_cons pe_str (pa_cons pe_str (pa_cons pe_str (pa_cons pe_str (pa_cons pe_str (pa_cons pe_str (pa_cons pe_str (pa_cons pe_str (pa_cons pe_str (pa_cons pe_str (pa_cons pe_str pa_nil))))))))))))))))
      (pss_cons (ps_set (i := 9) sc__law_changed.nd rfl (by first | exact Or.inl rfl | exact Or.inr rfl) (pe_op op_cat (pv 9) (pe_lst (pa_cons pe_str (pa_cons pe_str (pa_cons (pe_op op_add_str (pe_op op_add_str pe_str (po_call (ok__law_pick T) (hr.mono (by decide)) rfl T.g__law_pick px_of (pa_cons (pv 0) (pa_cons (pe_dget (hu1 hr) (pv 2) pe_str (fun _ _ => rfl)) pa_nil)))) pe_str) (pa_cons pe_str pa_nil)))))))
      (Evl.pss_cut (ps_set (i := 10) sc__law_changed.nd rfl (by first | exact Or.inl rfl | exact Or.inr rfl) (po_call (ok__law_pick T) (hr.mono (by decide)) rfl T.g__law_pick px_of (pa_cons (pv 0) (pa_cons (pe_op op_cat (pe_op op_cat (pv 9) (pe_dget (hu1 hr) (pv 2) pe_str (fun _ _ => rfl))) (pe_lcB s H (own := [("_law_road", 11)]) rfl sc__law_changed.nd (pi_list (pe_dget (hu1 hr) (pv 2) pe_str (fun _ _ => rfl))) (blkOk_by (own := [("_law_road", 11)]) (N := nm__law_changed) (sc := defScope s__law_changed) (by decide +kernel)) (fun _ _ _ _ _ => (pg_name (i := 11) sc__law_changed.nd rfl (by first | exact Or.inl rfl | exact Or.inr rfl))) (fun _ _ _ _ _ => pts_nil) (fun _ _ _ _ _ => (pe_ix ix_tup (pv 11) pe_int (fun _ _ => rfl))))) pa_nil))))
      (Evl.pss_cut (ps_if (pt_cmpR op_eq (pv 3) pe_int (nomark _))
      (pss_one (ps_set (i := 10) sc__law_changed.nd rfl (by first | exact Or.inl rfl | exact Or.inr rfl) (po_call (ok__law_pick T) (hr.mono (by decide)) rfl T.g__law_pick px_of (pa_cons (pv 0) (pa_cons pe_str pa_nil)))))
      (pss_one (ps_if (pt_cmpR op_eq (pv 3) pe_int (nomark _))
      (pss_one (ps_set (i := 10) sc__law_changed.nd rfl (by first | exact Or.inl rfl | exact Or.inr rfl) (pe_slice sl_str (pv 1) (po_some (pv 5)) (po_some (pe_op op_add (pe_op op_add (pv 5) pe_int) (po_call (ok__law_draw T) (hr.mono (by decide)) rfl T.g__law_draw px_of (pa_cons (pv 0) (pa_cons pe_int pa_nil))))))))
      pss_nil)))
      (pss_one (ps_ret (pe_op op_add_str (pe_op op_add_str (pe_slice sl_str (pv 1) po_none (po_some (pv 4))) (pv 10)) (pe_slice sl_str (pv 1) (po_some (pe_op op_add (pv 4) (po_call (ok__law_pick T) (hr.mono (by decide)) rfl T.g__law_pick px_of (pa_cons (pv 0) (pa_cons (pe_lst (pa_cons pe_int (pa_cons pe_int (pa_cons pe_int (pa_cons pe_int (pa_cons (po_call (ok__law_draw T) (hr.mono (by decide)) rfl T.g__law_draw px_of (pa_cons (pv 0) (pa_cons pe_int pa_nil))) pa_nil)))))) pa_nil))))) po_none))))))))))))), ?_⟩
    refine ⟨fun σ' H1 => ∃ w a b : Nat, σ' = [some (.ref p), some (.str z), some (.ref l), some (.int w), some (.int a), some (.int b), none, none, none, none, none, none] ∧ w < 8 ∧ Kp [p] H H1 ∧ PenAt H1 p pc (N + 3), ?_, ?_⟩
    · refine a_cons (c_draw rfl hp (by omega) Evl.ev_c (by decide) (by decide) fun d1 H1 hd1 k1 p1 => ?_)
      refine a_cons (c_draw (m := (z.length : Int) + 1) rfl p1 (by omega) (Evl.ev_op (ev_lenS rfl (by omega)) Evl.ev_c Evl.rv_I0) (by omega) (by omega) fun d2 H2 hd2 k2 p2 => ?_)
      refine a_cons (c_draw (m := (z.length : Int) + 1) rfl p2 (by omega) (Evl.ev_op (ev_lenS rfl (by omega)) Evl.ev_c Evl.rv_I0) (by omega) (by omega) fun d3 H3 hd3 k3 p3 => ?_)
      exact ⟨_, _, _, rfl, d1, d2, d3, rfl, by omega, (k1.trans k2).trans k3, p3⟩
    · rintro σ' H1 ⟨w, a, b, rfl, hw, k1, p1⟩
      obtain ⟨ps, hps, hne, _, _, hpl, _, htot⟩ := split_nl z
      refine ⟨_, rfl, ⟨_, rfl⟩, z, "\n", rfl, rfl, rfl, Nat.le_trans (show z.length + 2 ≤ 500002 by omega) (by decide), fun R hR => ?_⟩
      rw [hps]
      have xR := Evl.Ex.new (o := .lst (ps.map V.str)) hR
      have eR : upd H1 R (.lst (ps.map V.str)) R = some (.lst (ps.map V.str)) := upd_same
      have k2 : Kp [p] H (upd H1 R (.lst (ps.map V.str))) := k1.trans (Kp.of xR)
      have p2 := p1.mono xR
      have pR : p ≠ R := by
        obtain ⟨kvs, g, _⟩ := p1
        exact ne_of_none g hR
      have pcR : pc ≠ R := by
        obtain ⟨xs, g⟩ := p1.cells
        exact ne_of_none g hR
      have la2 := la.pen k2 hp pl
      have hR0 : H R = none := fresh k1 hR (by simpa using pR.symm)
      show tSeq _ _ _ [some (.ref p), some (.str z), some (.ref l), some (.int w), some (.int a), some (.int b), some (.ref R), none, none, none, none, none] _
      generalize upd H1 R (.lst (ps.map V.str)) = H2 at k2 p2 eR la2 ⊢
      have psl : 1 ≤ ps.length := List.length_pos_iff.mpr hne
      have totl : ps.length ≤ 500001 := by
        have := tot_len ps
        omega
      -- a list of lines, joined
      have fin : ∀ {σ : L2.St} {H3 : Hp} {te : TE} {ys : List Str} {D : Ends} {M : Nat}, Evl.EvL te σ H3 (ys.map V.str) → tot ys ≤ 7 * z.length + 100 → M ≤ N + 30 → Kp [p] H H3 → PenAt H3 p pc M → D.rt = Q →
          tRet (tM1 (fun x xs H Q => ∃ a p, ∃ ys : List Str, x = .str a ∧ xs = [.ref p] ∧ (SqL K H p (ys.map V.str) ∨ SqT K H p (ys.map V.str)) ∧ (ys.map (·.length)).sum + ys.length * a.length ≤ 16777216 ∧ Q (.str (Txt.join a ys)) H) (tC (.str "\n")) te) D σ H3 := fun {σ H3 te ys D M} hte htt hM hk hpen hD => by
        refine Evl.s_ret (ev_joinL hte (by rw [sum_tot]; omega)) fun H4 x4 => ?_
        rw [hD]
        exact k _ H4 (Nat.le_trans (join_tot ys) htt) (hk.trans (Kp.of x4)) ((hpen.mono x4).le hM)
      refine Evl.s_if (Evl.et_test (Evl.ev_op (Evl.ev_var rfl) Evl.ev_c Evl.rv_I0)) (fun hb H3 x3 => ?_) (fun hb H3 x3 => ?_)
      · have hw5 : 5 < w := by
          have := of_decide_eq_true hb
          omega
        refine ⟨fun σ' H4 => ∃ o : Nat, σ' = [some (.ref p), some (.str z), some (.ref l), some (.int w), some (.int a), some (.int b), some (.ref R), some (.int o), none, none, none, none] ∧ o < ps.length ∧ Kp [p] H H4 ∧ PenAt H4 p pc (N + 4) ∧ H4 R = some (.lst (ps.map V.str)), ?_, ?_⟩
        · refine c_draw rfl (p2.mono x3) (by omega) (Evl.ev_len (Evl.ev_var rfl) (SqL.of (x3 _ _ eR))) (by rw [List.length_map]; omega) (by rw [List.length_map]; omega) fun d H4 hd k4 p4 => ?_
          rw [List.length_map] at hd
          exact ⟨d, rfl, by omega, (k2.trans (Kp.of x3)).trans k4, p4, lst_pen k4 (p2.mono x3) (x3 _ _ eR)⟩
        · rintro σ' H4 ⟨o, rfl, ho, k4, p4, eR4⟩
          refine ⟨fun σ' H5 => ∃ ps' : List Str, σ' = [some (.ref p), some (.str z), some (.ref l), some (.int w), some (.int a), some (.int b), some (.ref R), some (.int o), none, none, none, none] ∧ Kp [p] H H5 ∧ PenAt H5 p pc (N + 5) ∧ H5 R = some (.lst (ps'.map V.str)) ∧ ps'.length = ps.length ∧ tot ps' ≤ 5 * tot ps ∧ (w ≠ 6 → ps' = ps), ?_, ?_⟩
          · refine Evl.s_if (Evl.et_test (Evl.ev_op (Evl.ev_var rfl) Evl.ev_c (Evl.rv_eq rfl))) (fun hb H5 x5 => ?_) (fun hb H5 x5 => ?_)
            · have hw6 : w = 6 := by
                have := V.int.inj (of_decide_eq_true hb)
                omega
              have eR5 := x5 _ _ eR4
              have hget : (ps.map V.str)[o]? = some (.str ps[o]) := by
                rw [List.getElem?_map, List.getElem?_eq_getElem ho]
                rfl
              have hmem : ps[o] ∈ ps := List.getElem_mem ho
              have hxl := tot_mem hmem
              have l1 : (" if least 0 0 0 " : Str).length = 16 := rfl
              have l2 : (" if rest 1 0 1 2 " : Str).length = 17 := rfl
              refine ⟨_, rfl, _, rfl, R, _, (o : Int), _, rfl, rfl, SqL.of eR5, atI_nat hget, ps[o], p, pc, N + 4, rfl, by rw [l1]; omega, by rw [l2]; omega, rfl, p4.mono x5, by omega, fun zz hzz H6 k6 p6 => ?_⟩
              have eR6 := lst_pen k6 (p4.mono x5) eR5
              refine ⟨_, rfl, _, rfl, R, _, (o : Int), o, rfl, rfl, eR6, Evl.ixN_nat (by rw [List.length_map]; exact ho), ?_⟩
              rw [set_strs]
              have kR : Kp [R] H6 (upd H6 R (.lst ((ps.set o (Txt.replace ps[o] " if " zz)).map V.str))) := (Kp.refl _ _).put (List.mem_singleton.mpr rfl)
              have hrl : (Txt.replace ps[o] " if " zz).length ≤ 5 * ps[o].length := replace_5 rfl (by rcases hzz with rfl | rfl <;> decide)
              have hts := tot_set (ys := ps) (i := o) (y := ps[o]) (x := Txt.replace ps[o] " if " zz) (List.getElem?_eq_getElem ho)
              refine ⟨ps.set o (Txt.replace ps[o] " if " zz), rfl, ((k4.trans (Kp.of x5)).trans k6).out kR hR0, p6.kp kR ⟨by simpa using pR, by simpa using pcR⟩, upd_same, List.length_set .., by omega, fun h => absurd hw6 h⟩
            · exact ⟨ps, rfl, k4.trans (Kp.of x5), (p4.mono x5).le (by omega), x5 _ _ eR4, rfl, by omega, fun _ => rfl⟩
          · rintro σ' H5 ⟨ps', rfl, k5, p5, eR5, hl5, ht5, hq5⟩
            have e1 : (ps'.take (o + 1) ++ ps'.drop (o + 7 - w)).map V.str = L2.cutV (ps'.map V.str) none (some ((o : Int) + 1)) ++ L2.cutV (ps'.map V.str) (some ((o : Int) + 7 - (w : Int))) none := by
              have i1 : (o : Int) + 1 = ((o + 1 : Nat) : Int) := by omega
              have i2 : (o : Int) + 7 - (w : Int) = ((o + 7 - w : Nat) : Int) := by omega
              rw [i1, i2, cutV_take, cutV_drop, List.map_append, List.map_take, List.map_drop]
            refine fin (ys := ps'.take (o + 1) ++ ps'.drop (o + 7 - w)) (M := N + 5) ?_ ?_ (by omega) k5 p5 rfl
            · rw [e1]
              refine el_cat (Evl.el_sl (Evl.ev_var rfl) Evl.eo_none (Evl.eo_some (Evl.ev_op (Evl.ev_var rfl) Evl.ev_c Evl.rv_I0)) (SqL.of eR5)) (Evl.el_sl (Evl.ev_var rfl) (Evl.eo_some (Evl.ev_op (Evl.ev_op (Evl.ev_var rfl) Evl.ev_c Evl.rv_I0) (Evl.ev_var rfl) Evl.rv_I0)) Evl.eo_none (SqL.of eR5)) ?_
              have h1 := L2.cutV_length (ps'.map V.str) none (some ((o : Int) + 1))
              have h2 := L2.cutV_length (ps'.map V.str) (some ((o : Int) + 7 - (w : Int))) none
              rw [List.length_map] at h1 h2
              omega
            · by_cases hw6 : w = 6
              · subst hw6
                have e3 : o + 7 - 6 = o + 1 := by omega
                rw [e3, List.take_append_drop]
                omega
              · rw [hq5 hw6]
                have h0 := tot_app (ps.take (o + 1)) (ps.drop (o + 7 - w))
                have h0 : tot (ps.take (o + 1) ++ ps.drop (o + 7 - w)) = tot (ps.take (o + 1)) + tot (ps.drop (o + 7 - w)) := h0
                have h1 := tot_take ps (o + 1)
                have h2 := tot_drop ps (o + 7 - w)
                omega
      · have p3 := p2.mono x3
        have eR3 := x3 _ _ eR
        have k3 := k2.trans (Kp.of x3)
        have la3 := la2.mono x3
        clear eR x3 hb la2 p2 k2
        refine Evl.q_when (Evl.et_test (Evl.ev_op (Evl.ev_var rfl) Evl.ev_c (Evl.rv_eq rfl))) (fun hb H4 x4 => ?_) (fun hb H4 x4 => ?_)
        · -- two lines exchanged
          refine q_par (a_cons (c_draw rfl (p3.mono x4) (by omega) (Evl.ev_len (Evl.ev_var rfl) (SqL.of (x4 _ _ eR3))) (by rw [List.length_map]; omega) (by rw [List.length_map]; omega) fun d5 H5 hd5 k5 p5 => ?_))
          have eR5 := lst_pen k5 (p3.mono x4) (x4 _ _ eR3)
          refine a_cons (c_draw rfl p5 (by omega) (Evl.ev_len (Evl.ev_var rfl) (SqL.of eR5)) (by rw [List.length_map]; omega) (by rw [List.length_map]; omega) fun d6 H6 hd6 k6 p6 => ?_)
          have eR6 := lst_pen k6 p5 eR5
          rw [List.length_map] at hd5 hd6
          have h5 : d5 < ps.length := by omega
          have h6 : d6 < ps.length := by omega
          have g5 : (ps.map V.str)[d5]? = some (.str ps[d5]) := by
            rw [List.getElem?_map, List.getElem?_eq_getElem h5]
            rfl
          have g6 : (ps.map V.str)[d6]? = some (.str ps[d6]) := by
            rw [List.getElem?_map, List.getElem?_eq_getElem h6]
            rfl
          have k36 := ((k3.trans (Kp.of x4)).trans k5).trans k6
          refine ⟨_, _, rfl, _, rfl, _, rfl, R, _, (d6 : Int), _, rfl, rfl, SqL.of eR6, atI_nat g6, _, rfl, _, rfl, R, _, (d5 : Int), _, rfl, rfl, SqL.of eR6, atI_nat g5, of_decide_eq_true rfl, fun q hq => ⟨q, _, rfl, SqT.of upd_same, rfl, ?_⟩⟩
          have xq := Evl.Ex.new (o := .tup [.str ps[d6], .str ps[d5]]) hq
          refine ⟨_, _, rfl, _, rfl, _, rfl, R, _, (d5 : Int), d5, rfl, rfl, xq _ _ eR6, Evl.ixN_nat (by rw [List.length_map]; exact h5), ?_⟩
          rw [set_strs]
          refine ⟨_, _, rfl, _, rfl, _, rfl, R, _, (d6 : Int), d6, rfl, rfl, upd_same, Evl.ixN_nat (by rw [List.length_map, List.length_set]; exact h6), rfl, ?_⟩
          rw [set_strs, upd_upd]
          have kR : Kp [R] (upd H6 q (.tup [.str ps[d6], .str ps[d5]])) (upd (upd H6 q (.tup [.str ps[d6], .str ps[d5]])) R (.lst (((ps.set d5 ps[d6]).set d6 ps[d5]).map V.str))) := (Kp.refl _ _).put (List.mem_singleton.mpr rfl)
          have hm5 := tot_mem (List.getElem_mem h5)
          have hm6 := tot_mem (List.getElem_mem h6)
          have hs1 := tot_set (ys := ps) (i := d5) (y := ps[d5]) (x := ps[d6]) (List.getElem?_eq_getElem h5)
          have hs2 := tot_set (ys := ps.set d5 ps[d6]) (i := d6) (y := (ps.set d5 ps[d6])[d6]'(by rw [List.length_set]; exact h6)) (x := ps[d5]) (List.getElem?_eq_getElem _)
          have kall : Kp [p] H (upd (upd H6 q (.tup [.str ps[d6], .str ps[d5]])) R (.lst (((ps.set d5 ps[d6]).set d6 ps[d5]).map V.str))) := (k36.trans (Kp.of xq)).out kR hR0
          have pall : PenAt (upd (upd H6 q (.tup [.str ps[d6], .str ps[d5]])) R (.lst (((ps.set d5 ps[d6]).set d6 ps[d5]).map V.str))) p pc (N + 3 + 1 + 1) := (p6.mono xq).kp kR ⟨by simpa using pR, by simpa using pcR⟩
          refine Evl.s_ret (ev_joinV (ys := (ps.set d5 ps[d6]).set d6 ps[d5]) rfl (SqL.of upd_same) (by rw [sum_tot]; omega)) fun H7 x7 => ?_
          exact k _ H7 (Nat.le_trans (join_tot _) (by omega)) (kall.trans (Kp.of x7)) ((pall.mono x7).le (by omega))
        · have p4 := p3.mono x4
          have eR4 := x4 _ _ eR3
          have k4 := k3.trans (Kp.of x4)
          have la4 := la3.mono x4
          clear eR3 x4 hb la3 p3 k3
          refine Evl.q_when (Evl.et_test (Evl.ev_op (Evl.ev_var rfl) Evl.ev_c (Evl.rv_eq rfl))) (fun hb H5 x5 => ?_) (fun hb H5 x5 => ?_)
          · -- lines doubled or left out
            refine q_asgC (c_draw rfl (p4.mono x5) (by omega) (Evl.ev_len (Evl.ev_var rfl) (SqL.of (x5 _ _ eR4))) (by rw [List.length_map]; omega) (by rw [List.length_map]; omega) fun d6 H6 hd6 k6 p6 => ?_)
            have eR6 := lst_pen k6 (p4.mono x5) (x5 _ _ eR4)
            refine ⟨⟨_, rfl⟩, _, rfl, _, rfl, c_draw rfl p6 (by omega) Evl.ev_c (by decide) (by decide) fun d7 H7 hd7 k7 p7 => ⟨_, _, rfl, rfl, _, rfl, R, _, rfl, SqL.of (lst_pen k7 p6 eR6), fun S1 hS1 => ?_⟩⟩
            have eR7 := lst_pen k7 p6 eR6
            obtain ⟨y1, hy1, ty1⟩ := cutV_strs ps none (some ((d6 : Int) + (d7 : Int)))
            have x8 := Evl.Ex.new (o := .lst (L2.cutV (ps.map V.str) none (some ((d6 : Int) + (d7 : Int))))) hS1
            have eS1 : upd H7 S1 (.lst (L2.cutV (ps.map V.str) none (some ((d6 : Int) + (d7 : Int))))) S1 = some (.lst (y1.map V.str)) := by
              rw [upd_same, hy1]
            show tSl _ _ _ _ _ (upd H7 S1 (.lst (L2.cutV (ps.map V.str) none (some ((d6 : Int) + (d7 : Int)))))) _
            have k8 := (((k4.trans (Kp.of x5)).trans k6).trans k7).trans (Kp.of x8)
            have p8 := p7.mono x8
            have eR8 := x8 _ _ eR7
            generalize upd H7 S1 (.lst (L2.cutV (ps.map V.str) none (some ((d6 : Int) + (d7 : Int))))) = H8 at eS1 k8 p8 eR8 ⊢
            refine ⟨_, rfl, _, rfl, c_draw rfl p8 (by omega) Evl.ev_c (by decide) (by decide) fun d9 H9 hd9 k9 p9 => ⟨_, _, rfl, rfl, _, rfl, R, _, rfl, SqL.of (lst_pen k9 p8 eR8), fun S2 hS2 => ?_⟩⟩
            obtain ⟨y2, hy2, ty2⟩ := cutV_strs ps (some ((d6 : Int) + (d9 : Int))) none
            have x10 := Evl.Ex.new (o := .lst (L2.cutV (ps.map V.str) (some ((d6 : Int) + (d9 : Int))) none)) hS2
            have e1 := x10 _ _ (lst_pen k9 p8 eS1)
            have e2 : upd H9 S2 (.lst (L2.cutV (ps.map V.str) (some ((d6 : Int) + (d9 : Int))) none)) S2 = some (.lst (y2.map V.str)) := by
              rw [upd_same, hy2]
            have l1 := tot_len y1
            have l2 := tot_len y2
            refine ⟨S1, S2, _, _, rfl, rfl, e1, e2, ?_, fun S3 hS3 => ?_⟩
            · rw [List.length_map, List.length_map]
              exact Nat.le_trans (show _ ≤ 4000000 by omega) (by decide)
            · have e3 : upd (upd H9 S2 (.lst (L2.cutV (ps.map V.str) (some ((d6 : Int) + (d9 : Int))) none))) S3 (.lst (y1.map V.str ++ y2.map V.str)) S3 = some (.lst ((y1 ++ y2).map V.str)) := by
                rw [upd_same, List.map_append]
              have h0 : tot (y1 ++ y2) = tot y1 + tot y2 := tot_app y1 y2
              refine ⟨_, S3, y1 ++ y2, rfl, rfl, .inl (SqL.of e3), by rw [sum_tot]; omega, ?_⟩
              exact k _ _ (Nat.le_trans (join_tot _) (by omega)) (((k8.trans k9).trans (Kp.of x10)).trans (Kp.of (Evl.Ex.new hS3))) (((p9.mono x10).mono (Evl.Ex.new hS3)).le (by omega))
          · have p5 := p4.mono x5
            have k5 := k4.trans (Kp.of x5)
            have la5 := la4.mono x5
            clear fin eR4 x5 hb la4 p4 k4
            obtain ⟨⟨sp1, sp3⟩, _, spl⟩ := land_sp ok
            have lrs := ok.le
            refine Evl.q_asgL (xs := [("goal" : Str), "at", "if", "go", "least", "rest", "least 1 0 0 ", "rest 1 1 0 3 ", "-", "0", "2", "9", "10", "-0"].map V.str) (Evl.el_lst (Evl.ea_cons Evl.ev_c (Evl.ea_cons Evl.ev_c (Evl.ea_cons Evl.ev_c (Evl.ea_cons Evl.ev_c (Evl.ea_cons Evl.ev_c (Evl.ea_cons Evl.ev_c (Evl.ea_cons Evl.ev_c (Evl.ea_cons Evl.ev_c (Evl.ea_cons Evl.ev_c (Evl.ea_cons Evl.ev_c (Evl.ea_cons Evl.ev_c (Evl.ea_cons Evl.ev_c (Evl.ea_cons Evl.ev_c (Evl.ea_cons Evl.ev_c Evl.ea_nil)))))))))))))) (by decide)) fun W1 H6 nW1 x6 eW1 => ?_
            have p6 := p5.mono x6
            have la6 := la5.mono x6
            have k6 := k5.trans (Kp.of x6)
            obtain ⟨sa, qa, rows, l1, l2, l3, l4⟩ := id la6
            refine q_asgC ⟨_, rfl, _, rfl, _, rfl, l, _, rfl, .inl ⟨_, .inr "spots", .inl l1, rfl, rfl⟩, p, pc, .ref sa, _, N + 3, rfl, p6, by omega, .inl ⟨sa, rfl, SqL.of l2⟩, ?_, ?_, fun x hx H7 k7 p7 => ?_⟩
            · intro q
              have := congrArg List.length q
              rw [List.length_map] at this
              have : sp.length = 0 := this
              omega
            · rw [List.length_map]
              omega
            obtain ⟨s, hs, rfl⟩ := mem_strs hx
            have hsl := (spl s hs).2
            have lg : ("goal " : Str).length = 5 := rfl
            have ln1 : ("\n" : Str).length = 1 := rfl
            refine ⟨_, _, rfl, rfl, ?_, _, _, rfl, rfl, ?_, of_decide_eq_true rfl, fun B hB => ?_⟩
            · exact Nat.le_trans (show _ ≤ 4000000 by omega) (by decide)
            · rw [Str.length_append]
              exact Nat.le_trans (show _ ≤ 4000000 by omega) (by decide)
            have xB := Evl.Ex.new (o := .lst ([("\n" : Str), " ", ("goal " : Str) ++ s ++ "\n", "if least 0 0 0 rest 1 2 -9 2"].map V.str)) hB
            refine ⟨W1, B, _, _, rfl, rfl, xB _ _ (lst_pen k7 p6 eW1), upd_same, of_decide_eq_true rfl, fun W2 hW2 => ?_⟩
            have xW := Evl.Ex.new (o := .lst (([("goal" : Str), "at", "if", "go", "least", "rest", "least 1 0 0 ", "rest 1 1 0 3 ", "-", "0", "2", "9", "10", "-0"] ++ [("\n" : Str), " ", ("goal " : Str) ++ s ++ "\n", "if least 0 0 0 rest 1 2 -9 2"]).map V.str)) hW2
            have hws : ∀ u ∈ [("goal" : Str), "at", "if", "go", "least", "rest", "least 1 0 0 ", "rest 1 1 0 3 ", "-", "0", "2", "9", "10", "-0"] ++ [("\n" : Str), " ", ("goal " : Str) ++ s ++ "\n", "if least 0 0 0 rest 1 2 -9 2"], u.length ≤ 40 := by
              have h1 : ∀ u ∈ [("goal" : Str), "at", "if", "go", "least", "rest", "least 1 0 0 ", "rest 1 1 0 3 ", "-", "0", "2", "9", "10", "-0"], u.length ≤ 40 := by decide +kernel
              have h2 : ∀ u ∈ [("\n" : Str), " ", "if least 0 0 0 rest 1 2 -9 2"], u.length ≤ 40 := by decide +kernel
              intro u hu
              rcases List.mem_append.mp hu with hu | hu
              · exact h1 u hu
              · rcases List.mem_cons.mp hu with rfl | hu
                · exact h2 _ (by simp)
                · rcases List.mem_cons.mp hu with rfl | hu
                  · exact h2 _ (by simp)
                  · rcases List.mem_cons.mp hu with rfl | hu
                    · rw [Str.length_append, Str.length_append]
                      omega
                    · rw [List.mem_singleton.mp hu]
                      exact h2 _ (by simp)
            have eW2 : upd (upd H7 B (.lst ([("\n" : Str), " ", ("goal " : Str) ++ s ++ "\n", "if least 0 0 0 rest 1 2 -9 2"].map V.str))) W2 (.lst (([("goal" : Str), "at", "if", "go", "least", "rest", "least 1 0 0 ", "rest 1 1 0 3 ", "-", "0", "2", "9", "10", "-0"] ++ [("\n" : Str), " ", ("goal " : Str) ++ s ++ "\n", "if least 0 0 0 rest 1 2 -9 2"]).map V.str)) W2 = some (.lst (([("goal" : Str), "at", "if", "go", "least", "rest", "least 1 0 0 ", "rest 1 1 0 3 ", "-", "0", "2", "9", "10", "-0"] ++ [("\n" : Str), " ", ("goal " : Str) ++ s ++ "\n", "if least 0 0 0 rest 1 2 -9 2"]).map V.str)) := upd_same
            have hwl : ([("goal" : Str), "at", "if", "go", "least", "rest", "least 1 0 0 ", "rest 1 1 0 3 ", "-", "0", "2", "9", "10", "-0"] ++ [("\n" : Str), " ", ("goal " : Str) ++ s ++ "\n", "if least 0 0 0 rest 1 2 -9 2"]).length = 18 := rfl
            have k8 : Kp [p] H (upd (upd H7 B (.lst ([("\n" : Str), " ", ("goal " : Str) ++ s ++ "\n", "if least 0 0 0 rest 1 2 -9 2"].map V.str))) W2 (.lst (([("goal" : Str), "at", "if", "go", "least", "rest", "least 1 0 0 ", "rest 1 1 0 3 ", "-", "0", "2", "9", "10", "-0"] ++ [("\n" : Str), " ", ("goal " : Str) ++ s ++ "\n", "if least 0 0 0 rest 1 2 -9 2"]).map V.str))) := ((k6.trans k7).trans (Kp.of xB)).trans (Kp.of xW)
            have p8 : PenAt (upd (upd H7 B (.lst ([("\n" : Str), " ", ("goal " : Str) ++ s ++ "\n", "if least 0 0 0 rest 1 2 -9 2"].map V.str))) W2 (.lst (([("goal" : Str), "at", "if", "go", "least", "rest", "least 1 0 0 ", "rest 1 1 0 3 ", "-", "0", "2", "9", "10", "-0"] ++ [("\n" : Str), " ", ("goal " : Str) ++ s ++ "\n", "if least 0 0 0 rest 1 2 -9 2"]).map V.str))) p pc (N + 4) := (p7.mono xB).mono xW
            have la8 : LandAt (upd (upd H7 B (.lst ([("\n" : Str), " ", ("goal " : Str) ++ s ++ "\n", "if least 0 0 0 rest 1 2 -9 2"].map V.str))) W2 (.lst (([("goal" : Str), "at", "if", "go", "least", "rest", "least 1 0 0 ", "rest 1 1 0 3 ", "-", "0", "2", "9", "10", "-0"] ++ [("\n" : Str), " ", ("goal " : Str) ++ s ++ "\n", "if least 0 0 0 rest 1 2 -9 2"]).map V.str))) l sp rs := ((la6.pen k7 p6 pl).mono xB).mono xW
            show Evl.tCut _ _ _ [some (.ref p), some (.str z), some (.ref l), some (.int w), some (.int a), some (.int b), some (.ref R), none, none, some (.ref W2), none, none] (upd (upd H7 B (.lst ([("\n" : Str), " ", ("goal " : Str) ++ s ++ "\n", "if least 0 0 0 rest 1 2 -9 2"].map V.str))) W2 (.lst (([("goal" : Str), "at", "if", "go", "least", "rest", "least 1 0 0 ", "rest 1 1 0 3 ", "-", "0", "2", "9", "10", "-0"] ++ [("\n" : Str), " ", ("goal " : Str) ++ s ++ "\n", "if least 0 0 0 rest 1 2 -9 2"]).map V.str)))
            generalize upd (upd H7 B (.lst ([("\n" : Str), " ", ("goal " : Str) ++ s ++ "\n", "if least 0 0 0 rest 1 2 -9 2"].map V.str))) W2 (.lst (([("goal" : Str), "at", "if", "go", "least", "rest", "least 1 0 0 ", "rest 1 1 0 3 ", "-", "0", "2", "9", "10", "-0"] ++ [("\n" : Str), " ", ("goal " : Str) ++ s ++ "\n", "if least 0 0 0 rest 1 2 -9 2"]).map V.str)) = H8 at k8 p8 la8 eW2 ⊢
            generalize [("goal" : Str), "at", "if", "go", "least", "rest", "least 1 0 0 ", "rest 1 1 0 3 ", "-", "0", "2", "9", "10", "-0"] ++ [("\n" : Str), " ", ("goal " : Str) ++ s ++ "\n", "if least 0 0 0 rest 1 2 -9 2"] = ws at hws eW2 hwl
            clear la6 p6 k6 l1 l2 l3 l4 eW1 k7 p7 la5 p5 k5
            obtain ⟨sa, qa, rows, l1, l2, l3, l4⟩ := la8
            refine ⟨fun σ' H9 => ∃ v : Str, σ' = [some (.ref p), some (.str z), some (.ref l), some (.int w), some (.int a), some (.int b), some (.ref R), none, none, some (.ref W2), some (.str v), none] ∧ v.length ≤ 40 ∧ Kp [p] H H9 ∧ PenAt H9 p pc (N + 5), ?_, ?_⟩
            · refine c_pick (xs := (ws.map V.str ++ sp.map V.str) ++ (rs.filter fun _ => true).map fun m => V.str m.name) rfl p8 (by omega) ?_ ?_ ?_ fun x hx H9 k9 p9 => ?_
              · refine el_cat (el_catVV (Evl.ev_var rfl) eW2 (ev_dk (Evl.ev_var rfl) (.inl l1) rfl) l2 ?_) ?_ ?_
                · rw [List.length_map, List.length_map]
                  omega
                · refine el_lcRel (R := RowAt H8) (fun _ => true) (fun m => V.str m.name) ?_ (SqL.of l3) l4 (by rw [l4.len]; omega) ?_ ?_ ?_
                  · exact ev_dk (Evl.ev_var rfl) (.inl l1) rfl
                  · exact fun x => rfl
                  · exact fun x m _ _ => ev_yes
                  · rintro x m ⟨t, sh, rfl, g1, _⟩ _ _
                    exact Evl.ev_op (Evl.ev_var rfl) Evl.ev_c (Evl.rv_ixT (SqT.of g1) (atI_nat (j := 0) rfl))
                · rw [List.filter_eq_self.mpr (fun _ _ => rfl), List.length_append, List.length_map, List.length_map, List.length_map]
                  omega
              · intro q
                have := congrArg List.length q
                rw [List.length_append, List.length_append, List.length_map, hwl] at this
                have h0 : ([] : List V).length = 0 := rfl
                omega
              · rw [List.filter_eq_self.mpr (fun _ _ => rfl), List.length_append, List.length_append, List.length_map, List.length_map, List.length_map]
                omega
              · obtain ⟨v, rfl, hv⟩ : ∃ v : Str, x = .str v ∧ v.length ≤ 40 := by
                  rcases List.mem_append.mp hx with hx | hx
                  · rcases List.mem_append.mp hx with hx | hx
                    · obtain ⟨v, hv, rfl⟩ := mem_strs hx
                      exact ⟨v, rfl, hws v hv⟩
                    · obtain ⟨v, hv, rfl⟩ := mem_strs hx
                      exact ⟨v, rfl, Nat.le_trans (spl v hv).2 (by decide)⟩
                  · obtain ⟨m, hm, rfl⟩ := List.mem_map.mp hx
                    exact ⟨_, rfl, Nat.le_trans (names_len ok m (List.mem_filter.mp hm).1).2 (by decide)⟩
                exact ⟨v, rfl, hv, k8.trans k9, p9⟩
            · rintro σ' H9 ⟨v, rfl, hv, k9, p9⟩
              refine ⟨fun σ' H10 => ∃ v : Str, σ' = [some (.ref p), some (.str z), some (.ref l), some (.int w), some (.int a), some (.int b), some (.ref R), none, none, some (.ref W2), some (.str v), none] ∧ v.length ≤ z.length + 40 ∧ Kp [p] H H10 ∧ PenAt H10 p pc (N + 6), ?_, ?_⟩
              · refine Evl.s_if (Evl.et_test (Evl.ev_op (Evl.ev_var rfl) Evl.ev_c (Evl.rv_eq rfl))) (fun hb H10 x10 => ?_) (fun hb H10 x10 => ?_)
                · refine c_pickS rfl (p9.mono x10) (by omega) Evl.ev_c (by decide) (by decide) fun c H11 k11 p11 => ⟨⟨#[c]⟩, rfl, ?_, (k9.trans (Kp.of x10)).trans k11, p11⟩
                  have : (⟨#[c]⟩ : Str).length = 1 := rfl
                  omega
                · refine Evl.s_if (Evl.et_test (Evl.ev_op (Evl.ev_var rfl) Evl.ev_c (Evl.rv_eq rfl))) (fun hb H11 x11 => ?_) (fun hb H11 x11 => ?_)
                  · refine ⟨_, rfl, _, rfl, _, rfl, _, rfl, _, _, rfl, rfl, _, rfl, p, pc, 12, N + 5, rfl, (p9.mono x10).mono x11, by omega, by decide, by decide, fun d H12 hd k12 p12 _ => ⟨_, _, rfl, rfl, _, rfl, z, rfl, szl (by omega), ?_⟩⟩
                    refine ⟨_, rfl, Nat.le_trans (cutS_length _ _ _) (by omega), ((k9.trans (Kp.of x10)).trans (Kp.of x11)).trans k12, p12⟩
                  · exact ⟨v, rfl, by omega, (k9.trans (Kp.of x10)).trans (Kp.of x11), ((p9.mono x10).mono x11).le (by omega)⟩
              · rintro σ' H10 ⟨v, rfl, hv, k10, p10⟩
                have s1 := cutS_length z none (some (a : Int))
                refine ⟨_, rfl, _, rfl, _, rfl, z, rfl, szl (by omega), _, rfl, _, _, rfl, rfl, ?_, _, rfl, _, rfl, _, rfl, _, rfl, p, pc, 12, N + 6, rfl, p10, by omega, by decide, by decide, fun d H11 hd k11 p11 _ => ⟨of_decide_eq_true rfl, fun L hL => ?_⟩⟩
                · exact Nat.le_trans (show _ ≤ 4000000 by omega) (by decide)
                have xL := Evl.Ex.new (o := .lst [.int 0, .int 0, .int 1, .int 1, .int (d : Int)]) hL
                refine ⟨p, pc, .ref L, _, N + 7, rfl, p11.mono xL, by omega, .inl ⟨L, rfl, SqL.of upd_same⟩, List.cons_ne_nil _ _, (show 5 ≤ 1000000 by decide), fun x hx H12 k12 p12 => ?_⟩
                obtain ⟨m, rfl⟩ : ∃ m : Int, x = .int m := by
                  simp at hx
                  rcases hx with rfl | rfl | rfl <;> exact ⟨_, rfl⟩
                have s2 := cutS_length z (some ((a : Int) + m)) none
                refine ⟨_, _, rfl, rfl, _, rfl, z, rfl, szl (by omega), _, _, rfl, rfl, ?_, k _ H12 ?_ (((k10.trans k11).trans (Kp.of xL)).trans k12) (p12.le (by omega))⟩
                · rw [Str.length_append]
                  exact Nat.le_trans (show _ ≤ 4000000 by omega) (by decide)
                · rw [Str.length_append, Str.length_append]
                  omega
end
end Lx
set_option Elab.async false
set_option linter.all false
set_option maxRecDepth 100000
set_option maxHeartbeats 4000000
namespace Lx
open PySem PySem.Spec PyProof.Rows L2 Pz
section
variable {P : Program} {w : World} {K : PySem.W.Frag} {mg : Str → Option Value} {base : Heap}
def spRight (K : PySem.W.Frag) : Sp := fun vs H Q _ => ∃ a l z sp rs, vs = [.ref a, .ref l, .str z] ∧ MapAt K H a sp rs ∧ LandAt H l sp rs ∧ LandOk sp rs ∧ z.length < 4000000 ∧ ∀ H', Ex H H' → Q (.bl true) H'
theorem ok__law_right (T : TT K mg base) : Ok P w K mg base 11 (He.ga K "_law_right") ["_law_here", "_law_land", "_law_text"] [] (spRight K) := by
  refine ok_mk T.f__law_right sc__law_right (fun vs H Q E h => ?_) (fun _ _ _ _ _ _ us hl => match us, hl with | [_, _, _], _ => rfl) (fun cdv A outer s H vs Q E hr h => ?_)
  · obtain ⟨a, l, z, sp, rs, rfl, _⟩ := h
    rfl
  · obtain ⟨a, l, z, sp, rs, rfl, M, la, ok, hz, k⟩ := h
    have hr10 := hr
    refine ⟨_, (pss_cons (ps_par (i := 3) (j := 4) (by rfl) sc__law_right.nd rfl rfl (by decide) rfl rfl (pa_cons (po_call (ok__law_due T) (hr.mono (by decide)) rfl T.g__law_due px_of (pa_cons (pv 1) (pa_cons (pv 2) pa_nil))) (pa_cons pe_non pa_nil)) (by rfl))
      (pss_cons (ps_try_as (i := 5) rfl rfl sc__law_right.nd rfl rfl ⟨rfl, by decide, Or.inl T.g_BadText⟩ tk_of (fun W pn xe tk _ => (pss_one (ps_set (i := 4) sc__law_right.nd rfl (by first | exact Or.inl rfl | exact Or.inr rfl) (pe_tup (pa_cons pe_str (pa_cons (po_makeS T.mk_Table (ok_Table___init__ T) hr10 rfl T.g_Table (fun σ => passAt tk σ) (pa_cons (pv 0) (pa_cons (pv 2) pa_nil))) pa_nil))))))
      (fun a oe cls d pn hz hf => (pss_one (ps_set (i := 4) sc__law_right.nd rfl (by first | exact Or.inl rfl | exact Or.inr rfl) (pe_tup (pa_cons pe_str (pa_cons (pe_xf T.exf_BadText.xf T.nox_BadText_line hz hf (pv 5)) (pa_cons (pe_xf T.exf_BadText.xf T.nox_BadText_column hz hf (pv 5)) pa_nil))))))))
      (pss_cons (ps_if (pt_cmpR op_eq (pe_ix ix_tup (pv 3) pe_int (fun _ _ => rfl)) pe_str (nomark _))
      (pss_one (ps_ret (pe_cmpR (op_eqD hr.units) (pv 4) (pv 3) (nomark _))))
      pss_nil)
      (pss_one (ps_ret (pe_and (pe_cmpR op_eq (pe_ix ix_tup (pv 4) pe_int (fun _ _ => rfl)) pe_str (nomark _)) (pe_one (pe_cmpR op_eq (pe_fld (pe_ix ix_tup (pv 4) pe_int (fun _ _ => rfl)) rfl) (po_call (ok__law_table_text T) (hr.mono (by decide)) rfl T.g__law_table_text px_of (pa_cons (pe_ix ix_tup (pv 3) pe_int (fun _ _ => rfl)) pa_nil)) (nomark _))))))))), ?_⟩
    have hzc : (cs z).length ≤ 4000000 := by
      rw [cs_len]
      omega
    obtain ⟨res, hres⟩ := tab_fuel (sp := sp) (rs := rs) hzc (f := z.length + 1) (ls := []) (i := 0) (Nat.zero_le _) (by rw [cs_len]; omega)
    have nd := (land_sp ok).2.1
    have hfin : ∀ {t : Addr} {dx : Addr} {H1 H2 : Hp}, H1 t = none → H1 dx = none → dx ≠ t → Kp [t] (upd (upd H1 dx (.own t)) t (.ins (He.ga K "Table") dx [])) H2 → Ex H1 H2 := fun {t dx H1 H2} ht hdx hne kk b o e => by
      have n1 : b ≠ t := ne_of_none e ht
      have n2 : b ≠ dx := ne_of_none e hdx
      exact kk _ _ (by simpa using n1) (by rw [upd_ne n1, upd_ne n2]; exact e)
    cases res with
    | ok ls =>
      refine ⟨_, rfl, _, rfl, l, z, sp, rs, .ok ls, rfl, la, ok, hz, hres, fun dt L vals H1 x1 edt eL lal => ⟨_, _, rfl, ?_⟩⟩
      refine ⟨_, rfl, _, rfl, fun t dx ht hdx hne => ⟨t, dx, a, z, sp, rs, z.length + 1, .ok ls, rfl, upd_same, ?_, nd, by omega, hres, fun fs H2 k2 et2 ef => ⟨rfl, ?_⟩⟩⟩
      · exact (M.mono x1).mono (((Evl.Ex.new hdx)).trans (Evl.Ex.new (by rw [upd_ne hne.symm]; exact ht)))
      · have x2 := hfin ht hdx hne k2
        refine ⟨of_decide_eq_true rfl, fun F hF => ?_⟩
        have xF := Evl.Ex.new (o := .tup [.str "told", .ref t]) hF
        have eF : upd H2 F (.tup [.str "told", .ref t]) F = some (.tup [.str "told", .ref t]) := upd_same
        have eF2 := xF _ _ et2
        have edt2 := xF _ _ (x2 _ _ edt)
        have eL2 := xF _ _ (x2 _ _ eL)
        have lal2 := lines_mono (x2.trans xF) lal
        have x13 := (x1.trans x2).trans xF
        show tSeq _ _ _ [some (.ref a), some (.ref l), some (.str z), some (.ref dt), some (.ref F), none] (upd H2 F (.tup [.str "told", .ref t]))
        generalize upd H2 F (.tup [.str "told", .ref t]) = H3 at eF eF2 edt2 eL2 lal2 x13 ⊢
        obtain ⟨sz, lsn, lo⟩ := tab_sz hzc hres (Nat.zero_le _) (Nat.zero_le _) (Nat.zero_le _) (fun _ h => by cases h)
        refine Evl.q_when (b := decide (V.str ("told" : Str) = V.str ("text" : Str))) (Evl.et_test (Evl.ev_op (Evl.ev_op (Evl.ev_var rfl) Evl.ev_c (Evl.rv_ixT (SqT.of edt2) (atI_nat (j := 0) rfl))) Evl.ev_c (Evl.rv_eq rfl))) (fun hb _ _ => absurd (of_decide_eq_true hb) (by decide)) fun _ H4 x4 => ?_
        refine Evl.s_ret (v := .bl (decide (V.str ("told" : Str) = V.str ("told" : Str)) && decide (V.str (tabTxt ls) = V.str (tabTxt ls)))) (Evl.ev_andV (Evl.ev_op (Evl.ev_op (Evl.ev_var rfl) Evl.ev_c (Evl.rv_ixT (SqT.of (x4 _ _ eF)) (atI_nat (j := 0) rfl))) Evl.ev_c (Evl.rv_eq rfl)) fun _ => ?_) fun H5 x5 => ?_
        · refine Evl.ev_op (ev_fldE (Evl.ev_op (Evl.ev_var rfl) Evl.ev_c (Evl.rv_ixT (SqT.of (x4 _ _ eF)) (atI_nat (j := 1) rfl))) (x4 _ _ eF2) T.k_Table T.n_Table_text ef) (Evl.ev_call (Evl.ea_cons (Evl.ev_op (Evl.ev_var rfl) Evl.ev_c (Evl.rv_ixT (SqT.of (x4 _ _ edt2)) (atI_nat (j := 1) rfl))) Evl.ea_nil) (fun H6 x6 Q' q' E' => ?_)) (Evl.rv_eq rfl)
          exact ⟨L, vals, ls, rfl, SqL.of (x6 _ _ (x4 _ _ eL2)), lines_mono (x4.trans x6) lal2, lo, by rw [cs_len] at lsn; omega, by rw [cs_len] at sz; omega, q'⟩
        · rw [decide_eq_true rfl, decide_eq_true rfl]
          exact k H5 ((x13.trans x4).trans x5)
    | error j =>
      refine ⟨_, rfl, _, rfl, l, z, sp, rs, .error j, rfl, la, ok, hz, hres, fun dt H1 x1 edt => ⟨_, _, rfl, ?_⟩⟩
      refine ⟨_, rfl, _, rfl, fun t dx ht hdx hne => ⟨t, dx, a, z, sp, rs, z.length + 1, .error j, rfl, upd_same, ?_, nd, by omega, hres, fun d H2 k2 hd ed => ⟨true, T.exm_BadText_BadText, fun _ e he => ?_, fun h => by cases h⟩⟩⟩
      · exact (M.mono x1).mono (((Evl.Ex.new hdx)).trans (Evl.Ex.new (by rw [upd_ne hne.symm]; exact ht)))
      · have x2 := hfin ht hdx hne k2
        refine ⟨_, rfl, rfl, rfl, d, _, _, rfl, ed, rfl, _, rfl, rfl, rfl, d, _, _, rfl, ed, rfl, of_decide_eq_true rfl, fun F hF => ?_⟩
        have xF := Evl.Ex.new (o := .tup [.str "text", .int (lnOf (cs z) j : Nat), .int (colOf (cs z) j : Nat)]) hF
        have eF : upd H2 F (.tup [.str "text", .int (lnOf (cs z) j : Nat), .int (colOf (cs z) j : Nat)]) F = some (.tup [.str "text", .int (lnOf (cs z) j : Nat), .int (colOf (cs z) j : Nat)]) := upd_same
        have edt2 := xF _ _ (x2 _ _ edt)
        have x13 := (x1.trans x2).trans xF
        unfold gName
        dsimp only
        show tSeq _ _ _ [some (.ref a), some (.ref l), some (.str z), some (.ref dt), some (.ref F), none] (upd H2 F (.tup [.str "text", .int (lnOf (cs z) j : Nat), .int (colOf (cs z) j : Nat)]))
        generalize upd H2 F (.tup [.str "text", .int (lnOf (cs z) j : Nat), .int (colOf (cs z) j : Nat)]) = H3 at eF edt2 x13 ⊢
        refine Evl.q_when (b := decide (V.str ("text" : Str) = V.str ("text" : Str))) (Evl.et_test (Evl.ev_op (Evl.ev_op (Evl.ev_var rfl) Evl.ev_c (Evl.rv_ixT (SqT.of edt2) (atI_nat (j := 0) rfl))) Evl.ev_c (Evl.rv_eq rfl))) (fun _ H4 x4 => ?_) (fun hb _ _ => absurd rfl (of_decide_eq_false hb))
        have dp : ∀ {Hx : Hp} {u : Addr}, Hx u = some (.tup [.str "text", .int (lnOf (cs z) j : Nat), .int (colOf (cs z) j : Nat)]) → Dp K Hx (.ref u) (.tuple [.str "text", .int (lnOf (cs z) j : Nat), .int (colOf (cs z) j : Nat)]) := fun {Hx u} e => .tup (SqT.of e) (.cons (.str _) (.cons (.int _) (.cons (.int _) .nil)))
        have hs : SeqAt.shaped (.tuple [.str "text", .int (lnOf (cs z) j : Nat), .int (colOf (cs z) j : Nat)]) = true := by
          generalize ((lnOf (cs z) j : Nat) : Int) = i1
          generalize ((colOf (cs z) j : Nat) : Int) = i2
          simp [SeqAt.shaped, PyData.canLay0, PyData.canLayAll0, PyData.depth, PyData.depthAll]
          decide +kernel
        refine ⟨_, rfl, _, rfl, _, _, dp (x4 _ _ eF), dp (x4 _ _ edt2), hs, hs, ?_⟩
        rw [SeqAt.eqv_refl _ (SeqAt.canLay_of_shaped hs)]
        exact k H4 (x13.trans x4)
end
end Lx
set_option Elab.async false
set_option linter.all false
set_option maxRecDepth 100000
set_option maxHeartbeats 4000000
/-! What is written is read again. -/
namespace Pz
open PySem
/-- a word without signs between words -/
def noSep (w : Str) : Prop := (∀ c ∈ cs w, c ≠ 32 ∧ c ≠ 10) ∧ cs w ≠ []
instance (w : Str) : Decidable (noSep w) := by unfold noSep; exact inferInstance
def Ends (e : Cs) : Prop := e = [] ∨ ∃ d r, e = d :: r ∧ (d = 32 ∨ d = 10)
theorem drop_app {l a b : Cs} {i : Nat} (h : l.drop i = a ++ b) : l.drop (i + a.length) = b := by
  rw [← List.drop_drop, h, List.drop_left]
theorem wgo_app (ws : List Str) (w : Str) (hw : w ∈ ws) (e : Cs) : ∀ (u t : Cs), t ++ u = cs w → wgo ws t (u ++ e) = wgo ws (t ++ u) e
  | [], t, _ => by rw [List.nil_append, List.append_nil]
  | c :: u, t, h => by
    have h2 : (t ++ [c]) ++ u = cs w := by rw [List.append_assoc]; exact h
    have ih := wgo_app ws w hw e u (t ++ [c]) h2
    have hf : fits ws (t ++ [c]) = true := by
      unfold fits
      exact List.any_eq_true.mpr ⟨w, hw, List.isPrefixOf_iff_prefix.mpr ⟨u, h2⟩⟩
    show (if fits ws (t ++ [c]) = true then wgo ws (t ++ [c]) (u ++ e) else t) = _
    rw [if_pos hf, ih, List.append_assoc]
    rfl
theorem wgo_ends {ws : List Str} (hn : ∀ v ∈ ws, noSep v) {t e : Cs} (he : Ends e) : wgo ws t e = t := by
  rcases he with rfl | ⟨d, r, rfl, hd⟩
  · rfl
  · show (if fits ws (t ++ [d]) = true then _ else t) = t
    rw [if_neg]
    intro hf
    unfold fits at hf
    obtain ⟨v, hv, hp⟩ := List.any_eq_true.mp hf
    have hm : d ∈ cs v := (List.isPrefixOf_iff_prefix.mp hp).subset (List.mem_append_right _ (List.mem_singleton.mpr rfl))
    have := (hn v hv).1 d hm
    omega
theorem word_at {l : Cs} {ws : List Str} {w : Str} {i : Nat} {e : Cs} (hw : w ∈ ws) (hn : ∀ v ∈ ws, noSep v) (h : l.drop i = cs w ++ e) (he : Ends e) : pWord l ws i = .ok (w, i + w.length) ∧ l.drop (i + w.length) = e := by
  have ht : wtold ws l i = cs w := by
    unfold wtold
    rw [h, wgo_app ws w hw e (cs w) [] rfl, List.nil_append]
    exact wgo_ends hn he
  refine ⟨?_, by rw [← cs_len]; exact drop_app h⟩
  unfold pWord
  rw [ht, sS_cs, if_pos ⟨hw, (hn w hw).2⟩, cs_len]
theorem gap_at {l r : Cs} {i : Nat} (h : l.drop i = 32 :: r) (hr : ∀ c, r.head? = some c → c ≠ 32) : gapU l i = .ok ((), i + 1) := by
  have h0 : l[i]? = some 32 := by
    have := congrArg (·[0]?) h
    simpa using this
  unfold gapU pGap
  rw [if_pos h0]
  have : skipN isSp l i = i + 1 := by
    unfold skipN
    rw [h, List.takeWhile_cons, if_pos (by rfl)]
    cases r with
    | nil => rfl
    | cons c r =>
      rw [List.takeWhile_cons, if_neg (by
        have := hr c rfl
        unfold isSp
        simpa using this)]
      rfl
  rw [this]
  rfl
theorem head_cs {w : Str} (h : noSep w) (e : Cs) : ∀ c, (cs w ++ e).head? = some c → c ≠ 32 ∧ c ≠ 10 := by
  obtain ⟨h1, h2⟩ := h
  intro c hc
  cases hw : cs w with
  | nil => exact absurd hw h2
  | cons a b =>
    rw [hw] at hc
    have : a = c := Option.some.inj hc
    subst this
    exact h1 a (by rw [hw]; exact List.mem_cons_self ..)
/-- a blank, a word -/
theorem gw {β : Type} {l : Cs} {ws : List Str} {w : Str} {i : Nat} {e : Cs} (f : Str → Nat → Except Nat (β × Nat)) (hw : w ∈ ws) (hn : ∀ v ∈ ws, noSep v) (h : l.drop i = 32 :: (cs w ++ e)) (he : Ends e) :
    bnd (gapU l i) (fun _ i => bnd (pWord l ws i) f) = f w (i + 1 + w.length) ∧ l.drop (i + 1 + w.length) = e := by
  have h1 := gap_at h fun c hc => (head_cs (hn w hw) e c hc).1
  have h2 : l.drop (i + 1) = cs w ++ e := drop_app (a := [32]) h
  obtain ⟨h3, h4⟩ := word_at hw hn h2 he
  refine ⟨?_, h4⟩
  rw [h1]
  show bnd (pWord l ws (i + 1)) f = _
  rw [h3]
  rfl
/-- words, each behind a blank -/
def tlW (r : List Str) : Cs := (r.map fun v => 32 :: cs v).flatten
theorem tlW_cons (w : Str) (r : List Str) : tlW (w :: r) = 32 :: (cs w ++ tlW r) := rfl
theorem tlW_app (a b : List Str) : tlW (a ++ b) = tlW a ++ tlW b := by
  unfold tlW
  rw [List.map_append, List.flatten_append]
theorem tl_ends (r : List Str) {e : Cs} (he : Ends e) : Ends (tlW r ++ e) := by
  cases r with
  | nil => exact he
  | cons w r => exact .inr ⟨32, _, rfl, .inl rfl⟩
theorem join_tl : ∀ (r : List Str) (w : Str), cs (Txt.join " " (w :: r)) = cs w ++ tlW r
  | [], w => by
    rw [cs_join]
    show cs w = cs w ++ []
    rw [List.append_nil]
  | v :: r, w => by
    have ih := join_tl r v
    rw [cs_join] at ih ⊢
    show cs w ++ (cs " " ++ jn (cs " ") ((v :: r).map cs)) = _
    rw [ih]
    rfl
/-! numbers -/
theorem num_seps : ∀ k : Nat, k < 201 → noSep (toString ((k : Int) - 100) : Str) := by decide +kernel
theorem num_sep {n : Int} (h1 : -100 ≤ n) (h2 : n ≤ 100) : noSep (toString n : Str) := by
  have h := num_seps (n + 100).toNat (by omega)
  have e : (((n + 100).toNat : Nat) : Int) - 100 = n := by omega
  rw [e] at h
  exact h
theorem nums_sep {lo hi : Int} (h1 : -100 ≤ lo) (h2 : hi ≤ 100) : ∀ v ∈ nums lo hi, noSep v := fun v hv => by
  obtain ⟨n, h3, h4, rfl⟩ := mem_nums hv
  exact num_sep (by omega) (by omega)
theorem num_at {l : Cs} {lo hi n : Int} {i : Nat} {e : Cs} (h1 : -100 ≤ lo) (h2 : hi ≤ 100) (h3 : lo ≤ n) (h4 : n ≤ hi) (h : l.drop i = cs (toString n : Str) ++ e) (he : Ends e) : pNum l lo hi i = .ok (n, i + (toString n : Str).length) ∧ l.drop (i + (toString n : Str).length) = e := by
  obtain ⟨h5, h6⟩ := word_at (nums_mem h3 h4) (nums_sep h1 h2) h he
  refine ⟨?_, h6⟩
  unfold pNum
  rw [h5]
  show Except.ok (numV (toString n : Str), _) = _
  rw [numV_of (by omega) (by omega)]
theorem gn {β : Type} {l : Cs} {lo hi n : Int} {i : Nat} {e : Cs} (f : Int → Nat → Except Nat (β × Nat)) (h1 : -100 ≤ lo) (h2 : hi ≤ 100) (h3 : lo ≤ n) (h4 : n ≤ hi) (h : l.drop i = 32 :: (cs (toString n : Str) ++ e)) (he : Ends e) :
    bnd (gapU l i) (fun _ i => bnd (pNum l lo hi i) f) = f n (i + 1 + (toString n : Str).length) ∧ l.drop (i + 1 + (toString n : Str).length) = e := by
  have g1 := gap_at h fun c hc => (head_cs (num_sep (by omega) (by omega)) e c hc).1
  have g2 : l.drop (i + 1) = cs (toString n : Str) ++ e := drop_app (a := [32]) h
  obtain ⟨g3, g4⟩ := num_at h1 h2 h3 h4 g2 he
  refine ⟨?_, g4⟩
  rw [g1]
  show bnd (pNum l lo hi (i + 1)) f = _
  rw [g3]
  rfl
/-! conditions -/
inductive InBs : List Int → List (Int × Int) → Prop where
  | nil : InBs [] []
  | cons {n : Int} {b : Int × Int} {ns : List Int} {bs : List (Int × Int)} : b.1 ≤ n → n ≤ b.2 → -100 ≤ b.1 → b.2 ≤ 100 → InBs ns bs → InBs (n :: ns) (b :: bs)
theorem nums_rt {l : Cs} {ns : List Int} {bs : List (Int × Int)} (hb : InBs ns bs) : ∀ {i : Nat} {e : Cs}, l.drop i = tlW (ns.map fun n => (toString n : Str)) ++ e → Ends e → ∃ j, pNums l bs i = .ok (ns, j) ∧ l.drop j = e := by
  induction hb with
  | nil =>
    intro i e h _
    exact ⟨i, rfl, h⟩
  | @cons n b ns bs h1 h2 h3 h4 _ ih =>
    intro i e h he
    rw [List.map_cons, tlW_cons, List.cons_append, List.append_assoc] at h
    obtain ⟨g1, g2⟩ := gn (fun n i => bnd (pNums l bs i) fun ns i => .ok (n :: ns, i)) h3 h4 h1 h2 h (tl_ends _ he)
    obtain ⟨j, j1, j2⟩ := ih g2 he
    refine ⟨j, ?_, j2⟩
    show bnd (gapU l i) (fun _ i => bnd (pNum l b.1 b.2 i) fun n i => bnd (pNums l bs i) fun ns i => .ok (n :: ns, i)) = _
    rw [g1, j1]
    rfl
def CondRt (c : CondM) : Prop := (c.1 = "least" ∨ c.1 = "rest") ∧ InBs c.2 (bounds c.1)
theorem cw_seps (cl : List CondM) : ∀ v ∈ cWords cl, noSep v := fun v hv => by
  have h : noSep "least" ∧ noSep "rest" ∧ noSep "go" := by decide +kernel
  rcases cWords_mem hv with ⟨h1 | h1, _⟩ | ⟨h1, _⟩
  · rw [h1]
    exact h.1
  · rw [h1]
    exact h.2.1
  · rw [h1]
    exact h.2.2
theorem conds_rt {l : Cs} : ∀ {more cl : List CondM} {k i : Nat} {e : Cs}, (∀ c ∈ more, CondRt c) → (cl ++ more).length ≤ 4 → cl ++ more ≠ [] → more.length ≤ k → l.drop i = tlW ((more.map condWords).flatten ++ [("go" : Str)]) ++ e → Ends e → ∃ j, pConds l k cl i = .ok (cl ++ more, j) ∧ l.drop j = e
  | [], cl, k, i, e, _, h4, hne, _, h, he => by
    rw [List.append_nil] at hne
    have hm : ("go" : Str) ∈ cWords cl := by
      unfold cWords
      rw [if_pos hne]
      exact List.mem_append_right _ (List.mem_singleton.mpr rfl)
    obtain ⟨g1, g2⟩ := gw (fun w i => if w = "go" then .ok (cl, i) else pCondsT l k cl w i) hm (cw_seps cl) (show l.drop i = 32 :: (cs ("go" : Str) ++ e) from by rw [h]; show (32 :: (cs ("go" : Str) ++ [])) ++ e = _; rw [List.append_nil]; rfl) he
    refine ⟨_, ?_, g2⟩
    rw [pConds_eq, g1, if_pos rfl, List.append_nil]
  | c :: more, cl, k, i, e, hc, h4, hne, hk, h, he => by
    obtain ⟨hc1, hc2⟩ := hc c (List.mem_cons_self ..)
    have hl : cl.length < 4 := by
      rw [List.length_append, List.length_cons] at h4
      omega
    have hm : c.1 ∈ cWords cl := by
      unfold cWords
      rw [if_pos hl]
      refine List.mem_append_left _ ?_
      rcases hc1 with h | h
      · rw [h]
        exact List.mem_cons_self ..
      · rw [h]
        exact List.mem_cons_of_mem _ (List.mem_singleton.mpr rfl)
    have hg : c.1 ≠ "go" := by
      rcases hc1 with h | h <;> rw [h] <;> decide
    have e1 : tlW (((c :: more).map condWords).flatten ++ [("go" : Str)]) ++ e = 32 :: (cs c.1 ++ (tlW (c.2.map fun n => (toString n : Str)) ++ (tlW ((more.map condWords).flatten ++ [("go" : Str)]) ++ e))) := by
      rw [List.map_cons, List.flatten_cons]
      have : condWords c = c.1 :: c.2.map fun n => (toString n : Str) := rfl
      rw [this, List.cons_append, List.cons_append, tlW_cons, List.append_assoc, tlW_app]
      simp
    rw [e1] at h
    obtain ⟨g1, g2⟩ := gw (fun w i => if w = "go" then .ok (cl, i) else pCondsT l k cl w i) hm (cw_seps cl) h (tl_ends _ (tl_ends _ he))
    obtain ⟨j1, n1, n2⟩ := nums_rt hc2 g2 (tl_ends _ he)
    cases k with
    | zero => cases hk
    | succ k =>
      obtain ⟨j2, m1, m2⟩ := conds_rt (l := l) (more := more) (cl := cl ++ [c]) (k := k) (fun d hd => hc d (List.mem_cons_of_mem _ hd)) (by rw [List.append_assoc]; exact h4) (by rw [List.append_assoc]; exact hne) (Nat.le_of_succ_le_succ hk) n2 he
      refine ⟨j2, ?_, m2⟩
      rw [pConds_eq, g1, if_neg hg]
      unfold pCondsT
      rw [n1]
      show pConds l k (cl ++ [(c.1, c.2)]) j1 = _
      rw [m1, List.append_assoc]
      rfl
theorem rule_rt {l : Cs} {roads : List Str} {cl : List CondM} {r : Str} {i : Nat} {e : Cs} (hr : r ∈ roads) (hn : ∀ v ∈ roads, noSep v) (hc : ∀ c ∈ cl, CondRt c) (h4 : cl.length ≤ 4) (h : l.drop i = tlW ((if cl ≠ [] then [("if" : Str)] else []) ++ (cl.map condWords).flatten ++ [("go" : Str), r]) ++ e) (he : Ends e) :
    ∃ j, pRule l roads i = .ok ((cl, r), j) ∧ l.drop j = e := by
  have hig : ∀ v ∈ [("if" : Str), ("go" : Str)], noSep v := by decide +kernel
  unfold pRule
  by_cases c : cl = []
  · subst c
    have h : l.drop i = 32 :: (cs ("go" : Str) ++ (tlW [r] ++ e)) := h
    obtain ⟨g1, g2⟩ := gw (fun w i => bnd (if w = "go" then .ok ([], i) else pConds l 4 [] i) fun cs i => bnd (gapU l i) fun _ i => bnd (pWord l roads i) fun r i => .ok ((cs, r), i)) (List.mem_cons_of_mem _ (List.mem_singleton.mpr rfl)) hig h (tl_ends _ he)
    have g2 : l.drop (i + 1 + ("go" : Str).length) = 32 :: (cs r ++ e) := by
      rw [g2]
      show 32 :: (cs r ++ []) ++ e = _
      rw [List.append_nil]
      rfl
    obtain ⟨g3, g4⟩ := gw (fun r i => (Except.ok ((([] : List CondM), r), i) : Except Nat ((List CondM × Str) × Nat))) hr hn g2 he
    refine ⟨_, ?_, g4⟩
    rw [g1, if_pos rfl]
    exact g3
  · rw [if_pos c] at h
    have e1 : tlW ([("if" : Str)] ++ (cl.map condWords).flatten ++ [("go" : Str), r]) ++ e = 32 :: (cs ("if" : Str) ++ (tlW ((cl.map condWords).flatten ++ [("go" : Str)]) ++ (32 :: (cs r ++ e)))) := by
      have : [("if" : Str)] ++ (cl.map condWords).flatten ++ [("go" : Str), r] = ("if" : Str) :: (((cl.map condWords).flatten ++ [("go" : Str)]) ++ [r]) := by simp
      rw [this, tlW_cons, tlW_app _ [r]]
      have : tlW [r] = 32 :: cs r := by
        show 32 :: (cs r ++ []) = _
        rw [List.append_nil]
      rw [this]
      simp
    rw [e1] at h
    have he2 : Ends (32 :: (cs r ++ e)) := .inr ⟨32, _, rfl, .inl rfl⟩
    obtain ⟨g1, g2⟩ := gw (fun w i => bnd (if w = "go" then .ok ([], i) else pConds l 4 [] i) fun cs i => bnd (gapU l i) fun _ i => bnd (pWord l roads i) fun r i => .ok ((cs, r), i)) (List.mem_cons_self ..) hig h (tl_ends _ he2)
    obtain ⟨j1, m1, m2⟩ := conds_rt (cl := []) (k := 4) hc h4 c h4 g2 he2
    obtain ⟨g3, g4⟩ := gw (fun r i => (Except.ok ((cl, r), i) : Except Nat ((List CondM × Str) × Nat))) hr hn m2 he
    refine ⟨_, ?_, g4⟩
    rw [g1, if_neg (by decide), m1]
    exact g3
end Pz
namespace Pz
open PySem
theorem end_at {l rest : Cs} {i : Nat} (h : l.drop i = 10 :: rest) : endU l i = .ok ((), i + 1) ∧ l.drop (i + 1) = rest := by
  have h0 : l[i]? = some 10 := by
    have := congrArg (·[0]?) h
    simpa using this
  have hs : skipN isSp l i = i := skip_no fun c hc => by
    rw [h0] at hc
    cases hc
    rfl
  refine ⟨?_, drop_app (a := [10]) h⟩
  unfold endU pEnd
  rw [hs, if_pos (List.getElem?_eq_some_iff.mp h0).1, if_pos h0]
  rfl
theorem end_nil {l : Cs} {i : Nat} (h : l.drop i = []) : endU l i = .ok ((), i) := by
  have hl : l.length ≤ i := by
    have := congrArg List.length h
    rw [List.length_drop] at this
    have h0 : ([] : Cs).length = 0 := rfl
    omega
  have hs : skipN isSp l i = i := skip_no fun c hc => by
    have := (List.getElem?_eq_some_iff.mp hc).1
    omega
  unfold endU pEnd
  rw [hs, if_neg (by omega)]
  rfl
theorem ws_no {l r : Cs} {i c : Nat} (h : l.drop i = c :: r) (hc : isWs c = false) : skipN isWs l i = i ∧ i < l.length := by
  have h0 : l[i]? = some c := by
    have := congrArg (·[0]?) h
    simpa using this
  refine ⟨skip_no fun d hd => ?_, (List.getElem?_eq_some_iff.mp h0).1⟩
  rw [h0] at hd
  cases hd
  exact hc
theorem ws_nil {l : Cs} {i : Nat} (h : l.drop i = []) : ¬ skipN isWs l i < l.length := by
  have hl : l.length ≤ i := by
    have := congrArg List.length h
    rw [List.length_drop] at this
    have h0 : ([] : Cs).length = 0 := rfl
    omega
  have := skip_ge isWs l i
  omega
theorem jn_nil : ∀ ps : List Cs, jn [] ps = ps.flatten
  | [] => rfl
  | [p] => by
    show p = p ++ []
    rw [List.append_nil]
  | p :: q :: r => by
    show p ++ ([] ++ jn [] (q :: r)) = p ++ (q :: r).flatten
    rw [jn_nil (q :: r)]
    rfl
theorem tab_cons (ln : LineM) (more : List LineM) : cs (tabTxt (ln :: more)) = cs (lineTxt ln) ++ 10 :: cs (tabTxt more) := by
  have e : ∀ ls : List LineM, cs (tabTxt ls) = (ls.map fun ln => cs (lineTxt ln ++ ("\n" : Str))).flatten := fun ls => by
    unfold tabTxt
    rw [cs_join]
    show jn [] _ = _
    rw [jn_nil, List.map_map]
    rfl
  rw [e, e, List.map_cons, List.flatten_cons]
  have e2 : cs (lineTxt ln ++ ("\n" : Str)) = cs (lineTxt ln) ++ [10] := TL.tl_append (lineTxt ln) "\n"
  rw [e2, List.append_assoc]
  rfl
/-! names -/
def nmOk (n : Str) : Prop := ngo true [] (cs n) = cs n ∧ gOn true (cs n) 32 = false ∧ gOn true (cs n) 10 = false ∧ cs n ≠ [] ∧ (cs n).getLast? ≠ some 46
instance (n : Str) : Decidable (nmOk n) := by unfold nmOk; exact inferInstance
theorem ngo_app (dots : Bool) (e : Cs) : ∀ (u t : Cs), ngo dots t u = t ++ u → ngo dots t (u ++ e) = ngo dots (t ++ u) e
  | [], t, _ => by rw [List.nil_append, List.append_nil]
  | c :: u, t, h => by
    have h : (if gOn dots t c = true then ngo dots (t ++ [c]) u else t) = t ++ c :: u := h
    by_cases g : gOn dots t c = true
    · rw [if_pos g] at h
      have ih := ngo_app dots e u (t ++ [c]) (by rw [h, List.append_assoc]; rfl)
      show (if gOn dots t c = true then ngo dots (t ++ [c]) (u ++ e) else t) = _
      rw [if_pos g, ih, List.append_assoc]
      rfl
    · rw [if_neg g] at h
      have := congrArg List.length h
      rw [List.length_append, List.length_cons] at this
      omega
theorem name_at {l : Cs} {tk : List Str} {n : Str} {i : Nat} {e : Cs} (hn : nmOk n) (ht : n ∉ tk) (h : l.drop i = cs n ++ e) (he : Ends e) : pName l tk true i = .ok (n, i + n.length) ∧ l.drop (i + n.length) = e := by
  obtain ⟨h1, h2, h3, h4, h5⟩ := hn
  have hk : ntold true l i = cs n := by
    unfold ntold
    rw [h, ngo_app true e (cs n) [] h1, List.nil_append]
    rcases he with rfl | ⟨d, r, rfl, hd⟩
    · rfl
    · show (if gOn true (cs n) d = true then _ else cs n) = _
      rw [if_neg]
      rcases hd with rfl | rfl
      · rw [h2]
        decide
      · rw [h3]
        decide
  refine ⟨?_, by rw [← cs_len]; exact drop_app h⟩
  unfold pName
  rw [hk, if_neg, sS_cs, cs_len]
  rintro (q | q | q)
  · exact h4 q
  · exact h5 q
  · rw [sS_cs] at q
    exact ht q
theorem more_no {l e : Cs} {i : Nat} (h : l.drop i = e) (he : e = [] ∨ ∃ r, e = 10 :: r) : more l i = false := by
  unfold more
  rw [h]
  rcases he with rfl | ⟨r, rfl⟩ <;> rfl
theorem shift_rt {l : Cs} {a b : Int} {i : Nat} {e : Cs} (ha : -1 ≤ a ∧ a ≤ 1) (hb : -1 ≤ b ∧ b ≤ 1) (h : l.drop i = cs (toString a : Str) ++ (32 :: (cs (toString b : Str) ++ e))) (he : Ends e) : ∃ j, pShift l i = .ok ((a, b), j) ∧ l.drop j = e := by
  obtain ⟨h1, h2⟩ := num_at (lo := -9) (hi := 9) (by decide) (by decide) (by omega) (by omega) h (.inr ⟨32, _, rfl, .inl rfl⟩)
  obtain ⟨h3, h4⟩ := gn (lo := -9) (hi := 9) (fun b i => (Except.ok ((a, b), i) : Except Nat ((Int × Int) × Nat))) (by decide) (by decide) (show -9 ≤ b by omega) (by omega) h2 he
  refine ⟨_, ?_, h4⟩
  unfold pShift
  rw [h1]
  exact h3
theorem gap_n {l : Cs} {w : Str} {i : Nat} {e : Cs} (hw : noSep w) (h : l.drop i = 32 :: (cs w ++ e)) : gapU l i = .ok ((), i + 1) ∧ l.drop (i + 1) = cs w ++ e := ⟨gap_at h fun c hc => (head_cs hw e c hc).1, drop_app (a := [32]) h⟩
def rd3 (l : Cs) (n s e : Str) (d : Int × Int) (p : Int) (i : Nat) : Except Nat (RoadM × Nat) := if more l i = true then bnd (gapU l i) fun _ i => bnd (pName l [] true i) fun lb i => .ok (⟨n, s, e, d.1, d.2, p, some lb⟩, i) else .ok (⟨n, s, e, d.1, d.2, p, none⟩, i)
def rd2 (l : Cs) (n s e : Str) (i : Nat) : Except Nat (RoadM × Nat) := bnd (gapU l i) fun _ i => bnd (pShift l i) fun d i => bnd (gapU l i) fun _ i => bnd (pNum l 1 99 i) fun p i => rd3 l n s e d p i
def rd1 (l : Cs) (sp : List Str) (n s : Str) (i : Nat) : Except Nat (RoadM × Nat) := bnd (gapU l i) fun _ i => bnd (pWord l sp i) fun e i => rd2 l n s e i
theorem pRoad_eq (l : Cs) (sp tk : List Str) (i : Nat) : pRoad l sp tk true i = bnd (pName l tk true i) fun n i => bnd (gapU l i) fun _ i => bnd (pWord l sp i) fun s i => rd1 l sp n s i := rfl
theorem road_rt {l : Cs} {sp tk : List Str} {m : RoadM} {i : Nat} {e : Cs} (hn : nmOk m.name) (ht : m.name ∉ tk) (hs : ∀ v ∈ sp, noSep v) (h1 : m.start ∈ sp) (h2 : m.stop ∈ sp) (hx : -1 ≤ m.dx ∧ m.dx ≤ 1) (hy : -1 ≤ m.dy ∧ m.dy ≤ 1) (hp : 1 ≤ m.price ∧ m.price ≤ 9) (hl : m.label = none)
    (h : l.drop i = cs m.name ++ (tlW [m.start, m.stop, (toString m.dx : Str), (toString m.dy : Str), (toString m.price : Str)] ++ e)) (he : e = [] ∨ ∃ r, e = 10 :: r) : ∃ j, pRoad l sp tk true i = .ok (m, j) ∧ l.drop j = e := by
  have hE : Ends e := by
    rcases he with h | ⟨r, h⟩
    · exact .inl h
    · exact .inr ⟨10, r, h, .inr rfl⟩
  obtain ⟨a1, a2⟩ := name_at hn ht h (tl_ends _ hE)
  have a2 : l.drop (i + m.name.length) = 32 :: (cs m.start ++ (tlW [m.stop, (toString m.dx : Str), (toString m.dy : Str), (toString m.price : Str)] ++ e)) := by
    rw [a2, tlW_cons, List.cons_append, List.append_assoc]
  obtain ⟨b1, b2⟩ := gw (fun s i => rd1 l sp m.name s i) h1 hs a2 (tl_ends _ hE)
  rw [tlW_cons, List.cons_append, List.append_assoc] at b2
  obtain ⟨c1, c2⟩ := gw (fun e i => rd2 l m.name m.start e i) h2 hs b2 (tl_ends _ hE)
  rw [tlW_cons, List.cons_append, List.append_assoc] at c2
  obtain ⟨d1, d2⟩ := gap_n (num_sep (by omega) (by omega)) c2
  rw [tlW_cons, List.cons_append, List.append_assoc] at d2
  obtain ⟨j1, f1, f2⟩ := shift_rt hx hy d2 (tl_ends _ hE)
  rw [tlW_cons, List.cons_append, List.append_assoc] at f2
  obtain ⟨g1, g2⟩ := gn (lo := 1) (hi := 99) (fun p i => rd3 l m.name m.start m.stop (m.dx, m.dy) p i) (by decide) (by decide) hp.1 (by omega) f2 hE
  refine ⟨_, ?_, g2⟩
  rw [pRoad_eq, a1, bnd_of, b1]
  unfold rd1
  rw [c1]
  unfold rd2
  rw [d1, bnd_of, f1, bnd_of, g1]
  unfold rd3
  rw [if_neg (by rw [more_no g2 he]; decide), ← hl]
end Pz
set_option Elab.async false
set_option linter.all false
set_option maxRecDepth 100000
set_option maxHeartbeats 4000000
namespace Lx
open PySem PySem.Spec PyProof.Rows L2 Pz
theorem land_seps {sp : List Str} {rs : List RoadM} (h : LandOk sp rs) : (∀ v ∈ sp, noSep v ∧ nmOk v) ∧ (∀ m ∈ rs, noSep m.name ∧ nmOk m.name) := by
  have h1 : ∀ s ∈ spotSets, ∀ v ∈ s, noSep v ∧ nmOk v := by decide +kernel
  have h2 : ∀ v ∈ nameSet, noSep v ∧ nmOk v := by decide +kernel
  exact ⟨h1 sp h.spots, fun m hm => h2 _ (h.ok m hm).nm⟩
theorem inbs {ns : List Int} {bs : List (Int × Int)} (h : InB ns bs) (hb : ∀ b ∈ bs, -100 ≤ b.1 ∧ b.2 ≤ 100) : InBs ns bs := by
  induction h with
  | nil => exact .nil
  | @cons n b ns bs h1 _ ih =>
    have := hb b (List.mem_cons_self ..)
    exact .cons h1.1 h1.2 this.1 this.2 (ih fun c hc => hb c (List.mem_cons_of_mem _ hc))
theorem cond_rt {c : CondM} (h : CondOk c) : CondRt c := ⟨h.1, inbs h.2 (bounds_ok c.1)⟩
theorem lw_seps {sp : List Str} {rs : List RoadM} {ls : List LineM} : ∀ v ∈ lineWords sp rs ls, noSep v := fun v hv => by
  have h : noSep "goal" ∧ noSep "at" := by decide +kernel
  rcases lineWords_mem hv with rfl | rfl
  · exact h.1
  · exact h.2
theorem line_rt {sp : List Str} {rs : List RoadM} {ls : List LineM} {ln : LineM} {l rest : Cs} {i : Nat} (ok : LandOk sp rs) (g : LineGood sp rs ls ln) (h : l.drop i = cs (lineTxt ln) ++ 10 :: rest) : ∃ j, pLineE l sp rs ls i = .ok (ln, j) ∧ l.drop j = rest := by
  obtain ⟨s1, s2⟩ := land_seps ok
  have e10 : Ends (10 :: rest) := .inr ⟨10, rest, rfl, .inr rfl⟩
  suffices hh : ∃ j, pLine l sp rs ls i = .ok (ln, j) ∧ l.drop j = 10 :: rest by
    obtain ⟨j, h1, h2⟩ := hh
    obtain ⟨h3, h4⟩ := end_at h2
    refine ⟨j + 1, ?_, h4⟩
    unfold pLineE
    rw [h1, bnd_of, h3, bnd_of]
  cases ln with
  | goal gl =>
    obtain ⟨g1, g2⟩ := g
    have hf : gl ∈ freshOf sp ls := List.mem_filter.mpr ⟨g1, decide_eq_true g2⟩
    have hm : ("goal" : Str) ∈ lineWords sp rs ls := by
      unfold lineWords
      rw [if_pos (List.ne_nil_of_mem hf)]
      exact List.mem_append_left _ (List.mem_singleton.mpr rfl)
    have ec : cs (lineTxt (.goal gl)) = cs ("goal " : Str) ++ cs gl := TL.tl_append "goal " gl
    have h : l.drop i = cs ("goal" : Str) ++ (32 :: (cs gl ++ 10 :: rest)) := by
      rw [h, ec, List.append_assoc]
      rfl
    obtain ⟨a1, a2⟩ := word_at hm lw_seps h (.inr ⟨32, _, rfl, .inl rfl⟩)
    obtain ⟨b1, b2⟩ := gap_n (s1 gl g1).1 a2
    obtain ⟨c1, c2⟩ := word_at hf (fun v hv => (s1 v (freshOf_mem hv).1).1) b2 e10
    refine ⟨_, ?_, c2⟩
    unfold pLine
    rw [a1, bnd_of, b1, bnd_of, if_pos rfl, c1, bnd_of]
  | at_ s cl rd =>
    obtain ⟨g1, g2, g3, g4, g5, g6⟩ := g
    have ho : s ∈ opnOf sp rs ls := by
      unfold opnOf
      rw [if_neg g2]
      refine List.mem_filter.mpr ⟨g1, ?_⟩
      rw [decide_eq_true g3, decide_eq_true (List.length_pos_of_mem g4)]
      rfl
    have hm : ("at" : Str) ∈ lineWords sp rs ls := by
      unfold lineWords
      rw [if_pos (List.ne_nil_of_mem ho)]
      exact List.mem_append_right _ (List.mem_singleton.mpr rfl)
    have ew : atWords s cl rd = ("at" : Str) :: (s :: ((if cl ≠ [] then [("if" : Str)] else []) ++ (cl.map condWords).flatten ++ [("go" : Str), rd])) := by
      unfold atWords
      rfl
    have ec : cs (lineTxt (.at_ s cl rd)) = cs ("at" : Str) ++ tlW (s :: ((if cl ≠ [] then [("if" : Str)] else []) ++ (cl.map condWords).flatten ++ [("go" : Str), rd])) := by
      show cs (Txt.join " " (atWords s cl rd)) = _
      rw [ew, join_tl]
    have h : l.drop i = cs ("at" : Str) ++ (32 :: (cs s ++ (tlW ((if cl ≠ [] then [("if" : Str)] else []) ++ (cl.map condWords).flatten ++ [("go" : Str), rd]) ++ 10 :: rest))) := by
      rw [h, ec, tlW_cons, List.append_assoc]
      simp
    have nn : ∀ v ∈ namesAt rs s, noSep v := fun v hv => by
      unfold namesAt at hv
      obtain ⟨m, hm, rfl⟩ := List.mem_map.mp hv
      exact (s2 m (List.mem_filter.mp hm).1).1
    obtain ⟨a1, a2⟩ := word_at hm lw_seps h (.inr ⟨32, _, rfl, .inl rfl⟩)
    obtain ⟨b1, b2⟩ := gap_n (s1 s g1).1 a2
    obtain ⟨c1, c2⟩ := word_at ho (fun v hv => (s1 v (opnOf_mem hv).1).1) b2 (tl_ends _ e10)
    obtain ⟨j, d1, d2⟩ := rule_rt g4 nn (fun c hc => cond_rt (g6 c hc)) g5 c2 e10
    refine ⟨j, ?_, d2⟩
    unfold pLine
    rw [a1, bnd_of, b1, bnd_of, if_neg (by decide), c1, bnd_of, d1, bnd_of]
theorem line_head (ln : LineM) (e : Cs) : ∃ c r, cs (lineTxt ln) ++ e = c :: r ∧ isWs c = false := by
  cases ln with
  | goal g =>
    have ec : cs (lineTxt (.goal g)) = cs ("goal " : Str) ++ cs g := TL.tl_append "goal " g
    rw [ec]
    exact ⟨103, _, rfl, rfl⟩
  | at_ s cl rd =>
    have ec : cs (lineTxt (.at_ s cl rd)) = cs ("at" : Str) ++ tlW (s :: ((if cl ≠ [] then [("if" : Str)] else []) ++ (cl.map condWords).flatten ++ [("go" : Str), rd])) := join_tl _ _
    rw [ec]
    exact ⟨97, _, rfl, rfl⟩
theorem tab_rt {sp : List Str} {rs : List RoadM} {l : Cs} (ok : LandOk sp rs) : ∀ (more : List LineM) (ls : List LineM) (i f : Nat), (∀ (k : Nat) (ln : LineM), more[k]? = some ln → LineGood sp rs (ls ++ more.take k) ln) → l.drop i = cs (tabTxt more) → more.length < f → pTabGo l sp rs f ls i = some (.ok (ls ++ more))
  | [], ls, i, f, _, h, hf => by
    have h : l.drop i = [] := h
    cases f with
    | zero => cases hf
    | succ f => rw [pTabGo, if_neg (ws_nil h), List.append_nil]
  | ln :: more, ls, i, f, hg, h, hf => by
    rw [tab_cons] at h
    obtain ⟨c, r, e1, e2⟩ := line_head ln (10 :: cs (tabTxt more))
    obtain ⟨w1, w2⟩ := ws_no (h.trans e1) e2
    have g0 : LineGood sp rs ls ln := by
      have := hg 0 ln rfl
      rw [List.take_zero, List.append_nil] at this
      exact this
    obtain ⟨j, h1, h2⟩ := line_rt ok g0 h
    cases f with
    | zero => cases hf
    | succ f =>
      rw [pTabGo, w1, if_pos w2, h1]
      show pTabGo l sp rs f (ls ++ [ln]) j = _
      rw [tab_rt ok more (ls ++ [ln]) j f (fun k ln2 hk => ?_) h2 (Nat.lt_of_succ_lt_succ hf), List.append_assoc]
      · rfl
      · have := hg (k + 1) ln2 hk
        rw [List.take_succ_cons] at this
        rw [List.append_assoc]
        exact this
theorem tab_read {sp : List Str} {rs : List RoadM} {ls : List LineM} {f : Nat} (ok : LandOk sp rs) (v : Valid sp rs ls) (hf : ls.length < f) : pTabGo (cs (tabTxt ls)) sp rs f [] 0 = some (.ok ls) := by
  have h := tab_rt ok ls [] 0 f (fun k ln hk => by rw [List.nil_append]; exact v.at_ hk) (List.drop_zero (l := cs (tabTxt ls))) hf
  rw [List.nil_append] at h
  exact h
/-! ### maps -/
def rdC (m : RoadM) : Cs := cs (lineOf m)
theorem jn_cons (y a : Cs) (r : List Cs) : jn y (a :: r) = a ++ (if r = [] then [] else y ++ jn y r) := by
  cases r with
  | nil =>
    show a = a ++ []
    rw [List.append_nil]
  | cons b r => rfl
theorem mw_seps {sp : List Str} {rs : List RoadM} : ∀ v ∈ mapWords sp rs, noSep v := fun v hv => by
  have h : noSep "spot" ∧ noSep "road" := by decide +kernel
  rcases mapWords_mem hv with ⟨h1, _⟩ | ⟨h1, _⟩
  · rw [h1]
    exact h.1
  · rw [h1]
    exact h.2
theorem end_any {l : Cs} {i : Nat} {tl : List Cs} (h : l.drop i = (if tl = [] then [] else [10] ++ jn [10] tl)) : ∃ j, endU l i = .ok ((), j) ∧ l.drop j = jn [10] tl := by
  by_cases c : tl = []
  · subst c
    exact ⟨i, end_nil h, h⟩
  · rw [if_neg c] at h
    obtain ⟨h1, h2⟩ := end_at h
    exact ⟨i + 1, h1, h2⟩
theorem roads_rt {sp : List Str} {l : Cs} (hsp : sp ≠ []) (hs : ∀ v ∈ sp, noSep v) : ∀ (more rs : List RoadM) (i f : Nat), (∀ m ∈ more, RowOk sp m ∧ nmOk m.name) → ((rs ++ more).map (·.name)).Nodup → (rs ++ more).length ≤ 100 → l.drop i = jn [10] (more.map rdC) → more.length < f → pMapGo l f sp rs i = some (.ok (sp, rs ++ more))
  | [], rs, i, f, _, _, _, h, hf => by
    have h : l.drop i = [] := h
    cases f with
    | zero => cases hf
    | succ f => rw [pMapGo, if_neg (ws_nil h), if_neg hsp, List.append_nil]
  | m :: more, rs, i, f, hm, nd, hl, h, hf => by
    rw [List.map_cons, jn_cons] at h
    obtain ⟨o, on⟩ := hm m (List.mem_cons_self ..)
    have er : rdC m = cs ("road" : Str) ++ tlW [m.name, m.start, m.stop, (toString m.dx : Str), (toString m.dy : Str), (toString m.price : Str)] := by
      unfold rdC lineOf
      rw [o.lb]
      show cs (Txt.join " " (roadWords m ++ [])) = _
      rw [List.append_nil]
      exact join_tl _ _
    have hE : (if more.map rdC = [] then [] else [10] ++ jn [10] (more.map rdC)) = [] ∨ ∃ r, (if more.map rdC = [] then [] else [10] ++ jn [10] (more.map rdC)) = 10 :: r := by
      by_cases c : more.map rdC = []
      · rw [if_pos c]
        exact .inl rfl
      · rw [if_neg c]
        exact .inr ⟨_, rfl⟩
    have hE2 : Ends (if more.map rdC = [] then [] else [10] ++ jn [10] (more.map rdC)) := by
      rcases hE with h | ⟨r, h⟩
      · exact .inl h
      · exact .inr ⟨10, r, h, .inr rfl⟩
    have hw : ("road" : Str) ∈ mapWords sp rs := by
      unfold mapWords
      rw [List.length_append] at hl
      rw [if_pos (show sp ≠ [] ∧ rs.length < 160 from ⟨hsp, by omega⟩)]
      exact List.mem_append_right _ (List.mem_singleton.mpr rfl)
    rw [er, List.append_assoc] at h
    have h0 : l.drop i = 114 :: _ := h
    obtain ⟨w1, w2⟩ := ws_no h0 rfl
    obtain ⟨a1, a2⟩ := word_at hw mw_seps h (tl_ends _ hE2)
    rw [tlW_cons, List.cons_append, List.append_assoc] at a2
    have nsep : noSep m.name := by
      have h2 : ∀ v ∈ nameSet, noSep v := by decide +kernel
      exact h2 _ o.nm
    obtain ⟨b1, b2⟩ := gap_n nsep a2
    have nt : m.name ∉ rs.map (·.name) := fun q => by
      rw [List.map_append, List.map_cons] at nd
      exact (List.nodup_append.mp nd).2.2 _ q _ (List.mem_cons_self ..) rfl
    obtain ⟨j, c1, c2⟩ := road_rt on nt hs o.st o.en o.dx o.dy o.pr o.lb b2 hE
    obtain ⟨j2, d1, d2⟩ := end_any c2
    cases f with
    | zero => cases hf
    | succ f =>
      have hml : mapLine l sp rs i = .ok ((sp, rs ++ [m]), j2) := by
        unfold mapLine
        rw [a1, bnd_of, b1, bnd_of, if_neg (by decide), c1, bnd_of, d1, bnd_of]
      rw [pMapGo, w1, if_pos w2, hml]
      show pMapGo l f sp (rs ++ [m]) j2 = _
      rw [roads_rt hsp hs more (rs ++ [m]) j2 f (fun m2 h2 => hm m2 (List.mem_cons_of_mem _ h2)) (by rw [List.append_assoc]; exact nd) (by rw [List.append_assoc]; exact hl) d2 (Nat.lt_of_succ_lt_succ hf), List.append_assoc]
      rfl
theorem spots_rt {l : Cs} {rs : List RoadM} (hrs : rs ≠ []) (hrl : rs.length ≤ 50) (nd2 : (rs.map (·.name)).Nodup) : ∀ (more sp : List Str) (i f : Nat), (∀ v ∈ sp ++ more, noSep v ∧ nmOk v) → (sp ++ more).Nodup → (sp ++ more).length ≤ 20 → sp ++ more ≠ [] → (∀ m ∈ rs, RowOk (sp ++ more) m ∧ nmOk m.name) →
    l.drop i = jn [10] (more.map (fun n => cs (("spot " : Str) ++ n)) ++ rs.map rdC) → more.length + rs.length < f → pMapGo l f sp [] i = some (.ok (sp ++ more, rs))
  | [], sp, i, f, hv, nd, hl, hne, hm, h, hf => by
    rw [List.append_nil] at hv hne hm
    rw [List.append_nil]
    have := roads_rt hne (fun v hv2 => (hv v hv2).1) rs [] i f hm (by rw [List.nil_append]; exact nd2) (by rw [List.nil_append]; omega) h (by
      have h0 : ([] : List Str).length = 0 := rfl
      omega)
    rw [List.nil_append] at this
    exact this
  | n :: more, sp, i, f, hv, nd, hl, hne, hm, h, hf => by
    rw [List.map_cons, List.cons_append, jn_cons] at h
    have hc : ¬ more.map (fun n => cs (("spot " : Str) ++ n)) ++ rs.map rdC = [] := fun q => by
      have := congrArg List.length q
      rw [List.length_append, List.length_map, List.length_map] at this
      have h1 := List.length_pos_iff.mpr hrs
      have h0 : ([] : List Cs).length = 0 := rfl
      omega
    have ec : cs (("spot " : Str) ++ n) = cs ("spot " : Str) ++ cs n := TL.tl_append "spot " n
    have hn := hv n (List.mem_append_right _ (List.mem_cons_self ..))
    rw [if_neg hc, ec] at h
    have h : l.drop i = cs ("spot" : Str) ++ (32 :: (cs n ++ (10 :: jn [10] (more.map (fun n => cs (("spot " : Str) ++ n)) ++ rs.map rdC)))) := by
      rw [h, List.append_assoc]
      rfl
    have h0 : l.drop i = 115 :: _ := h
    obtain ⟨w1, w2⟩ := ws_no h0 rfl
    have hw : ("spot" : Str) ∈ mapWords sp [] := by
      unfold mapWords
      rw [List.length_append] at hl
      rw [if_pos (show ([] : List RoadM) = [] ∧ sp.length < 24 from ⟨rfl, by omega⟩)]
      exact List.mem_append_left _ (List.mem_singleton.mpr rfl)
    obtain ⟨a1, a2⟩ := word_at hw mw_seps h (.inr ⟨32, _, rfl, .inl rfl⟩)
    obtain ⟨b1, b2⟩ := gap_n hn.1 a2
    have nt : n ∉ sp := fun q => (List.nodup_append.mp nd).2.2 _ q _ (List.mem_cons_self ..) rfl
    obtain ⟨c1, c2⟩ := name_at hn.2 nt b2 (.inr ⟨10, _, rfl, .inr rfl⟩)
    obtain ⟨d1, d2⟩ := end_at c2
    cases f with
    | zero => cases hf
    | succ f =>
      have hml : mapLine l sp [] i = .ok ((sp ++ [n], []), i + ("spot" : Str).length + 1 + n.length + 1) := by
        unfold mapLine
        rw [a1, bnd_of, b1, bnd_of, if_pos rfl, c1, bnd_of, d1, bnd_of]
      rw [pMapGo, w1, if_pos w2, hml]
      show pMapGo l f (sp ++ [n]) [] _ = _
      rw [spots_rt hrs hrl nd2 more (sp ++ [n]) _ f (by rw [List.append_assoc]; exact hv) (by rw [List.append_assoc]; exact nd) (by rw [List.append_assoc]; exact hl) (by rw [List.append_assoc]; exact hne) (by rw [List.append_assoc]; exact hm) d2 (by rw [List.length_cons] at hf; omega), List.append_assoc]
      rfl
theorem map_read {sp : List Str} {rs : List RoadM} (ok : LandOk sp rs) : pMapGo (cs (landTxt sp rs)) 100 [] [] 0 = some (.ok (sp, rs)) := by
  obtain ⟨s1, s2⟩ := land_seps ok
  obtain ⟨⟨l1, l3⟩, nd, _⟩ := land_sp ok
  have lrs := ok.le
  have h := spots_rt (l := cs (landTxt sp rs)) (rs := rs) ok.ne (by omega) ok.nd sp [] 0 100 (by rw [List.nil_append]; exact s1) (by rw [List.nil_append]; exact nd) (by rw [List.nil_append]; omega) (by
    rw [List.nil_append]
    intro q
    rw [q] at l1
    cases l1) (by
    rw [List.nil_append]
    exact fun m hm => ⟨ok.ok m hm, (s2 m hm).2⟩) (by
    rw [List.drop_zero]
    unfold landTxt
    rw [cs_join, List.map_append, List.map_map, List.map_map]
    rfl) (by omega)
  rw [List.nil_append] at h
  exact h
end Lx
set_option Elab.async false
set_option linter.all false
set_option maxRecDepth 100000
set_option maxHeartbeats 4000000
namespace Lx
open PySem PySem.Spec PyProof.Rows L2 Pz
/-! ### how long a written table is -/
theorem nodup_len {α : Type} [DecidableEq α] : ∀ {a b : List α}, a.Nodup → (∀ x ∈ a, x ∈ b) → a.length ≤ b.length
  | [], b, _, _ => Nat.zero_le _
  | x :: a, b, nd, h => by
    have hx := h x (List.mem_cons_self ..)
    have ih := nodup_len (b := b.erase x) (List.nodup_cons.mp nd).2 fun y hy => (List.mem_erase_of_ne (fun (q : y = x) => (List.nodup_cons.mp nd).1 (by rw [← q]; exact hy))).mpr (h y (List.mem_cons_of_mem _ hy))
    rw [List.length_erase_of_mem hx] at ih
    have := List.length_pos_of_mem hx
    rw [List.length_cons]
    omega
theorem valid_goals {sp : List Str} {rs : List RoadM} {ls : List LineM} (v : Valid sp rs ls) : (goalsOf ls).Nodup ∧ (∀ g ∈ goalsOf ls, g ∈ sp) ∧ (∀ s, cntOf ls s ≤ 4) ∧ (ls = [] ∨ goalsOf ls ≠ []) := by
  induction v with
  | nil => exact ⟨List.nodup_nil, (fun _ h => by cases h), (fun _ => Nat.zero_le _), .inl rfl⟩
  | @snoc ls ln _ g ih =>
    obtain ⟨h1, h2, h3, h4⟩ := ih
    cases ln with
    | goal gl =>
      obtain ⟨g1, g2⟩ := g
      rw [goalsOf_app]
      refine ⟨List.nodup_append.mpr ⟨h1, List.pairwise_singleton _ _, fun a ha b hb q => ?_⟩, fun x hx => ?_, fun s => by rw [cntOf_goal]; exact Nat.zero_le _, .inr (by simp [goalsOf])⟩
      · have hb : b ∈ [gl] := hb
        rw [List.mem_singleton.mp hb] at q
        exact g2 (q ▸ ha)
      · rcases List.mem_append.mp hx with hx | hx
        · exact h2 x hx
        · have hx : x ∈ [gl] := hx
          rw [List.mem_singleton.mp hx]
          exact g1
    | at_ s cl rd =>
      obtain ⟨g1, g2, g3, g4, g5, g6⟩ := g
      have e : goalsOf (ls ++ [.at_ s cl rd]) = goalsOf ls := by
        rw [goalsOf_app]
        exact List.append_nil _
      rw [e]
      refine ⟨h1, h2, fun t => ?_, .inr g2⟩
      rw [cntOf_at]
      split
      · rename_i q
        subst q
        omega
      · exact h3 t
theorem sum_up {s : Str} {f g : Str → Nat} (h : ∀ t, f t ≤ g t) (hs : f s + 1 ≤ g s) : ∀ {l : List Str}, s ∈ l → (l.map f).sum + 1 ≤ (l.map g).sum
  | t :: l, hm => by
    have hle : ∀ l : List Str, (l.map f).sum ≤ (l.map g).sum := fun l => by
      induction l with
      | nil => exact Nat.le_refl _
      | cons a l ih =>
        have := h a
        rw [List.map_cons, List.map_cons, List.sum_cons, List.sum_cons]
        omega
    rw [List.map_cons, List.map_cons, List.sum_cons, List.sum_cons]
    rcases List.mem_cons.mp hm with rfl | hm
    · have := hle l
      omega
    · have := sum_up h hs hm
      have := h t
      omega
theorem valid_len {sp : List Str} {rs : List RoadM} {ls : List LineM} (hsp : sp.length ≤ 3) (v : Valid sp rs ls) : (goalsOf ls = [] → ls = []) ∧ (goalsOf ls ≠ [] → ls.length + 12 ≤ 13 * (goalsOf ls).length + (sp.map (cntOf ls)).sum) := by
  induction v with
  | nil => exact ⟨fun _ => rfl, fun h => absurd rfl h⟩
  | @snoc ls ln v g ih =>
    obtain ⟨i1, i2⟩ := ih
    have hv := valid_goals v
    have hS : (sp.map (cntOf ls)).sum ≤ 12 := by
      have h1 : (sp.map (cntOf ls)).sum ≤ sp.length * 4 := sum_le fun s _ => hv.2.2.1 s
      omega
    cases ln with
    | goal gl =>
      have e : goalsOf (ls ++ [.goal gl]) = goalsOf ls ++ [gl] := by
        rw [goalsOf_app]
        rfl
      rw [e]
      refine ⟨fun h => by simp at h, fun _ => ?_⟩
      rw [List.length_append, List.length_append]
      show ls.length + 1 + 12 ≤ 13 * ((goalsOf ls).length + 1) + _
      by_cases c : goalsOf ls = []
      · rw [i1 c]
        exact Nat.le_add_right 13 _
      · have := i2 c
        omega
    | at_ s cl rd =>
      obtain ⟨g1, g2, g3, g4, g5, g6⟩ := g
      have e : goalsOf (ls ++ [.at_ s cl rd]) = goalsOf ls := by
        rw [goalsOf_app]
        exact List.append_nil _
      rw [e]
      refine ⟨fun h => absurd h g2, fun _ => ?_⟩
      have h1 := i2 g2
      have h2 := sum_up (s := s) (f := cntOf ls) (g := cntOf (ls ++ [.at_ s cl rd])) (fun t => by rw [cntOf_at]; split <;> omega) (by rw [cntOf_at, if_pos rfl]; exact Nat.le_refl _) g1
      rw [List.length_append]
      show ls.length + 1 + 12 ≤ _
      omega
theorem cond_len {c : CondM} (h : CondOk c) : tot (condWords c) ≤ 50 := by
  obtain ⟨h1, h2⟩ := h
  have hl : c.1.length ≤ 5 := by
    rcases h1 with h | h <;> rw [h] <;> decide
  have hn : ∀ n ∈ c.2, (toString n : Str).length + 1 ≤ 11 := fun n hn => by
    obtain ⟨b, hb, h3, h4⟩ := h2.mem hn
    have := bounds_ok c.1 b hb
    have := (num_fact (n := n) (by omega) (by omega)).1
    omega
  have h5 : c.2.length ≤ 4 := by
    rw [h2.len]
    unfold bounds
    split <;> simp
  show (c.1.length + 1) + tot (c.2.map fun n => (toString n : Str)) ≤ 50
  have h6 : tot (c.2.map fun n => (toString n : Str)) ≤ c.2.length * 11 := by
    unfold tot
    rw [List.map_map]
    exact sum_le fun n hn2 => hn n hn2
  omega
theorem conds_len : ∀ {cl : List CondM}, (∀ c ∈ cl, CondOk c) → tot (cl.map condWords).flatten ≤ cl.length * 50
  | [], _ => Nat.zero_le _
  | c :: cl, h => by
    have h1 := cond_len (h c (List.mem_cons_self ..))
    have h2 := conds_len (cl := cl) fun d hd => h d (List.mem_cons_of_mem _ hd)
    rw [List.map_cons, List.flatten_cons]
    have h3 : tot (condWords c ++ (cl.map condWords).flatten) = tot (condWords c) + tot (cl.map condWords).flatten := tot_app _ _
    rw [h3, List.length_cons]
    omega
theorem good_len {sp : List Str} {rs : List RoadM} {ls : List LineM} {ln : LineM} (ok : LandOk sp rs) (g : LineGood sp rs ls ln) : (lineTxt ln).length ≤ 240 ∧ lineOk ln := by
  have lsp := (land_sp ok).2.2
  cases ln with
  | goal gl =>
    have h1 := lsp gl g.1
    refine ⟨?_, show gl.length ≤ 4000000 by omega⟩
    show (("goal " : Str) ++ gl).length ≤ 240
    rw [Str.length_append]
    have : ("goal " : Str).length = 5 := rfl
    omega
  | at_ s cl rd =>
    obtain ⟨g1, g2, g3, g4, g5, g6⟩ := g
    have h1 := lsp s g1
    have h2 : rd.length ≤ 10 := by
      unfold namesAt at g4
      obtain ⟨m, hm, rfl⟩ := List.mem_map.mp g4
      exact (names_len ok m (List.mem_filter.mp hm).1).2
    have h3 := conds_len g6
    have h4 : tot (atWords s cl rd) ≤ 240 := by
      have e : tot (atWords s cl rd) = tot [("at" : Str), s] + tot (if cl ≠ [] then [("if" : Str)] else []) + tot (cl.map condWords).flatten + tot [("go" : Str), rd] := by
        unfold atWords
        have q1 := tot_app ([("at" : Str), s] ++ (if cl ≠ [] then [("if" : Str)] else []) ++ (cl.map condWords).flatten) [("go" : Str), rd]
        have q2 := tot_app ([("at" : Str), s] ++ (if cl ≠ [] then [("if" : Str)] else [])) (cl.map condWords).flatten
        have q3 := tot_app [("at" : Str), s] (if cl ≠ [] then [("if" : Str)] else [])
        unfold tot
        rw [q1, q2, q3]
      rw [e]
      have e1 : tot [("at" : Str), s] = 3 + (s.length + 1) := rfl
      have e2 : tot (if cl ≠ [] then [("if" : Str)] else []) ≤ 3 := by split <;> decide
      have e3 : tot [("go" : Str), rd] = 3 + (rd.length + 1) := rfl
      omega
    refine ⟨?_, by omega, fun c hc => cond_ok (g6 c hc), g5⟩
    show (Txt.join " " (atWords s cl rd)).length ≤ 240
    have := tot_join (ps := atWords s cl rd) (by unfold atWords; simp)
    omega
theorem valid_size {sp : List Str} {rs : List RoadM} {ls : List LineM} (ok : LandOk sp rs) (v : Valid sp rs ls) : ls.length ≤ 39 ∧ (∀ ln ∈ ls, lineOk ln) ∧ szOf ls ≤ 9399 ∧ (tabTxt ls).length ≤ 9399 := by
  have lsp := (land_sp ok).1.2
  have hl : ls.length ≤ 39 := by
    obtain ⟨h1, h2⟩ := valid_len lsp v
    obtain ⟨g1, g2, g3, _⟩ := valid_goals v
    by_cases c : goalsOf ls = []
    · rw [h1 c]
      exact Nat.zero_le _
    · have h3 := h2 c
      have h4 := nodup_len g1 g2
      have h5 : (sp.map (cntOf ls)).sum ≤ sp.length * 4 := sum_le fun s _ => g3 s
      omega
  have hg : ∀ ln ∈ ls, (lineTxt ln).length ≤ 240 ∧ lineOk ln := fun ln hln => by
    obtain ⟨i, hi, rfl⟩ := List.getElem_of_mem hln
    exact good_len ok (v.at_ (List.getElem?_eq_getElem hi))
  have hs : szOf ls ≤ ls.length * 241 := sum_le fun ln hln => by
    have := (hg ln hln).1
    omega
  refine ⟨hl, fun ln hln => (hg ln hln).2, by omega, ?_⟩
  have h1 : (tabTxt ls).length ≤ (ls.map fun ln => lineTxt ln ++ ("\n" : Str)).length * (241 + ("" : Str).length) := join_len fun p hp => by
    obtain ⟨ln, hln, rfl⟩ := List.mem_map.mp hp
    rw [Str.length_append]
    have := (hg ln hln).1
    have h2 : ("\n" : Str).length = 1 := rfl
    omega
  rw [List.length_map] at h1
  have h2 : ("" : Str).length = 0 := rfl
  rw [h2] at h1
  omega
end Lx
set_option Elab.async false
set_option linter.all false
set_option maxRecDepth 100000
set_option maxHeartbeats 4000000
namespace Lx
open PySem PySem.Spec PyProof.Rows L2 Pz
theorem po_own0 {P : Program} {w : World} {K : PySem.W.Frag} {mg : Str → Option Value} {base : Heap} {N : List Str} {qual : Str} {scope : Scope} {f : Addr} {cd : Value} {A : Around} {outer : List Env} {s : Shared} {H : Hp} {E : XK} :
    PassesOwn (model (cxOf CX0 P w K mg base N qual scope f cd A outer s H E).prog (cxOf CX0 P w K mg base N qual scope f cd A outer s H E).w) (cxOf CX0 P w K mg base N qual scope f cd A outer s H E).A (cxOf CX0 P w K mg base N qual scope f cd A outer s H E).env (cxOf CX0 P w K mg base N qual scope f cd A outer s H E).xe := passes_of rfl
theorem land_len {sp : List Str} {rs : List RoadM} (ok : LandOk sp rs) : (landTxt sp rs).length ≤ 4000 := by
  have lsp := land_sp ok
  have lrs := ok.le
  have h1 : (landTxt sp rs).length ≤ (sp.map (fun n => ("spot " : Str) ++ n) ++ rs.map lineOf).length * (200 + ("\n" : Str).length) := join_len fun q hq => by
    rcases List.mem_append.mp hq with hq | hq
    · obtain ⟨n, hn, rfl⟩ := List.mem_map.mp hq
      have := (lsp.2.2 n hn).2
      rw [Str.length_append]
      have h2 : ("spot " : Str).length = 5 := rfl
      omega
    · obtain ⟨m, hm, rfl⟩ := List.mem_map.mp hq
      have o := ok.ok m hm
      have e : lineOf m = Txt.join " " (roadWords m) := by
        unfold lineOf
        rw [o.lb]
        show Txt.join " " (roadWords m ++ []) = _
        rw [List.append_nil]
      rw [e]
      have h2 := tot_join (ps := roadWords m) (by unfold roadWords; simp)
      have h3 : tot (roadWords m) = 5 + ((m.name.length + 1) + ((m.start.length + 1) + ((m.stop.length + 1) + (((toString m.dx : Str).length + 1) + (((toString m.dy : Str).length + 1) + (((toString m.price : Str).length + 1) + 0)))))) := rfl
      have n1 := (names_len ok m hm).2
      have n2 := (lsp.2.2 m.start o.st).2
      have n3 := (lsp.2.2 m.stop o.en).2
      have x1 := o.dx
      have x2 := o.dy
      have x3 := o.pr
      have n4 := (num_fact (n := m.dx) (by omega) (by omega)).1
      have n5 := (num_fact (n := m.dy) (by omega) (by omega)).1
      have n6 := (num_fact (n := m.price) (by omega) (by omega)).1
      omega
  rw [List.length_append, List.length_map, List.length_map] at h1
  have h2 : ("\n" : Str).length = 1 := rfl
  rw [h2] at h1
  have := lsp.1.2
  omega
theorem un_gName {j : Nat} {x : V} {σ : L2.St} {H : Hp} {Q : L2.St → Hp → Prop} (h : Q (σ.set j (some x)) H) : gName j x σ H Q := h
def chL : Nat → Nat
  | 0 => 9399
  | n + 1 => 7 * chL n + 100
def spLaw (K : PySem.W.Frag) : Sp := fun vs H Q _ => ∃ (a : Addr) (ns : List Int), vs = [.ref a] ∧ ns.length ≤ 63 ∧ SqL K H a (ns.map V.int) ∧ ∀ H', Q (.bl true) H'
theorem ok_law {P : Program} {w : World} {K : PySem.W.Frag} {mg : Str → Option Value} {base : Heap} (T : TT K mg base) {f : Addr} {fd : FuncData} (F : FunD K "law" "law" (defArgs s_law) (defBody s_law) (defScope s_law) (d_law.dvs K) [] f fd) : FnOk P w K mg base CX0 12 f fd ["_law_script"] (spLaw K) := by
  refine F.ok sc_law (fun vs H Q E h => ?_) (fun cdv A outer s H vs Q E hr h => ?_)
  · obtain ⟨a, ns, rfl, _⟩ := h
    rfl
  · obtain ⟨a0, ns, rfl, hns, hS, k⟩ := h
    refine ⟨_, (pss_cons (ps_set (i := 1) sc_law.nd rfl (by first | exact Or.inl rfl | exact Or.inr rfl) (po_call (ok__law_pen T) (hr.mono (by decide)) rfl T.g__law_pen passL (pa_cons (pv 0) pa_nil)))
      (pss_cons (ps_set (i := 2) sc_law.nd rfl (by first | exact Or.inl rfl | exact Or.inr rfl) (po_call (ok__law_names_land T) (hr.mono (by decide)) rfl T.g__law_names_land passL (pa_cons (pv 1) pa_nil)))
      (pss_cons (ps_set (i := 3) sc_law.nd rfl (by first | exact Or.inl rfl | exact Or.inr rfl) (po_make T.mk_Map (ok_Map___init___d1 T) (hr.mono (by decide)) rfl T.g_Map passL (pa_cons (po_call (ok__law_land_text T) (hr.mono (by decide)) rfl T.g__law_land_text passL (pa_cons (pv 2) pa_nil)) pa_nil)))
      (pss_cons (ps_set (i := 4) sc_law.nd rfl (by first | exact Or.inl rfl | exact Or.inr rfl) (po_call (ok__law_table_text T) (hr.mono (by decide)) rfl T.g__law_table_text passL (pa_cons (po_call (ok__law_conditions_more T) (hr.mono (by decide)) rfl T.g__law_conditions_more passL (pa_cons (pv 1) (pa_cons (po_call (ok__law_table_lines T) (hr.mono (by decide)) rfl T.g__law_table_lines passL (pa_cons (pv 1) (pa_cons (pv 2) pa_nil))) pa_nil))) pa_nil)))
      (pss_cons (ps_if (PW.pt (pw_or (pt_cmpR op_ne (pe_ix ix_tup (po_call (ok__law_due T) (hr.mono (by decide)) rfl T.g__law_due passL (pa_cons (pv 2) (pa_cons (pv 4) pa_nil))) pe_int (fun _ _ => rfl)) pe_str (nomark _)) (pw_or1 (pt_not (pt_val (po_call (ok__law_right T) (hr.mono (by decide)) rfl T.g__law_right passL (pa_cons (pv 3) (pa_cons (pv 2) (pa_cons (pv 4) pa_nil)))))))))
      (pss_one (ps_ret pe_bl))
      pss_nil)
      (Evl.pss_cut (ps_for po_own0 rfl (pi_range1 rfl T.b_range (pa_cons pe_int pa_nil)) (pg_name (i := 5) sc_law.nd rfl (by first | exact Or.inl rfl | exact Or.inr rfl))
      (pss_cons (ps_set (i := 6) sc_law.nd rfl (by first | exact Or.inl rfl | exact Or.inr rfl) (pv 4))
      (Evl.pss_cut (ps_for po_own0 rfl (pi_range1 rfl T.b_range (pa_cons (pe_op op_add pe_int (po_call (ok__law_draw T) (hr.mono (by decide)) rfl T.g__law_draw passL (pa_cons (pv 1) (pa_cons pe_int pa_nil)))) pa_nil)) (pg_name (i := 7) sc_law.nd rfl (by first | exact Or.inl rfl | exact Or.inr rfl))
      (pss_one (ps_set (i := 6) sc_law.nd rfl (by first | exact Or.inl rfl | exact Or.inr rfl) (po_call (ok__law_changed T) (hr.mono (by decide)) rfl T.g__law_changed passL (pa_cons (pv 1) (pa_cons (pv 6) (pa_cons (pv 2) pa_nil)))))))
      (Evl.pss_cut (ps_if (pt_cmpR op_eq (po_call (ok__law_draw T) (hr.mono (by decide)) rfl T.g__law_draw passL (pa_cons (pv 1) (pa_cons pe_int pa_nil))) pe_int (nomark _))
      (pss_one (ps_set (i := 6) sc_law.nd rfl (by first | exact Or.inl rfl | exact Or.inr rfl) (pe_slice sl_str (pv 6) po_none (po_some (po_call (ok__law_draw T) (hr.mono (by decide)) rfl T.g__law_draw passL (pa_cons (pv 1) (pa_cons (pe_op op_add (pe_callB call_len_str (by rfl) T.b_len PySem.boot_len (pa_cons (pv 6) pa_nil)) pe_int) pa_nil)))))))
      pss_nil)
      (pss_one (ps_if (pt_not (pt_val (po_call (ok__law_right T) (hr.mono (by decide)) rfl T.g__law_right passL (pa_cons (pv 3) (pa_cons (pv 2) (pa_cons (pv 6) pa_nil))))))
      (pss_one (ps_ret pe_bl))
      pss_nil))))))
      (pss_one (ps_ret pe_bl)))))))), ?_⟩
    refine ⟨_, rfl, a0, ns, rfl, hns, hS, fun p pc H1 hp0 x1 pen1 => ?_⟩
    refine ⟨_, rfl, p, pc, 0, rfl, pen1, by decide, fun l sp rs H2 ok k2 pen2 nl la2 => ?_⟩
    have pl : p ≠ l := by
      obtain ⟨kvs, g, _⟩ := pen1
      exact ne_of_none g nl
    have lsp := land_sp ok
    have lrs := ok.le
    refine ⟨_, rfl, l, sp, rs, rfl, la2, ok, fun H3 x3 a dx ha hdx hne => ⟨a, dx, landTxt sp rs, 100, sp, rs, rfl, upd_same, Nat.le_trans (land_len ok) (by decide), map_read ok, fun s hs => Nat.le_trans (lsp.2.2 s hs).2 (by decide), land_road ok, by omega, by omega, fun H4 k4 M4 ⟨dxM, t1M, t2M, d1M, d2M, eM, fM⟩ => ⟨rfl, ?_⟩⟩⟩
    have x4 : Ex H3 H4 := fun b o e => by
      have n1 : b ≠ a := ne_of_none e ha
      have n2 : b ≠ dx := ne_of_none e hdx
      exact k4 _ _ (by simpa using n1) (by rw [upd_ne n1, upd_ne n2]; exact e)
    have x24 := x3.trans x4
    have pen4 := pen2.mono x24
    have la4 := la2.mono x24
    refine ⟨_, rfl, _, rfl, _, rfl, p, pc, l, 100, sp, rs, rfl, pen4, by decide, pl, la4, ok, fun t vals ls H5 k5 p5 nt et lal va hl => ?_⟩
    refine ⟨p, pc, t, 20100, vals, ls, sp, rs, rfl, p5, by decide, SqL.of et, lal, va, hl, fun t2 vals2 ls2 H6 k6 p6 et2 lal2 va2 hl2 => ?_⟩
    obtain ⟨v1, v2, v3, v4⟩ := valid_size ok va2
    refine ⟨t2, vals2, ls2, rfl, SqL.of et2, lal2, v2, by omega, by omega, fun H7 x7 => ?_⟩
    have pen7 := p6.mono x7
    have k47 : Kp [p] H4 H7 := (k5.trans k6).trans (Kp.of x7)
    have la7 := la4.pen k47 pen4 pl
    have M7 : MapAt K H7 a sp rs := by
      obtain ⟨kvs, hpk, _⟩ := id pen4
      refine M4.off k47 hpk fun dx' t1' t2' d1' d2' e' q => ?_
      rw [eM] at e'
      have e' := Option.some.inj e'
      injection e' with _ _ e'
      have e5 : V.ref d2M = V.ref d2' := by
        have := congrArg (fun z : List (Str × V) => z.getLast?) e'
        exact congrArg Prod.snd (Option.some.inj this)
      have e6 : d2M = d2' := V.ref.inj e5
      rw [e6, q] at fM
      obtain ⟨kv3, hp3, _⟩ := pen2.mono x3
      have np : p ≠ a := fun z => by
        rw [← z, hp3] at ha
        cases ha
      have npd : p ≠ dx := fun z => by
        rw [← z, hp3] at hdx
        cases hdx
      rw [upd_ne np, upd_ne npd, hp3] at fM
      cases fM
    have hz2 : (tabTxt ls2).length < 4000000 := by omega
    have hres : pTabGo (cs (tabTxt ls2)) sp rs ((tabTxt ls2).length + 1) [] 0 = some (.ok ls2) := tab_read ok va2 (by
      have : ∀ l : List LineM, l.length ≤ (tabTxt l).length := fun l => by
        induction l with
        | nil => exact Nat.zero_le _
        | cons a l ih =>
          have h1 := congrArg List.length (tab_cons a l)
          rw [cs_len, List.length_append, List.length_cons, cs_len, cs_len] at h1
          rw [List.length_cons]
          omega
      have := this ls2
      omega)
    have right : ∀ {σ : L2.St} {Hx : Hp} {te : TE} {z : Str}, σ[3]? = some (some (.ref a)) → σ[2]? = some (some (.ref l)) → Evl.Ev te σ Hx (.str z) → z.length < 4000000 → MapAt K Hx a sp rs → LandAt Hx l sp rs → Evl.Ev (tCall (spRight K) [] E0 (tCons (tVar 3) (tCons (tVar 2) (tCons te tNil)))) σ Hx (.bl true) := fun {σ Hx te z} h3 h2 ht hz hM hl =>
      Evl.ev_call (Evl.ea_cons (Evl.ev_var h3) (Evl.ea_cons (Evl.ev_var h2) (Evl.ea_cons ht Evl.ea_nil))) fun HA xA Q' q' E' => ⟨a, l, z, sp, rs, rfl, hM.mono xA, hl.mono xA, ok, hz, fun HB xB => q' HB xB⟩
    refine un_gName ?_
    dsimp only
    show tSeq (tIfS _ _ _) _ _ [some (.ref a0), some (.ref p), some (.ref l), some (.ref a), some (.str (tabTxt ls2)), none, none, none] H7
    refine Evl.q_when (b := false) ?_ (fun h _ _ => by cases h) fun _ H8 x8 => ?_
    · refine Evl.et_is (Evl.et_or (a := false) (b := false) ?_ fun _ => Evl.et_is (Evl.et_not (Evl.et_B (right rfl rfl (Evl.ev_var rfl) hz2 M7 la7))) rfl) rfl
      exact fun HA xA QA qA => ⟨_, rfl, _, rfl, l, _, sp, rs, _, rfl, la7.mono xA, ok, hz2, hres, fun tt L vv HB xB ett eL lal3 => ⟨tt, _, 0, _, rfl, rfl, SqT.of ett, atI_nat (j := 0) rfl, rfl, _, rfl, qA HB xB⟩⟩
    have pen8 := pen7.mono x8
    have la8 := la7.mono x8
    have M8 := M7.mono x8
    have d2 : ∀ {Hx : Hp}, Kp [p] H8 Hx → MapAt K Hx a sp rs ∧ LandAt Hx l sp rs := fun {Hx} kx => by
      refine ⟨?_, la8.pen kx pen8 pl⟩
      have k4x := (k47.trans (Kp.of x8)).trans kx
      obtain ⟨kvs, hpk, _⟩ := id pen4
      refine M4.off k4x hpk fun dx' t1' t2' d1' d2' e' q => ?_
      rw [eM] at e'
      have e' := Option.some.inj e'
      injection e' with _ _ e'
      have e5 : V.ref d2M = V.ref d2' := by
        have := congrArg (fun z : List (Str × V) => z.getLast?) e'
        exact congrArg Prod.snd (Option.some.inj this)
      have e6 : d2M = d2' := V.ref.inj e5
      rw [e6, q] at fM
      obtain ⟨kv3, hp3, _⟩ := pen2.mono x3
      have np : p ≠ a := fun z => by
        rw [← z, hp3] at ha
        cases ha
      have npd : p ≠ dx := fun z => by
        rw [← z, hp3] at hdx
        cases hdx
      rw [upd_ne np, upd_ne npd, hp3] at fM
      cases fM
    refine ⟨fun _ _ => True, ?_, fun σ' H' _ => k H'⟩
    refine ⟨5, rfl, by decide, by decide, ?_⟩
    refine for_range (lo := 0) (n := 5) (fun i σ H' => ∃ s5 s6 s7 : Option V, σ = [some (.ref a0), some (.ref p), some (.ref l), some (.ref a), some (.str (tabTxt ls2)), s5, s6, s7] ∧ Kp [p] H8 H' ∧ PenAt H' p pc (20100 + 100000 + 200 * i)) ⟨none, none, none, rfl, Kp.refl _ _, pen8⟩ (fun i σ H' hi q => ?_) (fun _ _ _ => ?_)
    case refine_2 => exact trivial
    obtain ⟨s5, s6, s7, rfl, k9, p9⟩ := q
    refine Evl.q_asg (Evl.ev_var rfl) fun H10 x10 => ?_
    have p10 := p9.mono x10
    have k10 := k9.trans (Kp.of x10)
    refine ⟨fun σ' H' => ∃ (z : Str) (s5 s7 : Option V), σ' = [some (.ref a0), some (.ref p), some (.ref l), some (.ref a), some (.str (tabTxt ls2)), s5, some (.str z), s7] ∧ z.length < 3900000 ∧ Kp [p] H8 H' ∧ PenAt H' p pc (20100 + 100000 + 200 * i + 100), ?_, ?_⟩
    · refine ⟨_, rfl, p, pc, 3, _, rfl, p10, by omega, by decide, by decide, fun d H11 hd k11 p11 _ => ⟨_, _, rfl, rfl, _, rfl, by omega, by omega, ?_⟩⟩
      have e1 : ((1 : Int) + (d : Int)).toNat = d + 1 := by omega
      rw [e1]
      refine for_range (lo := 0) (n := d + 1) (fun j σ H' => ∃ (z : Str) (s5 s7 : Option V), σ = [some (.ref a0), some (.ref p), some (.ref l), some (.ref a), some (.str (tabTxt ls2)), s5, some (.str z), s7] ∧ z.length ≤ chL j ∧ Kp [p] H8 H' ∧ PenAt H' p pc (20100 + 100000 + 200 * i + 1 + 30 * j)) ⟨_, _, _, rfl, v4, k10.trans k11, p11⟩ (fun j σ H' hj q => ?_) (fun σ H' q => ?_)
      · obtain ⟨z, s5, s7, rfl, hzl, k12, p12⟩ := q
        have hb : chL j ≤ 500000 := by
          have : j = 0 ∨ j = 1 ∨ j = 2 := by omega
          rcases this with rfl | rfl | rfl <;> decide
        refine ⟨_, rfl, _, rfl, _, rfl, p, pc, l, _, z, sp, rs, rfl, p12, by omega, pl, (d2 k12).2, ok, by omega, fun z' H13 hz' k13 p13 => ?_⟩
        refine ⟨z', _, _, rfl, Nat.le_trans hz' ?_, k12.trans k13, p13.le (by omega)⟩
        show 7 * z.length + 100 ≤ 7 * chL j + 100
        omega
      · obtain ⟨z, s5, s7, rfl, hzl, k12, p12⟩ := q
        have hb : chL (d + 1) < 3900000 := by
          have : d = 0 ∨ d = 1 ∨ d = 2 := by omega
          rcases this with rfl | rfl | rfl <;> decide
        exact ⟨z, s5, s7, rfl, by omega, k12, p12.le (by omega)⟩
    · rintro σ' H' ⟨z, s5, s7, rfl, hzl, k12, p12⟩
      refine ⟨fun σ' H' => ∃ (z : Str) (s5 s7 : Option V), σ' = [some (.ref a0), some (.ref p), some (.ref l), some (.ref a), some (.str (tabTxt ls2)), s5, some (.str z), s7] ∧ z.length < 3900000 ∧ Kp [p] H8 H' ∧ PenAt H' p pc (20100 + 100000 + 200 * i + 102), ?_, ?_⟩
      · refine ⟨_, rfl, p, pc, 5, _, rfl, p12, by omega, by decide, by decide, fun d H13 hd k13 p13 _ => ⟨rfl, _, rfl, ?_⟩⟩
        show (if decide (V.int (d : Int) = V.int 0) = true then _ else _)
        by_cases c : V.int (d : Int) = V.int 0
        · rw [decide_eq_true c]
          refine iteT ⟨_, rfl, _, rfl, _, rfl, z, rfl, szl (by omega), _, _, rfl, rfl, p, pc, (z.length : Int) + 1, _, rfl, p13, by omega, by omega, by omega, fun d3 H14 hd3 k14 p14 _ => ⟨_, rfl, z, rfl, szl (by omega), ?_⟩⟩
          exact ⟨_, s5, s7, rfl, Nat.lt_of_le_of_lt (cutS_length _ _ _) hzl, (k12.trans k13).trans k14, p14⟩
        · rw [decide_eq_false c]
          exact iteF ⟨z, s5, s7, rfl, hzl, k12.trans k13, p13.le (by omega)⟩
      · rintro σ' H' ⟨z, s5, s7, rfl, hzl, k13, p13⟩
        refine Evl.s_if (b := false) (Evl.et_is (Evl.et_not (Evl.et_B (right rfl rfl (Evl.ev_var rfl) (by omega) (d2 k13).1 (d2 k13).2))) rfl) (fun h _ _ => by cases h) fun _ H14 x14 => ?_
        exact ⟨_, _, _, rfl, k13.trans (Kp.of x14), (p13.mono x14).le (by omega)⟩
end Lx
set_option Elab.async false
set_option linter.all false
set_option maxRecDepth 100000
set_option maxHeartbeats 4000000
namespace Lx
open PySem PySem.Spec PyProof.Rows L2
theorem facts {P : Program} {w : World} {K : PySem.W.Frag} {h : Heap} {mg : Str → Option Value} {f : Addr} (X : K.In h) (G : h.Ns mainGlobals mg) (hfa : mg ("law" : Str) = some (.ref f)) (c : SaysX ex fa fn K) :
    ∃ fd : FuncData, (∀ (s : Shared) (v : Value), BindsTo s fd ⟨[v], []⟩ [("_law_script", v)]) ∧ ∀ base : Heap, K.In base → base.Ns mainGlobals mg → FnOk P w K mg base CX0 12 f fd ["_law_script"] (spLaw K) := by
  have T0 : TT K mg h := ⟨X, G, c⟩
  obtain ⟨fd, F⟩ := T0.f_law
  have e := hfa.symm.trans T0.g_law
  cases e
  have b := FunD.bindsA (ps := ["_law_script"]) F fun _ _ _ _ _ _ us hl => match us, hl with | [_], _ => rfl
  exact ⟨fd, fun s v => b s [v] rfl, fun base X1 G1 => ok_law (⟨X1, G1, c⟩ : TT K mg base) F⟩
end Lx
open PySem PySem.W PySem.Calls PyProof.Rows
theorem PySem.Challenge.cw_alljourneys_k81_whole_first_wrong_places_holds : PySem.Challenge.rw_alljourneys_k81_whole_first_wrong_places.Holds := by
  w_on; o_law
  refine HandSHeadRun.head_any (r := OpenLaw.row PySem.Challenge.rw_alljourneys_k81_whole_first_wrong_places) (q := view (OpenLaw.row PySem.Challenge.rw_alljourneys_k81_whole_first_wrong_places).prog [58]) (H := Lx.hk) (ob := Lx.ob) (M := 4000) (loose := Lx.looseA) (d := HandSHeadRun.topDef (OpenLaw.row PySem.Challenge.rw_alljourneys_k81_whole_first_wrong_places).prog 58) (kwd := []) Lx.ob_eq
    (by kernel_rfl) (fun s => by kernel_rfl) Lx.run (by kernel_rfl) (by kernel_rfl) (by kernel_rfl) (by rfl) (by first | assumption | decide +kernel) (by decide +kernel) ⟨rfl, rfl, rfl, rfl, rfl, by decide +kernel⟩ ?hw ?hc
  case hw => w_witness2
  case hc =>
    refine L2.walk_ofE (l := PySem.Challenge.rw_alljourneys_k81_whole_first_wrong_places) (n := 63) (k := 12) (x := "_law_script") (CX := L2.CX0) rfl (by decide) (by kernel_rfl) ⟨rfl, by decide, by decide⟩ ?F (fun _ _ _ _ z => z)
    intro w mg fa h Y G hmg0
    obtain ⟨K, KX, c⟩ := Y
    have hmg : mg ("law" : PySem.Str) = some (.ref fa) := by
      have e : (HandSHeadRun.topDef (OpenLaw.row PySem.Challenge.rw_alljourneys_k81_whole_first_wrong_places).prog 58).name = ("law" : PySem.Str) := by kernel_rfl
      rw [← e]
      exact hmg0
    obtain ⟨fd, hb, hF⟩ := Lx.facts (P := (PySem.Challenge.rw_alljourneys_k81_whole_first_wrong_places).prog) (w := w) KX G hmg c
    exact ⟨K, fd, Lx.spLaw K, KX, hb, fun H a ns hl _ hS => ⟨a, ns, rfl, hl, hS, fun _ => rfl⟩, hF⟩
