import PyProof.Rows.All
import Wide.All
import OpenK.AllK
import Wide.FinOn
import KE.KStateDown
import HandS.ForMost
import HandS.ForExc
import HandS.Codes
import HandS.Conv
import HandS.IsInst
import HandS.DictComp
import HandS.ExcInit
import HandS.ExcField
import HandS.ExcIs
import HandS.TryMany
import HandS.HotCalls
import HandS.Wide
import HandS.Walk
import HandS.Defaults
import HandS.SetKeys
import HandS.Set
import HandS.Strs
import HandS.StrMore
import HandS.OwnEq
import HandS.Head0
import HandS.Head1
import HandS.Head2
import HandS.HeadEnd
import HandS.HeadHook1
import HandS.HeadHook2
import HandS.CallSlots
import KE.KExcIs
import PyProof.InstNe
import PyProof.TupleOfStr
import PyProof.ListStr
import PyProof.StrOps2
import KE.GoesEnum
import HandS.SetFor
import HandS.TupAny
import HandS.Style
import HandS.Head3
import PySem.Challenge.RW_piecehouse_k76_costs_of_rows
set_option Elab.async false
set_option linter.all false
set_option maxRecDepth 100000
set_option maxHeartbeats 4000000
/-! # The base: heaps with hidden (mutable) places, packaged defs -/
namespace PH
open PySem PySem.Spec PyProof.Rows L2

/-! ### heaps -/
theorem same_new {H : Hp} {p : Addr} {o : HO} (h : H p = none) : Same H (upd H p o) := fun a u e => by
  rw [upd_ne (ne_of_none e h)]
  exact e
theorem same_mut {H H' : Hp} {p : Addr} {o : HO} (e : Same H H') (h : H p = none) : Same H (upd H' p o) := fun a u ha => by
  rw [upd_ne (ne_of_none ha h)]
  exact e a u ha
theorem same_upd {H H' : Hp} {p : Addr} {o : HO} (e : Same H H') (h : H' p = none) : Same H (upd H' p o) := e.trans (same_new h)
theorem rd_same {H H' : Hp} {a : Addr} {u : HO} (e : Same H H') (h : Rd H a u) : Rd H' a u := by
  rcases h with h | ⟨o, h⟩
  · exact .inl (e a _ h)
  · exact .inr ⟨o, e a _ h⟩
theorem sqT_same {K : PySem.W.Frag} {H H' : Hp} {a : Addr} {xs : List V} (e : Same H H') (h : SqT K H a xs) : SqT K H' a xs := by
  rcases h with h | h
  · exact .inl (rd_same e h)
  · exact .inr h

/-- the heap without the places in M -/
def hid (M : List Addr) (H : Hp) : Hp := fun a => if a ∈ M then none else H a
theorem hid_nil {H : Hp} : hid [] H = H := by
  funext a
  simp [hid]
theorem hid_sub {M : List Addr} {H : Hp} : Same (hid M H) H := fun a o e => by
  unfold hid at e
  split at e
  · cases e
  · exact e
theorem hid_same {M : List Addr} {H H' : Hp} (e : Same H H') : Same (hid M H) (hid M H') := fun a o h => by
  unfold hid at h ⊢
  split at h
  · cases h
  · rename_i hn
    rw [if_neg hn]
    exact e a o h
theorem hid_at {M : List Addr} {H : Hp} {p : Addr} {o : HO} (h : H p = some o) (hp : p ∉ M) : hid M H p = some o := by
  unfold hid
  rw [if_neg hp]
  exact h
theorem hid_in {M : List Addr} {H : Hp} {p : Addr} {o : HO} (hp : p ∈ M) : hid M (upd H p o) = hid M H := by
  funext a
  unfold hid
  by_cases h : a ∈ M
  · rw [if_pos h, if_pos h]
  · rw [if_neg h, if_neg h, upd_ne (fun z : a = p => h (z ▸ hp))]
theorem hid_new {M : List Addr} {H : Hp} {p : Addr} {o : HO} (h : H p = none) : Same (hid M H) (hid (p :: M) (upd H p o)) := fun a u e => by
  unfold hid at e ⊢
  split at e
  · cases e
  · rename_i hn
    have ne := ne_of_none e h
    rw [if_neg (by simp [hn, ne]), upd_ne ne]
    exact e
theorem hid_more {M : List Addr} {H : Hp} {p : Addr} : Same (hid (p :: M) H) (hid M H) := fun a u e => by
  unfold hid at e ⊢
  split at e
  · cases e
  · rename_i hn
    rw [if_neg (fun z => hn (List.mem_cons_of_mem _ z))]
    exact e
theorem hid_none {M : List Addr} {H : Hp} {p : Addr} (h : p ∈ M) : hid M H p = none := by
  unfold hid
  rw [if_pos h]

/-! ### data -/
mutual
theorem dp_same {K : PySem.W.Frag} {H H' : Hp} (e : Same H H') : ∀ (d : PyData) (v : V), Dp K H v d → Dp K H' v d
  | .none, _, h => by cases h; exact .non
  | .bool b, _, h => by cases h; exact .bl b
  | .int i, _, h => by cases h; exact .int i
  | .str x, _, h => by cases h; exact .str x
  | .list ds, _, h => by
    cases h with
    | lst hs ha => exact .lst (Same.seq e hs) (dpAll_same e ds _ ha)
  | .tuple ds, _, h => by
    cases h with
    | tup hs ha => exact .tup (sqT_same e hs) (dpAll_same e ds _ ha)
  | .dict _, _, h => by cases h
theorem dpAll_same {K : PySem.W.Frag} {H H' : Hp} (e : Same H H') : ∀ (ds : List PyData) (vs : List V), DpAll K H vs ds → DpAll K H' vs ds
  | [], _, h => by cases h; exact .nil
  | d :: ds, _, h => by
    cases h with
    | cons h1 h2 => exact .cons (dp_same e d _ h1) (dpAll_same e ds _ h2)
end
theorem dpAll_ints {K : PySem.W.Frag} {H : Hp} : ∀ ns : List Int, DpAll K H (ns.map V.int) (ns.map PyData.int)
  | [] => .nil
  | n :: r => .cons (.int n) (dpAll_ints r)
theorem dpAll_strs {K : PySem.W.Frag} {H : Hp} : ∀ ns : List Str, DpAll K H (ns.map V.str) (ns.map PyData.str)
  | [] => .nil
  | n :: r => .cons (.str n) (dpAll_strs r)

/-! ### a def, packaged; what may leave it: L2.CX P w -/
structure Dn (P : Program) (w : World) (K : PySem.W.Frag) (mg : Str → Option Value) (base : Heap) (k : Nat) (f : Addr) (ps : List Str) (sp : Sp) : Prop where
  ex : ∃ fd, FnOk P w K mg base (L2.CX P w) k f fd ps sp ∧ Binds K fd ps []
  kp : PySem.W.keepIn K (.ref f) = true
theorem Dn.imp {P : Program} {w : World} {K : PySem.W.Frag} {mg : Str → Option Value} {base : Heap} {k : Nat} {f : Addr} {ps : List Str} {sp sp' : Sp} (F : Dn P w K mg base k f ps sp) (h : ∀ vs H Q E, sp' vs H Q E → sp vs H Q E) : Dn P w K mg base k f ps sp' := by
  obtain ⟨⟨fd, F1, F2⟩, kp⟩ := F
  exact ⟨⟨fd, F1.imp h, F2⟩, kp⟩
theorem Dn.mono {P : Program} {w : World} {K : PySem.W.Frag} {mg : Str → Option Value} {base : Heap} {k j : Nat} {f : Addr} {ps : List Str} {sp : Sp} (F : Dn P w K mg base k f ps sp) (h : k ≤ j) : Dn P w K mg base j f ps sp := by
  obtain ⟨⟨fd, F1, F2⟩, kp⟩ := F
  exact ⟨⟨fd, F1.mono h, F2⟩, kp⟩
/-- how a def without defaults binds -/
def BindOk (x qual : Str) (st : Stmt) (ps : List Str) : Prop :=
  ∀ (kV doc pm : Value) (an : Option Addr) (cdv ct : Value) (us : List Value), us.length = ps.length → bindArgs (PySem.W.fnOf x qual (defArgs st) (defBody st) (defScope st) .none kV doc pm an cdv ct) ⟨us, []⟩ = pure (ps.zip us)
section
variable {P : Program} {w : World} {K : PySem.W.Frag} {mg : Str → Option Value} {base : Heap}
/-- THE RULE for a def -/
theorem dn_of {x qual : Str} {st : Stmt} {f : Addr} {N ps : List Str} {k : Nat} {sp : Sp} (F : ∃ fd, FunD K x qual (defArgs st) (defBody st) (defScope st) [] [] f fd) (S : FnScope N ps (defScope st)) (b : BindOk x qual st ps)
    (len : ∀ vs H Q E, sp vs H Q E → vs.length = ps.length)
    (hbody : ∀ (cdv : Value) (A : Around) (outer : List Env) (s : Shared) (H : Hp) (vs : List V) (Q : VK) (E : XK), Room k (A.deeper (envOfC qual (defScope st) s.heap.objs.size f cdv)) → sp vs H Q E →
      ∃ t, PSs (cxOf (L2.CX P w) P w K mg base N qual (defScope st) f cdv A outer s H E) (defBody st) t ∧ t { nx := fun _ H' => Q .non H', rt := Q } (start N vs) H) : Dn P w K mg base (k + 1) f ps sp := by
  obtain ⟨fd, F⟩ := F
  exact ⟨⟨fd, F.ok S len hbody, F.bindsN b⟩, F.kp⟩
end
section
variable {X : Cx} {k : Nat} {f C : Addr} {ps : List Str} {sp : Sp} {E : XK} {x m : Str} {p pos apos : Pos} {e o : Expr} {es : List Expr} {ta : TE} {t : TA}
theorem pe_d (F : Dn X.prog X.w X.K X.mg X.base k f ps sp) (hr : Room k X.A) (hm : X.mg x = some (.ref f)) (hx : Passes (L2.CX X.prog X.w) X E) (ha : PA X (e :: es) t) (hg : Gl X x := by rfl)
    (hdb : (x == ("__debug__" : Str)) = false := by decide) (he : starEach (e :: es) X.env = (false, eval e X.env) :: starEach es X.env := by rfl) (hpl : (backTo pos (starEach es X.env)).any (·.1) = false := by rfl) :
    PE X (.Call (.Name x p) (e :: es) [] pos) (tCall sp [] E t) := by
  obtain ⟨⟨fd, F1, F2⟩, kp⟩ := F
  exact pe_call F1 hr hg hm kp F2 .nil hx ha hdb he hpl
theorem pe_d0 (F : Dn X.prog X.w X.K X.mg X.base k f ps sp) (hr : Room k X.A) (hm : X.mg x = some (.ref f)) (hx : Passes (L2.CX X.prog X.w) X E) (hg : Gl X x := by rfl)
    (hdb : (x == ("__debug__" : Str)) = false := by decide) : PE X (.Call (.Name x p) [] [] pos) (tCall sp [] E tNil) := by
  obtain ⟨⟨fd, F1, F2⟩, kp⟩ := F
  exact pe_call0 F1 hr hg hm kp F2 .nil hx hdb
theorem pe_m {pl : Sem Bool} (F : Dn X.prog X.w X.K X.mg X.base k f ps sp) (hr : Room k X.A) (c : Cls X.K C) (hm : Meth X.K C m f) (hx : Passes (L2.CX X.prog X.w) X E) (he : PE X o ta) (ha : PA X (e :: es) t)
    (hst : starEach (e :: es) X.env = (false, eval e X.env) :: starEach es X.env := by rfl) (hpl : (backTo pos (starEach es X.env)).any (·.1) = false := by rfl)
    (ht : eval (.Call (.Attribute o m apos) (e :: es) [] pos) X.env = (do
      let ov ← eval o X.env
      standAt apos.atName
      let (f, first) ← holding [ov] (getMethod ov m pl)
      callWith pos f first (backTo pos (starEach (e :: es) X.env)) (backToKw pos (keywordEach [] X.env))) := by rfl) :
    PE X (.Call (.Attribute o m apos) (e :: es) [] pos) (tMeth C m sp [] E ta t) := by
  obtain ⟨⟨fd, F1, F2⟩, kp⟩ := F
  exact pe_meth he c hm F1 hr F2 .nil hx ha hst hpl ht
theorem pe_m0 {pl : Sem Bool} (F : Dn X.prog X.w X.K X.mg X.base k f ps sp) (hr : Room k X.A) (c : Cls X.K C) (hm : Meth X.K C m f) (hx : Passes (L2.CX X.prog X.w) X E) (he : PE X o ta)
    (ht : eval (.Call (.Attribute o m apos) [] [] pos) X.env = (do
      let ov ← eval o X.env
      standAt apos.atName
      let (f, first) ← holding [ov] (getMethod ov m pl)
      callWith pos f first (backTo pos (starEach [] X.env)) (backToKw pos (keywordEach [] X.env))) := by rfl) :
    PE X (.Call (.Attribute o m apos) [] [] pos) (tMeth C m sp [] E ta tNil) := by
  obtain ⟨⟨fd, F1, F2⟩, kp⟩ := F
  exact pe_meth0 he c hm F1 hr F2 .nil hx ht
theorem pe_mk' (F : Dn X.prog X.w X.K X.mg X.base k f ps sp) (M : Mk X.K C f) (hr : Room (k + 1) X.A) (hm : X.mg x = some (.ref C)) (hx : Passes (L2.CX X.prog X.w) X E) (ha : PA X (e :: es) t) (hg : Gl X x := by rfl)
    (hdb : (x == ("__debug__" : Str)) = false := by decide) (he : starEach (e :: es) X.env = (false, eval e X.env) :: starEach es X.env := by rfl) (hpl : (backTo pos (starEach es X.env)).any (·.1) = false := by rfl) :
    PE X (.Call (.Name x p) (e :: es) [] pos) (tMake C sp [] E t) := by
  obtain ⟨⟨fd, F1, F2⟩, kp⟩ := F
  exact pe_make M F1 hr hg hm F2 .nil hx ha hdb he hpl
end
end PH

set_option Elab.async false
set_option linter.all false
set_option maxRecDepth 100000
set_option maxHeartbeats 4000000
/-! # The head's facts: exceptions, isinstance; the hook -/
namespace PH
open PySem PySem.Spec PyProof.Rows L2

/-- a class by its name: of the text | built in -/
inductive Cn where
  | own (x : Str)
  | blt (n : String)
def Cn.val (K : PySem.W.Frag) : Cn → Value
  | .own x => .ref (He.ga K x)
  | .blt n => .type n
/-- an own exception class over ValueError -/
def oexB (K : PySem.W.Frag) (C : Addr) : Bool := match K.lookup C with
  | some ⟨.type "type", _, .cls cd, sl⟩ => (match cd.mro, sl.toList with
    | .ref C' :: bm, [_, _, _, _, some (.builtin n), _] => C' == C && n == "ValueError.__new__" && !cd.hasDel && cd.hasDict && PySem.HandSPX.refsVE bm
    | _, _ => false)
  | _ => false
theorem oexB_ok {K : PySem.W.Frag} {C : Addr} (q : oexB K C = true) : ∃ nm q N bs bm sn sub ab col dd k0 k1 k2 k3 k5, K.lookup C = some (excClassObj nm q C N bs bm true sn sub ab col dd k0 k1 k2 k3 k5 "ValueError.__new__") ∧ PySem.HandSPX.refsVE bm = true := by
  unfold oexB at q
  split at q
  · rename_i dd cd sl ho
    split at q
    · rename_i C' bm k0 k1 k2 k3 n k5 hm hs
      simp only [Bool.and_eq_true, beq_iff_eq, Bool.not_eq_true'] at q
      obtain ⟨⟨⟨⟨rfl, rfl⟩, hdel⟩, hdict⟩, ht⟩ := q
      obtain ⟨nm, bs, mro, ns, qn, hd, sn, sub, ab, col, del⟩ := cd
      dsimp only at hm hdel hdict
      subst hm hdel hdict
      have hsl : sl = #[k0, k1, k2, k3, some (.builtin "ValueError.__new__"), k5] := by
        obtain ⟨l⟩ := sl
        simp only at hs
        rw [hs]
      subst hsl
      exact ⟨nm, qn, ns, bs, bm, sn, sub, ab, col, dd, k0, k1, k2, k3, k5, ho, ht⟩
    · cases q
  · cases q
def eqO' (a b : Option (Option Value)) : Bool := decide (a = b)
def xcB (K : PySem.W.Frag) (C : Addr) : Bool :=
  oexB K C && (He.eqO (PySem.W.findIn K (.ref C) "__setattr__") (some (some (.builtin "object.__setattr__"))) && (decide (PySem.W.subIn K (.ref C) (.type "BaseException") = some true) && (decide (PySem.W.typeIn K (.ref C) = some (.type "type")) &&
  (PySem.W.keepIn K (.ref C) && (He.eqO (PySem.W.findIn K (.ref C) "__init__") (some (some (.ref (He.ma K C "__init__")))) && (decide (PySem.W.typeIn K (.ref (He.ma K C "__init__")) = some (.type "function")) &&
  (He.eqO (PySem.W.findIn K (.ref C) "__getattribute__") (some (some (.builtin "BaseException.__getattribute__"))) && (He.eqO (PySem.W.findIn K (.ref C) "__getattr__") (some none) && (PySem.W.hasDictIn K C &&
  (He.eqO (PySem.W.findIn K (.ref C) "__class__") (some (some (.builtin "object.__class__"))) && (He.eqO (PySem.W.specialIn K (.builtin "object.__class__") "__get__") (some (some (.builtin "getset_descriptor.__get__"))) &&
  (decide (PySem.W.takesIn K (.builtin "object.__class__") = some true) && decide (PySem.W.mroIn K C (.type "object") = some true)))))))))))))
/-- an exception class of the text, with its own __init__ -/
structure Xc (K : PySem.W.Frag) (C : Addr) : Prop where
  oex : OexC K C
  iC : PySem.W.findIn K (.ref C) "__init__" = some (some (.ref (He.ma K C "__init__")))
  tI : PySem.W.typeIn K (.ref (He.ma K C "__init__")) = some (.type "function")
  xf : XfC K C
  ex : ExcC K C
theorem xcB_ok {K : PySem.W.Frag} {C : Addr} (h : xcB K C = true) : Xc K C := by
  obtain ⟨h1, h⟩ := He.ba h
  obtain ⟨h2, h⟩ := He.ba h
  obtain ⟨h3, h⟩ := He.ba h
  obtain ⟨h4, h⟩ := He.ba h
  obtain ⟨h5, h⟩ := He.ba h
  obtain ⟨h6, h⟩ := He.ba h
  obtain ⟨h7, h⟩ := He.ba h
  obtain ⟨h8, h⟩ := He.ba h
  obtain ⟨h9, h⟩ := He.ba h
  obtain ⟨h10, h⟩ := He.ba h
  obtain ⟨h11, h⟩ := He.ba h
  obtain ⟨h12, h⟩ := He.ba h
  obtain ⟨h13, h14⟩ := He.ba h
  exact ⟨⟨oexB_ok h1, He.eqO_ok h2, of_decide_eq_true h3, of_decide_eq_true h4, h5⟩, He.eqO_ok h6, of_decide_eq_true h7, ⟨He.eqO_ok h8, He.eqO_ok h9, of_decide_eq_true h3, h10⟩,
    ⟨He.eqO_ok h8, He.eqO_ok h9, of_decide_eq_true h3, h10, He.eqO_ok h11, He.eqO_ok h12, of_decide_eq_true h13, of_decide_eq_true h14⟩⟩
/-- what isinstance asks of an own class whose instances are judged -/
def icB (K : PySem.W.Frag) (C : Addr) : Bool :=
  He.eqO (PySem.W.findIn K (.ref C) "__class__") (some (some (.builtin "object.__class__"))) && (He.eqO (PySem.W.specialIn K (.builtin "object.__class__") "__get__") (some (some (.builtin "getset_descriptor.__get__"))) &&
  (decide (PySem.W.takesIn K (.builtin "object.__class__") = some true) && decide (PySem.W.mroIn K C (.type "object") = some true)))
structure Ic (K : PySem.W.Frag) (C : Addr) : Prop where
  ha : PySem.W.findIn K (.ref C) "__class__" = some (some (.builtin "object.__class__"))
  hn : PySem.W.specialIn K (.builtin "object.__class__") "__get__" = some (some (.builtin "getset_descriptor.__get__"))
  htk : PySem.W.takesIn K (.builtin "object.__class__") = some true
  hm : PySem.W.mroIn K C (.type "object") = some true
theorem icB_ok {K : PySem.W.Frag} {C : Addr} (h : icB K C = true) : Ic K C := by
  obtain ⟨h1, h⟩ := He.ba h
  obtain ⟨h2, h⟩ := He.ba h
  obtain ⟨h3, h4⟩ := He.ba h
  exact ⟨He.eqO_ok h1, He.eqO_ok h2, of_decide_eq_true h3, of_decide_eq_true h4⟩
/-- further facts -/
inductive Fx where
  | exc (x : Str)
  | kit (t c : Cn) (b : Bool)
  | ins (x : Str)
  | any (g : PySem.W.Frag → Bool)
def Fx.ok (K : PySem.W.Frag) : Fx → Bool
  | .exc x => xcB K (He.ga K x)
  | .kit t c b => decide (PySem.W.kitOne K (t.val K) (c.val K) = some b)
  | .ins x => icB K (He.ga K x)
  | .any g => g K
/-! ### the hook -/
def obsX (fa : List He.Fa) (fx : List Fx) (fn : List He.DefD) (K : PySem.W.Frag) : He.AlD := ((He.obsD fa fn K).1 && fx.all (fun f => f.ok K), (He.obsD fa fn K).2)
structure SaysX (fa : List He.Fa) (fx : List Fx) (fn : List He.DefD) (K : PySem.W.Frag) : Prop where
  says : He.SaysD fa fn K
  more : ∀ f ∈ fx, f.ok K = true
theorem saysX_of {fa : List He.Fa} {fx : List Fx} {fn : List He.DefD} {K : PySem.W.Frag} (h : obsX fa fx fn K = He.valD fn) : SaysX fa fx fn K := by
  have h1 : ((He.obsD fa fn K).1 && fx.all (fun f => f.ok K)) = true := congrArg (fun z : He.AlD => z.1) h
  have h2 : (obsX fa fx fn K).2 = (He.valD fn).2 := by rw [h]
  have h2 : (He.obsD fa fn K).2 = (He.valD fn).2 := h2
  obtain ⟨h3, h4⟩ := He.ba h1
  refine ⟨?_, fun f hf => List.all_eq_true.mp h4 f hf⟩
  show He.obsD fa fn K = He.valD fn
  have : He.obsD fa fn K = ((He.obsD fa fn K).1, (He.obsD fa fn K).2) := rfl
  rw [this, h3, h2] <;> rfl
def obsXG (n : Nat) (fa : List He.Fa) (fx : List Fx) (fn : List He.DefD) (g : Addr → Option Obj) : He.AlD := obsX fa fx fn (He.frG g (He.asD g n))
def hookX (n : Nat) (fa : List He.Fa) (fx : List Fx) (fn : List He.DefD) : PySem.W.Hook where
  α := He.AlD
  obs := fun s => obsXG n fa fx fn s.heap.get?
  val := fun _ => He.valD fn
  says := fun _ h => ∃ K : PySem.W.Frag, K.In h ∧ SaysX fa fx fn K
  of := fun _ _ e => ⟨_, He.frG_in, saysX_of e⟩
  keeps := fun _ _ _ ⟨K, hK, c⟩ k => ⟨K, PySem.W.Frag.In.keeps hK k, c⟩
theorem obsXG_eq {n : Nat} {fa : List He.Fa} {fx : List Fx} {fn : List He.DefD} {g : Addr → Option Obj} {s : Shared} (h : ∀ a, g a = s.heap.get? a) : obsXG n fa fx fn g = (hookX n fa fx fn).obs s := by
  have e : g = s.heap.get? := funext h
  rw [e] <;> rfl
section
variable {fa : List He.Fa} {fx : List Fx} {fn : List He.DefD} {K : PySem.W.Frag}
theorem SaysX.fact (c : SaysX fa fx fn K) (i : Nat) {f : He.Fa} (h : fa[i]? = some f := by rfl) : f.ok K = true := c.says.fact i h
theorem SaysX.xt (c : SaysX fa fx fn K) (i : Nat) {f : Fx} (h : fx[i]? = some f := by rfl) : f.ok K = true := c.more f (List.mem_of_getElem? h)
theorem SaysX.def_ (c : SaysX fa fx fn K) (i : Nat) {d : He.DefD} (h : fn[i]? = some d := by rfl) : ∃ fd, FunD K d.name d.qual d.params d.body d.scope (d.dvs K) (d.kws K) (He.fAd K d.at_) fd := c.says.def_ i h
end
/-- what the bodies lean on -/
structure Ev (fa : List He.Fa) (fx : List Fx) (fn : List He.DefD) (K : PySem.W.Frag) (mg : Str → Option Value) (base : Heap) : Prop where
  kin : K.In base
  ns : base.Ns mainGlobals mg
  says : SaysX fa fx fn K
section
variable {fa : List He.Fa} {fx : List Fx} {fn : List He.DefD} {K : PySem.W.Frag} {mg : Str → Option Value} {base : Heap}
theorem Ev.glo (T : Ev fa fx fn K mg base) (i : Nat) {x : Str} (h : fa[i]? = some (.glo x) := by rfl) : mg x = some (.ref (He.ga K x)) := He.glo_ok T.kin T.ns (T.says.fact i h)
theorem Ev.free (T : Ev fa fx fn K mg base) (i : Nat) {x : Str} (h : fa[i]? = some (.free x) := by rfl) : mg x = none := He.free_ok T.kin T.ns (T.says.fact i h)
theorem Ev.int (T : Ev fa fx fn K mg base) (i : Nat) {x : Str} {n : Int} (h : fa[i]? = some (.int x n) := by rfl) : ∃ t, mg x = some (.int n t) := He.int_ok T.kin T.ns (T.says.fact i h)
theorem Ev.cls (T : Ev fa fx fn K mg base) (i : Nat) {x : Str} (h : fa[i]? = some (.cls x) := by rfl) : Cls K (He.ga K x) := He.cls_ok (T.says.fact i h)
theorem Ev.mkr (T : Ev fa fx fn K mg base) (i : Nat) {x : Str} (h : fa[i]? = some (.mkr x) := by rfl) : Mk K (He.ga K x) (He.ma K (He.ga K x) "__init__") := He.mkr_ok (T.says.fact i h)
theorem Ev.noat (T : Ev fa fx fn K mg base) (i : Nat) {x f : Str} (h : fa[i]? = some (.noat x f) := by rfl) : NoAttr K (He.ga K x) f := He.noat_ok (T.says.fact i h)
theorem Ev.meth (T : Ev fa fx fn K mg base) (i : Nat) {x m : Str} (h : fa[i]? = some (.meth x m) := by rfl) : Meth K (He.ga K x) m (He.ma K (He.ga K x) m) := He.meth_ok (T.says.fact i h)
theorem Ev.exm (T : Ev fa fx fn K mg base) (i : Nat) {x y : Str} {b : Bool} (h : fa[i]? = some (.exm x y b) := by rfl) : PySem.W.exmOne K (.ref (He.ga K x)) (.ref (He.ga K y)) = some b := He.exm_ok (T.says.fact i h)
theorem Ev.exc (T : Ev fa fx fn K mg base) (i : Nat) {x : Str} (h : fx[i]? = some (.exc x) := by rfl) : Xc K (He.ga K x) := xcB_ok (T.says.xt i h)
theorem Ev.ins (T : Ev fa fx fn K mg base) (i : Nat) {x : Str} (h : fx[i]? = some (.ins x) := by rfl) : Ic K (He.ga K x) := icB_ok (T.says.xt i h)
theorem Ev.kit (T : Ev fa fx fn K mg base) (i : Nat) {t c : Cn} {b : Bool} (h : fx[i]? = some (.kit t c b) := by rfl) : PySem.W.kitOne K (t.val K) (c.val K) = some b := of_decide_eq_true (T.says.xt i h)
end
end PH

set_option Elab.async false
set_option linter.all false
set_option maxRecDepth 100000
set_option maxHeartbeats 4000000
/-! # Steps through a reading -/
namespace PH
open PySem PySem.Spec PyProof.Rows L2 C8
section
variable {σ : L2.St} {H : Hp} {Q : VK} {D : Ends} {i : Nat} {v x y z : V} {ta tb tc te : TE} {t u : TS} {tt uu : TT} {tl : TA} {r : R2} {K : PySem.W.Frag} {a C dx : Addr} {fs : List (Str × V)} {f : Str}
theorem v_var (h : σ[i]? = some (some v)) (q : Q v H) : tVar i σ H Q := ⟨v, h, q⟩
theorem v_c (q : Q v H) : tC v σ H Q := q
theorem v_op (q : ta σ H fun x H1 => tb σ H1 fun y H2 => r x y H2 Q) : tOp r ta tb σ H Q := q
theorem v_un {r : V → Hp → VK → Prop} (q : ta σ H fun x H1 => r x H1 Q) : tUn r ta σ H Q := q
theorem v_I0 {g : Int → Int → V} {i j : Int} (q : Q (g i j) H) : rI0 g (.int i) (.int j) H Q := ⟨i, j, rfl, rfl, q⟩
theorem v_I {Cc : Int → Int → Prop} {g : Int → Int → V} {i j : Int} (hc : Cc i j) (q : Q (g i j) H) : rI Cc g (.int i) (.int j) H Q := ⟨i, j, rfl, rfl, hc, q⟩
theorem v_U {g : Int → V} {i : Int} (q : Q (g i) H) : rU g (.int i) H Q := ⟨i, rfl, q⟩
theorem v_eq (h : scal x y = true) (q : Q (.bl (decide (x = y))) H) : rEq x y H Q := ⟨h, q⟩
theorem v_ne (h : scal x y = true) (q : Q (.bl (!decide (x = y))) H) : rNe x y H Q := ⟨h, q⟩
theorem v_test {Q : Bool → Hp → Prop} (q : te σ H fun x H' => ∃ k, x = .bl k ∧ Q k H') : tTest te σ H Q := q
theorem v_tB {Q : Bool → Hp → Prop} (q : te σ H fun x H' => ∃ k, x = .bl k ∧ Q k H') : tB te σ H Q := q
theorem v_bl {b : Bool} {Q : Bool → Prop} (q : Q b) : ∃ k, V.bl b = .bl k ∧ Q k := ⟨b, rfl, q⟩
theorem v_and {Q : Bool → Hp → Prop} (q : tt σ H fun c H1 => if c = true then uu σ H1 Q else Q false H1) : tAnd tt uu σ H Q := q
theorem v_or {Q : Bool → Hp → Prop} (q : tt σ H fun c H1 => if c = true then Q true H1 else uu σ H1 Q) : tOr tt uu σ H Q := q
theorem v_not {Q : Bool → Hp → Prop} (q : tt σ H fun c H1 => Q (!c) H1) : tNot tt σ H Q := q
theorem v_andV (q : ta σ H fun x H1 => ∃ c, x = .bl c ∧ if c = true then tb σ H1 Q else Q (.bl false) H1) : tAndV ta tb σ H Q := q
theorem v_orV (q : ta σ H fun x H1 => ∃ c, x = .bl c ∧ if c = true then Q (.bl true) H1 else tb σ H1 Q) : tOrV ta tb σ H Q := q
theorem v_notV (q : ta σ H fun x H1 => ∃ c, x = .bl c ∧ Q (.bl (!c)) H1) : tNotV ta σ H Q := q
theorem v_if (q : tt σ H fun c H1 => if c = true then ta σ H1 Q else tb σ H1 Q) : tIf tt ta tb σ H Q := q
theorem v_cons {Q : List V → Hp → Prop} (q : te σ H fun x H1 => tl σ H1 fun xs H2 => Q (x :: xs) H2) : tCons te tl σ H Q := q
theorem v_nil {Q : List V → Hp → Prop} (q : Q [] H) : tNil σ H Q := q
theorem v_cb {r : List V → Hp → VK → Prop} (q : tl σ H fun vs H1 => r vs H1 Q) : tCB r tl σ H Q := q
theorem v_call {sp : Sp} {E : XK} (q : tl σ H fun vs H1 => sp (vs ++ []) H1 Q E) : tCall sp [] E tl σ H Q := q
theorem v_fld (q : ta σ H fun x H1 => ∃ a C dx fs v, x = .ref a ∧ H1 a = some (.ins C dx fs) ∧ Cls K C ∧ NoAttr K C f ∧ fs.lookup f = some v ∧ Q v H1) : tFld K ta f σ H Q := q
theorem v_fld' (ho : H a = some (.ins C dx fs)) (hc : Cls K C) (hn : NoAttr K C f) (hl : fs.lookup f = some v) (q : Q v H) : ∃ a' C dx fs v, V.ref a = .ref a' ∧ H a' = some (.ins C dx fs) ∧ Cls K C ∧ NoAttr K C f ∧ fs.lookup f = some v ∧ Q v H :=
  ⟨a, C, dx, fs, v, rfl, ho, hc, hn, hl, q⟩
theorem v_lst (q : tl σ H fun xs H1 => xs.length ≤ sizeLine ∧ ∀ p, H1 p = none → Q (.ref p) (upd H1 p (.lst xs))) : tLst tl σ H Q := q
theorem v_tup (q : tl σ H fun xs H1 => xs.length ≤ sizeLine ∧ ∀ p, H1 p = none → Q (.ref p) (upd H1 p (.tup xs))) : tTup tl σ H Q := q
theorem v_seq (q : t { D with nx := u D } σ H) : tSeq t u D σ H := q
theorem v_next (q : D.nx σ H) : tNext D σ H := q
theorem v_asg {g : TG} (q : te σ H fun x H1 => g x σ H1 D.nx) : tAsg te g D σ H := q
theorem v_name {Q : L2.St → Hp → Prop} (q : Q (σ.set i (some v)) H) : gName i v σ H Q := q
theorem v_sub {to ti : TE} {s : TSet} {Q : L2.St → Hp → Prop} (q : to σ H fun o H1 => ti σ H1 fun i H2 => s o i v H2 fun H3 => Q σ H3) : gSub to ti s v σ H Q := q
theorem v_ret (q : te σ H D.rt) : tRet te D σ H := q
theorem v_retN (q : D.rt .non H) : tRetN D σ H := q
theorem v_drop (q : te σ H fun _ H1 => D.nx σ H1) : tDrop te D σ H := q
theorem v_ifS (q : tt σ H fun b H1 => if b = true then t D σ H1 else u D σ H1) : tIfS tt t u D σ H := q
theorem v_ixL {p : Addr} {xs : List V} {i : Int} (h : SqL K H p xs) (ha : atI xs i = some v) (q : Q v H) : rIxL K (.ref p) (.int i) H Q := ⟨p, xs, i, v, rfl, rfl, h, ha, q⟩
theorem v_ixT {p : Addr} {xs : List V} {i : Int} (h : SqT K H p xs) (ha : atI xs i = some v) (q : Q v H) : rIxT K (.ref p) (.int i) H Q := ⟨p, xs, i, v, rfl, rfl, h, ha, q⟩
theorem v_ixS {w : Str} {i : Int} {c : Nat} (h : w.length ≤ sizeLine) (ha : atI w.cps.toList i = some c) (q : Q (.str ⟨#[c]⟩) H) : rIxS (.str w) (.int i) H Q := ⟨w, i, c, rfl, rfl, h, ha, q⟩
theorem v_setL {p : Addr} {xs : List V} {k : Int} {j : Nat} {Q : Hp → Prop} (h : H p = some (.lst xs)) (hj : ixN xs.length k = some j) (q : Q (upd H p (.lst (xs.set j v)))) : rSetL (.ref p) (.int k) v H Q := ⟨p, xs, k, j, rfl, rfl, h, hj, q⟩
theorem v_cut (Mid : L2.St → Hp → Prop) (h1 : t { D with nx := Mid } σ H) (h2 : ∀ σ' H', Mid σ' H' → u D σ' H') : tCut t u D σ H := ⟨Mid, h1, h2⟩
end
section
variable {CX : CXT} {P : Program} {w : World} {K : PySem.W.Frag} {mg : Str → Option Value} {base : Heap} {N : List Str} {qual : Str} {scope : Scope} {f : Addr} {cd : Value} {A : Around} {outer : List Env} {s : Shared} {H : Hp} {E : XK}
theorem cx_K : (cxOf CX P w K mg base N qual scope f cd A outer s H E).K = K := rfl
theorem cx_w : (cxOf CX P w K mg base N qual scope f cd A outer s H E).w = w := rfl
theorem cx_P : (cxOf CX P w K mg base N qual scope f cd A outer s H E).prog = P := rfl
end
/-! ### numbers as truth -/
theorem if_dec_t {p : Prop} [Decidable p] {A B : Prop} (hp : p) (h : A) : if decide p = true then A else B := by
  rw [decide_eq_true hp]
  exact iteT h
theorem if_dec_f {p : Prop} [Decidable p] {A B : Prop} (hp : ¬ p) (h : B) : if decide p = true then A else B := by
  rw [decide_eq_false hp]
  exact iteF h
theorem if_dec {p : Prop} [Decidable p] {A B : Prop} (h1 : p → A) (h2 : ¬ p → B) : if decide p = true then A else B := by
  by_cases h : p
  · exact if_dec_t h (h1 h)
  · exact if_dec_f h (h2 h)
end PH

set_option Elab.async false
set_option linter.all false
set_option maxRecDepth 100000
set_option maxHeartbeats 4000000
/-! # Defs that are called anywhere (in an except suite too), exceptions, several clauses with names -/
namespace PH
open PySem PySem.Spec PyProof.Rows L2
open C8 (tCut pss_cut)

/-! ### a def that lets nothing out and needs no calm -/
structure RoomS (k : Nat) (A : Around) : Prop where
  dp : A.depth + 3 * k + 5 < recursionLimit
  un : A.units + 16 * k + 200 < cLine
theorem RoomS.of {k : Nat} {A : Around} (r : Room k A) : RoomS k A := ⟨r.dp, r.un⟩
theorem RoomS.mono {j k : Nat} {A : Around} (r : RoomS k A) (h : j ≤ k) : RoomS j A := ⟨by have := r.dp; omega, by have := r.un; omega⟩
theorem RoomS.units {k : Nat} {A : Around} (r : RoomS k A) : A.units + 64 < cLine := by have := r.un; omega
theorem RoomS.units1 {k : Nat} {A : Around} (r : RoomS k A) : A.units + 1 < cLine := by have := r.un; omega
theorem RoomS.mark {k : Nat} {A : Around} {v : Option Value} (r : RoomS k A) : RoomS k (A.mark v) := ⟨r.dp, r.un⟩
theorem RoomS.deeper {k : Nat} {A : Around} (r : RoomS (k + 1) A) (env : Env) : RoomS k (A.deeper env) :=
  ⟨by have := r.dp; show A.depth + 1 + 3 * k + 5 < _; omega, by have := r.un; show A.units + 3 + 16 * k + 200 < _; omega⟩
structure FnS (P : Program) (w : World) (K : PySem.W.Frag) (mg : Str → Option Value) (base : Heap) (k : Nat) (f : Addr) (fd : FuncData) (ps : List Str) (sp : Sp) : Prop where
  len : ∀ vs H Q E, sp vs H Q E → vs.length = ps.length
  run : ∀ (A : Around) (outer : List Env) (s : Shared) (H : Hp) (args : Args) (us : List Value) (vs : List V) (Q : VK) (E : XK), RoomS k A → Env0 P w K mg base A outer s H → BindsTo s fd args (ps.zip us) → Vals vs us → sp vs H Q E →
    codeAny (model P w) A (.call (.ref f) args) (CR CX0 outer P w H s Q E) s
abbrev cxS (P : Program) (w : World) (K : PySem.W.Frag) (mg : Str → Option Value) (base : Heap) (N : List Str) (qual : Str) (scope : Scope) (f : Addr) (cd : Value) (A : Around) (outer : List Env) (s : Shared) (H : Hp) (E : XK) : Cx :=
  { cxOf CX0 P w K mg base N qual scope f cd A outer s H E with calm := false }
theorem fn_ofS {P : Program} {w : World} {K : PySem.W.Frag} {mg : Str → Option Value} {base : Heap} {k : Nat} {f : Addr} {name qual : Str} {params : Arguments} {body : List Stmt} {scope : Scope} {dV kV doc pm cdv ct oc : Value} {an od : Option Addr}
    {osl : Array (Option Value)} {N ps : List Str} {sp : Sp} (lk : K.lookup f = some ⟨oc, od, .func (PySem.W.fnOf name qual params body scope dV kV doc pm an cdv ct), osl⟩) (hcd : PySem.W.codeIn K cdv qual = true) (S : FnScope N ps scope)
    (len : ∀ vs H Q E, sp vs H Q E → vs.length = ps.length)
    (hbody : ∀ (A : Around) (outer : List Env) (s : Shared) (H : Hp) (vs : List V) (Q : VK) (E : XK), RoomS k (A.deeper (envOfC qual scope s.heap.objs.size f cdv)) → sp vs H Q E →
      ∃ t, PSs (cxS P w K mg base N qual scope f cdv A outer s H E) body t ∧ t { nx := fun _ H' => Q .non H', rt := Q } (L2.start N vs) H) :
    FnS P w K mg base (k + 1) f (PySem.W.fnOf name qual params body scope dV kV doc pm an cdv ct) ps sp := by
  refine ⟨len, fun A outer s H args us vs Q E hr e0 hb r hsp => ?_⟩
  have hl := len _ _ _ _ hsp
  have KX : K.In s.heap := e0.mod.kin.keeps fun b o e => (e0.bs b o e).1
  have lim : s.heap.NoLimit := e0.mod.nolimit.keeps fun b o e => (e0.bs b o e).1
  have hkind : ∀ y ∈ ps.zip us, scope.names.lookup y.1 = some .local ∨ (scope.names.lookup y.1 = some .cell ∧ ((cellsFrom (s.heap.objs.size + 1) scope.names []).lookup y.1).isSome = true) := fun ⟨n, v⟩ hy => by
    rcases S.par n (List.of_mem_zip hy).1 with q | q
    · exact .inl q
    · exact .inr ⟨q, PySem.W.cellsFrom_some _ _ _ (.inl q)⟩
  have hdep : A.depth < recursionLimit := by have := hr.dp; omega
  refine codeAny_call_function hdep (KX _ _ lk) rfl S.co S.gen rfl (PySem.W.codeRec_of KX hcd) (hb _ _ _ _ ?_)
  refine wpAny_newFunctionEnv_cells S.kind hkind fun env he s1 x => ?_
  subst he
  refine ⟨lim.keeps x.toInCall.keep, codeAny_func ?_⟩
  obtain ⟨t, ht, hq⟩ := hbody A outer s H vs Q E (hr.deeper _) hsp
  have e0' : Env0 P w K mg base { A with handled := none } outer s H := ⟨e0.frames, e0.mod, e0.bs, e0.bsz, e0.funs, e0.frf, e0.hok, e0.bare⟩
  have I0 : Inv (cxOf CX0 P w K mg base N qual scope f cdv { A with handled := none } outer s H E) [] (L2.start N vs) H s1 := inv_start S rfl e0' hl r x
  have I : Inv (cxS P w K mg base N qual scope f cdv A outer s H E) [] (L2.start N vs) H s1 := by
    obtain ⟨ok, b1, b2, b3, b4, b5, b6, b7, b8, b9, b10⟩ := I0
    exact ⟨⟨ok.mod, ok.kind, ok.glob, ok.blt, ok.above, ok.inj, ok.has, ok.cab, (fun z => Bool.noConfusion (show false = true from z)), ok.frames, ok.stk, ok.exf, ok.bs, ok.bsz, ok.noex, ok.exfs, ok.funs, ok.frf⟩, b1, b2, b3, b4, b5, b6, b7, b8, b9, b10⟩
  refine wpAny_mono (ht.run [] s1 (L2.start N vs) H _ I hq) (fun fl s' hs => ?_) fun e s' hs => hs
  have fin : ∀ {σ' : L2.St} {H' : Hp} {v : V} {u : Value}, Inv (cxS P w K mg base N qual scope f cdv A outer s H E) [] σ' H' s' → RelV v u → Q v H' → CE outer P w H s Q u s' :=
    fun {σ' H' v u} J rv q => ⟨v, H', J.os, J.bare, J.base, J.hok, rv, q⟩
  cases fl with
  | ret u =>
    obtain ⟨v, σ', H', J, rv, q⟩ := hs
    exact fin J rv q
  | next =>
    obtain ⟨σ', H', J, q⟩ := hs
    exact fin (v := V.non) (u := Value.none) J rfl q
  | brk =>
    obtain ⟨_, _, _, q⟩ := hs
    exact False.elim q
  | cont =>
    obtain ⟨_, _, _, q⟩ := hs
    exact False.elim q
theorem FnS.fnOk {P : Program} {w : World} {K : PySem.W.Frag} {mg : Str → Option Value} {base : Heap} {k : Nat} {f : Addr} {fd : FuncData} {ps : List Str} {sp : Sp} (F : FnS P w K mg base k f fd ps sp) : FnOk P w K mg base (L2.CX P w) k f fd ps sp :=
  ⟨F.len, fun A outer s H args us vs Q E hr e0 hb hv hs => codeAny_mono (F.run A outer s H args us vs Q E (.of hr) e0 hb hv hs) fun r s' hq => by
    cases r with
    | error e => exact False.elim hq
    | ok fl => cases fl <;> exact hq⟩
/-- such a def, packaged -/
structure Ds (P : Program) (w : World) (K : PySem.W.Frag) (mg : Str → Option Value) (base : Heap) (k : Nat) (f : Addr) (ps : List Str) (sp : Sp) : Prop where
  ex : ∃ fd, FnS P w K mg base k f fd ps sp ∧ Binds K fd ps []
  kp : PySem.W.keepIn K (.ref f) = true
theorem Ds.dn {P : Program} {w : World} {K : PySem.W.Frag} {mg : Str → Option Value} {base : Heap} {k : Nat} {f : Addr} {ps : List Str} {sp : Sp} (F : Ds P w K mg base k f ps sp) : Dn P w K mg base k f ps sp := by
  obtain ⟨⟨fd, F1, F2⟩, kp⟩ := F
  exact ⟨⟨fd, F1.fnOk, F2⟩, kp⟩
section
variable {P : Program} {w : World} {K : PySem.W.Frag} {mg : Str → Option Value} {base : Heap}
theorem ds_of {x qual : Str} {st : Stmt} {f : Addr} {N ps : List Str} {k : Nat} {sp : Sp} (F : ∃ fd, FunD K x qual (defArgs st) (defBody st) (defScope st) [] [] f fd) (S : FnScope N ps (defScope st)) (b : BindOk x qual st ps)
    (len : ∀ vs H Q E, sp vs H Q E → vs.length = ps.length)
    (hbody : ∀ (cdv : Value) (A : Around) (outer : List Env) (s : Shared) (H : Hp) (vs : List V) (Q : VK) (E : XK), RoomS k (A.deeper (envOfC qual (defScope st) s.heap.objs.size f cdv)) → sp vs H Q E →
      ∃ t, PSs (cxS P w K mg base N qual (defScope st) f cdv A outer s H E) (defBody st) t ∧ t { nx := fun _ H' => Q .non H', rt := Q } (L2.start N vs) H) : Ds P w K mg base (k + 1) f ps sp := by
  obtain ⟨fd, F⟩ := F
  have B := F.bindsN b
  have kp := F.kp
  obtain ⟨oc, od, dV, kV, doc, pm, an, cdv, ct, osl, rfl, lk, hcd, _, _⟩ := F.ex
  exact ⟨⟨_, fn_ofS lk hcd S len fun A outer s H vs Q E hr hsp => hbody cdv A outer s H vs Q E hr hsp, B⟩, kp⟩
end
section
variable {X : Cx} {k : Nat} {f C : Addr} {ps : List Str} {sp : Sp} {E : XK} {x m : Str} {p pos apos : Pos} {e o : Expr} {es : List Expr} {ta : TE} {t : TA}
theorem pe_s (F : Ds X.prog X.w X.K X.mg X.base k f ps sp) (hr : RoomS k X.A) (hm : X.mg x = some (.ref f)) (ha : PA X (e :: es) t) (hg : Gl X x := by rfl)
    (hdb : (x == ("__debug__" : Str)) = false := by decide) (he : starEach (e :: es) X.env = (false, eval e X.env) :: starEach es X.env := by rfl) (hpl : (backTo pos (starEach es X.env)).any (·.1) = false := by rfl) :
    PE X (.Call (.Name x p) (e :: es) [] pos) (tCall sp [] E0 t) := by
  obtain ⟨⟨fd, F1, F2⟩, kp⟩ := F
  refine ⟨fun pins s σ H Q I h => ?_⟩
  refine wpAny_Call_Name_kw (ld_glob I hg hm ?_ hdb)
  refine PySem.W.callWith_K (h₀ := X.base) I.ok.mod.kin kp (thn (ha.run pos pins s σ H _ I h) fun us s1 ⟨vs, H1, I1, r, q⟩ => ⟨I1.kIn, ?_⟩) he hpl
  have q' : sp vs H1 Q E0 := by
    have q0 : sp (vs ++ []) H1 Q E0 := q
    rw [List.append_nil] at q0
    exact q0
  have hl : us.length = ps.length := by rw [← r.length]; exact F1.len _ _ _ _ q'
  have b := F2 s1 us I1.kIn (by rw [List.append_nil]; exact hl)
  rw [List.append_nil] at b
  refine wpAny_call (codeAny_mono (F1.run X.A X.stack s1 H1 ⟨us, []⟩ us vs Q E0 hr I1.env0 b r q') fun r s' hq => ?_)
  cases r with
  | error e => exact False.elim hq
  | ok fl =>
    cases fl with
    | ret u => exact I1.after hq
    | next => exact False.elim hq
    | brk => exact False.elim hq
    | cont => exact False.elim hq
end

/-! ### calls in a try's body: what is raised is wished for at the caller's slots -/
section
variable {X : Cx} {k : Nat} {f C : Addr} {ps : List Str} {sp : Sp} {W : WX} {x m : Str} {p pos apos : Pos} {e o : Expr} {es : List Expr} {ta : TE} {t : TA}
def tCallW (sp : Sp) (W : WX) (t : TA) : TE := fun σ H Q => t σ H fun vs H1 => sp vs H1 Q (fun cls d H' => W cls d σ H')
theorem pe_dW (F : Dn X.prog X.w X.K X.mg X.base k f ps sp) (hr : Room k X.A) (hm : X.mg x = some (.ref f)) (tk : Takes X W) (ha : PA X (e :: es) t) (hg : Gl X x := by rfl)
    (hdb : (x == ("__debug__" : Str)) = false := by decide) (he : starEach (e :: es) X.env = (false, eval e X.env) :: starEach es X.env := by rfl) (hpl : (backTo pos (starEach es X.env)).any (·.1) = false := by rfl) :
    PE X (.Call (.Name x p) (e :: es) [] pos) (tCallW sp W t) := by
  obtain ⟨⟨fd, F1, F2⟩, kp⟩ := F
  refine ⟨fun pins s σ H Q I h => ?_⟩
  refine wpAny_Call_Name_kw (ld_glob I hg hm ?_ hdb)
  refine PySem.W.callWith_K (h₀ := X.base) I.ok.mod.kin kp (thn (ha.run pos pins s σ H _ I h) fun us s1 ⟨vs, H1, I1, r, q⟩ => ⟨I1.kIn, ?_⟩) he hpl
  refine run_fnSD (E := fun σ cls d H' => W cls d σ H') (dvs := []) (σ := σ) F1 hr F2 .nil (passAt tk σ) I1 r ?_
  rw [List.append_nil]
  exact q
def tMethW (C : Addr) (m : Str) (sp : Sp) (W : WX) (ta : TE) (t : TA) : TE := fun σ H Q => ta σ H fun x H1 => ∃ a dx fs, x = .ref a ∧ H1 a = some (.ins C dx fs) ∧ fs.lookup m = none ∧ t σ H1 fun vs H2 => sp (x :: vs) H2 Q (fun cls d H' => W cls d σ H')
theorem pe_mW {pl : Sem Bool} (F : Dn X.prog X.w X.K X.mg X.base k f ps sp) (hr : Room k X.A) (c : Cls X.K C) (hm : Meth X.K C m f) (tk : Takes X W) (he : PE X o ta) (ha : PA X (e :: es) t)
    (hst : starEach (e :: es) X.env = (false, eval e X.env) :: starEach es X.env := by rfl) (hpl : (backTo pos (starEach es X.env)).any (·.1) = false := by rfl)
    (ht : eval (.Call (.Attribute o m apos) (e :: es) [] pos) X.env = (do
      let ov ← eval o X.env
      standAt apos.atName
      let (f, first) ← holding [ov] (getMethod ov m pl)
      callWith pos f first (backTo pos (starEach (e :: es) X.env)) (backToKw pos (keywordEach [] X.env))) := by rfl) :
    PE X (.Call (.Attribute o m apos) (e :: es) [] pos) (tMethW C m sp W ta t) := by
  obtain ⟨⟨fd, F1, F2⟩, kp⟩ := F
  refine ⟨fun pins s σ H Q I h => ?_⟩
  refine PySem.W.methodCall_KW (pl := pl) (thn (he.run pins s σ H _ I h) fun u s1 ⟨x, H1, I1, rx, a, dx, fs, ex, ea, l, q⟩ => ?_) ht
  subst ex
  obtain rfl : u = Value.ref a := rx
  refine getmeth_ok I1 ea c hm l ?_
  refine PySem.W.callWith_K (first := [.ref a]) (h₀ := X.base) I.ok.mod.kin hm.kp (thn (ha.run pos pins s1 σ H1 _ I1 q) fun us s2 ⟨vs, H2, I2, r, q2⟩ => ⟨I2.kIn, ?_⟩) hst hpl
  refine run_fnSD (E := fun σ cls d H' => W cls d σ H') (dvs := []) (σ := σ) (us := .ref a :: us) (vs := .ref a :: vs) F1 hr F2 .nil (passAt tk σ) I2 (.cons rfl r) ?_
  rw [List.append_nil]
  exact q2
def tMakeW (C : Addr) (sp : Sp) (W : WX) (t : TA) : TE := fun σ H Q => t σ H fun vs H1 => ∀ x dx, H1 x = none → H1 dx = none → dx ≠ x →
  sp (.ref x :: vs) (upd (upd H1 dx (.own x)) x (.ins C dx [])) (fun v H2 => v = .non ∧ Q (.ref x) H2) (fun cls d H' => W cls d σ H')
theorem pe_mkW (F : Dn X.prog X.w X.K X.mg X.base k f ps sp) (M : Mk X.K C f) (hr : Room (k + 1) X.A) (hm : X.mg x = some (.ref C)) (tk : Takes X W) (ha : PA X (e :: es) t) (hg : Gl X x := by rfl)
    (hdb : (x == ("__debug__" : Str)) = false := by decide) (he : starEach (e :: es) X.env = (false, eval e X.env) :: starEach es X.env := by rfl) (hpl : (backTo pos (starEach es X.env)).any (·.1) = false := by rfl) :
    PE X (.Call (.Name x p) (e :: es) [] pos) (tMakeW C sp W t) := by
  obtain ⟨⟨fd, F1, F2⟩, kp⟩ := F
  refine ⟨fun pins s σ H Q I h => ?_⟩
  refine wpAny_Call_Name_kw (ld_glob I hg hm ?_ hdb)
  refine PySem.W.callWith_K (h₀ := X.base) I.ok.mod.kin M.kp (thn (ha.run pos pins s σ H _ I h) fun us s1 ⟨vs, H1, I1, r, q⟩ => ⟨I1.kIn, ?_⟩) he hpl
  have J := I1
  have hq := q (s1.heap.objs.size + 1) s1.heap.objs.size (I1.hok.fresh (Nat.le_succ _)) (I1.hok.fresh (Nat.le_refl _)) (Nat.ne_of_lt (Nat.lt_succ_self _))
  have I2 := Inv.made (C := C) I1
  have r2 : Vals (V.ref (s1.heap.objs.size + 1) :: vs) (Value.ref (s1.heap.objs.size + 1) :: us) := .cons rfl r
  have hl : (Value.ref (s1.heap.objs.size + 1) :: us).length = ps.length := by
    have e := r2.length
    rw [F1.len _ _ _ _ hq] at e
    exact e.symm
  have b := F2 { s1 with heap := _ } (Value.ref (s1.heap.objs.size + 1) :: us) I2.kIn (by rw [List.append_nil]; exact hl)
  rw [List.append_nil] at b
  refine wpAny_call (make_map (f := f) I1.kIn M.makes M.init (beq_iff_eq.mp M.fn) (codeAny_mono (F1.run _ X.stack _ _ ⟨Value.ref (s1.heap.objs.size + 1) :: us, []⟩ (Value.ref (s1.heap.objs.size + 1) :: us) _ _ (fun cls d H' => W cls d σ H') (hr.make C us [])
    (I2.env0.make C us []) b r2 hq) fun r s' hq' => ?_))
  cases r with
  | error e => exact passAt tk σ pins _ _ e s' I2 hq'
  | ok fl =>
    cases fl with
    | ret u =>
      obtain ⟨v, H', I3, rv, ev, q3⟩ := I2.after hq'
      subst ev
      exact ⟨rv, ⟨V.ref (s1.heap.objs.size + 1), H', I3, rfl, q3⟩⟩
    | next => exact False.elim hq'
    | brk => exact False.elim hq'
    | cont => exact False.elim hq'
end

/-! ### exceptions with one, two fields -/
def spX1 (C : Addr) (f : Str) : Sp := fun vs H Q _ => ∃ (a : Addr) (v : V), vs = [.ref a, v] ∧ H a = some (exo a C none) ∧ ∀ dx, H dx = none → dx ≠ a → Q .non (upd (upd H dx (exd dx [(f, v)])) a (exo a C (some dx)))
def spX2 (C : Addr) (f g : Str) : Sp := fun vs H Q _ => ∃ (a : Addr) (v y : V), vs = [.ref a, v, y] ∧ H a = some (exo a C none) ∧
  ∀ dx, H dx = none → dx ≠ a → Q .non (upd (upd (upd H dx (exd dx [(f, v)])) a (exo a C (some dx))) dx (exd dx [(g, y), (f, v)]))
def tX1 (C : Addr) (f : Str) (ta : TE) : L2.St → Hp → XK → Prop := fun σ H Q => ta σ H fun v H1 => ∀ d, H1 d = none → Q (.ref C) (some d) (upd H1 d (.xd [(f, v)]))
def tX2 (C : Addr) (f g : Str) (ta tb : TE) : L2.St → Hp → XK → Prop := fun σ H Q => ta σ H fun v H1 => tb σ H1 fun y H2 => ∀ d, H2 d = none → Q (.ref C) (some d) (upd H2 d (.xd [(g, y), (f, v)]))
theorem x_heap {H : Hp} {a dx : Addr} {o o1 o2 u : HO} (ha : H a = none) (hd : dx ≠ a) : upd (del (upd (upd (upd H a o) dx o1) a o2) a) dx u = upd H dx u := by
  funext b
  by_cases h1 : b = dx
  · rw [h1, upd_same, upd_same]
  · rw [upd_ne h1, upd_ne h1]
    by_cases h2 : b = a
    · rw [h2, del_same, ha]
    · rw [del_ne h2, upd_ne h2, upd_ne h1, upd_ne h2]
theorem x_heap2 {H : Hp} {a dx : Addr} {o o1 o2 o3 u : HO} (ha : H a = none) (hd : dx ≠ a) : upd (del (upd (upd (upd (upd H a o) dx o1) a o2) dx o3) a) dx u = upd H dx u := by
  funext b
  by_cases h1 : b = dx
  · rw [h1, upd_same, upd_same]
  · rw [upd_ne h1, upd_ne h1]
    by_cases h2 : b = a
    · rw [h2, del_same, ha]
    · rw [del_ne h2, upd_ne h1, upd_ne h2, upd_ne h1, upd_ne h2]
/-- a reading, closed under weakening -/
def mTE (t : TE) : TE := fun σ H Q => ∃ Q0 : VK, t σ H Q0 ∧ ∀ v H', Q0 v H' → Q v H'
theorem pe_mono {X : Cx} {e : Expr} {t : TE} (h : PE X e t) : PE X e (mTE t) := ⟨fun pins s σ H Q I ⟨Q0, h0, hq⟩ => thn (h.run pins s σ H Q0 I h0) fun _ _ ⟨v, H', J, r, q⟩ => ⟨v, H', J, r, hq v H' q⟩⟩
section
variable {X : Cx} {C fI : Addr} {k : Nat} {ps : List Str} {x f g : Str} {e e2 : Expr} {ta tb : TE} {p pos : Pos}
theorem pmk_x1 (T : Xc X.K C) (F : Dn X.prog X.w X.K X.mg X.base k (He.ma X.K C "__init__") ps (spX1 C f)) (hr : Room (k + 1) X.A) (hm : X.mg x = some (.ref C)) (ha : PE X e ta) (hg : Gl X x := by rfl)
    (hdb : (x == ("__debug__" : Str)) = false := by decide) (he : starEach (e :: []) X.env = (false, eval e X.env) :: starEach [] X.env := by rfl) (hpl : (backTo pos (starEach [] X.env)).any (·.1) = false := by rfl)
    (pa : ∀ t, PE X e t → PA X [e] (tCons t tNil) := by intro t h; exact pa_cons h pa_nil) :
    PMk X (.Call (.Name x p) [e] [] pos) (tX1 C f ta) := by
  obtain ⟨⟨fd, F1, F2⟩, kp⟩ := F
  have q := pmk_oex (dvs := []) (ds := []) (x := x) (p := p) (pos := pos) T.oex T.iC T.tI F1 hr F2 .nil (passL) hg hm (pa _ (pe_mono ha)) hdb he hpl
  intro pins s σ H Q I h
  refine q pins s σ H Q I ?_
  refine ⟨_, h, fun v H1 h1 => ?_⟩
  refine ⟨(by show 1 ≤ 1000; decide), fun a na => ⟨a, v, rfl, upd_same, fun dx nd ne => ⟨rfl, dx, [(f, v)], upd_same, ?_, ?_, ?_⟩⟩⟩
  · rw [upd_ne ne, upd_same]
  · rw [upd_ne ne] at nd
    exact nd
  · rw [upd_ne ne] at nd
    rw [x_heap na ne]
    exact h1 dx nd
theorem pmk_x2 (T : Xc X.K C) (F : Dn X.prog X.w X.K X.mg X.base k (He.ma X.K C "__init__") ps (spX2 C f g)) (hr : Room (k + 1) X.A) (hm : X.mg x = some (.ref C)) (ha : PE X e ta) (hb : PE X e2 tb) (hg : Gl X x := by rfl)
    (hdb : (x == ("__debug__" : Str)) = false := by decide) (he : starEach (e :: [e2]) X.env = (false, eval e X.env) :: starEach [e2] X.env := by rfl) (hpl : (backTo pos (starEach [e2] X.env)).any (·.1) = false := by rfl)
    (pa : ∀ t u, PE X e t → PE X e2 u → PA X [e, e2] (tCons t (tCons u tNil)) := by intro t u h1 h2; exact pa_cons h1 (pa_cons h2 pa_nil)) :
    PMk X (.Call (.Name x p) [e, e2] [] pos) (tX2 C f g ta tb) := by
  obtain ⟨⟨fd, F1, F2⟩, kp⟩ := F
  have q := pmk_oex (dvs := []) (ds := []) (x := x) (p := p) (pos := pos) T.oex T.iC T.tI F1 hr F2 .nil (passL) hg hm (pa _ _ (pe_mono ha) (pe_mono hb)) hdb he hpl
  intro pins s σ H Q I h
  refine q pins s σ H Q I ?_
  refine ⟨_, h, fun v H1 h1 => ?_⟩
  refine ⟨_, h1, fun y H2 h2 => ?_⟩
  refine ⟨(by show 2 ≤ 1000; decide), fun a na => ⟨a, v, y, rfl, upd_same, fun dx nd ne => ⟨rfl, dx, [(g, y), (f, v)], ?_, upd_same, ?_, ?_⟩⟩⟩
  · rw [upd_ne (Ne.symm ne), upd_same]
  · rw [upd_ne ne] at nd
    exact nd
  · rw [upd_ne ne] at nd
    rw [x_heap2 na ne]
    exact h2 dx nd
end
end PH

set_option Elab.async false
set_option linter.all false
set_option maxRecDepth 100000
set_option maxHeartbeats 4000000
/-! # Several except clauses with names; isinstance of a caught error; small rules -/
namespace PH
open PySem PySem.Spec PyProof.Rows L2
open C8 (tCut pss_cut)

/-! ### try: .. except A as e: .. except B as e: .. -/
abbrev Clause := Value × Nat × (Addr → Value → Option Addr → TS)
def wManyA (K : PySem.W.Frag) (Wout : WX) (D : Ends) : List Clause → WX
  | [] => Wout
  | (c, i, ts) :: r => fun cls d σ H => ∃ b, PySem.W.exmOne K cls c = some b ∧
      (b = true → ∀ a, H a = none → ts a cls d { nx := fun σ' H' => D.nx (σ'.set i none) H', rt := D.rt, bk := fun σ' H' => D.bk (σ'.set i none) H', ct := fun σ' H' => D.ct (σ'.set i none) H' } (σ.set i (some (.ref a))) H) ∧
      (b = false → wManyA K Wout D r cls d σ H)
inductive HdsA (X : Cx) : List ExceptHandler → List Clause → Prop
  | nil : HdsA X [] []
  | cons {x n : Str} {c : Value} {i : Nat} {ts : Addr → Value → Option Addr → TS} {b₀ : Stmt} {suite : List Stmt} {np pos' : Pos} {hds : List ExceptHandler} {l : List Clause} (hc : Names X x c) (hi : X.N[i]? = some n) (hln : X.env.kindOf n = some .local)
      (hsu : ∀ (a : Addr) (oe : Obj) (cls : Value) (d : Option Addr) (pn : List (Addr × Obj)), Zc cls d oe → (∃ vs, oe.data = .fields vs) → PSs (X.suite a ((a, oe) :: pn)) (b₀ :: suite) (ts a cls d)) (r : HdsA X hds l) :
      HdsA X (.ExceptHandler (some (.Name x np)) (some n) (b₀ :: suite) pos' :: hds) ((c, i, ts) :: l)
section
variable {X : Cx} {body : List Stmt} {h₀ : ExceptHandler} {hds : List ExceptHandler} {l : List Clause} {pos : Pos} {tb : WX → TS} {Wout : WX}
theorem ps_try_A (hs : X.stack = X.env :: X.outer) (hf : X.env.frame = some X.env.locals) (hN : X.N.Nodup) (tk : Takes X Wout)
    (hb : ∀ (W : WX) (pn : List (Addr × Obj)) (xe : Value → Shared → Prop), Takes (X.tr pn xe) W → PassesOwn (model X.prog X.w) X.A X.env xe → PSs (X.tr pn xe) body (tb W))
    (hh : HdsA X (h₀ :: hds) l) : PS X (.Try body (h₀ :: hds) [] [] pos) (fun D σ H => tb (wManyA X.K Wout D l) D σ H) := by
  refine ⟨fun pins s σ H D I h => ?_⟩
  have ok := I.ok
  have hfr : X.A.frames = some (X.env :: X.outer) := by rw [ok.frames, hs]
  refine wpAny_Try_except ?_
  refine wpAny_mono ((hb (wManyA X.K Wout D l) (X.pn ++ pins) (fun e s₁ => wpAny (model X.prog X.w) X.A (noteFrame e X.env) (fun _ s₂ => wpAny (model X.prog X.w) X.A (setFlight e none) (fun _ s₃ =>
    wpAny (model X.prog X.w) X.A (handleBy e X.env (h₀ :: hds)) (SP X pins D) X.xe s₃) X.xe s₂) X.xe s₁) (fun u s' xx => ?_) PassesOwn.looking).run [] s σ H D (I.toTry _) h) (fun f s1 hsp => ?_) (fun e s1 he => he)
  · -- the catch
    obtain ⟨a, B, sI, pins', σ', H', cls, d, rfl, J', nb, up, sky, na, os, ag, w⟩ := xx
    have J : Inv X pins σ' H' sI := J'.ofTry ok
    have sky' : Sky B (X.env :: X.outer) a (Zc cls d) X.env.locals s'.heap := by rw [← hs]; exact sky
    show wpAny (model X.prog X.w) X.A (noteFrame (.ref a) X.env) _ _ _
    refine Sky.land Zc.steady hfr hf sky' fun h3 fl3 up3 => ?_
    have J3 : Inv X pins σ' H' { s' with heap := h3 } := J.landed nb fl3.1 (up.trans up3) os ag
    obtain ⟨oe3, vs3, he3, hz3, hd3⟩ := fl3.there
    have notFr : ∀ {h : Heap} {o : Obj} {vs : Array Value}, h.FunFrames B (X.env :: X.outer) → h.get? a = some o → o.data = .fields vs → a ∉ frs (X.env :: X.outer) := fun {h o vs} ff e dd hm => by
      obtain ⟨_, o', e', hnf⟩ := ff.mem hm
      rw [e] at e'; cases e'
      exact hnf _ dd
    have nfr := notFr fl3.2.2.1 he3 hd3
    have nL : a ≠ X.env.locals := fun z => nfr (List.mem_filterMap.mpr ⟨X.env, List.mem_cons_self, by rw [hf, z]⟩)
    have nF : a ∉ X.fs := fun hm => by
      obtain ⟨e, he, q⟩ := List.mem_filterMap.mp hm
      exact nfr (List.mem_filterMap.mpr ⟨e, List.mem_cons_of_mem _ he, q⟩)
    have S3 := J3.suite he3 hd3 na nL nF
    have go : ∀ {hds' : List ExceptHandler} {l' : List Clause}, HdsA X hds' l' → wManyA X.K Wout D l' cls d σ' H' →
        wpAny (model X.prog X.w) X.A (handleBy (.ref a) X.env hds') (SP X pins D) X.xe { s' with heap := h3 } := by
      intro hds' l' hk
      induction hk with
      | nil =>
        intro w
        refine wpAny_handleBy_nil ?_
        obtain ⟨k1, k2, k3, oe, vs, T, oT, ts', he, hz, hd, h1, hr⟩ := id fl3
        unfold PySem.passOn
        refine wpAny_bind (wpAny_field he hd h1 ?_)
        rw [if_neg (show ¬ ((Value.ref T == Value.none) = true) from by simp)]
        have fin : wpAny (model X.prog X.w) X.A (setFlight (.ref a) X.env.frame) (fun _ s4 => wpAny (model X.prog X.w) X.A (throw (.ref a) : Sem Flow) (SP X pins D) X.xe s4) X.xe { s' with heap := h3 } := by
          rw [hf]
          refine HandSPX.setFlight_upZ fl3 fun h4 hh4 up4 => wpAny_throw (tk _ _ ?_)
          exact ⟨a, B, sI, pins, σ', H', cls, d, rfl, J, nb, (up.trans up3).trans up4, .inr (.inr (by rw [hs]; exact hh4)), na, os, ag, w⟩
        first
          | exact wpAny_bind (wpAny_pure (wpAny_bind fin))
          | exact wpAny_bind fin
      | @cons x n c i ts b₀ suite np pos' hds2 l2 hc hi hln hsu r ih =>
        intro w
        have hloc : Loc X.env.scope n := .inl hln
        obtain ⟨b, hb1, hyes, hno⟩ := w
        refine wpAny_handleBy_cons (codeAny_handlers_test ?_) (by intro q; cases q)
        have LT : PySem.W.Looks (model X.prog X.w) h3 (typeOf (.ref a)) cls := fun A Q E s k q => wpAny_typeOf_ref (k _ _ he3) (by rw [hz3.1]; exact q)
        have LM := PySem.W.exm_one (M := model X.prog X.w) (J3.kIn) LT hb1
        have test : ∀ {Q : Value → Shared → Prop} {E : Value → Shared → Prop}, Q c { s' with heap := h3 } → wpAny (model X.prog X.w) (X.A.mark (some (.ref a))) (eval (.Name x np) X.env) Q E { s' with heap := h3 } := fun {Q E} q => by
          obtain ⟨hg, hdbg, hm | ⟨hm, hv, hnn⟩⟩ := hc
          · exact ld_glob (X := X.suite a ((a, oe3) :: (X.pn ++ pins))) S3 hg hm q hdbg
          · exact ld_blt (X := X.suite a ((a, oe3) :: (X.pn ++ pins))) S3 hg hm hv q hnn hdbg
        refine test (LM.here ?_)
        cases b with
        | true =>
          refine codeAny_handlers_suite_as ?_
          refine HandSPX.lands_againZ fl3 fun h4 fl4 up4 => ?_
          have J4 : Inv X pins σ' H' { s' with heap := h4 } := J.landed nb fl4.1 ((up.trans up3).trans up4) os ag
          obtain ⟨oe4, vs4, he4, hz4, hd4⟩ := fl4.there
          have S4 := J4.suite he4 hd4 na nL nF
          refine store_ok (X := X.suite a ((a, oe4) :: (X.pn ++ pins))) (v := .ref a) S4 hN hi hloc rfl (fun s5 S5 => ?_) (.inr hln)
          refine wpAny_mono ((hsu a oe4 cls d (X.pn ++ pins) hz4 ⟨_, hd4⟩).run [] s5 _ H' _ S5 (hyes rfl a na)) (fun f s6 hsp => ?_) (fun _ _ z => False.elim z)
          have end_ : ∀ {σ6 : L2.St} {H6 : Hp} {Q : Shared → Prop}, Inv (X.suite a ((a, oe4) :: (X.pn ++ pins))) [] σ6 H6 s6 → (∀ s7, Inv X pins (σ6.set i none) H6 s7 → Q s7) →
              wpAny (model X.prog X.w) X.A (do bindName X.env n .none; unbindBehindTheSuite X.env n pos') (fun _ s7 => Q s7) X.xe s6 := fun {σ6 H6 Q} S6 hq => gone_ok (S6.unsuite ok) hN hi hln hq
          cases f with
          | next =>
            obtain ⟨σ6, H6, S6, q6⟩ := hsp
            exact end_ S6 fun s7 J7 => ⟨_, _, J7, q6⟩
          | brk =>
            obtain ⟨σ6, H6, S6, q6⟩ := hsp
            exact end_ S6 fun s7 J7 => ⟨_, _, J7, q6⟩
          | cont =>
            obtain ⟨σ6, H6, S6, q6⟩ := hsp
            exact end_ S6 fun s7 J7 => ⟨_, _, J7, q6⟩
          | ret u =>
            obtain ⟨v6, σ6, H6, S6, r6, q6⟩ := hsp
            exact end_ S6 fun s7 J7 => ⟨_, _, _, J7, r6, q6⟩
        | false =>
          show wpAny _ X.A (handleBy (.ref a) X.env hds2) _ _ _
          exact ih (hno rfl)
    exact go hh w
  · cases f with
    | next =>
      obtain ⟨σ', H', J', q⟩ := hsp
      exact wpAny_execs_nil ⟨σ', H', J'.ofTry ok, q⟩
    | brk =>
      obtain ⟨σ', H', J', q⟩ := hsp
      exact ⟨σ', H', J'.ofTry ok, q⟩
    | cont =>
      obtain ⟨σ', H', J', q⟩ := hsp
      exact ⟨σ', H', J'.ofTry ok, q⟩
    | ret u =>
      obtain ⟨v, σ', H', J', r, q⟩ := hsp
      exact ⟨v, σ', H', J'.ofTry ok, r, q⟩
end

/-! ### isinstance(e, C), e a caught error with a dict of its own -/
def rIsX (K : PySem.W.Frag) (a : Addr) (cls : Value) (d : Option Addr) : List V → Hp → VK → Prop := fun xs H Q => ∃ (c : V) (cv : Value) (D dd : Addr) (fs : List (Str × V)) (b : Bool),
  xs = [.ref a, c] ∧ ClsV c cv ∧ cls = .ref D ∧ d = some dd ∧ ExcC K D ∧ H dd = some (.xd fs) ∧ PySem.W.kitOne K (.ref D) cv = some b ∧ Q (.bl b) H
theorem call_isX {X : Cx} {a : Addr} {cls : Value} {d : Option Addr} {oe : Obj} {pn : List (Addr × Obj)} (hz : Zc cls d oe) (hf : ∃ vs, oe.data = .fields vs) : CallR (X.suite a ((a, oe) :: pn)) (.builtin "isinstance") (rIsX X.K a cls d) := by
  intro pins s σ H xs us Q I r h
  obtain ⟨c, cv, D, dd, fs, b, rfl, hcv, rfl, rfl, C, hdd, e, q⟩ := h
  cases r with
  | cons rx rr =>
    cases rr with
    | cons rt rr =>
      cases rr
      cases rx
      have ec := hcv.eq rt
      subst ec
      obtain ⟨hget, _⟩ := I.pin (a, oe) (List.mem_append.mpr (.inl List.mem_cons_self))
      obtain ⟨vs, hv⟩ := hf
      have hx : ObjOk X.prog X.w H s.heap dd (.xd fs) := I.hok dd _ hdd
      obtain ⟨mA, hns, _⟩ := hx
      obtain ⟨od, ho, _⟩ := lookIn_ns hns
      have J : PySem.W.InstAt s.heap a oe D (some od) := ⟨hget, hz.1, by unfold PySem.W.notCls; rw [hv] <;> rfl, by rw [hz.2]; exact ho⟩
      have hcl : (PySem.W.clsIn X.K D).isSome = true := by
        obtain ⟨cd, hc, _⟩ := PySem.W.any_some C.hd
        rw [hc] <;> rfl
      exact PySem.W.kia_one (PySem.W.kitx_exc hcl C.hg C.hk C.hs C.ha C.hn C.ht C.hm) I.kIn J e (fun z => nomatch z) fun tk => ⟨.bl b, H, I.kept (t' := tk) fun _ _ z => z, rfl, q⟩

/-! ### a module's constant -/
theorem pe_gi {X : Cx} {x : Str} {n : Int} {pos : Pos} (h : ∃ t, X.mg x = some (.int n t)) (hg : Gl X x := by rfl) (hd : (x == ("__debug__" : Str)) = false := by decide) : PE X (.Name x pos) (tC (.int n)) := by
  obtain ⟨t, hm⟩ := h
  exact pe_glob hg hm ⟨t, rfl⟩ hd
/-- a class as a value -/
theorem pe_cv {X : Cx} {x : Str} {C : Addr} {pos : Pos} (h : X.mg x = some (.ref C)) (hg : Gl X x := by rfl) (hd : (x == ("__debug__" : Str)) = false := by decide) : PE X (.Name x pos) (tC (.ref C)) := pe_glob hg h rfl hd
theorem pe_ty {X : Cx} {x : Str} {n : String} {pos : Pos} (h : X.mg x = none) (hv : bootBuiltins x = some (.type n)) (hg : Gl X x := by rfl) (hn : x ≠ "__name__" := by decide) (hd : (x == ("__debug__" : Str)) = false := by decide) : PE X (.Name x pos) (tC (.ty n)) := pe_bltn hg h hv rfl hn hd
theorem bb_int : bootBuiltins "int" = some (.type "int") := by decide +kernel
theorem bb_bool : bootBuiltins "bool" = some (.type "bool") := by decide +kernel
theorem bb_str : bootBuiltins "str" = some (.type "str") := by decide +kernel
theorem bb_tuple : bootBuiltins "tuple" = some (.type "tuple") := by decide +kernel
theorem bb_list : bootBuiltins "list" = some (.type "list") := by decide +kernel
theorem bb_dict : bootBuiltins "dict" = some (.type "dict") := by decide +kernel
theorem bb_set : bootBuiltins "set" = some (.type "set") := by decide +kernel
theorem bb_range : bootBuiltins "range" = some (.type "range") := by decide +kernel
theorem bb_enumerate : bootBuiltins "enumerate" = some (.type "enumerate") := by decide +kernel
theorem bb_reversed : bootBuiltins "reversed" = some (.type "reversed") := by decide +kernel
theorem bb_len : bootBuiltins "len" = some (.builtin "len") := by decide +kernel
theorem bb_isinstance : bootBuiltins "isinstance" = some (.builtin "isinstance") := by decide +kernel
theorem bb_sorted : bootBuiltins "sorted" = some (.builtin "sorted") := by decide +kernel
theorem bb_sum : bootBuiltins "sum" = some (.builtin "sum") := by decide +kernel
theorem bb_max : bootBuiltins "max" = some (.builtin "max") := by decide +kernel
theorem bb_min : bootBuiltins "min" = some (.builtin "min") := by decide +kernel
theorem bb_abs : bootBuiltins "abs" = some (.builtin "abs") := by decide +kernel
end PH

set_option Elab.async false
set_option linter.all false
set_option maxRecDepth 100000
set_option maxHeartbeats 4000000
/-! # == and != by an own __eq__ -/
namespace PySem.W
open PySem PySem.Calls PyProof.Rows
section
variable {prog : Program} {w : World} {A : Around} {E : Value → Shared → Prop} {s : Shared} {K : Frag} {x C f : Addr} {ox : Obj} {od : Option Obj} {b tb : Value}
theorem rich_by {op : CmpOp} {Q : Value → Shared → Prop} (hu : A.units < cLine) (X : K.In s.heap) (I : InstAt s.heap x ox C od) (hb : Looks (model prog w) s.heap (typeOf b) tb) (hn : notFirst K C tb = true)
    (one : wpAny (model prog w) A (tryCompare (.ref x) (cmpInfo op).2.1 b) (fun r s' => ∃ v, r = some v ∧ Q v s') E s) : wpAny (model prog w) A (richCompare op (.ref x) b) Q E s := by
  unfold richCompare
  simp only [oneThing_ref]
  refine wpAny_holding (wpAny_bind (wpAny_cRoomFor hu ?_))
  refine wpAny_bind (I.type.here (wpAny_bind (hb.here ?_)))
  split
  · rename_i q
    have e : subIn K tb (.ref C) = some false := by
      rcases Bool.or_eq_true_iff.mp hn with e | e
      · rw [beq_iff_eq.mp e] at q; simp at q
      · exact beq_iff_eq.mp e
    refine wpAny_bind ((looks_subIn X e).here ?_)
    simp only [Bool.false_eq_true, if_false]
    refine wpAny_bind (wpAny_mono one (fun r s' z => ?_) fun _ _ e => e)
    obtain ⟨v, rfl, hq⟩ := z
    exact wpAny_pure hq
  · refine wpAny_bind (wpAny_pure ?_)
    simp only [Bool.false_eq_true, if_false]
    refine wpAny_bind (wpAny_mono one (fun r s' z => ?_) fun _ _ e => e)
    obtain ⟨v, rfl, hq⟩ := z
    exact wpAny_pure hq
theorem ifBound_slot {M : Model} {name : Str} {T id : String} {args : List Value} {Q : Option Value → Shared → Prop} (X : K.In s.heap) (I : InstAt s.heap x ox C od) (hs : findIn K (.ref C) name = some (some (.builtin id))) (S : Slot T name id)
    (h : wpAny M A (call (.builtin id) (.ref x :: args)) (fun v => Q (some v)) E s) : wpAny M A (callSpecialIfBound? (.ref x) name args) Q E s := by
  simp only [callSpecialIfBound?, bindSpecialIfBound?]
  refine wpAny_holding (wpAny_bind (wpAny_bind (wpAny_bind (I.type.here ((looks_findIn X hs).here ?_)))))
  simp only [S.bind]
  refine wpAny_bind (wpAny_askSetting (wpAny_ite ?_))
  have fin : wpAny M A (call (.builtin id) ([.ref x] ++ args) >>= fun v => pure (some v)) Q E s := wpAny_bind (wpAny_mono h (fun v s' h' => wpAny_pure h') fun _ _ h' => h')
  split
  · exact wpAny_bind (wpAny_pure (wpAny_pure fin))
  · exact wpAny_tryCatch (wpAny_bind (wpAny_pure (wpAny_pure fin)))
open Builtin in
theorem objNe_K {Q : Fin → Shared → Prop} (hu : A.units < cLine) (X : K.In s.heap) (I : InstAt s.heap x ox C od) (hs : findIn K (.ref C) "__eq__" = some (some (.ref f))) (hf : isFn K (.ref f) = true)
    (hcall : wpAny (model prog w) A (call (.ref f) [.ref x, b]) (fun v s' => ∃ c, v = .bool c ∧ Q (.done (.ret (.bool (!c)))) s') E s) :
    wpAny (model prog w) A (Builtin.«object.__ne__» ⟨[.ref x, b], []⟩) Q E s := by
  obtain ⟨hp, g, d, t, os⟩ := s
  unfold Builtin.«object.__ne__»
  repeat (first
    | with_reducible refine wpAny_cRoomFor hu ?_
    | (refine wpAny_bind (m := callSpecialIfBound? (.ref x) (Str.ofString "__eq__") [b])
        (ifBound_K X I hs hf (wpAny_mono hcall (fun r s' hr => by
          obtain ⟨c, rfl, hq⟩ := hr
          repeat (first | exact hq | exact wpAny_pure hq | exact wpAny_truthy_bool hq | (refine wpAny_bind (m := truthy (.bool _)) (wpAny_truthy_bool ?_)) | wp_step)) fun _ _ e => e)))
    | wp_step)
theorem tryNe_K {Q : Option Value → Shared → Prop} (hu : A.units + 1 < cLine) (X : K.In s.heap) (I : InstAt s.heap x ox C od) (hne : findIn K (.ref C) "__ne__" = some (some (.builtin "object.__ne__"))) (hm : mroIn K C (.type "object") = some true)
    (hs : findIn K (.ref C) "__eq__" = some (some (.ref f))) (hf : isFn K (.ref f) = true)
    (hcall : wpAny (model prog w) A.in1 (call (.ref f) [.ref x, b]) (fun v s' => ∃ c, v = .bool c ∧ Q (some (.bool (!c))) s') E s) :
    wpAny (model prog w) A (tryCompare (.ref x) "__ne__" b) Q E s := by
  have hi : Looks (model prog w) s.heap (isInstance (.ref x) (.type "object")) true := I.type.andThen (looks_mroIn X hm)
  simp only [tryCompare]
  refine wpAny_bind (ifBound_slot X I hne PySem.F.cmp_object.ne (wpAny_call (codeAny_call_builtin PySem.F.cmp_object.ne.plain PySem.F.cmpEntry_ne
    (PySem.W.check_slot PySem.F.cmpKind_ne PySem.F.cmpSplit_ne hi (PySem.F.cmpArgs_ne _ _)
      (objNe_K (A := A.in1) (by show A.units + 1 < cLine; exact hu) X I hs hf (wpAny_mono hcall (fun v s' hv => ?_) fun _ _ e => e))))))
  obtain ⟨c, rfl, hq⟩ := hv
  first | exact ⟨c, rfl, wpAny_pure hq⟩ | exact ⟨c, rfl, wpAny_pure (wpAny_pure hq)⟩ | exact ⟨c, rfl, hq⟩
end
end PySem.W
namespace PH
open PySem PySem.Spec PyProof.Rows L2
open C8 (tCut pss_cut)
/-- a class with an own __eq__ -/
structure Eqc (K : PySem.W.Frag) (C g : Addr) : Prop where
  eq : PySem.W.findIn K (.ref C) "__eq__" = some (some (.ref g))
  fn : PySem.W.isFn K (.ref g) = true
  ne : PySem.W.findIn K (.ref C) "__ne__" = some (some (.builtin "object.__ne__"))
  ob : PySem.W.mroIn K C (.type "object") = some true
def eqcB (K : PySem.W.Frag) (C : Addr) : Bool := He.eqO (PySem.W.findIn K (.ref C) "__eq__") (some (some (.ref (He.ma K C "__eq__")))) && (PySem.W.isFn K (.ref (He.ma K C "__eq__")) &&
  (He.eqO (PySem.W.findIn K (.ref C) "__ne__") (some (some (.builtin "object.__ne__"))) && decide (PySem.W.mroIn K C (.type "object") = some true)))
theorem eqcB_ok {K : PySem.W.Frag} {C : Addr} (h : eqcB K C = true) : Eqc K C (He.ma K C "__eq__") := by
  obtain ⟨h1, h⟩ := He.ba h
  obtain ⟨h2, h⟩ := He.ba h
  obtain ⟨h3, h4⟩ := He.ba h
  exact ⟨He.eqO_ok h1, h2, He.eqO_ok h3, of_decide_eq_true h4⟩
section
variable {X : Cx} {k : Nat} {C g : Addr} {ps : List Str} {sp : Sp}
def rOwnEq (K : PySem.W.Frag) (C : Addr) (sp : Sp) : R2 := fun x y H Q => ∃ a dx fs t, x = .ref a ∧ H a = some (.ins C dx fs) ∧ TyX K H y t ∧ PySem.W.notFirst K C t = true ∧ sp [x, y] H (fun z H' => ∃ b, z = .bl b ∧ Q (.bl b) H') E0
def rOwnNe (K : PySem.W.Frag) (C : Addr) (sp : Sp) : R2 := fun x y H Q => ∃ a dx fs t, x = .ref a ∧ H a = some (.ins C dx fs) ∧ TyX K H y t ∧ PySem.W.notFirst K C t = true ∧ sp [x, y] H (fun z H' => ∃ b, z = .bl b ∧ Q (.bl (!b)) H') E0
theorem run_dn {A : Around} {pins : List (Addr × Obj)} {σ : L2.St} {H : Hp} {s : Shared} {Q : VK} {us : List Value} {vs : List V} (F : Dn X.prog X.w X.K X.mg X.base k g ps sp) (hr : Room k A) (hA : A.frames = X.A.frames) (I : Inv X pins σ H s) (r : Vals vs us)
    (h : sp vs H Q E0) {Q' : Value → Shared → Prop} {E : Value → Shared → Prop} (hq : ∀ u s', EP X pins σ Q u s' → Q' u s') : wpAny (model X.prog X.w) A (call (.ref g) us) Q' E s := by
  obtain ⟨⟨fd, F1, F2⟩, kp⟩ := F
  have hl : us.length = ps.length := by rw [← r.length]; exact F1.len _ _ _ _ h
  have b := F2 s us I.kIn (by rw [List.append_nil]; exact hl)
  rw [List.append_nil] at b
  have e0 : Env0 X.prog X.w X.K X.mg X.base A X.stack s H := by
    have e := I.env0
    exact ⟨by rw [hA]; exact e.frames, e.mod, e.bs, e.bsz, e.funs, e.frf, e.hok, e.bare⟩
  refine wpAny_call (codeAny_mono (F1.run A X.stack s H ⟨us, []⟩ us vs Q E0 hr e0 b r h) fun r s' hq' => ?_)
  cases r with
  | error e =>
    obtain ⟨_, _, _, _, _, _, _, _, _, _, _, _, z⟩ := hq'
    exact z.elim
  | ok fl =>
    cases fl with
    | ret u => exact hq u s' (I.after hq')
    | next => exact False.elim hq'
    | brk => exact False.elim hq'
    | cont => exact False.elim hq'
theorem op_ownEq (e : Eqc X.K C g) (F : Dn X.prog X.w X.K X.mg X.base k g ps sp) (hr : Room k X.A) : OpR X (compareOp .Eq) (rOwnEq X.K C sp) := by
  intro pins s σ H x y v u Q I rx ry h
  obtain ⟨a, dx, fs, t, rfl, ha, ty, hn, q⟩ := h
  cases (show v = Value.ref a from rx)
  obtain ⟨mA, J, _⟩ := ins_get I.hok ha
  obtain ⟨od, J, _⟩ := J.look
  obtain ⟨P, kit, hP, _⟩ := kit_of I ry ty
  have hty : PySem.W.Looks (model X.prog X.w) s.heap (typeOf u) t := kit.ty _ _ I.kIn hP
  show wpAny (model X.prog X.w) X.A (richCompare .Eq (.ref a) u) (EP X pins σ Q) X.xe s
  refine PySem.W.rich_by (op := .Eq) hr.units0 I.kIn J hty hn ?_
  show wpAny (model X.prog X.w) X.A (tryCompare (.ref a) "__eq__" u) _ X.xe s
  unfold tryCompare
  refine wpAny_bind (PySem.W.ifBound_K I.kIn J e.eq e.fn ?_)
  refine run_dn F hr rfl I (vs := [.ref a, y]) (.cons rfl (.cons ry .nil)) q fun z s' ⟨zv, H', I', rz, b, ez, qz⟩ => ?_
  subst ez
  cases rz
  exact wpAny_pure ⟨_, rfl, ⟨.bl b, H', I', rfl, qz⟩⟩
theorem op_ownNe (e : Eqc X.K C g) (F : Dn X.prog X.w X.K X.mg X.base k g ps sp) (hr : Room (k + 1) X.A) : OpR X (compareOp .NotEq) (rOwnNe X.K C sp) := by
  intro pins s σ H x y v u Q I rx ry h
  obtain ⟨a, dx, fs, t, rfl, ha, ty, hn, q⟩ := h
  cases (show v = Value.ref a from rx)
  obtain ⟨mA, J, _⟩ := ins_get I.hok ha
  obtain ⟨od, J, _⟩ := J.look
  obtain ⟨P, kit, hP, _⟩ := kit_of I ry ty
  have hty : PySem.W.Looks (model X.prog X.w) s.heap (typeOf u) t := kit.ty _ _ I.kIn hP
  show wpAny (model X.prog X.w) X.A (richCompare .NotEq (.ref a) u) (EP X pins σ Q) X.xe s
  refine PySem.W.rich_by (op := .NotEq) hr.units0 I.kIn J hty hn ?_
  refine PySem.W.tryNe_K (by have := hr.units; omega) I.kIn J e.ne e.ob e.eq e.fn ?_
  refine run_dn F hr.in1 rfl I (vs := [.ref a, y]) (.cons rfl (.cons ry .nil)) q fun z s' ⟨zv, H', I', rz, b, ez, qz⟩ => ?_
  subst ez
  cases rz
  exact ⟨b, rfl, _, rfl, ⟨.bl (!b), H', I', rfl, qz⟩⟩
end
end PH

set_option Elab.async false
set_option linter.all false
set_option maxRecDepth 100000
set_option maxHeartbeats 4000000
/-! # tuple(text), list(text), text * n, enumerate over a tuple and a text, dict comprehensions over any walk -/
namespace PH
open PySem PySem.Spec PyProof.Rows L2
open AutoSeq1 (wpAny_loadPart')
/-- a text's signs -/
def sg (z : Str) : List V := z.cps.toList.map fun c => V.str ⟨#[c]⟩
theorem sg_length {z : Str} : (sg z).length = z.length := by
  unfold sg
  rw [List.length_map, Array.length_toList] <;> rfl
theorem vals_signs {z : Str} {acc : Array Value} (h : ItemsOf (SignAt z) acc z.cps.size) : Vals (sg z) acc.toList := by
  obtain ⟨h1, h2⟩ := h
  have go : ∀ (cs : List Nat) (us : List Value), cs.length = us.length → (∀ (j : Nat) (v : Value), us[j]? = some v → ∃ c u, cs[j]? = some c ∧ v = .str ⟨#[c]⟩ u) → Vals (cs.map fun c => V.str ⟨#[c]⟩) us := by
    intro cs
    induction cs with
    | nil =>
      intro us hl _
      cases us with
      | nil => exact .nil
      | cons _ _ => simp at hl
    | cons c cs ih =>
      intro us hl hu
      cases us with
      | nil => simp at hl
      | cons u us =>
        obtain ⟨c', t, e, ev⟩ := hu 0 u rfl
        have e : c = c' := by simpa using e
        subst e
        exact .cons ⟨t, ev⟩ (ih us (by simpa using hl) fun j v hv => hu (j + 1) v (by simpa using hv))
  refine go _ _ (by rw [Array.length_toList, Array.length_toList, h1]) fun j v hv => ?_
  obtain ⟨c, u, e, ev⟩ := h2 j v (by rw [← Array.getElem?_toList]; exact hv)
  exact ⟨c, u, by rw [Array.getElem?_toList]; exact e, ev⟩
section
variable {X : Cx}
def rTupS : List V → Hp → VK → Prop := fun xs H Q => ∃ z : Str, xs = [.str z] ∧ z.length ≤ sizeLine ∧ ∀ p, H p = none → Q (.ref p) (upd H p (.tup (sg z)))
theorem cr_tuple_str (hc : X.calm = true) : CallR X (.type "tuple") rTupS := by
  intro pins s σ H xs us Q I r h
  obtain ⟨z, rfl, hz, q⟩ := h
  obtain ⟨u, rfl, t, rfl⟩ := vals1 r
  refine PySem.call_tuple_str (I.ok.hd hc) z t (fun h' tk acc kp hacc => ?_) hz
  have I1 : Inv X pins σ H { s with heap := h', toks := tk } := I.kept (t' := tk) kp
  have I2 : Inv X pins σ (upd H h'.objs.size (.tup (sg z))) { s with heap := h'.push { cls := .type "tuple", data := .seq acc }, toks := tk } :=
    I1.laid (t' := tk) (fun b o e => Heap.get?_push_of_some _ e) (Nat.le_refl _) (show ObjOk X.prog X.w _ _ _ (.tup (sg z)) from ⟨by rw [sg_length]; exact hz, acc.toList, vals_signs hacc, by simpa using IsTup.new _ _⟩)
  exact ⟨.ref h'.objs.size, _, I2, rfl, q _ (I1.hok.fresh (Nat.le_refl _))⟩
def rLstS : List V → Hp → VK → Prop := fun xs H Q => ∃ z : Str, xs = [.str z] ∧ z.length ≤ sizeLine ∧ ∀ p, H p = none → Q (.ref p) (upd H p (.lst (sg z)))
theorem cr_list_str (hc : X.calm = true) : CallR X (.type "list") rLstS := by
  intro pins s σ H xs us Q I r h
  obtain ⟨z, rfl, hz, q⟩ := h
  obtain ⟨u, rfl, t, rfl⟩ := vals1 r
  refine PySem.call_list_str (I.ok.hd hc) z t (fun h' tk acc c' kp e hacc => ?_) hz
  exact ⟨.ref s.heap.objs.size, _, I.laid (t' := tk) kp (Nat.le_refl _) (show ObjOk X.prog X.w _ h' _ (.lst (sg z)) from ⟨by rw [sg_length]; exact hz, acc.toList, c', vals_signs hacc, by simpa using e⟩), rfl, q _ (I.hok.fresh (Nat.le_refl _))⟩
/-- a text seven times -/
def rep7 (z : Str) : Str := ⟨(List.replicate 7 z.cps).foldl (· ++ ·) #[]⟩
theorem rep7_length {z : Str} : (rep7 z).length = 7 * z.length := by
  show ((List.replicate 7 z.cps).foldl (· ++ ·) #[]).size = 7 * z.cps.size
  simp [List.replicate, List.foldl]
  omega
def rMul7 : R2 := fun x y H Q => ∃ z : Str, x = .str z ∧ y = .int 7 ∧ 0 < z.length ∧ z.length < 10000 ∧ Q (.str (rep7 z)) H
theorem op_mul_str : OpR X (binaryOp .Mult) rMul7 := by
  intro pins s σ H x y v u Q I rx ry h
  obtain ⟨z, rfl, rfl, h3, h4, q⟩ := h
  obtain ⟨t, rfl⟩ := rx
  obtain ⟨t2, rfl⟩ := ry
  have e2 : ((7 : Int) == 1 || z.length == 0) = false := by
    have b : (z.length == 0) = false := beq_eq_false_iff_ne.mpr (by omega)
    rw [b] <;> rfl
  have hl : ¬ (z.length * (7 : Int).toNat > sizeLine) := by
    show ¬ (z.length * 7 > sizeLine)
    rw [sizeLine_eq]
    omega
  have hn : (rep7 z).length ≤ sizeLine := by
    rw [rep7_length, sizeLine_eq]
    omega
  refine PySem.P.mul_str (by decide) (fun _ _ => ?_) (fun _ _ => decide_eq_false hl) ?_
  · have e : ((2 ^ 63 - 1 : Int) / 7) = 1317624576693539401 := by decide
    rw [e]
    omega
  · rw [if_neg (by decide), if_neg (by rw [e2]; decide)]
    exact ⟨hn, ⟨.str (rep7 z), H, I.tok _, ⟨_, rfl⟩, q⟩⟩
end

/-! ### enumerate over a tuple, a text -/
def ItG (n : Nat) (G : Hp → Prop) (V0 : Nat → V → Prop) : It :=
  ⟨fun i H => G H ∧ i < n, fun i H v H' => ∃ T x, v = .ref T ∧ H T = none ∧ H' = upd H T (.tup [.int (i : Nat), x]) ∧ V0 i x, fun i H => G H ∧ i = n⟩
def IteT (K : PySem.W.Frag) (a : Addr) (xs : List V) : It := ItG xs.length (fun H => SqT K H a xs) (fun i x => xs[i]? = some x)
def IteS (z : Str) : It := ItG z.cps.size (fun _ => True) (fun i x => ∃ c, z.cps[i]? = some c ∧ x = .str ⟨#[c]⟩)
theorem turn_enumG {P : Program} {w : World} {K : PySem.W.Frag} {elts : List Expr} {kk : Nat} {tpos : Pos} {n : Nat} {G : Hp → Prop} {V0 : Nat → V → Prop} (e it : Addr) (fp0 : List Addr) (St0 : Nat → Heap → Prop) (hne : e ≠ it)
    (ob : ∀ i h, St0 i h → ∃ o, h.get? it = some o ∧ ∀ v, o.data ≠ .cell v) (kp : ∀ i h h', St0 i h → (∀ o, h.get? it = some o → h'.get? it = some o) → St0 i h')
    (dr : ∀ (X : Cx) (pins : List (Addr × Obj)) (s : Shared) (σ : L2.St) (H : Hp), X.prog = P → X.w = w → X.K = K → X.calm = true → Inv X pins σ H s → H e = none → H it = none → (∃ i, St0 i s.heap) → G H →
      ∃ (fp : List Addr) (Pv : Nat → Value → Prop) (St : Nat → Heap → Prop), Draws P w X.A.in1 it fp n Pv St ∧ e ∉ fp ∧ (∀ i u, Pv i u → ∃ x, RelV x u ∧ V0 i x) ∧ (∀ i, St0 i s.heap → St i s.heap) ∧ (∀ i h, St i h → St0 i h)) :
    Turn P w K (.Tuple elts kk tpos) (ItG n G V0) [e, it] e (fun i h => (∃ old, IsEnum h e it ((i : Nat) : Int) old) ∧ St0 i h) where
  mem := by simp
  obj := fun i h st b hb => by
    obtain ⟨⟨old, he⟩, hi⟩ := st
    have e' : b = e ∨ b = it := by simpa using hb
    rcases e' with z | z
    · rw [z]; exact ⟨_, he, fun v q => nomatch q⟩
    · rw [z]; exact ob i h hi
  keep := fun i h h' st k => let ⟨⟨old, he⟩, hi⟩ := st; ⟨⟨old, k e (by simp) _ he⟩, kp i h h' hi fun o q => k it (by simp) o q⟩
  item := by
    intro X hP hw hK hc i pins s σ H E I hf st hg
    have n1 : H e = none := (hf e (by simp)).1
    have n2 : H it = none := (hf it (by simp)).1
    obtain ⟨hG, hlt⟩ := hg
    obtain ⟨fp, Pv, St, D, hef, hv, hs, hs'⟩ := dr X pins s σ H hP hw hK hc I n1 n2 ⟨i, st.2⟩ hG
    subst hP hw hK
    obtain ⟨⟨old, he⟩, hi⟩ := st
    have hel : e < s.heap.objs.size := Heap.lt_size he
    have hil : it < s.heap.objs.size := by obtain ⟨_, q, _⟩ := ob i _ hi; exact Heap.lt_size q
    refine wpAny_pyNext_enum_itemD D he (hs i hi) hlt hne hef fun u h' tk hP ho hst hT hsz hk => ?_
    obtain ⟨x, ru, hx⟩ := hv i u hP
    refine ⟨_, rfl, wpAny_letOwnedTupleGo_enum (s := { s with heap := h', toks := tk + 1 }) ho fun h'' he' sb => ?_⟩
    have hT2 : h''.get? s.heap.objs.size = some { cls := .type "tuple", data := .seq #[.int i tk, u] } := (sb.2 _ (Nat.ne_of_gt hel)).trans hT
    have new : ObjOk X.prog X.w (upd H s.heap.objs.size (.tup [.int (i : Nat), x])) h'' s.heap.objs.size (.tup [.int (i : Nat), x]) :=
      ⟨by show 2 ≤ sizeLine; decide, [.int i tk, u], .cons ⟨_, rfl⟩ (.cons ru .nil), ⟨_, hT2, rfl, _, rfl⟩⟩
    have I1 : Inv X pins σ (upd H s.heap.objs.size (.tup [.int (i : Nat), x])) { s with heap := h'', toks := tk + 1 } :=
      I.turnedNew (ch := [e, it]) (fun b ob hb q => (sb.2 b (fun z => hb (by simp [z]))).trans (hk b ob (fun z => hb (by simp [z])) (fun z => hb (by simp [z])) q)) hf (Nat.le_refl _) new
    refine ⟨.ref s.heap.objs.size, _, I1, rfl, ⟨_, x, rfl, I.hok.fresh (Nat.le_refl _), rfl, hx⟩, ⟨⟨u, ?_⟩, kp _ h' _ (hs' _ _ hst) fun o q => (sb.2 it (Ne.symm hne)).trans q⟩, fun b hb => ?_⟩
    · have e1 : ((i + 1 : Nat) : Int) = (i : Int) + 1 := by omega
      rw [e1]; exact he'
    · have hb' : b < s.heap.objs.size := by
        have e' : b = e ∨ b = it := by simpa using hb
        rcases e' with z | z
        · rw [z]; exact hel
        · rw [z]; exact hil
      rw [upd_ne (Nat.ne_of_lt hb')]
      exact (hf b hb).1
  done := by
    intro X hP hw hK hc i pins s σ H E I hf st hg
    have n1 : H e = none := (hf e (by simp)).1
    have n2 : H it = none := (hf it (by simp)).1
    obtain ⟨hG, hle⟩ := hg
    obtain ⟨fp, Pv, St, D, hef, hv, hs, hs'⟩ := dr X pins s σ H hP hw hK hc I n1 n2 ⟨i, st.2⟩ hG
    subst hP hw hK
    obtain ⟨⟨old, he⟩, hi⟩ := st
    obtain ⟨f0, f1, f2, f3, f4, f5⟩ := hf it (by simp)
    subst hle
    exact wpAny_pyNext_enum_endD D he (hs _ hi) fun h' eb => ⟨rfl, I.turned (t' := s.toks) (fun b o hb q => eb b o hb q) f0 f1 f3 f4 f5⟩
  self := fun A i s Q E st h => let ⟨⟨_, he⟩, _⟩ := st; wpAny_pyIter_enum he h

theorem turn_enumT {P : Program} {w : World} {K : PySem.W.Frag} {elts : List Expr} {kk : Nat} {tpos : Pos} {a : Addr} {xs : List V} (e it : Addr) (hne : e ≠ it) :
    Turn P w K (.Tuple elts kk tpos) (IteT K a xs) [e, it] e (fun i h => (∃ old, IsEnum h e it ((i : Nat) : Int) old) ∧ (h.IsTupleIter it a i ∧ a ≠ e ∧ a ≠ it)) := by
  refine turn_enumG e it [it, a] (fun i h => h.IsTupleIter it a i ∧ a ≠ e ∧ a ≠ it) hne ?_ ?_ ?_
  · rintro i h ⟨⟨o, ho, hc, hd⟩, _⟩
    exact ⟨o, ho, fun v q => by rw [hd] at q; cases q⟩
  · rintro i h h' ⟨⟨o, ho, hc, hd⟩, r⟩ k
    exact ⟨⟨o, k o ho, hc, hd⟩, r⟩
  · rintro X pins s σ H hP hw hK hc I n1 n2 ⟨_, _, c⟩ hG
    subst hP hw hK
    obtain ⟨its, rv, p, hz⟩ := I.tuple hG
    refine ⟨[it, a], _, _, by have D := Draws.tuple (prog := X.prog) (w := X.w) (A := X.A.in1) (I.ok.hd hc) it a c.2 its.toArray; rw [List.size_toArray, ← rv.length] at D; exact D, ?_, ?_, ?_, ?_⟩
    · simp only [List.mem_cons, List.not_mem_nil, or_false, not_or]
      exact ⟨hne, Ne.symm c.1⟩
    · intro i u hu
      have hu : its[i]? = some u := by simpa using hu
      have hlt : i < xs.length := by rw [rv.length]; exact (List.getElem?_eq_some_iff.mp hu).1
      have hx : xs[i]? = some xs[i] := List.getElem?_eq_getElem hlt
      obtain ⟨u', hu', r⟩ := rv.get hx
      rw [hu] at hu'
      cases hu'
      exact ⟨_, r, hx⟩
    · exact fun i h => ⟨h.1, p⟩
    · exact fun i h st => ⟨st.1, c⟩
theorem turn_enumS {P : Program} {w : World} {K : PySem.W.Frag} {elts : List Expr} {kk : Nat} {tpos : Pos} {z : Str} {t : Tok} (e it : Addr) (hne : e ≠ it) :
    Turn P w K (.Tuple elts kk tpos) (IteS z) [e, it] e (fun i h => (∃ old, IsEnum h e it ((i : Nat) : Int) old) ∧ h.IsStrIter it (strIterType z) z t i) := by
  refine turn_enumG e it [it] (fun i h => h.IsStrIter it (strIterType z) z t i) hne ?_ ?_ ?_
  · rintro i h ⟨o, ho, hc, hd⟩
    exact ⟨o, ho, fun v q => by rw [hd] at q; cases q⟩
  · rintro i h h' ⟨o, ho, hc, hd⟩ k
    exact ⟨o, k o ho, hc, hd⟩
  · rintro X pins s σ H hP hw hK hc I n1 n2 _ hG
    subst hP hw hK
    refine ⟨[it], _, _, Draws.text (prog := X.prog) (w := X.w) (A := X.A.in1) (I.ok.hd hc) it z t, ?_, ?_, ?_, ?_⟩
    · simp only [List.mem_cons, List.not_mem_nil, or_false]
      exact hne
    · rintro i u ⟨c, u', hc', rfl⟩
      exact ⟨.str ⟨#[c]⟩, ⟨_, rfl⟩, c, hc', rfl⟩
    · exact fun i h => h
    · exact fun i h st => st
def iEnumT (K : PySem.W.Frag) (ta : TA) : TI := fun σ H R => ta σ H fun vs H1 => ∃ a xs, vs = [.ref a] ∧ SqT K H1 a xs ∧ R (IteT K a xs) H1
def iEnumS (ta : TA) : TI := fun σ H R => ta σ H fun vs H1 => ∃ z, vs = [.str z] ∧ R (IteS z) H1
theorem pi_enumS {X : Cx} {e : Expr} {ta : TA} {p pos tpos : Pos} {elts : List Expr} {kk : Nat} (hg : Gl X "enumerate") (hm : X.mg "enumerate" = none) (ha : PA X [e] ta) (hs : starEach [e] X.env = [(false, eval e X.env)] := by rfl) :
    PI X (.Tuple elts kk tpos) (.Call (.Name "enumerate" p) [e] [] pos) (iEnumS ta) := by
  refine ⟨fun pins s σ H R I h => ?_⟩
  refine Call_ (ld_blt I hg hm boot_enumerate (PyProof.Rows.callWith_type1 (thn (ha.run pos pins s σ H _ I h) fun us s1 ⟨vs, H1, I1, r1, q1⟩ => ?_) hs rfl))
  obtain ⟨z, ex, q⟩ := q1
  subst ex
  obtain ⟨u, rfl, t, rfl⟩ := vals1 r1
  refine call_enumerate_str fun h' he hit hsz hk => wpAny_pyIter_enum he ?_
  have I2 : Inv X pins σ H1 { s1 with heap := h' } := I1.kept (t' := s1.toks) hk
  refine ⟨s1.heap.objs.size + 1, [s1.heap.objs.size + 1, s1.heap.objs.size], _, _, H1, rfl, I2, turn_enumS (s1.heap.objs.size + 1) s1.heap.objs.size (Nat.succ_ne_self _), ⟨⟨.none, he⟩, hit⟩, fun b hb => ?_, q⟩
  have e' : b = s1.heap.objs.size + 1 ∨ b = s1.heap.objs.size := by simpa using hb
  have hle : s1.heap.objs.size ≤ b := by
    rcases e' with z | z
    · rw [z]; exact Nat.le_add_right _ _
    · rw [z]; exact Nat.le_refl _
  exact I1.fpOk hle (I1.hok.fresh hle)
theorem meets_enumT (l : Addr) (items : Array Value) :
    Meets (Builtin.«enumerate.__new__» ⟨[.type "enumerate", .ref l], []⟩) (fun _ R s => s.heap.IsTuple l items ∧
      R (.ok (.ret (.ref (s.heap.push { cls := .type "tuple_iterator", data := .fields #[.ref l, .int 0 0] }).objs.size)))
        { s with heap := (s.heap.push { cls := .type "tuple_iterator", data := .fields #[.ref l, .int 0 0] }).push { cls := .type "enumerate", data := .fields #[.none, .bool false, .ref s.heap.objs.size, rawInt 0, .none, .none] } }) :=
  .of_wp fun prog w A R s h => by
    obtain ⟨hp, g, d, tk, os⟩ := s; obtain ⟨hl, h⟩ := h
    have hsub := sub_enumerate
    have q1 : ∀ {A' : Around} {E : Value → Shared → Prop} {Q : Value → Shared → Prop}, Q (.ref hp.objs.size) ⟨hp.push { cls := .type "tuple_iterator", data := .fields #[.ref l, .int 0 0] }, g, d, tk, os⟩ → wpAny (model prog w) A' (pyIter (.ref l)) Q E ⟨hp, g, d, tk, os⟩ :=
      fun q => wpAny_pyIter_tuple hl q
    wp_walk using q1
    refine wpAny_stack_any fun st => wpAny_pure ?_
    split
    · rename_i c _ _ _ _ _
      cases (c == Value.type "enumerate")
      · wp_walk using q1
        exact ⟨_, rfl, h⟩
      · wp_walk using q1
        exact ⟨_, rfl, h⟩
    · wp_walk using q1
      exact ⟨_, rfl, h⟩
theorem call_enumT {prog : Program} {w : World} {A : Around} {E : Value → Shared → Prop} {s : Shared} {l : Addr} {items : Array Value} {Q : Value → Shared → Prop} (hL : s.heap.IsTuple l items)
    (h : ∀ h', IsEnum h' (s.heap.objs.size + 1) s.heap.objs.size 0 .none → h'.IsTupleIter s.heap.objs.size l 0 → h'.objs.size = s.heap.objs.size + 2 →
      (∀ b o, s.heap.get? b = some o → h'.get? b = some o) → Q (.ref (s.heap.objs.size + 1)) { s with heap := h' }) :
    wpAny (model prog w) A (call (.type "enumerate") [.ref l]) Q E s := by
  refine callType_new PySem.F.called_enumerate (by decide) (PySem.F.typeCall_enumerate_1 _) (PySem.F.newCall_enumerate_1 _) (fun obj => PySem.F.args_object_init_2 obj _) PySem.F.entry_enumerate_new
    (meets_enumT l items) ⟨hL, ?_⟩
  have hz : (s.heap.push { cls := .type "tuple_iterator", data := .fields #[.ref l, .int 0 0] }).objs.size = s.heap.objs.size + 1 := Heap.size_push ..
  show _ ∧ _
  rw [hz]
  have he : IsEnum ((s.heap.push { cls := .type "tuple_iterator", data := .fields #[.ref l, .int 0 0] }).push
      { cls := .type "enumerate", data := .fields #[.none, .bool false, .ref s.heap.objs.size, rawInt 0, .none, .none] }) (s.heap.objs.size + 1) s.heap.objs.size 0 .none := by
    have := Heap.get?_push_size (s.heap.push { cls := .type "tuple_iterator", data := .fields #[.ref l, .int 0 0] })
      (o := { cls := .type "enumerate", data := .fields #[.none, .bool false, .ref s.heap.objs.size, rawInt 0, .none, .none] }) rfl
    rw [hz] at this; exact this
  refine ⟨⟨_, he, rfl⟩, h _ he ⟨_, Heap.get?_push_of_some _ (Heap.get?_push_size _ rfl), rfl, rfl⟩ (by rw [Heap.size_push, hz]) fun b o y => Heap.get?_push_of_some _ (Heap.get?_push_of_some _ y)⟩
theorem pi_enumT {X : Cx} {e : Expr} {ta : TA} {p pos tpos : Pos} {elts : List Expr} {kk : Nat} (hg : Gl X "enumerate") (hm : X.mg "enumerate" = none) (ha : PA X [e] ta) (hs : starEach [e] X.env = [(false, eval e X.env)] := by rfl) :
    PI X (.Tuple elts kk tpos) (.Call (.Name "enumerate" p) [e] [] pos) (iEnumT X.K ta) := by
  refine ⟨fun pins s σ H R I h => ?_⟩
  refine Call_ (ld_blt I hg hm boot_enumerate (PyProof.Rows.callWith_type1 (thn (ha.run pos pins s σ H _ I h) fun us s1 ⟨vs, H1, I1, r1, q1⟩ => ?_) hs rfl))
  obtain ⟨a, xs, ex, hq, q⟩ := q1
  subst ex
  obtain ⟨u, rfl, rx⟩ := vals1 r1
  cases rx
  obtain ⟨its, rv, p', hz⟩ := I1.tuple hq
  have hal : a < s1.heap.objs.size := by obtain ⟨o, ho, _⟩ := id p'; exact Heap.lt_size ho
  refine call_enumT p' fun h' he hit hsz hk => wpAny_pyIter_enum he ?_
  have I2 : Inv X pins σ H1 { s1 with heap := h' } := I1.kept (t' := s1.toks) hk
  refine ⟨s1.heap.objs.size + 1, [s1.heap.objs.size + 1, s1.heap.objs.size], _, _, H1, rfl, I2, turn_enumT (s1.heap.objs.size + 1) s1.heap.objs.size (Nat.succ_ne_self _), ⟨⟨.none, he⟩, hit, Nat.ne_of_lt (Nat.lt_succ_of_lt hal), Nat.ne_of_lt hal⟩, fun b hb => ?_, q⟩
  have e' : b = s1.heap.objs.size + 1 ∨ b = s1.heap.objs.size := by simpa using hb
  have hle : s1.heap.objs.size ≤ b := by
    rcases e' with z | z
    · rw [z]; exact Nat.le_add_right _ _
    · rw [z]; exact Nat.le_refl _
  exact I1.fpOk hle (I1.hok.fresh hle)
def YPr (n : Nat) (V0 : Nat → V → Prop) : Nat → Hp → V → Hp → Prop := fun i H v H' => ∃ T x, v = .ref T ∧ H T = none ∧ H' = upd H T (.tup [.int (i : Nat), x]) ∧ V0 i x
theorem walk_enumG {n : Nat} {G : Hp → Prop} {V0 : Nat → V → Prop} : Walk (ItG n G V0) n G (YPr n V0) := ⟨fun i _ hi q => ⟨q, hi⟩, fun _ q => ⟨q, rfl⟩, fun _ _ _ _ _ _ y => y⟩
/-- a dict comprehension over any walk -/
theorem dc_it {J : It} {n : Nat} {G : Hp → Prop} {Y : Nat → Hp → V → Hp → Prop} (wk : Walk J n G Y) {g : TG} {tt : TT} {tk tv : TE} {vs : List Nat} {σ : L2.St} {H1 : Hp} {D : Addr} {Qd : Hp → Prop} (Pv : Nat → Hp → Prop) (h0 : Pv 0 (upd H1 D (.dK []))) (hl : ∀ i H, i ≤ n → Pv i H → G H)
    (hs : ∀ i x H H', i < n → Pv i H → Y i H x H' → g x (wipe σ vs) H' fun σ2 H2 => wipe σ2 vs = wipe σ vs ∧ tt σ2 H2 fun b H3 =>
      if b = true then tk σ2 H3 fun y H4 => tv σ2 H4 fun z H5 => ∃ kvs k, y = kV k ∧ H5 D = some (.dK kvs) ∧ kvs.length < sizeLine ∧ Pv (i + 1) (upd H5 D (.dK (putK kvs k z))) else Pv (i + 1) H3) (hd : ∀ H, Pv n H → Qd H) :
    ∃ W : Nat → Nat → Hp → Prop, (∃ m, W 0 m (upd H1 D (.dK []))) ∧ ∀ i m H, W i m H →
      (J.stop i H ∧ Qd H) ∨ (J.go i H ∧ ∃ Nx : Hp → Prop, (∀ H', Nx H' → ∃ m', m' < m ∧ W (i + 1) m' H') ∧ ∀ x H', J.yld i H x H' → g x (wipe σ vs) H' fun σ2 H2 => wipe σ2 vs = wipe σ vs ∧ tt σ2 H2 fun b H3 =>
        if b = true then tk σ2 H3 fun y H4 => tv σ2 H4 fun z H5 => ∃ kvs k, y = kV k ∧ H5 D = some (.dK kvs) ∧ kvs.length < sizeLine ∧ Nx (upd H5 D (.dK (putK kvs k z))) else Nx H3) := by
  refine ⟨fun i m H => m = n - i ∧ i ≤ n ∧ Pv i H, ⟨n, by simp, Nat.zero_le _, h0⟩, ?_⟩
  rintro i m H ⟨rfl, hi, p⟩
  have q := hl i H hi p
  by_cases hlt : i < n
  · exact .inr ⟨wk.goes i H hlt q, Pv (i + 1), fun H' p' => ⟨n - (i + 1), by omega, rfl, hlt, p'⟩, fun x H' y => hs i x H H' hlt p (wk.yields i H x H' hlt q y)⟩
  · have e : i = n := by omega
    subst e
    exact .inl ⟨wk.stops H q, hd H p⟩
end PH

set_option Elab.async false
set_option linter.all false
set_option maxRecDepth 100000
set_option maxHeartbeats 4000000
/-! # set(list of texts), sorted(set of texts): the library's roads for ints, turned to texts -/
namespace PH
open PySem PySem.Spec PyProof.Rows L2
def keyT (e : Int × Value) : Str := match e.2 with | .str k _ => k | _ => Str.empty
def GoodT (w : World) (e : Int × Value) : Prop := ∃ k tk, e.2 = Value.str k tk ∧ e.1 = hashStr w k

/-- the set of ints at a: S its members, n their number; its table rises and can be walked -/
def SetT7 (w : World) (h : Heap) (a : Addr) (S : Str → Bool) (n : Nat) : Prop :=
  ∃ o es ep t, h.get? a = some o ∧ o.ExactSet ∧ o.data = .set es ep t ∧ (∀ e ∈ es.toList, GoodT w e) ∧ (es.toList.map keyT).Nodup ∧ (∀ k, S k = true ↔ k ∈ es.toList.map keyT) ∧
    es.size < scanBound ∧ t.fits es.size = true ∧ es.size = n ∧ Ris t.place.toList ∧ (w.params.followText "set-order" = true ∨ t.led = true)

section
variable {P : Program} {w : World} {h h' : Heap} {a : Addr} {S : Str → Bool} {n : Nat}

theorem SetT7.at (R : SetT7 w h a S n) (k : ∀ o, h.get? a = some o → h'.get? a = some o) : SetT7 w h' a S n := by
  obtain ⟨o, es, ep, t, ho, r⟩ := R
  exact ⟨o, es, ep, t, k o ho, r⟩
theorem SetT7.lt (R : SetT7 w h a S n) : a < h.objs.size := by
  obtain ⟨o, es, ep, t, ho, r⟩ := R
  exact Heap.lt_size ho
theorem SetT7.congr {S' : Str → Bool} (R : SetT7 w h a S n) (e : ∀ k, S' k = S k) : SetT7 w h a S' n := by
  have q : S' = S := funext e
  rw [q]; exact R
theorem goodT_elems {l : List (Int × Value)} (g : ∀ e ∈ l, GoodT w e) : ElemsOf (PySem.strKind P w) l := fun e he => by
  obtain ⟨k, tk, h1, h2⟩ := g e he
  exact ⟨⟨k, by rw [h1]; exact PySem.strKind_is P w k tk, h2⟩, by rw [h1] <;> rfl⟩
theorem goodT_is {e : Int × Value} (g : GoodT w e) (k : Str) : (PySem.strKind P w).is k e.2 = true ↔ keyT e = k := by
  obtain ⟨k0, tk, h1, _⟩ := g
  unfold keyT
  rw [h1]
  show ((k0 == k) = true) ↔ k0 = k
  exact beq_iff_eq
theorem goodT_mem {l : List (Int × Value)} (g : ∀ e ∈ l, GoodT w e) (k : Str) : k ∈ l.map keyT ↔ ∃ e ∈ l, (PySem.strKind P w).is k e.2 = true := by
  rw [List.mem_map]
  constructor
  · rintro ⟨e, he, q⟩
    exact ⟨e, he, (goodT_is (g e he) k).2 q⟩
  · rintro ⟨e, he, q⟩
    exact ⟨e, he, (goodT_is (g e he) k).1 q⟩
theorem SetT7.setOf (R : SetT7 w h a S n) : h.SetOf (PySem.strKind P w) a S n := by
  obtain ⟨o, es, ep, t, ho, hx, hd, g, nd, hm, hb, hf, hn, _⟩ := R
  exact ⟨o, es, ep, t, ho, hx, hd, goodT_elems g, fun k => (hm k).trans (goodT_mem g k), hb, hf, hn⟩
end

section
variable {P : Program} {w : World} {A : Around} {E : Value → Shared → Prop} {s : Shared} {a : Addr} {S : Str → Bool} {n : Nat}

/-! ### add -/
theorem setT7_add_tail {g : Bool → Sem Unit} (hg : ∀ (b : Bool) (s₁ : Shared) (Q' : Unit → Shared → Prop), Q' () s₁ → wpAny (model P w) A (g b) Q' E s₁)
    {o : Obj} {es : Array (Int × Value)} {ep : Nat} {t : SetTable} (ho : s.heap.get? a = some o) (hex : o.ExactSet) (hd : o.data = .set es ep t)
    {es1 : Array (Int × Value)} {t2 : SetTable} {S' : Str → Bool} (g1 : ∀ e ∈ es1.toList, GoodT w e) (nd1 : (es1.toList.map keyT).Nodup) (m1 : ∀ k, S' k = true ↔ k ∈ es1.toList.map keyT)
    (hb1 : es1.size < scanBound) (hf2 : t2.fits es1.size = true) (hr : Ris t2.place.toList) (hl : w.params.followText "set-order" = true ∨ t2.led = true) {wasDummy : Bool} {R : Option Bool → Shared → Prop}
    (hR : ∀ h', Heap.SameBut a s.heap h' → SetT7 w h' a S' es1.size → R (some true) { s with heap := h' }) :
    wpAny (model P w) A (do
        storeSet a es1 t2
        if (!wasDummy && t2.tooFull) = true then do
            g (relayAll t2 es1 (SetTable.grown es1.size)).2.2
            storeSet a (relayAll t2 es1 (SetTable.grown es1.size)).1 (relayAll t2 es1 (SetTable.grown es1.size)).2.1
            pure (some true)
          else pure (some true)) R E s := by
  refine wpAny_bind (wpAny_storeSet_of ho hd ?_ (fits_of_scanBound hb1))
  have ho1 := store_at (es' := es1) (t' := t2) ho hd
  have sb1 := Heap.SameBut.update s.heap a (Obj.putSet es1 t2)
  split
  · have pm := relayAll_perm t2 es1 (SetTable.grown es1.size)
    have hf3 := relayAll_fits t2 es1 (SetTable.grown es1.size)
    have hr3 := relayAll_ris t2 es1 (SetTable.grown es1.size)
    have hl3 := relayAll_led t2 es1 (SetTable.grown es1.size)
    generalize relayAll t2 es1 (SetTable.grown es1.size) = Z at pm hf3 hr3 hl3 ⊢
    obtain ⟨es2, t3, gave⟩ := Z
    dsimp only at pm hf3 hr3 hl3 ⊢
    have hsz : es2.size = es1.size := by rw [← Array.length_toList, pm.length_eq, Array.length_toList]
    have hb2 : es2.size < scanBound := by rw [hsz]; exact hb1
    refine wpAny_bind (hg _ _ _ ?_)
    refine wpAny_bind (wpAny_storeSet_of ho1 rfl ?_ (fits_of_scanBound hb2))
    have ho2 := store_at (es' := es2) (t' := t3) ho1 rfl
    refine wpAny_pure (hR _ (sb1.trans (Heap.SameBut.update _ a _)) ?_)
    exact ⟨_, es2, _, t3, ho2, hex, rfl, fun e he => g1 e (pm.mem_iff.mp he), (pm.map keyT).nodup_iff.mpr nd1, fun k => (m1 k).trans (pm.map keyT).mem_iff.symm, hb2, hf3, hsz, hr3,
      hl.imp id fun z => by rw [hl3]; exact z⟩
  · exact wpAny_pure (hR _ sb1 ⟨_, es1, _, t2, ho1, hex, rfl, g1, nd1, m1, hb1, hf2, rfl, hr, hl⟩)

theorem setT7_add_hashed {k : Str} {tk : Tok} {Q : Bool → Shared → Prop} (R : SetT7 w s.heap a S n) (room : n + 1 < scanBound)
    (hQ : ∀ h', Heap.SameBut a s.heap h' → SetT7 w h' a (fun j => S j || decide (j = k)) (if S k = true then n else n + 1) → Q (!S k) { s with heap := h' }) :
    wpAny (model P w) A (setAddHashed a (.str k tk) ((PySem.strKind P w).hash k)) Q E s := by
  obtain ⟨o, es, ep, t, ho, hex, hd, g, nd, hm, hb, hf, hn, hr, hl⟩ := R
  have hkey : (PySem.strKind P w).is k (.str k tk) = true := PySem.strKind_is P w k tk
  have hsc : (Value.str k tk).scannable = true := rfl
  have hel : ElemsOf (PySem.strKind P w) es.toList := goodT_elems g
  unfold setAddHashed setAddHashedIn
  refine wpAny_holding (wpAny_bind (wpAny_setState_of ho hd hf ?_))
  dsimp only
  rw [byScan_of hsc hb hel]
  simp only [↓reduceIte]
  unfold setAddByScan
  refine wpAny_bind ?_
  refine wpAny_bind (wpAny_rule ?_)
  refine wpAny_bind (wpAny_setScan_of hkey ho hd hf hel ?_)
  cases hfi : List.findIdx? (fun e => (PySem.strKind P w).is k e.2) es.toList with
  | some j =>
    dsimp only
    obtain ⟨hj, pj, _⟩ := List.findIdx?_eq_some_iff_getElem.mp hfi
    have hSk : S k = true := (hm k).2 ((goodT_mem (P := P) (w := w) g k).2 ⟨es.toList[j], List.getElem_mem hj, pj⟩)
    refine wpAny_pure (wpAny_pure ?_)
    have q := hQ s.heap (Heap.SameBut.refl a s.heap) ⟨o, es, ep, t, ho, hex, hd, g, nd, fun i => by
      rw [Bool.or_eq_true, decide_eq_true_eq, ← hm i]
      exact ⟨fun z => z.elim id (fun e => e ▸ hSk), .inl⟩, hb, hf, by rw [if_pos hSk]; exact hn, hr, hl⟩
    rw [hSk] at q
    exact q
  | none =>
    dsimp only
    have hnk : k ∉ es.toList.map keyT := fun z => by
      obtain ⟨e, he, q⟩ := (goodT_mem (P := P) (w := w) g k).1 z
      have c := List.findIdx?_eq_none_iff.mp hfi e he
      rw [q] at c
      cases c
    have hSk : S k = false := by
      cases q : S k with
      | false => rfl
      | true => exact absurd ((hm k).1 q) hnk
    have hgw : ∀ (b : Bool) {s₁ : Shared} {Q' : Unit → Shared → Prop}, Q' () s₁ → wpAny (model P w) A (match b with | true => rule "set.scan.the-table-gave-way" | false => pure ()) Q' E s₁ :=
      fun b s₁ Q' q => by cases b <;> first | exact wpAny_pure q | exact wpAny_rule q
    have pm := layNew_perm t es ((PySem.strKind P w).hash k) (.str k tk)
    have hf1 := layNew_fits t es ((PySem.strKind P w).hash k) (.str k tk)
    have hr1 := layNew_ris t es ((PySem.strKind P w).hash k) (.str k tk) hr
    have hl1 := layNew_led t es ((PySem.strKind P w).hash k) (.str k tk)
    generalize layNew t es ((PySem.strKind P w).hash k) (.str k tk) = Z at pm hf1 hr1 hl1 ⊢
    obtain ⟨es1, t1, wasDummy, gave⟩ := Z
    dsimp only at pm hf1 hr1 hl1 ⊢
    rw [Array.toList_push] at pm
    have pc : es1.toList.Perm (((PySem.strKind P w).hash k, Value.str k tk) :: es.toList) := pm.trans (List.perm_append_singleton _ _)
    have pk : (es1.toList.map keyT).Perm (k :: es.toList.map keyT) := pc.map keyT
    have g1 : ∀ e ∈ es1.toList, GoodT w e := fun e he => by
      rcases List.mem_cons.mp (pc.mem_iff.mp he) with z | z
      · rw [z]; exact ⟨k, tk, rfl, rfl⟩
      · exact g e z
    have nd1 : (es1.toList.map keyT).Nodup := pk.nodup_iff.mpr (List.nodup_cons.mpr ⟨hnk, nd⟩)
    have m1 : ∀ i, (S i || decide (i = k)) = true ↔ i ∈ es1.toList.map keyT := fun i => by
      rw [Bool.or_eq_true, decide_eq_true_eq, hm i, pk.mem_iff, List.mem_cons]
      exact Or.comm
    have hsz : es1.size = n + 1 := by rw [← Array.length_toList, pc.length_eq, List.length_cons, Array.length_toList, hn]
    have hb1 : es1.size < scanBound := by rw [hsz]; exact room
    have hled : w.params.followText "set-order" = true ∨ t1.led = true := hl.imp id fun z => by rw [hl1]; exact z
    have fin : ∀ h', Heap.SameBut a s.heap h' → SetT7 w h' a (fun j => S j || decide (j = k)) es1.size → Q true { s with heap := h' } := fun h' sb r => by
      have q := hQ h' sb
      rw [hSk] at q
      rw [hsz] at r
      exact q r
    refine wpAny_bind (hgw _ ?_)
    split
    · refine wpAny_bind ?_
      rw [hashByValue_scannable 8 hsc]
      refine wpAny_pure ?_
      refine setT7_add_tail ?_ ho hex hd g1 nd1 m1 hb1 ?_ ?_ ?_ ?_
      · intro b s₁ Q' q; cases b <;> first | exact wpAny_pure q | exact wpAny_rule q
      · first | (split <;> first | exact hf1 | exact SetTable.fits_plain_off hf1) | exact hf1
      · first | (split <;> exact hr1) | exact hr1
      · first | (split <;> exact hled) | exact hled
      · intro h' sb r; dsimp only; exact wpAny_pure (fin h' sb r)
    · refine wpAny_bind (wpAny_pure ?_)
      simp only [↓reduceIte]
      refine setT7_add_tail ?_ ho hex hd g1 nd1 m1 hb1 hf1 hr1 hled ?_
      · intro b s₁ Q' q; cases b <;> first | exact wpAny_pure q | exact wpAny_rule q
      · intro h' sb r; dsimp only; exact wpAny_pure (fin h' sb r)

end
theorem setT7_new_at {w : World} {h : Heap} {a : Addr} {ns : List Str} (ho : h.get? a = some { cls := .type "set", dict := none, data := .set #[] 0 (.fresh 0 0 (!w.params.followText "set-order")) }) : SetT7 w h a (fun j => decide (j ∈ ns.take 0)) 0 :=
  ⟨_, #[], 0, _, ho, ⟨rfl, rfl, rfl⟩, rfl, (fun e he => by simp at he), (by simp), (fun k => by simp), (by decide), (by rfl), rfl, List.Pairwise.nil, by
    show _ ∨ (!w.params.followText "set-order") = true
    cases w.params.followText "set-order"
    · exact .inr rfl
    · exact .inl rfl⟩
section
variable {P : Program} {w : World} {A : Around} {E : Value → Shared → Prop} {s : Shared}
theorem set_update_strs7 {I : Addr} {fp wr : List Addr} {G : Array GenState → Array GenState → Prop} {n : Nat} {Pv : Nat → Value → Prop} {St : Nat → Shared → Prop} {R : Result → Shared → Prop}
    (W : WalksS P w A.in1 I fp wr G n Pv St) (S : Addr) (hSf : S ∉ fp) (ns : List Str) (hn : n = ns.length) (hb : ns.length + 1 < scanBound) (hval : ∀ i v, Pv i v → ∃ k t, ns[i]? = some k ∧ v = .str k t) :
    ∀ (k i : Nat) (s : Shared), n - i = k → i ≤ n → St i s → (∃ c, c ≤ i ∧ SetT7 w s.heap S (fun j => decide (j ∈ ns.take i)) c) →
      (∀ s' c, Moved (S :: wr) G s s' → c ≤ n → SetT7 w s'.heap S (fun j => decide (j ∈ ns)) c → R (.ok (.ret .none)) s') →
      codeAny (model P w) A (.builtin "set.update.loop" ⟨[.ref S, .ref I], []⟩) R s := by
  have hSw : S ∉ wr := fun h => hSf (W.sub _ h)
  have hsub : ∀ b ∈ wr, b ∈ S :: wr := fun b hb => List.mem_cons_of_mem _ hb
  intro k
  induction k with
  | zero =>
    intro i s hk' hi hst ⟨c, hc, hS⟩ hR
    have hin : i = n := by omega
    subst hin
    refine codeAny_builtin F.entry_set_update_loop ?_
    rw [Around.under_plainId F.plain_set_update_loop _]
    show wpAny _ A.in1 (pyNext (.ref I) >>= _) _ _ s
    refine wpAny_bind (W.done s _ _ hst fun s' hm => ?_)
    show wpAny _ A.in1 (ret Value.none) _ _ s'
    have e : ns.take i = ns := List.take_of_length_le (by omega)
    rw [e] at hS
    exact wpAny_pure (hR s' c (hm.mono hsub) hc (hS.at fun o e => hm.heap S o hSw e))
  | succ k ih =>
    intro i s hk' hi hst ⟨c, hc, hS⟩ hR
    have hlt : i < n := by omega
    refine codeAny_builtin F.entry_set_update_loop ?_
    rw [Around.under_plainId F.plain_set_update_loop _]
    show wpAny _ A.in1 (pyNext (.ref I) >>= _) _ _ s
    refine wpAny_bind (W.item i s _ _ hlt hst fun v s' hP hst' hm => ?_)
    obtain ⟨z, t, hz, rfl⟩ := hval i v hP
    have hS' : SetT7 w s'.heap S (fun j => decide (j ∈ ns.take i)) c := hS.at fun o e => hm.heap S o hSw e
    show wpAny _ A.in1 (holding [Value.str z t] (setAdd S (.str z t)) >>= _) _ _ s'
    refine wpAny_bind (wpAny_holding ?_)
    unfold setAdd
    refine wpAny_holding ?_
    refine wpAny_bind ((PySem.strKind P w).pyHash (k := z) (PySem.strKind_is _ _ _ _) ?_)
    refine setT7_add_hashed (s := { s' with toks := s'.toks + 1 }) hS' (by omega) fun h' hsb hS2 => ?_
    have hS3 : SetT7 w h' S (fun j => decide (j ∈ ns.take (i + 1))) (if decide (z ∈ ns.take i) = true then c else c + 1) := hS2.congr fun j => by
      rw [List.take_add_one, hz]
      simp [List.mem_append]
    have hc3 : (if decide (z ∈ ns.take i) = true then c else c + 1) ≤ i + 1 := by
      split <;> omega
    refine wpAny_pure ⟨plainId_quiet F.plain_set_update_loop _, ih (i + 1) _ (by omega) hlt (W.frame _ s' _ _ hst' (Nat.le_succ _) fun b hb o e => ?_) ⟨_, hc3, hS3⟩ fun s'' c2 hm'' hc'' hS'' => ?_⟩
    · rw [hsb.2 b (fun h : b = S => hSf (by rw [← h]; exact hb))]; exact e
    · refine hR s'' c2 (Moved.trans W.gtrans ((hm.mono hsub).then_heap (Nat.le_succ _) fun b o hb e => ?_) hm'') hc'' hS''
      rw [hsb.2 b (fun h : b = S => hb (by rw [h]; exact List.mem_cons_self))]; exact e

end
section
variable {P : Program} {w : World} {A : Around} {E : Value → Shared → Prop} {s : Shared}
set_option maxRecDepth 100000 in
set_option maxHeartbeats 3200000 in
theorem call_set_lstT {l : Addr} {items : Array Value} (ns : List Str) {Q : Value → Shared → Prop} (hh : A.handled = none) (hl : s.heap.IsList l items) (hit : StrsAre items.toList ns) (hb : ns.length + 1 < scanBound)
    (h : ∀ (h' : Heap) (tk c : Nat), SetT7 w h' s.heap.objs.size (fun j => decide (j ∈ ns)) c → c ≤ ns.length → (∀ b o, s.heap.get? b = some o → h'.get? b = some o) → Q (.ref s.heap.objs.size) { s with heap := h', toks := tk }) :
    wpAny (model P w) A (call (.type "set") [.ref l]) Q E s := by
  have hisz : items.size = ns.length := by
    have q := StrsAre.len_eq hit
    rw [Array.length_toList] at q
    exact q
  obtain ⟨c, tl, hmro⟩ := F.called_set.mro
  have hmade := F.called_set.made
  have hsub := F.called_set.sub
  refine wpAny_call (codeAny_of_tree ?_)
  show wpAny _ _ (callAny (.type "set") _) _ _ _
  refine wpAny_pure ⟨Code.quiet_builtin _ (by decide +kernel), codeAny_builtin F.entry_type_call ?_⟩
  rw [Around.under_plain (weight_type_call_type "set" [.ref l] []) rfl]
  have h1 := F.called_set.notType
  have h2 := F.called_set.canCreate
  have hct := F.typeCall_set_1 (.ref l)
  repeat (any_goals (first | assumption | wp_step))

  refine codeAny_mono (code_set_led1 (.ref l) (E := E) (Q₁ := fun obj s₁ => obj = .ref s.heap.objs.size ∧ s₁ = { s with heap := s.heap.push { cls := .type "set", dict := none, data := .set #[] 0 (.fresh 0 0 (!w.params.followText "set-order")) } }) ⟨rfl, rfl⟩) fun r s₁ hr => ?_
  cases r with
  | error e => exact hr
  | ok fl =>
    cases fl with
    | ret obj =>
      obtain ⟨rfl, rfl⟩ := hr
      have hS : (s.heap.push { cls := .type "set", dict := none, data := .set #[] 0 (.fresh 0 0 (!w.params.followText "set-order")) }).get? s.heap.objs.size = some { cls := .type "set", dict := none, data := .set #[] 0 (.fresh 0 0 (!w.params.followText "set-order")) } := Heap.get?_push_size _ rfl
      have hT : Shared.TypeIs { s with heap := s.heap.push { cls := .type "set", dict := none, data := .set #[] 0 (.fresh 0 0 (!w.params.followText "set-order")) } } (.ref s.heap.objs.size) "set" := ⟨_, hS, rfl⟩
      have hli := F.called_set.init.lookup
      have hbi := F.called_set.init.bind (.ref s.heap.objs.size)
      repeat (any_goals (first | assumption | wp_step))

      refine codeAny_mono (codeAny_call_builtin (R := wants (fun r s₂ => r = .none ∧ ∃ h' tk c, s₂ = { s with heap := h', toks := tk } ∧ SetT7 w h' s.heap.objs.size (fun j => decide (j ∈ ns)) c ∧ c ≤ ns.length ∧
          (∀ b o, s.heap.get? b = some o → h'.get? b = some o)) E) F.called_set.init.plain F.entry_set_init (check_set_init_1 hT ?_)) fun r₂ s₂ hr₂ => ?_
      · obtain ⟨ol, hol, hcl, nl, hdl⟩ := hl
        obtain ⟨ocls, odict, odata, oslots⟩ := ol
        simp only at hcl hdl
        subst hcl; subst hdl
        have hol' : (s.heap.push { cls := .type "set", dict := none, data := .set #[] 0 (.fresh 0 0 (!w.params.followText "set-order")) }).get? l = some { cls := .type "list", dict := odict, data := .seq items nl, slots := oslots } := Heap.get?_push_of_some _ hol
        have hsls := F.sub_list_set
        have hslf := F.sub_list_frozenset
        have hne : (Value.type "list" == Value.type "dict") = false := by decide
        have hl1 : (s.heap.push { cls := .type "set", dict := none, data := .set #[] 0 (.fresh 0 0 (!w.params.followText "set-order")) }).IsList l items := ⟨_, hol', rfl, nl, rfl⟩
        unfold Builtin.«set.__init__» noKeywords Builtin.Frozenset.updateFrom
        generalize hPI : pyIter = PI
        wp_walk
        subst hPI

        refine wpAny_pyIter_list hl1 ?_
        refine wpAny_bind (wpAny_runValue ?_)
        have hlS : l < s.heap.objs.size := Heap.lt_size hol
        have hh3 : A.in1.in1.in1.handled = none := by simp [hh]
        have hz1 : (s.heap.push { cls := .type "set", dict := none, data := .set #[] 0 (.fresh 0 0 (!w.params.followText "set-order")) }).objs.size = s.heap.objs.size + 1 := Heap.size_push ..
        have hneI : l ≠ (s.heap.push { cls := .type "set", dict := none, data := .set #[] 0 (.fresh 0 0 (!w.params.followText "set-order")) }).objs.size := by
          rw [Heap.size_push]; exact Nat.ne_of_lt (Nat.lt_succ_of_lt hlS)
        have hSf : s.heap.objs.size ∉ [(s.heap.push { cls := .type "set", dict := none, data := .set #[] 0 (.fresh 0 0 (!w.params.followText "set-order")) }).objs.size, l] := by
          rw [Heap.size_push]; simp only [List.mem_cons, List.mem_singleton, List.not_mem_nil, or_false, not_or]
          exact ⟨Nat.ne_of_lt (Nat.lt_succ_self _), Nat.ne_of_gt hlS⟩
        have hval : ∀ (i : Nat) (v : Value), items[i]? = some v → ∃ k t, ns[i]? = some k ∧ v = .str k t := fun i v hv => by
          have hi : i < ns.length := by rw [← hisz]; exact (Array.getElem?_eq_some_iff.mp hv).1
          obtain ⟨t, e⟩ := SS.strs_at hit i v (by rw [Array.getElem?_toList]; exact hv)
          refine ⟨ns[i], t, List.getElem?_eq_getElem hi, ?_⟩
          rw [e, List.getD_eq_getElem?_getD, List.getElem?_eq_getElem hi] <;> rfl
        refine set_update_strs7 ((Walks.list hh3 _ l hneI items).toS) s.heap.objs.size
          hSf ns hisz hb hval (items.size - 0) 0 _ (by omega) (Nat.zero_le _)
          ⟨⟨_, Heap.get?_push_size _ rfl, rfl, rfl⟩, (hl1.push _)⟩ ?hS0 ?hR
        case hS0 =>
          have hget : ((s.heap.push { cls := .type "set", dict := none, data := .set #[] 0 (.fresh 0 0 (!w.params.followText "set-order")) }).push { cls := .type "list_iterator", data := .fields #[.ref l, .int 0 0] }).get? s.heap.objs.size
              = some { cls := .type "set", dict := none, data := .set #[] 0 (.fresh 0 0 (!w.params.followText "set-order")) } := Heap.get?_push_of_some _ hS
          exact ⟨0, Nat.le_refl 0, setT7_new_at hget⟩
        case hR =>
          intro s' c' hm hc' hS'
          obtain ⟨h', g2, d', tk', os'⟩ := s'
          have eg : g2 = s.gens := hm.gens
          have ed : d' = s.drawn := hm.drawn
          have eo : os' = s.os := hm.os
          subst eg; subst ed; subst eo
          show wpAny _ _ _ _ _ _
          refine wpAny_pure ?_
          show wpAny _ _ (ret Value.none) _ _ _
          rw [hisz] at hc'
          refine wpAny_pure ⟨rfl, h', tk', c', rfl, hS', hc', fun b o e => ?_⟩
          have hb0 : b < s.heap.objs.size := Heap.lt_size e
          have hb1 : b ≠ s.heap.objs.size := Nat.ne_of_lt hb0
          have hb2 : b ≠ (s.heap.push { cls := .type "set", dict := none, data := .set #[] 0 (.fresh 0 0 (!w.params.followText "set-order")) }).objs.size := by
            rw [Heap.size_push]; exact Nat.ne_of_lt (Nat.lt_succ_of_lt hb0)
          exact hm.heap b o (by simp only [List.mem_cons, List.mem_singleton, List.not_mem_nil, or_false, not_or]; exact ⟨hb1, hb2⟩) (Heap.get?_push_of_some _ (Heap.get?_push_of_some _ e))

      · cases r₂ with
        | error e => exact hr₂
        | ok fl₂ =>
          cases fl₂ with
          | ret r =>
            obtain ⟨rfl, h', tk, c', rfl, hS', hc', hk'⟩ := hr₂
            repeat (any_goals (first | assumption | wp_step))
            exact h _ _ _ hS' hc' hk'
          | _ => exact hr₂.elim
    | _ => exact hr.elim

end

section
variable {P : Program} {w : World} {A : Around} {E : Value → Shared → Prop} {s : Shared} {a : Addr}
theorem sorted_setT7 {S : Str → Bool} {n : Nat} {Q : Value → Shared → Prop} (R : SetT7 w s.heap a S n) (hh : A.handled = none) (h64 : n < 64)
    (hQ : ∀ s' p (out : Array Value) (c : Nat) (ns : List Str), (∀ b o, s.heap.get? b = some o → s'.heap.get? b = some o) → s'.gens = s.gens → s'.os = s.os → s.heap.objs.size ≤ p →
      s'.heap.get? p = some (seqObj "list" out c) → StrsAre out.toList ns → sortedS ns = true → ns.Nodup → (∀ k, k ∈ ns ↔ S k = true) → ns.length = n → Q (.ref p) s') :
    wpAny (model P w) A (call (.builtin "sorted") [.ref a]) Q E s := by
  obtain ⟨o, es, ep, t, ho, hex, hd, g, nd, hm, hb, hf, hn, hr, hl⟩ := R
  refine Calls.call_function_entry kind_sorted plain_sorted entry_sorted (args_sorted1 _) ?_
  unfold Builtin.«sorted»
  refine wpAny_bind (m := checkCount "sorted" 1 1 _) (wpAny_pure ?_)
  refine wpAny_bind (collect_set (A := A.in1) hh ⟨o, ho, hex.1, hd⟩ hf hb hr hl fun s1 vs k1 hz g1 o1 pm => ?_)
  have hvl : vs.length = n := by rw [pm.length_eq, List.length_map, Array.length_toList]; exact hn
  have hv : ∀ v ∈ vs, ∃ k tk, v = Value.str k tk := fun v hv => by
    obtain ⟨e, he, q⟩ := List.mem_map.mp (pm.mem_iff.mp hv)
    obtain ⟨k, tk, h1, _⟩ := g e he
    exact ⟨k, tk, by rw [← q]; exact h1⟩
  have go : ∀ (l : List Value), (∀ v ∈ l, ∃ k tk, v = Value.str k tk) → StrsAre l (l.map fun v => keyT (0, v)) := by
    intro l
    induction l with
    | nil => intro _; exact .nil
    | cons v l ih =>
      intro h
      obtain ⟨k, tk, rfl⟩ := h v List.mem_cons_self
      exact .cons k tk (ih fun u hu => h u (List.mem_cons_of_mem _ hu))
  have hI : StrsAre vs (vs.map fun v => keyT (0, v)) := go vs hv
  have pk : (vs.map fun v => keyT (0, v)).Perm (es.toList.map keyT) := by
    have q := pm.map fun v => keyT (0, v)
    rw [List.map_map] at q
    exact q
  refine wpAny_bind (wpAny_newList ?_ (by rw [hvl, sizeLine_eq]; omega))
  have hoL : (s1.heap.push (seqObj "list" vs.toArray 0)).get? s1.heap.objs.size = some (seqObj "list" vs.toArray 0) := Heap.get?_push_size _ rfl
  refine wpAny_bind (wpAny_holding (wpAny_call_entry slot_list_sort ⟨_, hoL, rfl⟩ entry_list_sort (list_sort_treeK PyProof.Rows.strKind_oneLt hoL hI.keysOf (fun v₁ v₂ rest e => keyKind_strs (by rw [← e]; exact hI)) (by rw [hvl]; exact h64) fun st' a1 a2 => ⟨_, rfl, ?_⟩) (args_list_sort _)))
  obtain ⟨ns', b1, b2, b3⟩ := sorted_out_str hI a1 a2
  obtain ⟨c, hc⟩ := sortedHeap_at (vs := vs) (out := (arrOf st').map (·.2)) hoL
  have pn : ns'.Perm (es.toList.map keyT) := b2.trans pk
  refine wpAny_pure ⟨_, rfl, hQ _ s1.heap.objs.size _ c ns' (fun b u e => ?_) g1 o1 hz hc b1 b3 (pn.nodup_iff.mpr nd) (fun k => by rw [pn.mem_iff, ← hm k]) ?_⟩
  · have q := k1 b u e
    have hlt := Heap.lt_size q
    show (sortedHeap (s1.heap.push (seqObj "list" vs.toArray 0)) s1.heap.objs.size vs _).get? b = some u
    rw [sortedHeap_old (Nat.ne_of_lt hlt) (by rw [size_push']; exact Nat.lt_succ_of_lt hlt)]
    exact Heap.get?_push_of_some _ q
  · rw [pn.length_eq, List.length_map, Array.length_toList]; exact hn
end
/-- the set of texts at a -/
def SetTO7 (w : World) (a : Addr) (S : Str → Bool) (n : Nat) : HO := .ext fun h => SetT7 w h a S n
section
variable {X : Cx}
theorem setTO7_new {w : World} {P : Program} {H : Hp} {h : Heap} {a : Addr} {S : Str → Bool} {n : Nat} (R : SetT7 w h a S n) : ObjOk P w H h a (SetTO7 w a S n) := by
  have ⟨o, _, _, _, ho, _⟩ := R
  exact ⟨R, ⟨o, ho⟩, fun h1 h2 p k => SetT7.at p k⟩
def rSetStrs (K : PySem.W.Frag) (w : World) : List V → Hp → VK → Prop := fun xs H Q => ∃ (l : Addr) (ns : List Str), xs = [V.ref l] ∧ SqL K H l (ns.map V.str) ∧ ns.length < 64 ∧
  ∀ a c, H a = none → c ≤ ns.length → Q (.ref a) (upd H a (SetTO7 w a (fun j => decide (j ∈ ns)) c))
theorem cr_set_strs (hc : X.calm = true) : CallR X (.type "set") (rSetStrs X.K X.w) := by
  intro pins s σ H xs us Q I r h
  obtain ⟨l, ns, rfl, hl, hf, q⟩ := h
  rw [Vals.ref1 r]
  obtain ⟨its, rv, pl, hz⟩ := I.list hl
  have hn : H s.heap.objs.size = none := I.hok.fresh (Nat.le_refl _)
  refine call_set_lstT (P := X.prog) (w := X.w) ns (I.ok.hd hc) pl.isList (by simpa using strsAre_of rv) (by unfold scanBound; omega) fun h' tk c R hc k => ?_
  exact ⟨.ref s.heap.objs.size, upd H s.heap.objs.size (SetTO7 X.w s.heap.objs.size (fun j => decide (j ∈ ns)) c), I.laid (t' := tk) k (Nat.le_refl _) (setTO7_new R), rfl, q _ c hn hc⟩
def rSortedStrs (w : World) : List V → Hp → VK → Prop := fun vs H Q => ∃ (a : Addr) (S : Str → Bool) (n : Nat), vs = [V.ref a] ∧ H a = some (SetTO7 w a S n) ∧ n < 64 ∧
  ∀ (ns : List Str) (p : Addr), sortedS ns = true → ns.Nodup → (∀ k, k ∈ ns ↔ S k = true) → ns.length = n → H p = none → Q (.ref p) (upd H p (.lst (ns.map V.str)))
theorem cr_sorted_strs (hc : X.calm = true) : CallR X (.builtin "sorted") (rSortedStrs X.w) := by
  intro pins s σ H vs us Q I r h
  obtain ⟨a, S, n, rfl, ha, h64, q⟩ := h
  have R : SetT7 X.w s.heap a S n := (I.hok a _ ha).1
  rw [Vals.ref1 r]
  refine sorted_setT7 R (I.ok.hd hc) h64 fun s' p out c ns k g o hp hg hi hs hnd hm hl => ?_
  have hlen : (ns.map V.str).length ≤ sizeLine := by rw [List.length_map, hl, sizeLine_eq]; omega
  have hn : H p = none := I.hok.fresh hp
  have J : Inv X pins σ (upd H p (.lst (ns.map V.str))) { s with heap := s'.heap, gens := s'.gens, drawn := s'.drawn, toks := s'.toks } :=
    I.call (ch := []) (Un.laid k hp hn) (I.hok.laid k hp ⟨hlen, out.toList, c, vals_of_strs hi, hg⟩) (by rw [g]; exact I.bare) (fun _ z => nomatch z)
  have e : s' = { s with heap := s'.heap, gens := s'.gens, drawn := s'.drawn, toks := s'.toks } := by
    cases s'
    cases s
    cases o
    rfl
  rw [e]
  exact ⟨.ref p, _, J, rfl, q ns p hs hnd hm hl hn⟩
end
end PH

set_option Elab.async false
set_option linter.all false
set_option maxRecDepth 100000
set_option maxHeartbeats 4000000
/-! # Data: types, isinstance, equality -/
namespace PH
open PySem PySem.Spec PyProof.Rows L2
section
variable {K : PySem.W.Frag} {H : Hp} {v : V} {d : PyData} {a : Addr} {xs : List V} {Q : VK}
theorem ty_sqT (h : SqT K H a xs) : TyX K H (.ref a) (.type "tuple") := by
  rcases h with (h | ⟨o, h⟩) | ⟨o, its, n, h, c, _⟩
  · exact .base (.tup h)
  · exact .fTuple h
  · exact .kTuple h c
theorem ty_sqL (h : SqL K H a xs) : TyX K H (.ref a) (.type "list") := by
  rcases h with (h | ⟨o, h⟩) | ⟨o, its, n, h, c, _⟩
  · exact .base (.lst h)
  · exact .base (.frz h)
  · exact .kList h c
def dNm : PyData → String
  | .none => "NoneType"
  | .bool _ => "bool"
  | .int _ => "int"
  | .str _ => "str"
  | .list _ => "list"
  | .tuple _ => "tuple"
  | .dict _ => "dict"
theorem ty_dp (h : Dp K H v d) : TyX K H v (.type (dNm d)) := by
  cases h with
  | non => exact .base .non
  | bl b => exact .base (.bl b)
  | int i => exact .base (.int i)
  | str x => exact .base (.str x)
  | lst hs _ => exact ty_sqL hs
  | tup hs _ => exact ty_sqT hs
def dIs (n : String) (d : PyData) : Bool := dNm d == n || (n == "int" && dNm d == "bool")
theorem isi_int (h : Dp K H v d) (q : Q (.bl (dIs "int" d)) H) : rIsi K [v, .ty "int"] H Q := by
  refine ⟨v, .ty "int", .type (dNm d), .type "int", dIs "int" d, rfl, .ty _, ty_dp h, ?_, q⟩
  cases h <;> rfl
theorem isi_bool (h : Dp K H v d) (q : Q (.bl (dIs "bool" d)) H) : rIsi K [v, .ty "bool"] H Q := by
  refine ⟨v, .ty "bool", .type (dNm d), .type "bool", dIs "bool" d, rfl, .ty _, ty_dp h, ?_, q⟩
  cases h <;> rfl
theorem isi_str (h : Dp K H v d) (q : Q (.bl (dIs "str" d)) H) : rIsi K [v, .ty "str"] H Q := by
  refine ⟨v, .ty "str", .type (dNm d), .type "str", dIs "str" d, rfl, .ty _, ty_dp h, ?_, q⟩
  cases h <;> rfl
theorem isi_tuple (h : Dp K H v d) (q : Q (.bl (dIs "tuple" d)) H) : rIsi K [v, .ty "tuple"] H Q := by
  refine ⟨v, .ty "tuple", .type (dNm d), .type "tuple", dIs "tuple" d, rfl, .ty _, ty_dp h, ?_, q⟩
  cases h <;> rfl
theorem isi_list (h : Dp K H v d) (q : Q (.bl (dIs "list" d)) H) : rIsi K [v, .ty "list"] H Q := by
  refine ⟨v, .ty "list", .type (dNm d), .type "list", dIs "list" d, rfl, .ty _, ty_dp h, ?_, q⟩
  cases h <;> rfl
def dSeq (d : PyData) : Bool := dIs "tuple" d || dIs "list" d
theorem isi_seq {p : Addr} (h : Dp K H v d) (ht : H p = some (.tup [.ty "tuple", .ty "list"])) (q : Q (.bl (dSeq d)) H) : rIsiT K [v, .ref p] H Q := by
  refine ⟨v, p, [.ty "tuple", .ty "list"], .type (dNm d), [.type "tuple", .type "list"], dSeq d, rfl, ht, .cons (.ty _) (.cons (.ty _) .nil), ty_dp h, ?_, q⟩
  cases h <;> rfl
theorem isi_own {C : Addr} {t : Value} {b : Bool} (ty : TyX K H v t) (k : PySem.W.kitOne K t (.ref C) = some b) (q : Q (.bl b) H) : rIsi K [v, .ref C] H Q :=
  ⟨v, .ref C, t, .ref C, b, rfl, .own C, ty, k, q⟩
/-- an instance's type -/
theorem ty_ins {C : Addr} {dx : Addr} {fs : List (Str × V)} (h : H a = some (.ins C dx fs)) (c : Cls K C) (i : Ic K C) : TyX K H (.ref a) (.ref C) := .base (.ins h c i.ha i.hn i.htk i.hm)
theorem dpAll_length : ∀ {vs : List V} {ds : List PyData}, DpAll K H vs ds → vs.length = ds.length
  | _, _, .nil => rfl
  | _, _, .cons _ h => by
    have := dpAll_length h
    simp [this]
theorem dpAll_get : ∀ {vs : List V} {ds : List PyData} {i : Nat} {x : V}, DpAll K H vs ds → vs[i]? = some x → ∃ e, ds[i]? = some e ∧ Dp K H x e
  | _, _, _, _, .nil, h => by simp at h
  | _, _, 0, _, .cons h1 _, h => by
    simp at h
    subst h
    exact ⟨_, rfl, h1⟩
  | _, _, i + 1, _, .cons _ h2, h => dpAll_get (i := i) h2 (by simpa using h)
end
/-! ### plain texts -/
theorem strOk_of {z : Str} (h1 : ∀ c ∈ z.cps.toList, c ≤ 126) : PyData.strOk z = true := by
  unfold PyData.strOk
  rw [Array.all_eq_true_iff_forall_mem]
  intro c hc
  have := h1 c (by simpa using hc)
  exact decide_eq_true (by omega)
end PH

set_option Elab.async false
set_option linter.all false
set_option maxRecDepth 100000
set_option maxHeartbeats 4000000
/-! # More steps through a reading -/
namespace PH
open PySem PySem.Spec PyProof.Rows L2 C8
section
variable {σ : L2.St} {H : Hp} {Q : VK} {D : Ends} {i j : Nat} {v x y z : V} {ta tb tc te to ti tl' tk tv : TE} {t u : TS} {tt uu : TT} {tl : TA} {K : PySem.W.Frag} {a C dx p : Addr} {fs : List (Str × V)} {f m : Str} {R : It → Hp → Prop} {wi : TI} {g : TG} {vs : List Nat} {xs : List V}
theorem v_lc (q : wi σ H fun J H1 => ∀ D, H1 D = none → ∃ W : Nat → Nat → Hp → Prop, (∃ m, W 0 m (upd H1 D (.lst []))) ∧ ∀ i m H, W i m H →
  (J.stop i H ∧ Q (.ref D) H) ∨ (J.go i H ∧ ∃ Nx : Hp → Prop, (∀ H', Nx H' → ∃ m', m' < m ∧ W (i + 1) m' H') ∧ ∀ x H', J.yld i H x H' → g x (wipe σ vs) H' fun σ2 H2 => wipe σ2 vs = wipe σ vs ∧ tt σ2 H2 fun b H3 =>
    if b = true then te σ2 H3 fun y H4 => ∃ acc, H4 D = some (.lst acc) ∧ acc.length < sizeLine ∧ Nx (upd H4 D (.lst (acc ++ [y]))) else Nx H3)) : tLc wi g tt te vs σ H Q := q
theorem v_dc (q : wi σ H fun J H1 => ∀ D, H1 D = none → ∃ W : Nat → Nat → Hp → Prop, (∃ m, W 0 m (upd H1 D (.dK []))) ∧ ∀ i m H, W i m H →
  (J.stop i H ∧ Q (.ref D) H) ∨ (J.go i H ∧ ∃ Nx : Hp → Prop, (∀ H', Nx H' → ∃ m', m' < m ∧ W (i + 1) m' H') ∧ ∀ x H', J.yld i H x H' → g x (wipe σ vs) H' fun σ2 H2 => wipe σ2 vs = wipe σ vs ∧ tt σ2 H2 fun b H3 =>
    if b = true then tk σ2 H3 fun y H4 => tv σ2 H4 fun z H5 => ∃ kvs k, y = kV k ∧ H5 D = some (.dK kvs) ∧ kvs.length < sizeLine ∧ Nx (upd H5 D (.dK (putK kvs k z))) else Nx H3)) : tDc wi g tt tk tv vs σ H Q := q
theorem v_for (q : wi σ H fun J H1 => ∃ W : Nat → Nat → L2.St → Hp → Prop, (∃ m, W 0 m σ H1) ∧ ∀ i m σ H, W i m σ H →
  (J.stop i H ∧ D.nx σ H) ∨ (J.go i H ∧ ∃ N : L2.St → Hp → Prop, (∀ σ' H', N σ' H' → ∃ m', m' < m ∧ W (i + 1) m' σ' H') ∧ ∀ x H', J.yld i H x H' → g x σ H' fun σ2 H2 => t { D with nx := N, ct := N, bk := D.nx } σ2 H2)) : tFor wi g t D σ H := q
theorem v_iList (q : te σ H fun x H1 => ∃ a, x = .ref a ∧ (∃ xs, SqL K H1 a xs) ∧ R (Itl K a) H1) : iList K te σ H R := q
theorem v_iTup (q : te σ H fun x H1 => ∃ a, x = .ref a ∧ (∃ xs, SqT K H1 a xs) ∧ R (Itt K a) H1) : iTup K te σ H R := q
theorem v_iStr (q : te σ H fun v H1 => ∃ x, v = .str x ∧ R (Its x) H1) : iStr te σ H R := q
theorem v_iRng1 (q : tl σ H fun vs H1 => ∃ j : Int, vs = [.int j] ∧ -(2 ^ 62) ≤ j ∧ j < 2 ^ 62 ∧ R (Itr 0 j.toNat) H1) : iRng1 tl σ H R := q
theorem v_iRng2 (q : tl σ H fun vs H1 => ∃ i j : Int, vs = [.int i, .int j] ∧ (-(2 ^ 62) ≤ i ∧ i < 2 ^ 62 ∧ -(2 ^ 62) ≤ j ∧ j < 2 ^ 62) ∧ R (Itr i (j - i).toNat) H1) : iRng2 tl σ H R := q
theorem v_iEnumS (q : tl σ H fun vs H1 => ∃ z, vs = [.str z] ∧ R (IteS z) H1) : iEnumS tl σ H R := q
theorem v_iEnumT (q : tl σ H fun vs H1 => ∃ a xs, vs = [.ref a] ∧ SqT K H1 a xs ∧ R (IteT K a xs) H1) : iEnumT K tl σ H R := q
theorem v_iEnum (q : tl σ H fun vs H1 => ∃ a xs, vs = [.ref a] ∧ SqL K H1 a xs ∧ R (Ite K a) H1) : iEnum K tl σ H R := q
theorem v_sl {r : V → Option Int → Option Int → Hp → VK → Prop} {tl th : TO} (q : te σ H fun x H1 => tl σ H1 fun l H2 => th σ H2 fun u H3 => r x l u H3 Q) : L2.tSl r te tl th σ H Q := q
theorem v_noPart {Q : Option Int → Hp → Prop} (q : Q none H) : tNoPart σ H Q := q
theorem v_part {Q : Option Int → Hp → Prop} (q : te σ H fun x H1 => ∃ i, x = .int i ∧ Q (some i) H1) : tPart te σ H Q := q
theorem v_part1 {i : Int} {Q : Int → Prop} (q : Q i) : ∃ i', V.int i = .int i' ∧ Q i' := ⟨i, rfl, q⟩
theorem v_yes {Q : Bool → Hp → Prop} (q : Q true H) : tYes σ H Q := q
theorem v_yif {A B : Prop} (q : A) : if true = true then A else B := iteT q
theorem v_nif {A B : Prop} (q : B) : if false = true then A else B := iteF q
theorem v_gtup {n : Nat} {t : TGs} {Q : L2.St → Hp → Prop} (h : SqT K H a xs) (hl : xs.length = n) (q : t xs σ H Q) : gTup K n t (.ref a) σ H Q := ⟨a, xs, rfl, h, hl, q⟩
theorem v_gcons {t : TG} {u : TGs} {r : List V} {Q : L2.St → Hp → Prop} (q : t v σ H fun σ' H' => u r σ' H' Q) : gCons t u (v :: r) σ H Q := ⟨v, r, rfl, q⟩
theorem v_gnil {Q : L2.St → Hp → Prop} (q : Q σ H) : gNil [] σ H Q := ⟨rfl, q⟩
theorem v_chain {r r' : R2} (q : ta σ H fun x H1 => tb σ H1 fun y H2 => r x y H2 fun z H3 => ∃ k, z = .bl k ∧ (if k = true then tc σ H3 fun w' H4 => r' y w' H4 Q else Q (.bl false) H3)) : tChain r r' ta tb tc σ H Q := q
theorem v_meth {sp : Sp} {E : XK} (q : ta σ H fun x H1 => ∃ a dx fs, x = .ref a ∧ H1 a = some (.ins C dx fs) ∧ fs.lookup m = none ∧ tl σ H1 fun vs H2 => sp (x :: (vs ++ [])) H2 Q E) : tMeth C m sp [] E ta tl σ H Q := q
theorem v_meth' {QQ : V → Hp → Prop} (h : H a = some (.ins C dx fs)) (hm : fs.lookup m = none) (q : QQ (.ref a) H) : ∃ a' dx fs, V.ref a = .ref a' ∧ H a' = some (.ins C dx fs) ∧ fs.lookup m = none ∧ QQ (.ref a) H := ⟨a, dx, fs, rfl, h, hm, q⟩
theorem v_make {sp : Sp} {E : XK} (q : tl σ H fun vs H1 => ∀ x dx, H1 x = none → H1 dx = none → dx ≠ x → sp (.ref x :: (vs ++ [])) (upd (upd H1 dx (.own x)) x (.ins C dx [])) (fun v H2 => v = .non ∧ Q (.ref x) H2) E) : tMake C sp [] E tl σ H Q := q
theorem v_xf {cls : Value} {d : Option Addr} (q : te σ H fun x H1 => x = .ref a ∧ cls = .ref C ∧ ∃ (dd : Addr) (fs : List (Str × V)) (v : V), d = some dd ∧ H1 dd = some (.xd fs) ∧ fs.lookup f = some v ∧ Q v H1) : tXf a cls d C f te σ H Q := q
theorem v_dget {td ty : TE} (q : td σ H fun x H1 => ty σ H1 fun y H2 => ∃ a v, x = .ref a ∧ DGet H2 a y (some v) ∧ Q v H2) : tDGet td ty σ H Q := q
theorem v_din {td ty : TE} (q : ty σ H fun y H1 => td σ H1 fun x H2 => ∃ a o, x = .ref a ∧ DGet H2 a y o ∧ Q (.bl o.isSome) H2) : tDIn ty td σ H Q := q
theorem v_sfld (q : tv σ H fun y H1 => ta σ H1 fun x H2 => ∃ a C dx fs, x = .ref a ∧ H2 a = some (.ins C dx fs) ∧ Cls K C ∧ NoAttr K C f ∧ fs.length < 1000 ∧ D.nx σ (upd H2 a (.ins C dx (putF f y fs)))) : sFld K ta tv f D σ H := q
theorem v_sfld' (h : H a = some (.ins C dx fs)) (c : Cls K C) (n : NoAttr K C f) (hl : fs.length < 1000) (q : D.nx σ (upd H a (.ins C dx (putF f y fs)))) : ∃ a' C dx fs, V.ref a = .ref a' ∧ H a' = some (.ins C dx fs) ∧ Cls K C ∧ NoAttr K C f ∧ fs.length < 1000 ∧ D.nx σ (upd H a' (.ins C dx (putF f y fs))) :=
  ⟨a, C, dx, fs, rfl, h, c, n, hl, q⟩
theorem v_bm {T : String} {r : V → List V → Hp → VK → Prop} (q : to σ H fun x H1 => tyV K T x H1 ∧ tl σ H1 fun xs H2 => r x xs H2 Q) : tBM K T r to tl σ H Q := q
theorem v_bm0 {T : String} {r : V → List V → Hp → VK → Prop} (q : to σ H fun x H1 => tyV K T x H1 ∧ r x [] H1 Q) : tBM0 K T r to σ H Q := q
theorem v_m1 {r : V → List V → Hp → VK → Prop} (q : to σ H fun x H1 => (∃ a, x = .str a) ∧ te σ H1 fun y H2 => r x [y] H2 Q) : tM1 r to te σ H Q := q
theorem v_aug {ip : TIp} (h : σ[i]? = some (some x)) (q : te σ H fun y H1 => ip x y H1 fun z H2 => D.nx (σ.set i (some z)) H2) : tAug i te ip D σ H := ⟨x, h, q⟩
theorem v_callW {sp : Sp} {W : WX} (q : tl σ H fun vs H1 => sp vs H1 Q (fun cls d H' => W cls d σ H')) : tCallW sp W tl σ H Q := q
theorem v_methW {sp : Sp} {W : WX} (q : ta σ H fun x H1 => ∃ a dx fs, x = .ref a ∧ H1 a = some (.ins C dx fs) ∧ fs.lookup m = none ∧ tl σ H1 fun vs H2 => sp (x :: vs) H2 Q (fun cls d H' => W cls d σ H')) : tMethW C m sp W ta tl σ H Q := q
theorem v_makeW {sp : Sp} {W : WX} (q : tl σ H fun vs H1 => ∀ x dx, H1 x = none → H1 dx = none → dx ≠ x → sp (.ref x :: vs) (upd (upd H1 dx (.own x)) x (.ins C dx [])) (fun v H2 => v = .non ∧ Q (.ref x) H2) (fun cls d H' => W cls d σ H')) : tMakeW C sp W tl σ H Q := q
theorem v_x1 {Q : XK} (q : ta σ H fun v H1 => ∀ d, H1 d = none → Q (.ref C) (some d) (upd H1 d (.xd [(f, v)]))) : tX1 C f ta σ H Q := q
/-! ### lists, lengths -/
theorem sqL_of (h : H a = some (.lst xs)) : SqL K H a xs := .inl (.inl h)
theorem sqT_of (h : H a = some (.tup xs)) : SqT K H a xs := .inl (.inl h)
theorem v_lenL {Q : VK} (h : SqL K H a xs) (q : Q (.int (xs.length : Nat)) H) : rLen K [V.ref a] H Q := ⟨_, xs.length, rfl, .inl ⟨xs, h, rfl⟩, q⟩
theorem v_lenT {Q : VK} (h : SqT K H a xs) (q : Q (.int (xs.length : Nat)) H) : rLen K [V.ref a] H Q := ⟨_, xs.length, rfl, .inr ⟨xs, h, rfl⟩, q⟩
theorem v_lenS {s : Str} {Q : VK} (h : s.length ≤ sizeLine) (q : Q (.int (s.length : Nat)) H) : rLen K [V.str s] H Q := ⟨_, s.length, rfl, ⟨h, rfl⟩, q⟩
theorem small {n : Nat} (h : n ≤ 16000000) : n ≤ sizeLine := by rw [sizeLine_eq]; omega
theorem smallL {n : Nat} (h : n < 16000000) : n < sizeLine := by rw [sizeLine_eq]; omega
end
/-! ### loops over lists -/
/-- a new list by a comprehension, item by item: item i becomes f i -/
theorem upd_none {H : Hp} {p q : Addr} {o : HO} (h : H p = none) (hq : H q = some o) : p ≠ q := fun e => by rw [e, hq] at h; cases h
theorem none_same {H H' : Hp} {b : Addr} (e : Same H H') (h : H' b = none) : H b = none := by
  cases q : H b with
  | none => rfl
  | some o => rw [e b o q] at h; cases h
theorem rd_mut {H : Hp} {a p : Addr} {u o : HO} (h : Rd H a u) (ne : a ≠ p) : Rd (upd H p o) a u := by
  rcases h with h | ⟨ob, h⟩
  · exact .inl (by rw [upd_ne ne]; exact h)
  · exact .inr ⟨ob, by rw [upd_ne ne]; exact h⟩
theorem sqL_mut {K : PySem.W.Frag} {H : Hp} {a p : Addr} {o : HO} {xs : List V} (h : SqL K H a xs) (ne : a ≠ p) : SqL K (upd H p o) a xs := by
  rcases h with h | h
  · exact .inl (rd_mut h ne)
  · exact .inr h
theorem sqT_mut {K : PySem.W.Frag} {H : Hp} {a p : Addr} {o : HO} {xs : List V} (h : SqT K H a xs) (ne : a ≠ p) : SqT K (upd H p o) a xs := by
  rcases h with h | h
  · exact .inl (rd_mut h ne)
  · exact .inr h
theorem sqL_same {K : PySem.W.Frag} {H H' : Hp} {a : Addr} {xs : List V} (e : Same H H') (h : SqL K H a xs) : SqL K H' a xs := Same.seq e h
/-! ### slices -/
theorem cut_take (xs : List V) (k : Nat) : cutV xs none (some (k : Int)) = xs.take k := by
  unfold cutV
  rw [HT.sIx_none, HT.sIx_nat, List.drop_zero, Nat.sub_zero]
  by_cases h : k ≤ xs.length
  · rw [Nat.min_eq_left h]
  · rw [Nat.min_eq_right (by omega), List.take_length, List.take_of_length_le (by omega)]
theorem cut_drop (xs : List V) (k : Nat) : cutV xs (some (k : Int)) none = xs.drop k := by
  unfold cutV
  rw [HT.sIx_none, HT.sIx_nat]
  by_cases h : k ≤ xs.length
  · rw [Nat.min_eq_left h, List.take_of_length_le (by rw [List.length_drop]; omega)]
  · rw [Nat.min_eq_right (by omega), List.drop_length, List.drop_of_length_le (by omega)]
    simp
theorem cut_last (xs : List V) : cutV xs none (some (-1)) = xs.dropLast := by
  unfold cutV
  have e : HT.sIx xs.length xs.length (some (-1)) = xs.length - 1 := by
    show (if (-1 : Int) < 0 then ((-1 : Int) + (xs.length : Int)).toNat else min (-1 : Int).toNat xs.length) = xs.length - 1
    rw [if_pos (by decide)]
    omega
  rw [HT.sIx_none, e, List.drop_zero, Nat.sub_zero, List.dropLast_eq_take]
theorem cutS_take (z : Str) (k : Nat) : (cutS z none (some (k : Int))).cps.toList = z.cps.toList.take k := by
  unfold cutS
  show ((z.cps.toList.drop (HT.sIx z.length 0 none)).take (HT.sIx z.length z.length (some (k : Int)) - HT.sIx z.length 0 none)).toArray.toList = _
  rw [HT.sIx_none, HT.sIx_nat, List.drop_zero, Nat.sub_zero, List.toList_toArray]
  have e : z.length = z.cps.toList.length := by rw [Array.length_toList] <;> rfl
  by_cases h : k ≤ z.length
  · rw [Nat.min_eq_left h]
  · rw [Nat.min_eq_right (by omega), e, List.take_length, List.take_of_length_le (by omega)]
section
variable {Q : VK} {H : Hp}
theorem v_eqI {i j : Int} (q : Q (.bl (decide (i = j))) H) : rEq (.int i) (.int j) H Q := by
  refine v_eq rfl ?_
  have e : decide (V.int i = V.int j) = decide (i = j) := by
    congr 1
    exact propext ⟨fun h => by injection h, fun h => by rw [h]⟩
  rw [e]
  exact q
theorem v_neI {i j : Int} (q : Q (.bl (!decide (i = j))) H) : rNe (.int i) (.int j) H Q := by
  refine v_ne rfl ?_
  have e : decide (V.int i = V.int j) = decide (i = j) := by
    congr 1
    exact propext ⟨fun h => by injection h, fun h => by rw [h]⟩
  rw [e]
  exact q
theorem v_eqS {i j : Str} (q : Q (.bl (decide (i = j))) H) : rEq (.str i) (.str j) H Q := by
  refine v_eq rfl ?_
  have e : decide (V.str i = V.str j) = decide (i = j) := by
    congr 1
    exact propext ⟨fun h => by injection h, fun h => by rw [h]⟩
  rw [e]
  exact q
theorem v_neS {i j : Str} (q : Q (.bl (!decide (i = j))) H) : rNe (.str i) (.str j) H Q := by
  refine v_ne rfl ?_
  have e : decide (V.str i = V.str j) = decide (i = j) := by
    congr 1
    exact propext ⟨fun h => by injection h, fun h => by rw [h]⟩
  rw [e]
  exact q
theorem v_eqB {i j : Bool} (q : Q (.bl (decide (i = j))) H) : rEq (.bl i) (.bl j) H Q := by
  refine v_eq rfl ?_
  have e : decide (V.bl i = V.bl j) = decide (i = j) := by
    congr 1
    exact propext ⟨fun h => by injection h, fun h => by rw [h]⟩
  rw [e]
  exact q
theorem v_neB {i j : Bool} (q : Q (.bl (!decide (i = j))) H) : rNe (.bl i) (.bl j) H Q := by
  refine v_ne rfl ?_
  have e : decide (V.bl i = V.bl j) = decide (i = j) := by
    congr 1
    exact propext ⟨fun h => by injection h, fun h => by rw [h]⟩
  rw [e]
  exact q
end
end PH

set_option Elab.async false
set_option linter.all false
set_option maxRecDepth 100000
set_option maxHeartbeats 4000000
/-! # Texts of the laws: alphabets, words -/
namespace PH
open PySem PySem.Spec PyProof.Rows L2 TL
def s1 (c : Nat) : Str := ⟨#[c]⟩
/-- an alphabet of the laws -/
structure AlphaOk (z : Str) (n : Nat) : Prop where
  lo : 1 ≤ z.cps.toList.length
  hi : z.cps.toList.length ≤ n
  sg : ∀ c ∈ z.cps.toList, 32 ≤ c ∧ c ≤ 126
  up : z.cps.toList.Pairwise (· < ·)
theorem tl_len {z : Str} : z.length = z.cps.toList.length := by rw [Array.length_toList] <;> rfl
theorem joinL_nil : ∀ ls : List (List Nat), joinL [] ls = ls.flatten
  | [] => rfl
  | [a] => by simp [joinL]
  | a :: b :: r => by
    have ih := joinL_nil (b :: r)
    simp only [joinL, ih, List.flatten_cons, List.append_nil]
    try simp
theorem join_cps (ys : List Str) : (Txt.join (Str.ofString "") ys).cps.toList = (ys.map fun z => z.cps.toList).flatten := by
  rw [join_eq]
  have e := tl_join (Str.ofString "") ys
  have e2 : tl (Str.ofString "") = [] := rfl
  rw [e2, joinL_nil] at e
  exact e
theorem join_signs (cs : List Nat) : (Txt.join (Str.ofString "") (cs.map s1)).cps.toList = cs := by
  rw [join_cps]
  induction cs with
  | nil => rfl
  | cons c r ih =>
    rw [List.map_cons, List.map_cons, List.flatten_cons, ih]
    rfl
theorem s1_lt {a b : Nat} : ltCps (s1 a).cps.toList (s1 b).cps.toList = decide (a < b) := by
  rw [ltCps_eq]
  show decide ([a] < [b]) = decide (a < b)
  congr 1
  exact propext (by simp [List.cons_lt_cons_iff])
theorem rising_signs : ∀ (cs : List Nat) (p : Nat), risingS (s1 p) (cs.map s1) = true → ((p :: cs).map s1).Nodup → (p :: cs).Pairwise (· < ·)
  | [], p, _, _ => by simp
  | c :: r, p, h, hn => by
    have h : (!ltCps (s1 c).cps.toList (s1 p).cps.toList && risingS (s1 c) (r.map s1)) = true := h
    rw [Bool.and_eq_true, s1_lt, Bool.not_eq_true', decide_eq_false_iff_not] at h
    have hn2 : ((c :: r).map s1).Nodup := (List.nodup_cons.mp (by simpa using hn)).2
    have ih := rising_signs r c h.2 hn2
    have ne : p ≠ c := fun e => by
      subst e
      simp at hn
    have lt : p < c := by omega
    refine List.pairwise_cons.mpr ⟨fun x hx => ?_, ih⟩
    rcases List.mem_cons.mp hx with e | hx
    · rw [e]; exact lt
    · exact Nat.lt_trans lt ((List.pairwise_cons.mp ih).1 x hx)
theorem sorted_signs {ys : List Str} {S : List Nat} (hs : sortedS ys = true) (hn : ys.Nodup) (hy : ∀ y ∈ ys, ∃ c ∈ S, y = s1 c) : ∃ cs : List Nat, ys = cs.map s1 ∧ cs.Pairwise (· < ·) ∧ ∀ c ∈ cs, c ∈ S := by
  have go : ∀ l : List Str, (∀ y ∈ l, ∃ c ∈ S, y = s1 c) → ∃ cs : List Nat, l = cs.map s1 ∧ ∀ c ∈ cs, c ∈ S := by
    intro l
    induction l with
    | nil => exact fun _ => ⟨[], rfl, fun c hc => by cases hc⟩
    | cons y r ih =>
      intro h
      obtain ⟨c, hc, e⟩ := h y List.mem_cons_self
      obtain ⟨cs, e2, h2⟩ := ih fun z hz => h z (List.mem_cons_of_mem _ hz)
      refine ⟨c :: cs, by rw [e, e2] <;> rfl, fun x hx => ?_⟩
      rcases List.mem_cons.mp hx with e | hx
      · rw [e]; exact hc
      · exact h2 x hx
  obtain ⟨cs, rfl, hm⟩ := go ys hy
  refine ⟨cs, rfl, ?_, hm⟩
  cases cs with
  | nil => exact List.Pairwise.nil
  | cons c r => exact rising_signs r c hs hn
/-- a word over z -/
structure WordOk (z : Str) (n : Nat) (x : Str) : Prop where
  lo : 2 ≤ x.cps.toList.length
  hi : x.cps.toList.length ≤ n
  ov : ∀ c ∈ x.cps.toList, c ∈ z.cps.toList
structure FurtherOk (z : Str) (m n : Nat) (ws : List Str) : Prop where
  ok : ∀ x ∈ ws, WordOk z n x
  nd : ws.Nodup
  few : ws.length ≤ m
end PH

set_option Elab.async false
set_option linter.all false
set_option maxRecDepth 100000
set_option maxHeartbeats 4000000
/-! # The bag of the laws -/
namespace PH
open PySem PySem.Spec PyProof.Rows L2
structure BagAt (H : Hp) (b l : Addr) : Prop where
  ex : ∃ (cells : List Int) (i r m : Int), H b = some (.lst [.ref l, .int i, .int r, .int m]) ∧ H l = some (.lst (cells.map V.int)) ∧ l ≠ b ∧ 0 ≤ i ∧ 0 ≤ r ∧ r < 10 ^ 60 ∧ 0 ≤ m ∧ m < 2305843009213693951
theorem BagAt.same {H H' : Hp} {b l : Addr} (e : Same H H') (h : BagAt H b l) : BagAt H' b l := by
  obtain ⟨cells, i, r, m, h1, h2, h3⟩ := h
  exact ⟨cells, i, r, m, e _ _ h1, e _ _ h2, h3⟩
theorem BagAt.new {H : Hp} {b l p : Addr} {o : HO} (h : BagAt H b l) (hp : H p = none) : BagAt (upd H p o) b l := h.same (same_new hp)
theorem BagAt.mut {H : Hp} {b l p : Addr} {o : HO} (h : BagAt H b l) (h1 : p ≠ b) (h2 : p ≠ l) : BagAt (upd H p o) b l := by
  obtain ⟨cells, i, r, m, e1, e2, h3⟩ := h
  exact ⟨cells, i, r, m, by rw [upd_ne (Ne.symm h1)]; exact e1, by rw [upd_ne (Ne.symm h2)]; exact e2, h3⟩
theorem BagAt.ne {H : Hp} {b l p : Addr} (h : BagAt H b l) (hp : H p = none) : p ≠ b ∧ p ≠ l := by
  obtain ⟨cells, i, r, m, e1, e2, h3⟩ := h
  constructor
  · intro e
    rw [← e, hp] at e1
    cases e1
  · intro e
    rw [← e, hp] at e2
    cases e2
theorem hid_get {M : List Addr} {H H' : Hp} {p : Addr} {o : HO} (e : Same (hid M H) (hid M H')) (h : H p = some o) (hp : p ∉ M) : H' p = some o := hid_sub p o (e p o (hid_at h hp))
theorem hsame_mut {M : List Addr} {H H' : Hp} {p : Addr} {o : HO} (e : Same (hid M H) (hid M H')) (h : H p = none) : Same (hid M H) (hid M (upd H' p o)) := fun a u ha => by
  have q := e a u ha
  have ne : a ≠ p := fun z => by
    have := hid_sub a u ha
    rw [z, h] at this
    cases this
  unfold hid at q ⊢
  split at q
  · cases q
  · rename_i hn
    rw [if_neg hn, upd_ne ne]
    exact q
theorem hsame_new {M : List Addr} {H H' : Hp} {p : Addr} {o : HO} (e : Same (hid M H) (hid M H')) (h : H' p = none) : Same (hid M H) (hid M (upd H' p o)) := e.trans (hid_same (same_new h))
theorem hsame_of {M : List Addr} {H H' : Hp} (e : Same H H') : Same (hid M H) (hid M H') := hid_same e
theorem hnone {M : List Addr} {H H' : Hp} {p : Addr} (e : Same (hid M H) (hid M H')) (h : H' p = none) (hp : p ∉ M) : H p = none := by
  cases q : H p with
  | none => rfl
  | some o => rw [hid_get e q hp] at h; cases h
theorem hsame_refl {M : List Addr} {H : Hp} : Same (hid M H) (hid M H) := Same.refl _
def spDraw : Sp := fun vs H Q _ => ∃ (b l : Addr) (many : Int), vs = [.ref b, .int many] ∧ BagAt H b l ∧ 0 < many ∧ many < 1073741824 ∧
  ∀ (n : Nat) (H' : Hp), (n : Int) < many → BagAt H' b l → Same (hid [b] H) (hid [b] H') → Q (.int (n : Nat)) H'
theorem draw_step {H : Hp} {b l : Addr} {n : Int} {Q : VK} {E : XK} (hB : BagAt H b l) (h0 : 0 < n) (h1 : n < 1073741824) (k : ∀ (x : Nat) (H' : Hp), (x : Int) < n → BagAt H' b l → Same (hid [b] H) (hid [b] H') → Q (.int (x : Nat)) H') : spDraw ([.ref b, .int n] ++ []) H Q E := ⟨b, l, n, rfl, hB, h0, h1, k⟩
end PH

set_option Elab.async false
set_option linter.all false
set_option maxRecDepth 100000
set_option maxHeartbeats 4000000
/-! # Rules with K told (they stand within comprehensions) -/
namespace PH
open PySem PySem.Spec PyProof.Rows L2
section
variable {X : Cx} {K : PySem.W.Frag}
theorem call_lenK (h : X.K = K) : CallR X (.builtin "len") (rLen K) := by subst h; exact call_len
theorem ix_listK (h : X.K = K) : IxR X (rIxL K) := by subst h; exact ix_list
theorem ix_tupK (h : X.K = K) : IxR X (rIxT K) := by subst h; exact ix_tup
theorem op_eqDK (h : X.K = K) (hu : X.A.units + 64 < cLine) : OpR X (compareOp .Eq) (rEqD K) := by subst h; exact op_eqD hu
theorem op_neDK (h : X.K = K) (hu : X.A.units + 64 < cLine) : OpR X (compareOp .NotEq) (rNeD K) := by subst h; exact op_neD hu
theorem op_in_seqK (h : X.K = K) : OpR X (compareOp .In) (rIn K false) := by subst h; exact op_in_seq
theorem op_notIn_seqK (h : X.K = K) : OpR X (compareOp .NotIn) (rIn K true) := by subst h; exact op_notIn_seq
theorem call_isiK' (h : X.K = K) : CallR X (.builtin "isinstance") (rIsi K) := by subst h; exact call_isi
theorem call_isiTK (h : X.K = K) : CallR X (.builtin "isinstance") (rIsiT K) := by subst h; exact call_isiT
theorem pe_fldK {e : Expr} {ta : TE} {f : Str} {pos : Pos} (h : X.K = K) (he : PE X e ta) (hb : attributeBase e f X.env (eval e X.env) = eval e X.env) : PE X (.Attribute e f pos) (tFld K ta f) := by subst h; exact pe_fld he hb
end
section
variable {K : PySem.W.Frag} {H : Hp} {Q : VK} {p : Addr} {x : Str} {ws : List Str} {xs : List V}
theorem inV_str : ∀ ws : List Str, inV (.str x) (ws.map V.str) = decide (x ∈ ws)
  | [] => rfl
  | y :: r => by
    have ih := inV_str r
    unfold inV at ih ⊢
    rw [List.map_cons, List.any_cons, ih]
    show ((y == x) || decide (x ∈ r)) = decide (x ∈ y :: r)
    by_cases e : y = x
    · subst e
      simp
    · have e' : ¬ x = y := fun h => e h.symm
      have b : (y == x) = false := beq_eq_false_iff_ne.mpr e
      rw [b]
      simp [e']
theorem v_in (h : SqL K H p (ws.map V.str) ∨ SqT K H p (ws.map V.str)) (q : Q (.bl (decide (x ∈ ws))) H) : rIn K false (.str x) (.ref p) H Q :=
  ⟨p, ws.map V.str, rfl, h, rfl, flat_strs ws, by rw [inV_str]; exact q⟩
theorem v_notIn (h : SqL K H p (ws.map V.str) ∨ SqT K H p (ws.map V.str)) (q : Q (.bl (!decide (x ∈ ws))) H) : rIn K true (.str x) (.ref p) H Q :=
  ⟨p, ws.map V.str, rfl, h, rfl, flat_strs ws, by rw [inV_str]; exact q⟩
theorem ty_list (h : SqL K H p xs) : tyV K "list" (.ref p) H := .inl ⟨rfl, xs, h⟩
theorem v_append {l : Addr} {y : V} (h : H l = some (.lst xs)) (hz : xs.length < sizeLine) (q : Q .non (upd H l (.lst (xs ++ [y])))) : rAppend (.ref l) [y] H Q := ⟨l, xs, y, rfl, rfl, h, hz, q⟩
theorem if_bnot {p : Prop} [Decidable p] {A B : Prop} (h1 : ¬ p → A) (h2 : p → B) : if (!decide p) = true then A else B := by
  by_cases h : p
  · rw [decide_eq_true h]
    exact iteF (h2 h)
  · rw [decide_eq_false h]
    exact iteT (h1 h)
theorem if_b {c : Bool} {A B : Prop} (h1 : c = true → A) (h2 : c = false → B) : if c = true then A else B := by
  cases c with
  | true => exact iteT (h1 rfl)
  | false => exact iteF (h2 rfl)
end
/-- a walk of the one or the other kind -/
theorem pi_or {X : Cx} {tg it : Expr} {w1 w2 : TI} (h1 : PI X tg it w1) (h2 : PI X tg it w2) : PI X tg it (fun σ H R => w1 σ H R ∨ w2 σ H R) := ⟨fun pins s σ H R I h => by
  rcases h with h | h
  · exact h1.run pins s σ H R I h
  · exact h2.run pins s σ H R I h⟩
/-- between, of a datum -/
def dBet (a b : Int) : PyData → Bool
  | .int i => decide (a ≤ i ∧ i ≤ b)
  | _ => false
theorem iteF_of {c : Bool} {A B : Prop} (h : c = false) (q : B) : if c = true then A else B := by
  subst h
  exact iteF q
theorem iteT_of {c : Bool} {A B : Prop} (h : c = true) (q : A) : if c = true then A else B := by
  subst h
  exact iteT q
theorem if_nd_f {p : Prop} [Decidable p] {A B : Prop} (h : p) (q : B) : if (!decide p) = true then A else B := by
  rw [decide_eq_true h]
  exact iteF q
theorem if_nd_t {p : Prop} [Decidable p] {A B : Prop} (h : ¬ p) (q : A) : if (!decide p) = true then A else B := by
  rw [decide_eq_false h]
  exact iteT q
theorem if_nn_t {p : Prop} [Decidable p] {A B : Prop} (h : p) (q : A) : if (!!decide p) = true then A else B := by
  rw [decide_eq_true h]
  exact iteT q
theorem sign_nlt {a b : Nat} (h : b ≤ a) : decide ((⟨#[a]⟩ : Str).cps.toList < (⟨#[b]⟩ : Str).cps.toList) = false := by
  refine decide_eq_false ?_
  show ¬ ([a] < [b])
  simp [List.cons_lt_cons_iff]
  exact h
theorem sign_lt {a b : Nat} (h : a < b) : decide ((⟨#[a]⟩ : Str).cps.toList < (⟨#[b]⟩ : Str).cps.toList) = true := by
  refine decide_eq_true ?_
  show [a] < [b]
  simp [List.cons_lt_cons_iff]
  exact h
/-- two names at once -/
theorem pg_two {X : Cx} {K : PySem.W.Frag} {i j : Nat} {x y : Str} {px py pos : Pos} {k : Nat} (hK : X.K = K) (hc : X.calm = true) (hN : X.N.Nodup) (hi : X.N[i]? = some x) (hj : X.N[j]? = some y) (hx : Loc X.env.scope x) (hy : Loc X.env.scope y)
    (hf : X.fn x = true ∨ X.env.scope.names.lookup x = some .local := by first | exact .inl rfl | exact .inr rfl | assumption) (hg : X.fn y = true ∨ X.env.scope.names.lookup y = some .local := by first | exact .inl rfl | exact .inr rfl | assumption) :
    PG X (.Tuple [.Name x px, .Name y py] k pos) (gTup K 2 (gCons (gName i) (gCons (gName j) gNil))) := by
  subst hK
  exact pg_tup hc (pgs_cons (pg_name hN hi hx hf) (pgs_cons (pg_name hN hj hy hg) pgs_nil))
end PH

set_option Elab.async false
set_option linter.all false
set_option maxRecDepth 100000
set_option maxHeartbeats 4000000
/-! # Loops over a list or a tuple -/
namespace PH
open PySem PySem.Spec PyProof.Rows L2
section
variable {K : PySem.W.Frag} {a : Addr} {xs : List V} {σ : L2.St} {H : Hp} {g : TG} {tb : TS} {D : Ends} {ta : TA} {te : TE}
theorem walk_enumT : Walk (IteT K a xs) xs.length (fun H => SqT K H a xs) (YPair (fun i => some (.int (i : Nat))) (fun i => xs[i]?)) :=
  walk_enumG.mono (fun _ h => h) fun i H x H' _ _ ⟨T, y, h1, h2, h3, h4⟩ => ⟨T, .int (i : Nat), y, h1, h2, h3, rfl, h4⟩
theorem for_enumA {H0 : Hp} (h : SqL K H0 a xs ∨ SqT K H0 a xs) (hv : ∀ Q : List V → Hp → Prop, Q [.ref a] H → ta σ H Q) (Pv : Nat → L2.St → Hp → Prop) (h0 : Pv 0 σ H) (hk : ∀ i σ' H', i ≤ xs.length → Pv i σ' H' → Same H0 H')
    (hs : ∀ i x σ' H1 T, i < xs.length → Pv i σ' H1 → xs[i]? = some x → H1 T = none → g (.ref T) σ' (upd H1 T (.tup [.int (i : Nat), x])) fun σ2 H2 => tb { D with nx := Pv (i + 1), ct := Pv (i + 1), bk := D.nx } σ2 H2) (hd : ∀ σ' H', Pv xs.length σ' H' → D.nx σ' H') :
    tFor (fun σ H R => iEnum K ta σ H R ∨ iEnumT K ta σ H R) g tb D σ H := by
  rcases h with h | h
  · refine .inl (hv _ ⟨a, xs, rfl, sqL_same (hk 0 σ H (Nat.zero_le _) h0) h, ?_⟩)
    refine for_it walk_enum Pv h0 (fun i σ' H' hi p => sqL_same (hk i σ' H' hi p) h) (fun i x σ' H1 H2 hi p y => ?_) hd
    obtain ⟨T, u, v, rfl, hT, rfl, e1, e2⟩ := y
    cases e1
    exact hs i v σ' H1 T hi p e2 hT
  · refine .inr (hv _ ⟨a, xs, rfl, sqT_same (hk 0 σ H (Nat.zero_le _) h0) h, ?_⟩)
    refine for_it walk_enumT Pv h0 (fun i σ' H' hi p => sqT_same (hk i σ' H' hi p) h) (fun i x σ' H1 H2 hi p y => ?_) hd
    obtain ⟨T, u, v, rfl, hT, rfl, e1, e2⟩ := y
    cases e1
    exact hs i v σ' H1 T hi p e2 hT
theorem for_seq {H0 : Hp} (h : SqL K H0 a xs ∨ SqT K H0 a xs) (hv : ∀ Q : VK, Q (.ref a) H → te σ H Q) (Pv : Nat → L2.St → Hp → Prop) (h0 : Pv 0 σ H) (hk : ∀ i σ' H', i ≤ xs.length → Pv i σ' H' → Same H0 H')
    (hs : ∀ i x σ' H1, i < xs.length → Pv i σ' H1 → xs[i]? = some x → g x σ' H1 fun σ2 H2 => tb { D with nx := Pv (i + 1), ct := Pv (i + 1), bk := D.nx } σ2 H2) (hd : ∀ σ' H', Pv xs.length σ' H' → D.nx σ' H') :
    tFor (fun σ H R => iList K te σ H R ∨ iTup K te σ H R) g tb D σ H := by
  rcases h with h | h
  · refine .inl (hv _ ⟨a, rfl, ⟨xs, sqL_same (hk 0 σ H (Nat.zero_le _) h0) h⟩, ?_⟩)
    refine for_it walk_list Pv h0 (fun i σ' H' hi p => sqL_same (hk i σ' H' hi p) h) (fun i x σ' H1 H2 hi p y => ?_) hd
    obtain ⟨rfl, hx⟩ := y
    exact hs i x σ' H2 hi p hx
  · refine .inr (hv _ ⟨a, rfl, ⟨xs, sqT_same (hk 0 σ H (Nat.zero_le _) h0) h⟩, ?_⟩)
    refine for_it walk_tup Pv h0 (fun i σ' H' hi p => sqT_same (hk i σ' H' hi p) h) (fun i x σ' H1 H2 hi p y => ?_) hd
    obtain ⟨rfl, hx⟩ := y
    exact hs i x σ' H2 hi p hx
theorem dpAll_of_strs {ws : List Str} : DpAll K H (ws.map V.str) (ws.map PyData.str) := dpAll_strs ws
theorem dp_seq_strs {ws : List Str} (h : SqL K H a (ws.map V.str) ∨ SqT K H a (ws.map V.str)) : ∃ d, Dp K H (.ref a) d ∧ dSeq d = true := by
  rcases h with h | h
  · exact ⟨_, .lst h (dpAll_strs ws), rfl⟩
  · exact ⟨_, .tup h (dpAll_strs ws), rfl⟩
end
/-- a field -/
abbrev lk (fs : List (Str × V)) (f : Str) : Option V := fs.lookup f
theorem putF_len (f : Str) (v : V) : ∀ fs : List (Str × V), (putF f v fs).length ≤ fs.length + 1
  | [] => Nat.le_refl _
  | (g, x) :: r => by
    have ih := putF_len f v r
    unfold putF
    split
    · simp
    · simp only [List.length_cons]
      omega
theorem lk_same {f : Str} {v : V} {fs : List (Str × V)} : lk (putF f v fs) f = some v := by
  unfold lk
  rw [lookup_putF, if_pos rfl]
theorem lk_ne {f g : Str} {v : V} {fs : List (Str × V)} (h : (g == f) = false) : lk (putF f v fs) g = lk fs g := by
  unfold lk
  rw [lookup_putF, if_neg (fun e => by rw [e] at h; simp at h)]
section
variable {K : PySem.W.Frag} {H : Hp} {a p C dx : Addr} {fs : List (Str × V)} {xs : List V} {M : List Addr}
theorem sqL_hid (h : SqL K H p xs) (ha : ∀ a ∈ M, ∃ C dx fs, H a = some (.ins C dx fs)) : SqL K (hid M H) p xs := by
  rcases h with h | h
  · left
    rcases h with h | ⟨o, h⟩
    · refine .inl (hid_at h fun hm => ?_)
      obtain ⟨C, dx, fs, e⟩ := ha p hm
      rw [h] at e
      cases e
    · refine .inr ⟨o, hid_at h fun hm => ?_⟩
      obtain ⟨C, dx, fs, e⟩ := ha p hm
      rw [h] at e
      cases e
  · exact .inr h
theorem sqT_hid (h : SqT K H p xs) (ha : ∀ a ∈ M, ∃ C dx fs, H a = some (.ins C dx fs)) : SqT K (hid M H) p xs := by
  rcases h with h | h
  · left
    rcases h with h | ⟨o, h⟩
    · refine .inl (hid_at h fun hm => ?_)
      obtain ⟨C, dx, fs, e⟩ := ha p hm
      rw [h] at e
      cases e
    · refine .inr ⟨o, hid_at h fun hm => ?_⟩
      obtain ⟨C, dx, fs, e⟩ := ha p hm
      rw [h] at e
      cases e
  · exact .inr h
theorem one_ins (h : H a = some (.ins C dx fs)) : ∀ b ∈ [a], ∃ C dx fs, H b = some (.ins C dx fs) := fun b hb => by
  rw [List.mem_singleton.mp hb]
  exact ⟨C, dx, fs, h⟩
theorem hid_put {H' : Hp} {o : HO} (e : Same (hid [a] H) (hid [a] H')) : Same (hid [a] H) (hid [a] (upd H' a o)) := by
  rw [hid_in (by simp)]
  exact e
end
mutual
theorem dp_hid {K : PySem.W.Frag} {H : Hp} {M : List Addr} (ha : ∀ a ∈ M, ∃ C dx fs, H a = some (.ins C dx fs)) : ∀ (d : PyData) (v : V), Dp K H v d → Dp K (hid M H) v d
  | .none, _, h => by cases h; exact .non
  | .bool b, _, h => by cases h; exact .bl b
  | .int i, _, h => by cases h; exact .int i
  | .str x, _, h => by cases h; exact .str x
  | .list ds, _, h => by
    cases h with
    | lst hs hd => exact .lst (sqL_hid hs ha) (dpAll_hid ha ds _ hd)
  | .tuple ds, _, h => by
    cases h with
    | tup hs hd => exact .tup (sqT_hid hs ha) (dpAll_hid ha ds _ hd)
  | .dict _, _, h => by cases h
theorem dpAll_hid {K : PySem.W.Frag} {H : Hp} {M : List Addr} (ha : ∀ a ∈ M, ∃ C dx fs, H a = some (.ins C dx fs)) : ∀ (ds : List PyData) (vs : List V), DpAll K H vs ds → DpAll K (hid M H) vs ds
  | [], _, h => by cases h; exact .nil
  | d :: ds, _, h => by
    cases h with
    | cons h1 h2 => exact .cons (dp_hid ha d _ h1) (dpAll_hid ha ds _ h2)
end
/-- a new instance: behind its __init__ all else is as it was -/
theorem make_same {H H' : Hp} {x dx : Addr} {o o' : HO} (h : Same (hid [x] (upd (upd H dx o) x o')) (hid [x] H')) (h1 : H x = none) (h2 : H dx = none) (h3 : dx ≠ x) : Same H H' := fun p u e => by
  have n1 : p ≠ x := ne_of_none e h1
  have n2 : p ≠ dx := ne_of_none e h2
  refine hid_get h (o := u) ?_ (by simpa using n1)
  rw [upd_ne n1, upd_ne n2]
  exact e
theorem isSome_step {v : V} {o : Option V} {y u : Str} {l : List Str} (h : o.isSome = decide (y ∈ l)) : (if (Sum.inr y : Key) = .inr u then some v else o).isSome = decide (y ∈ l ++ (some u).toList) := by
  by_cases e : y = u
  · subst e
    rw [if_pos rfl]
    simp
  · rw [if_neg (fun h => e (by injection h)), h]
    simp [e]
theorem RoomS.hu {k : Nat} {A : Around} (r : RoomS k A) : A.units + 1 < cLine := r.units1
theorem eqvAll_ints : ∀ a b : List Int, PyData.eqvAll (a.map PyData.int) (b.map PyData.int) = decide (a = b)
  | [], [] => rfl
  | [], _ :: _ => rfl
  | _ :: _, [] => rfl
  | x :: a, y :: b => by
    show ((x == y) && PyData.eqvAll (a.map PyData.int) (b.map PyData.int)) = decide (x :: a = y :: b)
    rw [eqvAll_ints a b]
    by_cases e : x = y
    · subst e
      simp
    · have q : (x == y) = false := beq_eq_false_iff_ne.mpr e
      rw [q]
      simp [e]
theorem shaped_ints (ns : List Int) : SeqAt.shaped (.tuple (ns.map PyData.int)) = true ∧ SeqAt.shaped (.list (ns.map PyData.int)) = true := by
  have h1 : ∀ l : List Int, PyData.canLayAll0 (l.map PyData.int) = true := by
    intro l
    induction l with
    | nil => rfl
    | cons x r ih =>
      show (true && PyData.canLayAll0 (r.map PyData.int)) = true
      rw [ih]
      rfl
  have h2 : ∀ l : List Int, PyData.depthAll (l.map PyData.int) = 0 := by
    intro l
    induction l with
    | nil => rfl
    | cons x r ih =>
      show max 0 (PyData.depthAll (r.map PyData.int)) = 0
      rw [ih]
      rfl
  constructor
  · show (PyData.canLayAll0 (ns.map PyData.int) && decide (PyData.depthAll (ns.map PyData.int) + 1 ≤ 64)) = true
    rw [h1 ns, h2]
    rfl
  · show (PyData.canLayAll0 (ns.map PyData.int) && decide (PyData.depthAll (ns.map PyData.int) + 1 ≤ 64)) = true
    rw [h1 ns, h2]
    rfl
theorem eqvAll_strs : ∀ a b : List Str, PyData.eqvAll (a.map PyData.str) (b.map PyData.str) = decide (a = b)
  | [], [] => rfl
  | [], _ :: _ => rfl
  | _ :: _, [] => rfl
  | x :: a, y :: b => by
    show ((x == y) && PyData.eqvAll (a.map PyData.str) (b.map PyData.str)) = decide (x :: a = y :: b)
    rw [eqvAll_strs a b]
    by_cases e : x = y
    · subst e
      simp
    · have q : (x == y) = false := beq_eq_false_iff_ne.mpr e
      rw [q]
      simp [e]
theorem shaped_strs {ws : List Str} (h : ∀ x ∈ ws, ∀ c ∈ x.cps.toList, c ≤ 126) : SeqAt.shaped (.tuple (ws.map PyData.str)) = true ∧ SeqAt.shaped (.list (ws.map PyData.str)) = true := by
  have h1 : ∀ l : List Str, (∀ x ∈ l, ∀ c ∈ x.cps.toList, c ≤ 126) → PyData.canLayAll0 (l.map PyData.str) = true := by
    intro l
    induction l with
    | nil => exact fun _ => rfl
    | cons x r ih =>
      intro h
      show (PyData.strOk x && PyData.canLayAll0 (r.map PyData.str)) = true
      rw [strOk_of (h x List.mem_cons_self), ih fun y hy => h y (List.mem_cons_of_mem _ hy)]
      rfl
  have h2 : ∀ l : List Str, PyData.depthAll (l.map PyData.str) = 0 := by
    intro l
    induction l with
    | nil => rfl
    | cons x r ih =>
      show max 0 (PyData.depthAll (r.map PyData.str)) = 0
      rw [ih]
      rfl
  constructor
  · show (PyData.canLayAll0 (ws.map PyData.str) && decide (PyData.depthAll (ws.map PyData.str) + 1 ≤ 64)) = true
    rw [h1 ws h, h2]
    rfl
  · show (PyData.canLayAll0 (ws.map PyData.str) && decide (PyData.depthAll (ws.map PyData.str) + 1 ≤ 64)) = true
    rw [h1 ws h, h2]
    rfl
theorem AlphaOk.le {z : Str} {n : Nat} (h : AlphaOk z n) : ∀ c ∈ z.cps.toList, c ≤ 126 := fun c hc => (h.sg c hc).2
theorem FurtherOk.le {z : Str} {k m n : Nat} {ws : List Str} (h : FurtherOk z m n ws) (hz : AlphaOk z k) : ∀ x ∈ ws, ∀ c ∈ x.cps.toList, c ≤ 126 := fun x hx c hc => hz.le c ((h.ok x hx).ov c hc)
theorem dp_seq_of {K : PySem.W.Frag} {H : Hp} {v : V} {d : PyData} (h : Dp K H v d) (hs : dSeq d = true) : ∃ (p : Addr) (xs : List V) (ds : List PyData), v = .ref p ∧ ((d = .list ds ∧ SqL K H p xs) ∨ (d = .tuple ds ∧ SqT K H p xs)) ∧ DpAll K H xs ds := by
  cases h with
  | non => cases hs
  | bl _ => cases hs
  | int _ => cases hs
  | str _ => cases hs
  | lst h1 h2 => exact ⟨_, _, _, rfl, .inl ⟨rfl, h1⟩, h2⟩
  | tup h1 h2 => exact ⟨_, _, _, rfl, .inr ⟨rfl, h1⟩, h2⟩
theorem v_lenA {K : PySem.W.Frag} {H : Hp} {a : Addr} {xs : List V} {Q : VK} (h : SqL K H a xs ∨ SqT K H a xs) (q : Q (.int (xs.length : Nat)) H) : rLen K [V.ref a] H Q := by
  rcases h with h | h
  · exact v_lenL h q
  · exact v_lenT h q
theorem dpAll_ints_inv {K : PySem.W.Frag} {H : Hp} : ∀ {cs : List Int} {xs : List V}, DpAll K H xs (cs.map PyData.int) → xs = cs.map V.int
  | [], _, .nil => rfl
  | c :: cs, _, .cons h1 h2 => by
    cases h1
    rw [dpAll_ints_inv h2] <;> rfl
theorem dpAll_strs_inv {K : PySem.W.Frag} {H : Hp} : ∀ {cs : List Str} {xs : List V}, DpAll K H xs (cs.map PyData.str) → xs = cs.map V.str
  | [], _, .nil => rfl
  | c :: cs, _, .cons h1 h2 => by
    cases h1
    rw [dpAll_strs_inv h2] <;> rfl
theorem ty_same {K : PySem.W.Frag} {H H' : Hp} {v : V} {t : Value} (e : Same H H') (h : TyX K H v t) : TyX K H' v t := by
  cases h with
  | base b =>
    cases b with
    | non => exact .base .non
    | bl x => exact .base (.bl x)
    | int i => exact .base (.int i)
    | str x => exact .base (.str x)
    | flt x => exact .base (.flt x)
    | lst h => exact .base (.lst (e _ _ h))
    | frz h => exact .base (.frz (e _ _ h))
    | tup h => exact .base (.tup (e _ _ h))
    | dK h => exact .base (.dK (e _ _ h))
    | dT h => exact .base (.dT (e _ _ h))
    | ins h c ha hn htk hm => exact .base (.ins (e _ _ h) c ha hn htk hm)
  | byt b => exact .byt b
  | set h => exact .set (e _ _ h)
  | kList h c => exact .kList h c
  | kTuple h c => exact .kTuple h c
  | kDict h c => exact .kDict h c
  | fTuple h => exact .fTuple (e _ _ h)
  | fDict h => exact .fDict (e _ _ h)
theorem isx_own {K : PySem.W.Frag} {H : Hp} {a D C dd : Addr} {fs : List (Str × V)} {b : Bool} {Q : VK} (hdd : H dd = some (.xd fs)) (x : Xc K D) (k : PySem.W.kitOne K (.ref D) (.ref C) = some b) (q : Q (.bl b) H) : rIsX K a (.ref D) (some dd) [.ref a, .ref C] H Q :=
  ⟨.ref C, .ref C, D, dd, fs, b, rfl, .own C, rfl, rfl, x.ex, hdd, k, q⟩
end PH
theorem L2.Room.hu {k : Nat} {A : PySem.Around} (r : L2.Room k A) : A.units + 1 < PySem.cLine := by
  have := r.units
  omega

set_option Elab.async false
set_option linter.all false
set_option maxRecDepth 100000
set_option maxHeartbeats 4000000
/-! # Data that are shaped; words and no words -/
namespace PH
open PySem PySem.Spec PyProof.Rows L2
/-- shaped, with room -/
def Tame (k : Nat) (d : PyData) : Prop := PyData.canLay0 d = true ∧ PyData.depth d ≤ k
theorem tame_all : ∀ {k : Nat} {ds : List PyData}, (∀ e ∈ ds, Tame k e) → PyData.canLayAll0 ds = true ∧ PyData.depthAll ds ≤ k
  | _, [], _ => ⟨rfl, Nat.zero_le _⟩
  | k, d :: r, h => by
    obtain ⟨h1, h2⟩ := h d List.mem_cons_self
    obtain ⟨h3, h4⟩ := tame_all (ds := r) fun e he => h e (List.mem_cons_of_mem _ he)
    constructor
    · show (PyData.canLay0 d && PyData.canLayAll0 r) = true
      rw [h1, h3]
      rfl
    · show max (PyData.depth d) (PyData.depthAll r) ≤ k
      omega
theorem tame_tuple {k : Nat} {ds : List PyData} (h : ∀ e ∈ ds, Tame k e) : Tame (k + 1) (.tuple ds) := by
  obtain ⟨h1, h2⟩ := tame_all h
  exact ⟨h1, Nat.succ_le_succ h2⟩
theorem tame_list {k : Nat} {ds : List PyData} (h : ∀ e ∈ ds, Tame k e) : Tame (k + 1) (.list ds) := by
  obtain ⟨h1, h2⟩ := tame_all h
  exact ⟨h1, Nat.succ_le_succ h2⟩
theorem Tame.mono {j k : Nat} {d : PyData} (h : Tame j d) (hk : j ≤ k) : Tame k d := ⟨h.1, Nat.le_trans h.2 hk⟩
theorem Tame.shaped {k : Nat} {d : PyData} (h : Tame k d) (hk : k ≤ 64) : SeqAt.shaped d = true := by
  unfold SeqAt.shaped
  rw [h.1, decide_eq_true (Nat.le_trans h.2 hk)]
  rfl
theorem tame_int {k : Nat} (i : Int) : Tame k (.int i) := ⟨rfl, Nat.zero_le _⟩
theorem tame_bool {k : Nat} (i : Bool) : Tame k (.bool i) := ⟨rfl, Nat.zero_le _⟩
theorem tame_none {k : Nat} : Tame k .none := ⟨rfl, Nat.zero_le _⟩
theorem tame_str {k : Nat} {x : Str} (h : ∀ c ∈ x.cps.toList, c ≤ 126) : Tame k (.str x) := ⟨strOk_of h, Nat.zero_le _⟩
theorem dpAll_append {K : PySem.W.Frag} {H : Hp} : ∀ {xs ys : List V} {ds es : List PyData}, DpAll K H xs ds → DpAll K H ys es → DpAll K H (xs ++ ys) (ds ++ es)
  | _, _, _, _, .nil, h => h
  | _, _, _, _, .cons h1 h2, h => .cons h1 (dpAll_append h2 h)
theorem dpAll_take {K : PySem.W.Frag} {H : Hp} : ∀ {xs : List V} {ds : List PyData} (n : Nat), DpAll K H xs ds → DpAll K H (xs.take n) (ds.take n)
  | _, _, 0, _ => by
    rw [List.take_zero, List.take_zero]
    exact .nil
  | _, _, n + 1, .nil => .nil
  | _, _, n + 1, .cons h1 h2 => .cons h1 (dpAll_take n h2)
theorem dpAll_drop {K : PySem.W.Frag} {H : Hp} : ∀ {xs : List V} {ds : List PyData} (n : Nat), DpAll K H xs ds → DpAll K H (xs.drop n) (ds.drop n)
  | _, _, 0, h => h
  | _, _, n + 1, .nil => .nil
  | _, _, n + 1, .cons h1 h2 => dpAll_drop n h2
theorem app_cps {x y : Str} : (x ++ y).cps.toList = x.cps.toList ++ y.cps.toList := by
  show (x.cps ++ y.cps).toList = _
  simp
theorem rep7_mem {z : Str} {c : Nat} (h : c ∈ (rep7 z).cps.toList) : c ∈ z.cps.toList := by
  have h : c ∈ ((List.replicate 7 z.cps).foldl (· ++ ·) #[]).toList := h
  simp [List.replicate, List.foldl] at h
  simpa using h
theorem dpAll_set {K : PySem.W.Frag} {H : Hp} {x : V} {d : PyData} (hx : Dp K H x d) : ∀ {xs : List V} {ds : List PyData} (n : Nat), DpAll K H xs ds → DpAll K H (xs.set n x) (ds.set n d)
  | _, _, _, .nil => .nil
  | _, _, 0, .cons _ h2 => .cons hx h2
  | _, _, n + 1, .cons h1 h2 => .cons h1 (dpAll_set hx n h2)
theorem cut_last' (xs : List V) : cutV xs none (some (-1)) = xs.take (xs.length - 1) := by rw [cut_last, List.dropLast_eq_take]
theorem tame_ints {k : Nat} (cs : List Int) : ∀ e ∈ cs.map PyData.int, Tame k e := fun e he => by
  obtain ⟨c, _, rfl⟩ := List.mem_map.mp he
  exact tame_int c
theorem ixN_nat' {n j : Nat} (hj : j < n) : ixN n (j : Int) = some j := by
  unfold ixN
  rw [if_pos (by omega), if_pos (by omega)]
  simp
theorem hsame_more {p : Addr} {M : List Addr} {H H' : Hp} (e : Same (hid M H) (hid M H')) : Same (hid (p :: M) H) (hid (p :: M) H') := fun a u h => by
  have q := e a u (hid_more a u h)
  have n : a ∉ p :: M := fun hm => by rw [hid_none hm] at h; cases h
  exact hid_at (hid_sub a u q) n
end PH

set_option Elab.async false
set_option linter.all false
set_option maxRecDepth 100000
set_option maxHeartbeats 4000000
/-! # The law's own def -/
namespace PH
open PySem PySem.Spec PyProof.Rows L2
theorem fn_law0 {P : Program} {w : World} {K : PySem.W.Frag} {mg : Str → Option Value} {base : Heap} {x qual : Str} {st : Stmt} {f : Addr} {fd : FuncData} {N ps : List Str} {k : Nat} {sp : Sp} (F : FunD K x qual (defArgs st) (defBody st) (defScope st) [] [] f fd) (S : FnScope N ps (defScope st))
    (len : ∀ vs H Q E, sp vs H Q E → vs.length = ps.length)
    (hbody : ∀ (cdv : Value) (A : Around) (outer : List Env) (s : Shared) (H : Hp) (vs : List V) (Q : VK) (E : XK), Room k (A.deeper (envOfC qual (defScope st) s.heap.objs.size f cdv)) → sp vs H Q E →
      ∃ t, PSs (cxOf L2.CX0 P w K mg base N qual (defScope st) f cdv A outer s H E) (defBody st) t ∧ t { nx := fun _ H' => Q .non H', rt := Q } (start N vs) H) : FnOk P w K mg base L2.CX0 (k + 1) f fd ps sp := F.ok S len hbody
end PH

set_option Elab.async false
set_option linter.all false
set_option maxRecDepth 100000
set_option maxHeartbeats 8000000
/-! # The text by places, the facts, the run of the top -/
namespace K76
open PySem PySem.Spec PyProof.Rows L2 PH
abbrev PW := PySem.Challenge.pw_piecehouse_k76_costs_of_rows
abbrev RWL := PySem.Challenge.rw_piecehouse_k76_costs_of_rows
def top (i : Nat) : Stmt := PW.main.body.getD i (.Pass ⟨0, 0, 0, 0⟩)
abbrev s_InvalidAlphabet___init__ : Stmt := inClass (top 3) 0
abbrev s_NotProper___init__ : Stmt := inClass (top 4) 0
abbrev s_InvalidNumber___init__ : Stmt := inClass (top 5) 0
abbrev s_InvalidWords___init__ : Stmt := inClass (top 6) 0
abbrev s_InvalidCutter___init__ : Stmt := inClass (top 7) 0
abbrev s_InvalidRow___init__ : Stmt := inClass (top 8) 0
abbrev s_TooMany___init__ : Stmt := inClass (top 9) 0
abbrev s_is_between : Stmt := top 13
abbrev s_is_alphabet : Stmt := top 14
abbrev s_checked_alphabet : Stmt := top 15
abbrev s_put_together : Stmt := top 16
abbrev s_lowest_pair : Stmt := top 17
abbrev s_cut_row : Stmt := top 18
abbrev s_Joins___init__ : Stmt := inClass (top 19) 0
abbrev s_Joins_take : Stmt := inClass (top 19) 1
abbrev s_Joins_is_proper : Stmt := inClass (top 19) 2
abbrev s_Joins_pieces : Stmt := inClass (top 19) 3
abbrev s_Joins_is_piece : Stmt := inClass (top 19) 4
abbrev s_Joins_check_piece : Stmt := inClass (top 19) 5
abbrev s_Joins_text_of : Stmt := inClass (top 19) 6
abbrev s_Joins_parts_of : Stmt := inClass (top 19) 7
abbrev s_Joins_rank_of : Stmt := inClass (top 19) 8
abbrev s_Joins_piece_of : Stmt := inClass (top 19) 9
abbrev s_Joins_first : Stmt := inClass (top 19) 10
abbrev s_Joins___len__ : Stmt := inClass (top 19) 11
abbrev s_Joins___iter__ : Stmt := inClass (top 19) 12
abbrev s_Joins___eq__ : Stmt := inClass (top 19) 13
abbrev s_is_sequence : Stmt := top 24
abbrev s_is_text_over : Stmt := top 25
abbrev s_is_word_text : Stmt := top 26
abbrev s_checked_alphabet_of_words : Stmt := top 27
abbrev s_checked_further : Stmt := top 28
abbrev s_Words___init__ : Stmt := inClass (top 29) 0
abbrev s_Words_all_words : Stmt := inClass (top 29) 1
abbrev s_Words_has : Stmt := inClass (top 29) 2
abbrev s_Words_without : Stmt := inClass (top 29) 3
abbrev s_Words_lengths_ahead : Stmt := inClass (top 29) 4
abbrev s_Words_lengths_behind : Stmt := inClass (top 29) 5
abbrev s_Words___eq__ : Stmt := inClass (top 29) 6
abbrev s_is_way : Stmt := top 31
abbrev s_checked_costs : Stmt := top 35
abbrev s_Costs___init__ : Stmt := inClass (top 36) 0
abbrev s_Costs_cost_of : Stmt := inClass (top 36) 1
abbrev s_Costs___eq__ : Stmt := inClass (top 36) 2
abbrev s__law_bag : Stmt := top 38
abbrev s__law_draw : Stmt := top 39
abbrev s__law_letters : Stmt := top 40
abbrev s__law_further : Stmt := top 41
abbrev s__law_is_number : Stmt := top 42
abbrev s__law_alike : Stmt := top 43
abbrev s__law_fault : Stmt := top 44
abbrev s__law_no_row : Stmt := top 45
abbrev s__law_rows : Stmt := top 46
abbrev s__law_faults : Stmt := top 47
abbrev s__law_differ : Stmt := top 48
abbrev s__law_equals : Stmt := top 49
abbrev s_law : Stmt := top 50
theorem sc_InvalidAlphabet___init__ : FnScope ["self", "alphabet"] ["self", "alphabet"] (defScope s_InvalidAlphabet___init__) := ⟨rfl, rfl, rfl, by decide +kernel, rfl, by decide +kernel, by decide +kernel⟩
theorem bo_InvalidAlphabet___init__ : BindOk "__init__" "InvalidAlphabet.__init__" s_InvalidAlphabet___init__ ["self", "alphabet"] := fun _ _ _ _ _ _ us hl => match us, hl with | [_, _], _ => rfl
theorem sc_NotProper___init__ : FnScope ["self", "rank"] ["self", "rank"] (defScope s_NotProper___init__) := ⟨rfl, rfl, rfl, by decide +kernel, rfl, by decide +kernel, by decide +kernel⟩
theorem bo_NotProper___init__ : BindOk "__init__" "NotProper.__init__" s_NotProper___init__ ["self", "rank"] := fun _ _ _ _ _ _ us hl => match us, hl with | [_, _], _ => rfl
theorem sc_InvalidNumber___init__ : FnScope ["self", "number"] ["self", "number"] (defScope s_InvalidNumber___init__) := ⟨rfl, rfl, rfl, by decide +kernel, rfl, by decide +kernel, by decide +kernel⟩
theorem bo_InvalidNumber___init__ : BindOk "__init__" "InvalidNumber.__init__" s_InvalidNumber___init__ ["self", "number"] := fun _ _ _ _ _ _ us hl => match us, hl with | [_, _], _ => rfl
theorem sc_InvalidWords___init__ : FnScope ["self", "place"] ["self", "place"] (defScope s_InvalidWords___init__) := ⟨rfl, rfl, rfl, by decide +kernel, rfl, by decide +kernel, by decide +kernel⟩
theorem bo_InvalidWords___init__ : BindOk "__init__" "InvalidWords.__init__" s_InvalidWords___init__ ["self", "place"] := fun _ _ _ _ _ _ us hl => match us, hl with | [_, _], _ => rfl
theorem sc_InvalidCutter___init__ : FnScope ["self", "part"] ["self", "part"] (defScope s_InvalidCutter___init__) := ⟨rfl, rfl, rfl, by decide +kernel, rfl, by decide +kernel, by decide +kernel⟩
theorem bo_InvalidCutter___init__ : BindOk "__init__" "InvalidCutter.__init__" s_InvalidCutter___init__ ["self", "part"] := fun _ _ _ _ _ _ us hl => match us, hl with | [_, _], _ => rfl
theorem sc_InvalidRow___init__ : FnScope ["self", "row"] ["self", "row"] (defScope s_InvalidRow___init__) := ⟨rfl, rfl, rfl, by decide +kernel, rfl, by decide +kernel, by decide +kernel⟩
theorem bo_InvalidRow___init__ : BindOk "__init__" "InvalidRow.__init__" s_InvalidRow___init__ ["self", "row"] := fun _ _ _ _ _ _ us hl => match us, hl with | [_, _], _ => rfl
theorem sc_TooMany___init__ : FnScope ["self", "what"] ["self", "what"] (defScope s_TooMany___init__) := ⟨rfl, rfl, rfl, by decide +kernel, rfl, by decide +kernel, by decide +kernel⟩
theorem bo_TooMany___init__ : BindOk "__init__" "TooMany.__init__" s_TooMany___init__ ["self", "what"] := fun _ _ _ _ _ _ us hl => match us, hl with | [_, _], _ => rfl
theorem sc_is_between : FnScope ["value", "least", "most"] ["value", "least", "most"] (defScope s_is_between) := ⟨rfl, rfl, rfl, by decide +kernel, rfl, by decide +kernel, by decide +kernel⟩
theorem bo_is_between : BindOk "is_between" "is_between" s_is_between ["value", "least", "most"] := fun _ _ _ _ _ _ us hl => match us, hl with | [_, _, _], _ => rfl
theorem sc_is_alphabet : FnScope ["alphabet", "sign", "at"] ["alphabet"] (defScope s_is_alphabet) := ⟨rfl, rfl, rfl, by decide +kernel, rfl, by decide +kernel, by decide +kernel⟩
theorem bo_is_alphabet : BindOk "is_alphabet" "is_alphabet" s_is_alphabet ["alphabet"] := fun _ _ _ _ _ _ us hl => match us, hl with | [_], _ => rfl
theorem sc_checked_alphabet : FnScope ["alphabet"] ["alphabet"] (defScope s_checked_alphabet) := ⟨rfl, rfl, rfl, by decide +kernel, rfl, by decide +kernel, by decide +kernel⟩
theorem bo_checked_alphabet : BindOk "checked_alphabet" "checked_alphabet" s_checked_alphabet ["alphabet"] := fun _ _ _ _ _ _ us hl => match us, hl with | [_], _ => rfl
theorem sc_put_together : FnScope ["row", "pair", "piece", "found", "at"] ["row", "pair", "piece"] (defScope s_put_together) := ⟨rfl, rfl, rfl, by decide +kernel, rfl, by decide +kernel, by decide +kernel⟩
theorem bo_put_together : BindOk "put_together" "put_together" s_put_together ["row", "pair", "piece"] := fun _ _ _ _ _ _ us hl => match us, hl with | [_, _, _], _ => rfl
theorem sc_lowest_pair : FnScope ["ranks", "row", "best", "at", "pair"] ["ranks", "row"] (defScope s_lowest_pair) := ⟨rfl, rfl, rfl, by decide +kernel, rfl, by decide +kernel, by decide +kernel⟩
theorem bo_lowest_pair : BindOk "lowest_pair" "lowest_pair" s_lowest_pair ["ranks", "row"] := fun _ _ _ _ _ _ us hl => match us, hl with | [_, _], _ => rfl
theorem sc_cut_row : FnScope ["ranks", "letters", "row", "pair"] ["ranks", "letters", "row"] (defScope s_cut_row) := ⟨rfl, rfl, rfl, by decide +kernel, rfl, by decide +kernel, by decide +kernel⟩
theorem bo_cut_row : BindOk "cut_row" "cut_row" s_cut_row ["ranks", "letters", "row"] := fun _ _ _ _ _ _ us hl => match us, hl with | [_, _, _], _ => rfl
theorem sc_Joins___init__ : FnScope ["self", "alphabet", "pairs", "at", "letter", "pair"] ["self", "alphabet", "pairs"] (defScope s_Joins___init__) := ⟨rfl, rfl, rfl, by decide +kernel, rfl, by decide +kernel, by decide +kernel⟩
theorem bo_Joins___init__ : BindOk "__init__" "Joins.__init__" s_Joins___init__ ["self", "alphabet", "pairs"] := fun _ _ _ _ _ _ us hl => match us, hl with | [_, _, _], _ => rfl
theorem sc_Joins_take : FnScope ["self", "pair", "rank", "text"] ["self", "pair"] (defScope s_Joins_take) := ⟨rfl, rfl, rfl, by decide +kernel, rfl, by decide +kernel, by decide +kernel⟩
theorem bo_Joins_take : BindOk "take" "Joins.take" s_Joins_take ["self", "pair"] := fun _ _ _ _ _ _ us hl => match us, hl with | [_, _], _ => rfl
theorem sc_Joins_is_proper : FnScope ["self", "pair", "left", "right", "most", "text", "row", "letter"] ["self", "pair"] (defScope s_Joins_is_proper) := ⟨rfl, rfl, rfl, by decide +kernel, rfl, by decide +kernel, by decide +kernel⟩
theorem bo_Joins_is_proper : BindOk "is_proper" "Joins.is_proper" s_Joins_is_proper ["self", "pair"] := fun _ _ _ _ _ _ us hl => match us, hl with | [_, _], _ => rfl
theorem sc_Joins_pieces : FnScope ["self"] ["self"] (defScope s_Joins_pieces) := ⟨rfl, rfl, rfl, by decide +kernel, rfl, by decide +kernel, by decide +kernel⟩
theorem bo_Joins_pieces : BindOk "pieces" "Joins.pieces" s_Joins_pieces ["self"] := fun _ _ _ _ _ _ us hl => match us, hl with | [_], _ => rfl
theorem sc_Joins_is_piece : FnScope ["self", "piece"] ["self", "piece"] (defScope s_Joins_is_piece) := ⟨rfl, rfl, rfl, by decide +kernel, rfl, by decide +kernel, by decide +kernel⟩
theorem bo_Joins_is_piece : BindOk "is_piece" "Joins.is_piece" s_Joins_is_piece ["self", "piece"] := fun _ _ _ _ _ _ us hl => match us, hl with | [_, _], _ => rfl
theorem sc_Joins_check_piece : FnScope ["self", "piece"] ["self", "piece"] (defScope s_Joins_check_piece) := ⟨rfl, rfl, rfl, by decide +kernel, rfl, by decide +kernel, by decide +kernel⟩
theorem bo_Joins_check_piece : BindOk "check_piece" "Joins.check_piece" s_Joins_check_piece ["self", "piece"] := fun _ _ _ _ _ _ us hl => match us, hl with | [_, _], _ => rfl
theorem sc_Joins_text_of : FnScope ["self", "piece"] ["self", "piece"] (defScope s_Joins_text_of) := ⟨rfl, rfl, rfl, by decide +kernel, rfl, by decide +kernel, by decide +kernel⟩
theorem bo_Joins_text_of : BindOk "text_of" "Joins.text_of" s_Joins_text_of ["self", "piece"] := fun _ _ _ _ _ _ us hl => match us, hl with | [_, _], _ => rfl
theorem sc_Joins_parts_of : FnScope ["self", "piece"] ["self", "piece"] (defScope s_Joins_parts_of) := ⟨rfl, rfl, rfl, by decide +kernel, rfl, by decide +kernel, by decide +kernel⟩
theorem bo_Joins_parts_of : BindOk "parts_of" "Joins.parts_of" s_Joins_parts_of ["self", "piece"] := fun _ _ _ _ _ _ us hl => match us, hl with | [_, _], _ => rfl
theorem sc_Joins_rank_of : FnScope ["self", "left", "right"] ["self", "left", "right"] (defScope s_Joins_rank_of) := ⟨rfl, rfl, rfl, by decide +kernel, rfl, by decide +kernel, by decide +kernel⟩
theorem bo_Joins_rank_of : BindOk "rank_of" "Joins.rank_of" s_Joins_rank_of ["self", "left", "right"] := fun _ _ _ _ _ _ us hl => match us, hl with | [_, _, _], _ => rfl
theorem sc_Joins_piece_of : FnScope ["self", "text"] ["self", "text"] (defScope s_Joins_piece_of) := ⟨rfl, rfl, rfl, by decide +kernel, rfl, by decide +kernel, by decide +kernel⟩
theorem bo_Joins_piece_of : BindOk "piece_of" "Joins.piece_of" s_Joins_piece_of ["self", "text"] := fun _ _ _ _ _ _ us hl => match us, hl with | [_, _], _ => rfl
theorem sc_Joins_first : FnScope ["self", "many"] ["self", "many"] (defScope s_Joins_first) := ⟨rfl, rfl, rfl, by decide +kernel, rfl, by decide +kernel, by decide +kernel⟩
theorem bo_Joins_first : BindOk "first" "Joins.first" s_Joins_first ["self", "many"] := fun _ _ _ _ _ _ us hl => match us, hl with | [_, _], _ => rfl
theorem sc_Joins___len__ : FnScope ["self"] ["self"] (defScope s_Joins___len__) := ⟨rfl, rfl, rfl, by decide +kernel, rfl, by decide +kernel, by decide +kernel⟩
theorem bo_Joins___len__ : BindOk "__len__" "Joins.__len__" s_Joins___len__ ["self"] := fun _ _ _ _ _ _ us hl => match us, hl with | [_], _ => rfl
theorem sc_Joins___iter__ : FnScope ["self"] ["self"] (defScope s_Joins___iter__) := ⟨rfl, rfl, rfl, by decide +kernel, rfl, by decide +kernel, by decide +kernel⟩
theorem bo_Joins___iter__ : BindOk "__iter__" "Joins.__iter__" s_Joins___iter__ ["self"] := fun _ _ _ _ _ _ us hl => match us, hl with | [_], _ => rfl
theorem sc_Joins___eq__ : FnScope ["self", "other"] ["self", "other"] (defScope s_Joins___eq__) := ⟨rfl, rfl, rfl, by decide +kernel, rfl, by decide +kernel, by decide +kernel⟩
theorem bo_Joins___eq__ : BindOk "__eq__" "Joins.__eq__" s_Joins___eq__ ["self", "other"] := fun _ _ _ _ _ _ us hl => match us, hl with | [_, _], _ => rfl
theorem sc_is_sequence : FnScope ["value"] ["value"] (defScope s_is_sequence) := ⟨rfl, rfl, rfl, by decide +kernel, rfl, by decide +kernel, by decide +kernel⟩
theorem bo_is_sequence : BindOk "is_sequence" "is_sequence" s_is_sequence ["value"] := fun _ _ _ _ _ _ us hl => match us, hl with | [_], _ => rfl
theorem sc_is_text_over : FnScope ["alphabet", "value", "sign"] ["alphabet", "value"] (defScope s_is_text_over) := ⟨rfl, rfl, rfl, by decide +kernel, rfl, by decide +kernel, by decide +kernel⟩
theorem bo_is_text_over : BindOk "is_text_over" "is_text_over" s_is_text_over ["alphabet", "value"] := fun _ _ _ _ _ _ us hl => match us, hl with | [_, _], _ => rfl
theorem sc_is_word_text : FnScope ["alphabet", "value"] ["alphabet", "value"] (defScope s_is_word_text) := ⟨rfl, rfl, rfl, by decide +kernel, rfl, by decide +kernel, by decide +kernel⟩
theorem bo_is_word_text : BindOk "is_word_text" "is_word_text" s_is_word_text ["alphabet", "value"] := fun _ _ _ _ _ _ us hl => match us, hl with | [_, _], _ => rfl
theorem sc_checked_alphabet_of_words : FnScope ["alphabet"] ["alphabet"] (defScope s_checked_alphabet_of_words) := ⟨rfl, rfl, rfl, by decide +kernel, rfl, by decide +kernel, by decide +kernel⟩
theorem bo_checked_alphabet_of_words : BindOk "checked_alphabet_of_words" "checked_alphabet_of_words" s_checked_alphabet_of_words ["alphabet"] := fun _ _ _ _ _ _ us hl => match us, hl with | [_], _ => rfl
theorem sc_checked_further : FnScope ["alphabet", "further", "found", "place", "text"] ["alphabet", "further"] (defScope s_checked_further) := ⟨rfl, rfl, rfl, by decide +kernel, rfl, by decide +kernel, by decide +kernel⟩
theorem bo_checked_further : BindOk "checked_further" "checked_further" s_checked_further ["alphabet", "further"] := fun _ _ _ _ _ _ us hl => match us, hl with | [_, _], _ => rfl
theorem sc_Words___init__ : FnScope ["self", "alphabet", "further", "text"] ["self", "alphabet", "further"] (defScope s_Words___init__) := ⟨rfl, rfl, rfl, by decide +kernel, rfl, by decide +kernel, by decide +kernel⟩
theorem bo_Words___init__ : BindOk "__init__" "Words.__init__" s_Words___init__ ["self", "alphabet", "further"] := fun _ _ _ _ _ _ us hl => match us, hl with | [_, _, _], _ => rfl
theorem sc_Words_all_words : FnScope ["self"] ["self"] (defScope s_Words_all_words) := ⟨rfl, rfl, rfl, by decide +kernel, rfl, by decide +kernel, by decide +kernel⟩
theorem bo_Words_all_words : BindOk "all_words" "Words.all_words" s_Words_all_words ["self"] := fun _ _ _ _ _ _ us hl => match us, hl with | [_], _ => rfl
theorem sc_Words_has : FnScope ["self", "text"] ["self", "text"] (defScope s_Words_has) := ⟨rfl, rfl, rfl, by decide +kernel, rfl, by decide +kernel, by decide +kernel⟩
theorem bo_Words_has : BindOk "has" "Words.has" s_Words_has ["self", "text"] := fun _ _ _ _ _ _ us hl => match us, hl with | [_, _], _ => rfl
theorem sc_Words_without : FnScope ["self", "text"] ["self", "text"] (defScope s_Words_without) := ⟨rfl, rfl, rfl, by decide +kernel, rfl, by decide +kernel, by decide +kernel⟩
theorem bo_Words_without : BindOk "without" "Words.without" s_Words_without ["self", "text"] := fun _ _ _ _ _ _ us hl => match us, hl with | [_, _], _ => rfl
theorem sc_Words_lengths_ahead : FnScope ["self", "text", "at"] ["self", "text", "at"] (defScope s_Words_lengths_ahead) := ⟨rfl, rfl, rfl, by decide +kernel, rfl, by decide +kernel, by decide +kernel⟩
theorem bo_Words_lengths_ahead : BindOk "lengths_ahead" "Words.lengths_ahead" s_Words_lengths_ahead ["self", "text", "at"] := fun _ _ _ _ _ _ us hl => match us, hl with | [_, _, _], _ => rfl
theorem sc_Words_lengths_behind : FnScope ["self", "text", "at"] ["self", "text", "at"] (defScope s_Words_lengths_behind) := ⟨rfl, rfl, rfl, by decide +kernel, rfl, by decide +kernel, by decide +kernel⟩
theorem bo_Words_lengths_behind : BindOk "lengths_behind" "Words.lengths_behind" s_Words_lengths_behind ["self", "text", "at"] := fun _ _ _ _ _ _ us hl => match us, hl with | [_, _, _], _ => rfl
theorem sc_Words___eq__ : FnScope ["self", "other"] ["self", "other"] (defScope s_Words___eq__) := ⟨rfl, rfl, rfl, by decide +kernel, rfl, by decide +kernel, by decide +kernel⟩
theorem bo_Words___eq__ : BindOk "__eq__" "Words.__eq__" s_Words___eq__ ["self", "other"] := fun _ _ _ _ _ _ us hl => match us, hl with | [_, _], _ => rfl
theorem sc_is_way : FnScope ["words", "row", "text"] ["words", "row"] (defScope s_is_way) := ⟨rfl, rfl, rfl, by decide +kernel, rfl, by decide +kernel, by decide +kernel⟩
theorem bo_is_way : BindOk "is_way" "is_way" s_is_way ["words", "row"] := fun _ _ _ _ _ _ us hl => match us, hl with | [_, _], _ => rfl
theorem sc_checked_costs : FnScope ["words", "costs", "value"] ["words", "costs"] (defScope s_checked_costs) := ⟨rfl, rfl, rfl, by decide +kernel, rfl, by decide +kernel, by decide +kernel⟩
theorem bo_checked_costs : BindOk "checked_costs" "checked_costs" s_checked_costs ["words", "costs"] := fun _ _ _ _ _ _ us hl => match us, hl with | [_, _], _ => rfl
theorem sc_Costs___init__ : FnScope ["self", "words", "costs", "at", "text"] ["self", "words", "costs"] (defScope s_Costs___init__) := ⟨rfl, rfl, rfl, by decide +kernel, rfl, by decide +kernel, by decide +kernel⟩
theorem bo_Costs___init__ : BindOk "__init__" "Costs.__init__" s_Costs___init__ ["self", "words", "costs"] := fun _ _ _ _ _ _ us hl => match us, hl with | [_, _, _], _ => rfl
theorem sc_Costs_cost_of : FnScope ["self", "row", "found", "text"] ["self", "row"] (defScope s_Costs_cost_of) := ⟨rfl, rfl, rfl, by decide +kernel, rfl, by decide +kernel, by decide +kernel⟩
theorem bo_Costs_cost_of : BindOk "cost_of" "Costs.cost_of" s_Costs_cost_of ["self", "row"] := fun _ _ _ _ _ _ us hl => match us, hl with | [_, _], _ => rfl
theorem sc_Costs___eq__ : FnScope ["self", "other"] ["self", "other"] (defScope s_Costs___eq__) := ⟨rfl, rfl, rfl, by decide +kernel, rfl, by decide +kernel, by decide +kernel⟩
theorem bo_Costs___eq__ : BindOk "__eq__" "Costs.__eq__" s_Costs___eq__ ["self", "other"] := fun _ _ _ _ _ _ us hl => match us, hl with | [_, _], _ => rfl
theorem sc__law_bag : FnScope ["script", "cell"] ["script"] (defScope s__law_bag) := ⟨rfl, rfl, rfl, by decide +kernel, rfl, by decide +kernel, by decide +kernel⟩
theorem bo__law_bag : BindOk "_law_bag" "_law_bag" s__law_bag ["script"] := fun _ _ _ _ _ _ us hl => match us, hl with | [_], _ => rfl
theorem sc__law_draw : FnScope ["bag", "many", "cell", "mixed", "told"] ["bag", "many"] (defScope s__law_draw) := ⟨rfl, rfl, rfl, by decide +kernel, rfl, by decide +kernel, by decide +kernel⟩
theorem bo__law_draw : BindOk "_law_draw" "_law_draw" s__law_draw ["bag", "many"] := fun _ _ _ _ _ _ us hl => match us, hl with | [_, _], _ => rfl
theorem sc__law_letters : FnScope ["bag", "most", "signs", "many", "k"] ["bag", "most"] (defScope s__law_letters) := ⟨rfl, rfl, rfl, by decide +kernel, rfl, by decide +kernel, by decide +kernel⟩
theorem bo__law_letters : BindOk "_law_letters" "_law_letters" s__law_letters ["bag", "most"] := fun _ _ _ _ _ _ us hl => match us, hl with | [_, _], _ => rfl
theorem sc__law_further : FnScope ["bag", "letters", "most", "longest", "told", "k", "word", "i"] ["bag", "letters", "most", "longest"] (defScope s__law_further) := ⟨rfl, rfl, rfl, by decide +kernel, rfl, by decide +kernel, by decide +kernel⟩
theorem bo__law_further : BindOk "_law_further" "_law_further" s__law_further ["bag", "letters", "most", "longest"] := fun _ _ _ _ _ _ us hl => match us, hl with | [_, _, _, _], _ => rfl
theorem sc__law_is_number : FnScope ["value", "due"] ["value", "due"] (defScope s__law_is_number) := ⟨rfl, rfl, rfl, by decide +kernel, rfl, by decide +kernel, by decide +kernel⟩
theorem bo__law_is_number : BindOk "_law_is_number" "_law_is_number" s__law_is_number ["value", "due"] := fun _ _ _ _ _ _ us hl => match us, hl with | [_, _], _ => rfl
theorem sc__law_alike : FnScope ["value", "due"] ["value", "due"] (defScope s__law_alike) := ⟨rfl, rfl, rfl, by decide +kernel, rfl, by decide +kernel, by decide +kernel⟩
theorem bo__law_alike : BindOk "_law_alike" "_law_alike" s__law_alike ["value", "due"] := fun _ _ _ _ _ _ us hl => match us, hl with | [_, _], _ => rfl
theorem sc__law_fault : FnScope ["plain", "values", "due", "e"] ["plain", "values", "due"] (defScope s__law_fault) := ⟨rfl, rfl, rfl, by decide +kernel, rfl, by decide +kernel, by decide +kernel⟩
theorem bo__law_fault : BindOk "_law_fault" "_law_fault" s__law_fault ["plain", "values", "due"] := fun _ _ _ _ _ _ us hl => match us, hl with | [_, _, _], _ => rfl
theorem sc__law_no_row : FnScope ["priced", "row", "e"] ["priced", "row"] (defScope s__law_no_row) := ⟨rfl, rfl, rfl, by decide +kernel, rfl, by decide +kernel, by decide +kernel⟩
theorem bo__law_no_row : BindOk "_law_no_row" "_law_no_row" s__law_no_row ["priced", "row"] := fun _ _ _ _ _ _ us hl => match us, hl with | [_, _], _ => rfl
theorem sc__law_rows : FnScope ["bag", "words", "costs", "priced", "k", "places", "i", "row", "place", "due", "handed", "at", "wrong"] ["bag", "words", "costs", "priced"] (defScope s__law_rows) := ⟨rfl, rfl, rfl, by decide +kernel, rfl, by decide +kernel, by decide +kernel⟩
theorem bo__law_rows : BindOk "_law_rows" "_law_rows" s__law_rows ["bag", "words", "costs", "priced"] := fun _ _ _ _ _ _ us hl => match us, hl with | [_, _, _, _], _ => rfl
theorem sc__law_faults : FnScope ["bag", "plain", "costs", "priced", "other", "at", "wrongs", "wrong", "values"] ["bag", "plain", "costs", "priced"] (defScope s__law_faults) := ⟨rfl, rfl, rfl, by decide +kernel, rfl, by decide +kernel, by decide +kernel⟩
theorem bo__law_faults : BindOk "_law_faults" "_law_faults" s__law_faults ["bag", "plain", "costs", "priced"] := fun _ _ _ _ _ _ us hl => match us, hl with | [_, _, _, _], _ => rfl
theorem sc__law_differ : FnScope ["one", "other"] ["one", "other"] (defScope s__law_differ) := ⟨rfl, rfl, rfl, by decide +kernel, rfl, by decide +kernel, by decide +kernel⟩
theorem bo__law_differ : BindOk "_law_differ" "_law_differ" s__law_differ ["one", "other"] := fun _ _ _ _ _ _ us hl => match us, hl with | [_, _], _ => rfl
theorem sc__law_equals : FnScope ["bag", "letters", "further", "costs", "priced", "at", "changed", "turned", "other", "again"] ["bag", "letters", "further", "costs", "priced"] (defScope s__law_equals) := ⟨rfl, rfl, rfl, by decide +kernel, rfl, by decide +kernel, by decide +kernel⟩
theorem bo__law_equals : BindOk "_law_equals" "_law_equals" s__law_equals ["bag", "letters", "further", "costs", "priced"] := fun _ _ _ _ _ _ us hl => match us, hl with | [_, _, _, _, _], _ => rfl
theorem sc_law : FnScope ["script", "bag", "letters", "further", "words", "sign", "costs", "word", "plain", "handed", "priced", "value"] ["script"] (defScope s_law) := ⟨rfl, rfl, rfl, by decide +kernel, rfl, by decide +kernel, by decide +kernel⟩
theorem bo_law : BindOk "law" "law" s_law ["script"] := fun _ _ _ _ _ _ us hl => match us, hl with | [_], _ => rfl
def fn : List He.DefD := [
  ⟨("InvalidAlphabet", some "__init__"), "__init__", "InvalidAlphabet.__init__", defArgs s_InvalidAlphabet___init__, defBody s_InvalidAlphabet___init__, defScope s_InvalidAlphabet___init__, [], []⟩,
  ⟨("NotProper", some "__init__"), "__init__", "NotProper.__init__", defArgs s_NotProper___init__, defBody s_NotProper___init__, defScope s_NotProper___init__, [], []⟩,
  ⟨("InvalidNumber", some "__init__"), "__init__", "InvalidNumber.__init__", defArgs s_InvalidNumber___init__, defBody s_InvalidNumber___init__, defScope s_InvalidNumber___init__, [], []⟩,
  ⟨("InvalidWords", some "__init__"), "__init__", "InvalidWords.__init__", defArgs s_InvalidWords___init__, defBody s_InvalidWords___init__, defScope s_InvalidWords___init__, [], []⟩,
  ⟨("InvalidCutter", some "__init__"), "__init__", "InvalidCutter.__init__", defArgs s_InvalidCutter___init__, defBody s_InvalidCutter___init__, defScope s_InvalidCutter___init__, [], []⟩,
  ⟨("InvalidRow", some "__init__"), "__init__", "InvalidRow.__init__", defArgs s_InvalidRow___init__, defBody s_InvalidRow___init__, defScope s_InvalidRow___init__, [], []⟩,
  ⟨("TooMany", some "__init__"), "__init__", "TooMany.__init__", defArgs s_TooMany___init__, defBody s_TooMany___init__, defScope s_TooMany___init__, [], []⟩,
  ⟨("is_between", none), "is_between", "is_between", defArgs s_is_between, defBody s_is_between, defScope s_is_between, [], []⟩,
  ⟨("is_alphabet", none), "is_alphabet", "is_alphabet", defArgs s_is_alphabet, defBody s_is_alphabet, defScope s_is_alphabet, [], []⟩,
  ⟨("checked_alphabet", none), "checked_alphabet", "checked_alphabet", defArgs s_checked_alphabet, defBody s_checked_alphabet, defScope s_checked_alphabet, [], []⟩,
  ⟨("put_together", none), "put_together", "put_together", defArgs s_put_together, defBody s_put_together, defScope s_put_together, [], []⟩,
  ⟨("lowest_pair", none), "lowest_pair", "lowest_pair", defArgs s_lowest_pair, defBody s_lowest_pair, defScope s_lowest_pair, [], []⟩,
  ⟨("cut_row", none), "cut_row", "cut_row", defArgs s_cut_row, defBody s_cut_row, defScope s_cut_row, [], []⟩,
  ⟨("Joins", some "__init__"), "__init__", "Joins.__init__", defArgs s_Joins___init__, defBody s_Joins___init__, defScope s_Joins___init__, [], []⟩,
  ⟨("Joins", some "take"), "take", "Joins.take", defArgs s_Joins_take, defBody s_Joins_take, defScope s_Joins_take, [], []⟩,
  ⟨("Joins", some "is_proper"), "is_proper", "Joins.is_proper", defArgs s_Joins_is_proper, defBody s_Joins_is_proper, defScope s_Joins_is_proper, [], []⟩,
  ⟨("Joins", some "is_piece"), "is_piece", "Joins.is_piece", defArgs s_Joins_is_piece, defBody s_Joins_is_piece, defScope s_Joins_is_piece, [], []⟩,
  ⟨("Joins", some "check_piece"), "check_piece", "Joins.check_piece", defArgs s_Joins_check_piece, defBody s_Joins_check_piece, defScope s_Joins_check_piece, [], []⟩,
  ⟨("Joins", some "text_of"), "text_of", "Joins.text_of", defArgs s_Joins_text_of, defBody s_Joins_text_of, defScope s_Joins_text_of, [], []⟩,
  ⟨("Joins", some "parts_of"), "parts_of", "Joins.parts_of", defArgs s_Joins_parts_of, defBody s_Joins_parts_of, defScope s_Joins_parts_of, [], []⟩,
  ⟨("Joins", some "rank_of"), "rank_of", "Joins.rank_of", defArgs s_Joins_rank_of, defBody s_Joins_rank_of, defScope s_Joins_rank_of, [], []⟩,
  ⟨("Joins", some "piece_of"), "piece_of", "Joins.piece_of", defArgs s_Joins_piece_of, defBody s_Joins_piece_of, defScope s_Joins_piece_of, [], []⟩,
  ⟨("Joins", some "first"), "first", "Joins.first", defArgs s_Joins_first, defBody s_Joins_first, defScope s_Joins_first, [], []⟩,
  ⟨("Joins", some "__len__"), "__len__", "Joins.__len__", defArgs s_Joins___len__, defBody s_Joins___len__, defScope s_Joins___len__, [], []⟩,
  ⟨("Joins", some "__iter__"), "__iter__", "Joins.__iter__", defArgs s_Joins___iter__, defBody s_Joins___iter__, defScope s_Joins___iter__, [], []⟩,
  ⟨("Joins", some "__eq__"), "__eq__", "Joins.__eq__", defArgs s_Joins___eq__, defBody s_Joins___eq__, defScope s_Joins___eq__, [], []⟩,
  ⟨("is_sequence", none), "is_sequence", "is_sequence", defArgs s_is_sequence, defBody s_is_sequence, defScope s_is_sequence, [], []⟩,
  ⟨("is_text_over", none), "is_text_over", "is_text_over", defArgs s_is_text_over, defBody s_is_text_over, defScope s_is_text_over, [], []⟩,
  ⟨("is_word_text", none), "is_word_text", "is_word_text", defArgs s_is_word_text, defBody s_is_word_text, defScope s_is_word_text, [], []⟩,
  ⟨("checked_alphabet_of_words", none), "checked_alphabet_of_words", "checked_alphabet_of_words", defArgs s_checked_alphabet_of_words, defBody s_checked_alphabet_of_words, defScope s_checked_alphabet_of_words, [], []⟩,
  ⟨("checked_further", none), "checked_further", "checked_further", defArgs s_checked_further, defBody s_checked_further, defScope s_checked_further, [], []⟩,
  ⟨("Words", some "__init__"), "__init__", "Words.__init__", defArgs s_Words___init__, defBody s_Words___init__, defScope s_Words___init__, [], []⟩,
  ⟨("Words", some "all_words"), "all_words", "Words.all_words", defArgs s_Words_all_words, defBody s_Words_all_words, defScope s_Words_all_words, [], []⟩,
  ⟨("Words", some "has"), "has", "Words.has", defArgs s_Words_has, defBody s_Words_has, defScope s_Words_has, [], []⟩,
  ⟨("Words", some "without"), "without", "Words.without", defArgs s_Words_without, defBody s_Words_without, defScope s_Words_without, [], []⟩,
  ⟨("Words", some "lengths_ahead"), "lengths_ahead", "Words.lengths_ahead", defArgs s_Words_lengths_ahead, defBody s_Words_lengths_ahead, defScope s_Words_lengths_ahead, [], []⟩,
  ⟨("Words", some "lengths_behind"), "lengths_behind", "Words.lengths_behind", defArgs s_Words_lengths_behind, defBody s_Words_lengths_behind, defScope s_Words_lengths_behind, [], []⟩,
  ⟨("Words", some "__eq__"), "__eq__", "Words.__eq__", defArgs s_Words___eq__, defBody s_Words___eq__, defScope s_Words___eq__, [], []⟩,
  ⟨("is_way", none), "is_way", "is_way", defArgs s_is_way, defBody s_is_way, defScope s_is_way, [], []⟩,
  ⟨("checked_costs", none), "checked_costs", "checked_costs", defArgs s_checked_costs, defBody s_checked_costs, defScope s_checked_costs, [], []⟩,
  ⟨("Costs", some "__init__"), "__init__", "Costs.__init__", defArgs s_Costs___init__, defBody s_Costs___init__, defScope s_Costs___init__, [], []⟩,
  ⟨("Costs", some "cost_of"), "cost_of", "Costs.cost_of", defArgs s_Costs_cost_of, defBody s_Costs_cost_of, defScope s_Costs_cost_of, [], []⟩,
  ⟨("Costs", some "__eq__"), "__eq__", "Costs.__eq__", defArgs s_Costs___eq__, defBody s_Costs___eq__, defScope s_Costs___eq__, [], []⟩,
  ⟨("_law_bag", none), "_law_bag", "_law_bag", defArgs s__law_bag, defBody s__law_bag, defScope s__law_bag, [], []⟩,
  ⟨("_law_draw", none), "_law_draw", "_law_draw", defArgs s__law_draw, defBody s__law_draw, defScope s__law_draw, [], []⟩,
  ⟨("_law_letters", none), "_law_letters", "_law_letters", defArgs s__law_letters, defBody s__law_letters, defScope s__law_letters, [], []⟩,
  ⟨("_law_further", none), "_law_further", "_law_further", defArgs s__law_further, defBody s__law_further, defScope s__law_further, [], []⟩,
  ⟨("_law_is_number", none), "_law_is_number", "_law_is_number", defArgs s__law_is_number, defBody s__law_is_number, defScope s__law_is_number, [], []⟩,
  ⟨("_law_alike", none), "_law_alike", "_law_alike", defArgs s__law_alike, defBody s__law_alike, defScope s__law_alike, [], []⟩,
  ⟨("_law_fault", none), "_law_fault", "_law_fault", defArgs s__law_fault, defBody s__law_fault, defScope s__law_fault, [], []⟩,
  ⟨("_law_no_row", none), "_law_no_row", "_law_no_row", defArgs s__law_no_row, defBody s__law_no_row, defScope s__law_no_row, [], []⟩,
  ⟨("_law_rows", none), "_law_rows", "_law_rows", defArgs s__law_rows, defBody s__law_rows, defScope s__law_rows, [], []⟩,
  ⟨("_law_faults", none), "_law_faults", "_law_faults", defArgs s__law_faults, defBody s__law_faults, defScope s__law_faults, [], []⟩,
  ⟨("_law_differ", none), "_law_differ", "_law_differ", defArgs s__law_differ, defBody s__law_differ, defScope s__law_differ, [], []⟩,
  ⟨("_law_equals", none), "_law_equals", "_law_equals", defArgs s__law_equals, defBody s__law_equals, defScope s__law_equals, [], []⟩,
  ⟨("law", none), "law", "law", defArgs s_law, defBody s_law, defScope s_law, [], []⟩]
def fa : List He.Fa := [
  .glo "is_between",
  .glo "is_alphabet",
  .glo "checked_alphabet",
  .glo "put_together",
  .glo "lowest_pair",
  .glo "cut_row",
  .glo "is_sequence",
  .glo "is_text_over",
  .glo "is_word_text",
  .glo "checked_alphabet_of_words",
  .glo "checked_further",
  .glo "is_way",
  .glo "checked_costs",
  .glo "_law_bag",
  .glo "_law_draw",
  .glo "_law_letters",
  .glo "_law_further",
  .glo "_law_is_number",
  .glo "_law_alike",
  .glo "_law_fault",
  .glo "_law_no_row",
  .glo "_law_rows",
  .glo "_law_faults",
  .glo "_law_differ",
  .glo "_law_equals",
  .glo "law",
  .glo "JoinError",
  .glo "InvalidAlphabet",
  .glo "NotProper",
  .glo "InvalidNumber",
  .glo "InvalidWords",
  .glo "InvalidCutter",
  .glo "InvalidRow",
  .glo "TooMany",
  .glo "Joins",
  .glo "Words",
  .glo "Costs",
  .free "bool",
  .free "enumerate",
  .free "int",
  .free "isinstance",
  .free "iter",
  .free "len",
  .free "list",
  .free "max",
  .free "property",
  .free "range",
  .free "set",
  .free "sorted",
  .free "str",
  .free "sum",
  .free "tuple",
  .int "MOST_LETTERS" 30,
  .int "LONGEST_PIECE" 40,
  .int "SHORTEST_WORD" 2,
  .int "LONGEST_WORD" 6,
  .int "MOST_WORDS" 10,
  .int "LEAST_COST" 1,
  .int "GREATEST_COST" 9,
  .cls "Joins",
  .mkr "Joins",
  .noat "Joins" "alphabet",
  .noat "Joins" "pairs",
  .noat "Joins" "texts",
  .noat "Joins" "ranks",
  .noat "Joins" "numbers",
  .noat "Joins" "longest",
  .meth "Joins" "take",
  .meth "Joins" "is_proper",
  .meth "Joins" "is_piece",
  .meth "Joins" "check_piece",
  .meth "Joins" "text_of",
  .meth "Joins" "parts_of",
  .meth "Joins" "rank_of",
  .meth "Joins" "piece_of",
  .meth "Joins" "first",
  .meth "Joins" "__len__",
  .meth "Joins" "__iter__",
  .meth "Joins" "__eq__",
  .cls "Words",
  .mkr "Words",
  .noat "Words" "alphabet",
  .noat "Words" "further",
  .noat "Words" "known",
  .noat "Words" "longest",
  .meth "Words" "all_words",
  .meth "Words" "has",
  .meth "Words" "without",
  .meth "Words" "lengths_ahead",
  .meth "Words" "lengths_behind",
  .meth "Words" "__eq__",
  .cls "Costs",
  .mkr "Costs",
  .noat "Costs" "words",
  .noat "Costs" "costs",
  .noat "Costs" "prices",
  .meth "Costs" "cost_of",
  .meth "Costs" "__eq__",
  .noat "InvalidAlphabet" "alphabet",
  .noat "NotProper" "rank",
  .noat "InvalidNumber" "number",
  .noat "InvalidWords" "place",
  .noat "InvalidCutter" "part",
  .noat "InvalidRow" "row",
  .noat "TooMany" "what",
  .exm "InvalidAlphabet" "InvalidCutter" false,
  .exm "InvalidAlphabet" "InvalidNumber" false,
  .exm "InvalidAlphabet" "InvalidRow" false,
  .exm "NotProper" "InvalidCutter" false,
  .exm "NotProper" "InvalidNumber" false,
  .exm "NotProper" "InvalidRow" false,
  .exm "InvalidNumber" "InvalidCutter" false,
  .exm "InvalidNumber" "InvalidNumber" true,
  .exm "InvalidNumber" "InvalidRow" false,
  .exm "InvalidWords" "InvalidCutter" false,
  .exm "InvalidWords" "InvalidNumber" false,
  .exm "InvalidWords" "InvalidRow" false,
  .exm "InvalidCutter" "InvalidCutter" true,
  .exm "InvalidCutter" "InvalidNumber" false,
  .exm "InvalidCutter" "InvalidRow" false,
  .exm "InvalidRow" "InvalidCutter" false,
  .exm "InvalidRow" "InvalidNumber" false,
  .exm "InvalidRow" "InvalidRow" true,
  .exm "TooMany" "InvalidCutter" false,
  .exm "TooMany" "InvalidNumber" false,
  .exm "TooMany" "InvalidRow" false]
def fx : List Fx := [
  .ins "Joins",
  .ins "Words",
  .ins "Costs",
  .exc "InvalidAlphabet",
  .exc "NotProper",
  .exc "InvalidNumber",
  .exc "InvalidWords",
  .exc "InvalidCutter",
  .exc "InvalidRow",
  .exc "TooMany",
  .kit (.own "InvalidAlphabet") (.own "InvalidRow") false,
  .kit (.own "InvalidAlphabet") (.own "InvalidWords") false,
  .kit (.own "InvalidAlphabet") (.own "InvalidNumber") false,
  .kit (.own "NotProper") (.own "InvalidRow") false,
  .kit (.own "NotProper") (.own "InvalidWords") false,
  .kit (.own "NotProper") (.own "InvalidNumber") false,
  .kit (.own "InvalidNumber") (.own "InvalidRow") false,
  .kit (.own "InvalidNumber") (.own "InvalidWords") false,
  .kit (.own "InvalidNumber") (.own "InvalidNumber") true,
  .kit (.own "InvalidWords") (.own "InvalidRow") false,
  .kit (.own "InvalidWords") (.own "InvalidWords") true,
  .kit (.own "InvalidWords") (.own "InvalidNumber") false,
  .kit (.own "InvalidCutter") (.own "InvalidRow") false,
  .kit (.own "InvalidCutter") (.own "InvalidWords") false,
  .kit (.own "InvalidCutter") (.own "InvalidNumber") false,
  .kit (.own "InvalidRow") (.own "InvalidRow") true,
  .kit (.own "InvalidRow") (.own "InvalidWords") false,
  .kit (.own "InvalidRow") (.own "InvalidNumber") false,
  .kit (.own "TooMany") (.own "InvalidRow") false,
  .kit (.own "TooMany") (.own "InvalidWords") false,
  .kit (.own "TooMany") (.own "InvalidNumber") false,
  .kit (.own "Joins") (.blt "tuple") false,
  .kit (.own "Joins") (.blt "list") false,
  .kit (.own "Joins") (.blt "int") false,
  .kit (.own "Joins") (.blt "str") false,
  .kit (.own "Joins") (.blt "bool") false,
  .kit (.own "Joins") (.own "Words") false,
  .kit (.own "Joins") (.own "Joins") true,
  .kit (.own "Joins") (.own "Costs") false,
  .kit (.own "Words") (.blt "tuple") false,
  .kit (.own "Words") (.blt "list") false,
  .kit (.own "Words") (.blt "int") false,
  .kit (.own "Words") (.blt "str") false,
  .kit (.own "Words") (.blt "bool") false,
  .kit (.own "Words") (.own "Words") true,
  .kit (.own "Words") (.own "Joins") false,
  .kit (.own "Words") (.own "Costs") false,
  .kit (.own "Costs") (.blt "tuple") false,
  .kit (.own "Costs") (.blt "list") false,
  .kit (.own "Costs") (.blt "int") false,
  .kit (.own "Costs") (.blt "str") false,
  .kit (.own "Costs") (.blt "bool") false,
  .kit (.own "Costs") (.own "Words") false,
  .kit (.own "Costs") (.own "Joins") false,
  .kit (.own "Costs") (.own "Costs") true,
  .kit (.blt "int") (.own "Words") false,
  .kit (.blt "int") (.own "Joins") false,
  .kit (.blt "int") (.own "Costs") false,
  .kit (.blt "bool") (.own "Words") false,
  .kit (.blt "bool") (.own "Joins") false,
  .kit (.blt "bool") (.own "Costs") false,
  .kit (.blt "str") (.own "Words") false,
  .kit (.blt "str") (.own "Joins") false,
  .kit (.blt "str") (.own "Costs") false,
  .kit (.blt "tuple") (.own "Words") false,
  .kit (.blt "tuple") (.own "Joins") false,
  .kit (.blt "tuple") (.own "Costs") false,
  .kit (.blt "list") (.own "Words") false,
  .kit (.blt "list") (.own "Joins") false,
  .kit (.blt "list") (.own "Costs") false,
  .kit (.blt "NoneType") (.own "Words") false,
  .kit (.blt "NoneType") (.own "Joins") false,
  .kit (.blt "NoneType") (.own "Costs") false,
  .kit (.blt "dict") (.own "Words") false,
  .kit (.blt "dict") (.own "Joins") false,
  .kit (.blt "dict") (.own "Costs") false,
  .any (fun K => eqcB K (He.ga K "Joins")),
  .any (fun K => PySem.W.notFirst K (He.ga K "Joins") ((Cn.own "Joins").val K)),
  .any (fun K => PySem.W.notFirst K (He.ga K "Joins") ((Cn.own "Words").val K)),
  .any (fun K => PySem.W.notFirst K (He.ga K "Joins") ((Cn.own "Costs").val K)),
  .any (fun K => PySem.W.notFirst K (He.ga K "Joins") ((Cn.blt "NoneType").val K)),
  .any (fun K => PySem.W.notFirst K (He.ga K "Joins") ((Cn.blt "bool").val K)),
  .any (fun K => PySem.W.notFirst K (He.ga K "Joins") ((Cn.blt "int").val K)),
  .any (fun K => PySem.W.notFirst K (He.ga K "Joins") ((Cn.blt "str").val K)),
  .any (fun K => PySem.W.notFirst K (He.ga K "Joins") ((Cn.blt "tuple").val K)),
  .any (fun K => PySem.W.notFirst K (He.ga K "Joins") ((Cn.blt "list").val K)),
  .any (fun K => eqcB K (He.ga K "Words")),
  .any (fun K => PySem.W.notFirst K (He.ga K "Words") ((Cn.own "Joins").val K)),
  .any (fun K => PySem.W.notFirst K (He.ga K "Words") ((Cn.own "Words").val K)),
  .any (fun K => PySem.W.notFirst K (He.ga K "Words") ((Cn.own "Costs").val K)),
  .any (fun K => PySem.W.notFirst K (He.ga K "Words") ((Cn.blt "NoneType").val K)),
  .any (fun K => PySem.W.notFirst K (He.ga K "Words") ((Cn.blt "bool").val K)),
  .any (fun K => PySem.W.notFirst K (He.ga K "Words") ((Cn.blt "int").val K)),
  .any (fun K => PySem.W.notFirst K (He.ga K "Words") ((Cn.blt "str").val K)),
  .any (fun K => PySem.W.notFirst K (He.ga K "Words") ((Cn.blt "tuple").val K)),
  .any (fun K => PySem.W.notFirst K (He.ga K "Words") ((Cn.blt "list").val K)),
  .any (fun K => eqcB K (He.ga K "Costs")),
  .any (fun K => PySem.W.notFirst K (He.ga K "Costs") ((Cn.own "Joins").val K)),
  .any (fun K => PySem.W.notFirst K (He.ga K "Costs") ((Cn.own "Words").val K)),
  .any (fun K => PySem.W.notFirst K (He.ga K "Costs") ((Cn.own "Costs").val K)),
  .any (fun K => PySem.W.notFirst K (He.ga K "Costs") ((Cn.blt "NoneType").val K)),
  .any (fun K => PySem.W.notFirst K (He.ga K "Costs") ((Cn.blt "bool").val K)),
  .any (fun K => PySem.W.notFirst K (He.ga K "Costs") ((Cn.blt "int").val K)),
  .any (fun K => PySem.W.notFirst K (He.ga K "Costs") ((Cn.blt "str").val K)),
  .any (fun K => PySem.W.notFirst K (He.ga K "Costs") ((Cn.blt "tuple").val K)),
  .any (fun K => PySem.W.notFirst K (He.ga K "Costs") ((Cn.blt "list").val K))]
abbrev R : PySem.W.OpenRow := PySem.W.OpenLaw.row RWL
abbrev hk : PySem.W.Hook := hookX 5 fa fx fn
def ob (s : PySem.W.SharedT) : He.AlD := obsXG 5 fa fx fn (HandSHeadRun.getT s)
theorem ob_eq (s : PySem.W.SharedT) : ob s = hk.obs s.abs := obsXG_eq (HandSHeadRun.getT_eq s)
def loose : List Str := (PW.main.scope.names.map (·.1)).filter fun n => !(n == "law")
abbrev lawPlace : Nat := 50
section
variable {K : PySem.W.Frag} {mg : Str → Option Value} {base : Heap}
theorem d_InvalidAlphabet___init__ (T : Ev fa fx fn K mg base) : ∃ fd, FunD K "__init__" "InvalidAlphabet.__init__" (defArgs s_InvalidAlphabet___init__) (defBody s_InvalidAlphabet___init__) (defScope s_InvalidAlphabet___init__) [] [] (He.ma K (He.ga K "InvalidAlphabet") "__init__") fd := T.says.def_ 0
theorem d_NotProper___init__ (T : Ev fa fx fn K mg base) : ∃ fd, FunD K "__init__" "NotProper.__init__" (defArgs s_NotProper___init__) (defBody s_NotProper___init__) (defScope s_NotProper___init__) [] [] (He.ma K (He.ga K "NotProper") "__init__") fd := T.says.def_ 1
theorem d_InvalidNumber___init__ (T : Ev fa fx fn K mg base) : ∃ fd, FunD K "__init__" "InvalidNumber.__init__" (defArgs s_InvalidNumber___init__) (defBody s_InvalidNumber___init__) (defScope s_InvalidNumber___init__) [] [] (He.ma K (He.ga K "InvalidNumber") "__init__") fd := T.says.def_ 2
theorem d_InvalidWords___init__ (T : Ev fa fx fn K mg base) : ∃ fd, FunD K "__init__" "InvalidWords.__init__" (defArgs s_InvalidWords___init__) (defBody s_InvalidWords___init__) (defScope s_InvalidWords___init__) [] [] (He.ma K (He.ga K "InvalidWords") "__init__") fd := T.says.def_ 3
theorem d_InvalidCutter___init__ (T : Ev fa fx fn K mg base) : ∃ fd, FunD K "__init__" "InvalidCutter.__init__" (defArgs s_InvalidCutter___init__) (defBody s_InvalidCutter___init__) (defScope s_InvalidCutter___init__) [] [] (He.ma K (He.ga K "InvalidCutter") "__init__") fd := T.says.def_ 4
theorem d_InvalidRow___init__ (T : Ev fa fx fn K mg base) : ∃ fd, FunD K "__init__" "InvalidRow.__init__" (defArgs s_InvalidRow___init__) (defBody s_InvalidRow___init__) (defScope s_InvalidRow___init__) [] [] (He.ma K (He.ga K "InvalidRow") "__init__") fd := T.says.def_ 5
theorem d_TooMany___init__ (T : Ev fa fx fn K mg base) : ∃ fd, FunD K "__init__" "TooMany.__init__" (defArgs s_TooMany___init__) (defBody s_TooMany___init__) (defScope s_TooMany___init__) [] [] (He.ma K (He.ga K "TooMany") "__init__") fd := T.says.def_ 6
theorem d_is_between (T : Ev fa fx fn K mg base) : ∃ fd, FunD K "is_between" "is_between" (defArgs s_is_between) (defBody s_is_between) (defScope s_is_between) [] [] (He.ga K "is_between") fd := T.says.def_ 7
theorem d_is_alphabet (T : Ev fa fx fn K mg base) : ∃ fd, FunD K "is_alphabet" "is_alphabet" (defArgs s_is_alphabet) (defBody s_is_alphabet) (defScope s_is_alphabet) [] [] (He.ga K "is_alphabet") fd := T.says.def_ 8
theorem d_checked_alphabet (T : Ev fa fx fn K mg base) : ∃ fd, FunD K "checked_alphabet" "checked_alphabet" (defArgs s_checked_alphabet) (defBody s_checked_alphabet) (defScope s_checked_alphabet) [] [] (He.ga K "checked_alphabet") fd := T.says.def_ 9
theorem d_put_together (T : Ev fa fx fn K mg base) : ∃ fd, FunD K "put_together" "put_together" (defArgs s_put_together) (defBody s_put_together) (defScope s_put_together) [] [] (He.ga K "put_together") fd := T.says.def_ 10
theorem d_lowest_pair (T : Ev fa fx fn K mg base) : ∃ fd, FunD K "lowest_pair" "lowest_pair" (defArgs s_lowest_pair) (defBody s_lowest_pair) (defScope s_lowest_pair) [] [] (He.ga K "lowest_pair") fd := T.says.def_ 11
theorem d_cut_row (T : Ev fa fx fn K mg base) : ∃ fd, FunD K "cut_row" "cut_row" (defArgs s_cut_row) (defBody s_cut_row) (defScope s_cut_row) [] [] (He.ga K "cut_row") fd := T.says.def_ 12
theorem d_Joins___init__ (T : Ev fa fx fn K mg base) : ∃ fd, FunD K "__init__" "Joins.__init__" (defArgs s_Joins___init__) (defBody s_Joins___init__) (defScope s_Joins___init__) [] [] (He.ma K (He.ga K "Joins") "__init__") fd := T.says.def_ 13
theorem d_Joins_take (T : Ev fa fx fn K mg base) : ∃ fd, FunD K "take" "Joins.take" (defArgs s_Joins_take) (defBody s_Joins_take) (defScope s_Joins_take) [] [] (He.ma K (He.ga K "Joins") "take") fd := T.says.def_ 14
theorem d_Joins_is_proper (T : Ev fa fx fn K mg base) : ∃ fd, FunD K "is_proper" "Joins.is_proper" (defArgs s_Joins_is_proper) (defBody s_Joins_is_proper) (defScope s_Joins_is_proper) [] [] (He.ma K (He.ga K "Joins") "is_proper") fd := T.says.def_ 15
theorem d_Joins_is_piece (T : Ev fa fx fn K mg base) : ∃ fd, FunD K "is_piece" "Joins.is_piece" (defArgs s_Joins_is_piece) (defBody s_Joins_is_piece) (defScope s_Joins_is_piece) [] [] (He.ma K (He.ga K "Joins") "is_piece") fd := T.says.def_ 16
theorem d_Joins_check_piece (T : Ev fa fx fn K mg base) : ∃ fd, FunD K "check_piece" "Joins.check_piece" (defArgs s_Joins_check_piece) (defBody s_Joins_check_piece) (defScope s_Joins_check_piece) [] [] (He.ma K (He.ga K "Joins") "check_piece") fd := T.says.def_ 17
theorem d_Joins_text_of (T : Ev fa fx fn K mg base) : ∃ fd, FunD K "text_of" "Joins.text_of" (defArgs s_Joins_text_of) (defBody s_Joins_text_of) (defScope s_Joins_text_of) [] [] (He.ma K (He.ga K "Joins") "text_of") fd := T.says.def_ 18
theorem d_Joins_parts_of (T : Ev fa fx fn K mg base) : ∃ fd, FunD K "parts_of" "Joins.parts_of" (defArgs s_Joins_parts_of) (defBody s_Joins_parts_of) (defScope s_Joins_parts_of) [] [] (He.ma K (He.ga K "Joins") "parts_of") fd := T.says.def_ 19
theorem d_Joins_rank_of (T : Ev fa fx fn K mg base) : ∃ fd, FunD K "rank_of" "Joins.rank_of" (defArgs s_Joins_rank_of) (defBody s_Joins_rank_of) (defScope s_Joins_rank_of) [] [] (He.ma K (He.ga K "Joins") "rank_of") fd := T.says.def_ 20
theorem d_Joins_piece_of (T : Ev fa fx fn K mg base) : ∃ fd, FunD K "piece_of" "Joins.piece_of" (defArgs s_Joins_piece_of) (defBody s_Joins_piece_of) (defScope s_Joins_piece_of) [] [] (He.ma K (He.ga K "Joins") "piece_of") fd := T.says.def_ 21
theorem d_Joins_first (T : Ev fa fx fn K mg base) : ∃ fd, FunD K "first" "Joins.first" (defArgs s_Joins_first) (defBody s_Joins_first) (defScope s_Joins_first) [] [] (He.ma K (He.ga K "Joins") "first") fd := T.says.def_ 22
theorem d_Joins___len__ (T : Ev fa fx fn K mg base) : ∃ fd, FunD K "__len__" "Joins.__len__" (defArgs s_Joins___len__) (defBody s_Joins___len__) (defScope s_Joins___len__) [] [] (He.ma K (He.ga K "Joins") "__len__") fd := T.says.def_ 23
theorem d_Joins___iter__ (T : Ev fa fx fn K mg base) : ∃ fd, FunD K "__iter__" "Joins.__iter__" (defArgs s_Joins___iter__) (defBody s_Joins___iter__) (defScope s_Joins___iter__) [] [] (He.ma K (He.ga K "Joins") "__iter__") fd := T.says.def_ 24
theorem d_Joins___eq__ (T : Ev fa fx fn K mg base) : ∃ fd, FunD K "__eq__" "Joins.__eq__" (defArgs s_Joins___eq__) (defBody s_Joins___eq__) (defScope s_Joins___eq__) [] [] (He.ma K (He.ga K "Joins") "__eq__") fd := T.says.def_ 25
theorem d_is_sequence (T : Ev fa fx fn K mg base) : ∃ fd, FunD K "is_sequence" "is_sequence" (defArgs s_is_sequence) (defBody s_is_sequence) (defScope s_is_sequence) [] [] (He.ga K "is_sequence") fd := T.says.def_ 26
theorem d_is_text_over (T : Ev fa fx fn K mg base) : ∃ fd, FunD K "is_text_over" "is_text_over" (defArgs s_is_text_over) (defBody s_is_text_over) (defScope s_is_text_over) [] [] (He.ga K "is_text_over") fd := T.says.def_ 27
theorem d_is_word_text (T : Ev fa fx fn K mg base) : ∃ fd, FunD K "is_word_text" "is_word_text" (defArgs s_is_word_text) (defBody s_is_word_text) (defScope s_is_word_text) [] [] (He.ga K "is_word_text") fd := T.says.def_ 28
theorem d_checked_alphabet_of_words (T : Ev fa fx fn K mg base) : ∃ fd, FunD K "checked_alphabet_of_words" "checked_alphabet_of_words" (defArgs s_checked_alphabet_of_words) (defBody s_checked_alphabet_of_words) (defScope s_checked_alphabet_of_words) [] [] (He.ga K "checked_alphabet_of_words") fd := T.says.def_ 29
theorem d_checked_further (T : Ev fa fx fn K mg base) : ∃ fd, FunD K "checked_further" "checked_further" (defArgs s_checked_further) (defBody s_checked_further) (defScope s_checked_further) [] [] (He.ga K "checked_further") fd := T.says.def_ 30
theorem d_Words___init__ (T : Ev fa fx fn K mg base) : ∃ fd, FunD K "__init__" "Words.__init__" (defArgs s_Words___init__) (defBody s_Words___init__) (defScope s_Words___init__) [] [] (He.ma K (He.ga K "Words") "__init__") fd := T.says.def_ 31
theorem d_Words_all_words (T : Ev fa fx fn K mg base) : ∃ fd, FunD K "all_words" "Words.all_words" (defArgs s_Words_all_words) (defBody s_Words_all_words) (defScope s_Words_all_words) [] [] (He.ma K (He.ga K "Words") "all_words") fd := T.says.def_ 32
theorem d_Words_has (T : Ev fa fx fn K mg base) : ∃ fd, FunD K "has" "Words.has" (defArgs s_Words_has) (defBody s_Words_has) (defScope s_Words_has) [] [] (He.ma K (He.ga K "Words") "has") fd := T.says.def_ 33
theorem d_Words_without (T : Ev fa fx fn K mg base) : ∃ fd, FunD K "without" "Words.without" (defArgs s_Words_without) (defBody s_Words_without) (defScope s_Words_without) [] [] (He.ma K (He.ga K "Words") "without") fd := T.says.def_ 34
theorem d_Words_lengths_ahead (T : Ev fa fx fn K mg base) : ∃ fd, FunD K "lengths_ahead" "Words.lengths_ahead" (defArgs s_Words_lengths_ahead) (defBody s_Words_lengths_ahead) (defScope s_Words_lengths_ahead) [] [] (He.ma K (He.ga K "Words") "lengths_ahead") fd := T.says.def_ 35
theorem d_Words_lengths_behind (T : Ev fa fx fn K mg base) : ∃ fd, FunD K "lengths_behind" "Words.lengths_behind" (defArgs s_Words_lengths_behind) (defBody s_Words_lengths_behind) (defScope s_Words_lengths_behind) [] [] (He.ma K (He.ga K "Words") "lengths_behind") fd := T.says.def_ 36
theorem d_Words___eq__ (T : Ev fa fx fn K mg base) : ∃ fd, FunD K "__eq__" "Words.__eq__" (defArgs s_Words___eq__) (defBody s_Words___eq__) (defScope s_Words___eq__) [] [] (He.ma K (He.ga K "Words") "__eq__") fd := T.says.def_ 37
theorem d_is_way (T : Ev fa fx fn K mg base) : ∃ fd, FunD K "is_way" "is_way" (defArgs s_is_way) (defBody s_is_way) (defScope s_is_way) [] [] (He.ga K "is_way") fd := T.says.def_ 38
theorem d_checked_costs (T : Ev fa fx fn K mg base) : ∃ fd, FunD K "checked_costs" "checked_costs" (defArgs s_checked_costs) (defBody s_checked_costs) (defScope s_checked_costs) [] [] (He.ga K "checked_costs") fd := T.says.def_ 39
theorem d_Costs___init__ (T : Ev fa fx fn K mg base) : ∃ fd, FunD K "__init__" "Costs.__init__" (defArgs s_Costs___init__) (defBody s_Costs___init__) (defScope s_Costs___init__) [] [] (He.ma K (He.ga K "Costs") "__init__") fd := T.says.def_ 40
theorem d_Costs_cost_of (T : Ev fa fx fn K mg base) : ∃ fd, FunD K "cost_of" "Costs.cost_of" (defArgs s_Costs_cost_of) (defBody s_Costs_cost_of) (defScope s_Costs_cost_of) [] [] (He.ma K (He.ga K "Costs") "cost_of") fd := T.says.def_ 41
theorem d_Costs___eq__ (T : Ev fa fx fn K mg base) : ∃ fd, FunD K "__eq__" "Costs.__eq__" (defArgs s_Costs___eq__) (defBody s_Costs___eq__) (defScope s_Costs___eq__) [] [] (He.ma K (He.ga K "Costs") "__eq__") fd := T.says.def_ 42
theorem d__law_bag (T : Ev fa fx fn K mg base) : ∃ fd, FunD K "_law_bag" "_law_bag" (defArgs s__law_bag) (defBody s__law_bag) (defScope s__law_bag) [] [] (He.ga K "_law_bag") fd := T.says.def_ 43
theorem d__law_draw (T : Ev fa fx fn K mg base) : ∃ fd, FunD K "_law_draw" "_law_draw" (defArgs s__law_draw) (defBody s__law_draw) (defScope s__law_draw) [] [] (He.ga K "_law_draw") fd := T.says.def_ 44
theorem d__law_letters (T : Ev fa fx fn K mg base) : ∃ fd, FunD K "_law_letters" "_law_letters" (defArgs s__law_letters) (defBody s__law_letters) (defScope s__law_letters) [] [] (He.ga K "_law_letters") fd := T.says.def_ 45
theorem d__law_further (T : Ev fa fx fn K mg base) : ∃ fd, FunD K "_law_further" "_law_further" (defArgs s__law_further) (defBody s__law_further) (defScope s__law_further) [] [] (He.ga K "_law_further") fd := T.says.def_ 46
theorem d__law_is_number (T : Ev fa fx fn K mg base) : ∃ fd, FunD K "_law_is_number" "_law_is_number" (defArgs s__law_is_number) (defBody s__law_is_number) (defScope s__law_is_number) [] [] (He.ga K "_law_is_number") fd := T.says.def_ 47
theorem d__law_alike (T : Ev fa fx fn K mg base) : ∃ fd, FunD K "_law_alike" "_law_alike" (defArgs s__law_alike) (defBody s__law_alike) (defScope s__law_alike) [] [] (He.ga K "_law_alike") fd := T.says.def_ 48
theorem d__law_fault (T : Ev fa fx fn K mg base) : ∃ fd, FunD K "_law_fault" "_law_fault" (defArgs s__law_fault) (defBody s__law_fault) (defScope s__law_fault) [] [] (He.ga K "_law_fault") fd := T.says.def_ 49
theorem d__law_no_row (T : Ev fa fx fn K mg base) : ∃ fd, FunD K "_law_no_row" "_law_no_row" (defArgs s__law_no_row) (defBody s__law_no_row) (defScope s__law_no_row) [] [] (He.ga K "_law_no_row") fd := T.says.def_ 50
theorem d__law_rows (T : Ev fa fx fn K mg base) : ∃ fd, FunD K "_law_rows" "_law_rows" (defArgs s__law_rows) (defBody s__law_rows) (defScope s__law_rows) [] [] (He.ga K "_law_rows") fd := T.says.def_ 51
theorem d__law_faults (T : Ev fa fx fn K mg base) : ∃ fd, FunD K "_law_faults" "_law_faults" (defArgs s__law_faults) (defBody s__law_faults) (defScope s__law_faults) [] [] (He.ga K "_law_faults") fd := T.says.def_ 52
theorem d__law_differ (T : Ev fa fx fn K mg base) : ∃ fd, FunD K "_law_differ" "_law_differ" (defArgs s__law_differ) (defBody s__law_differ) (defScope s__law_differ) [] [] (He.ga K "_law_differ") fd := T.says.def_ 53
theorem d__law_equals (T : Ev fa fx fn K mg base) : ∃ fd, FunD K "_law_equals" "_law_equals" (defArgs s__law_equals) (defBody s__law_equals) (defScope s__law_equals) [] [] (He.ga K "_law_equals") fd := T.says.def_ 54
theorem d_law (T : Ev fa fx fn K mg base) : ∃ fd, FunD K "law" "law" (defArgs s_law) (defBody s_law) (defScope s_law) [] [] (He.ga K "law") fd := T.says.def_ 55
theorem g_is_between (T : Ev fa fx fn K mg base) : mg "is_between" = some (.ref (He.ga K "is_between")) := T.glo 0
theorem g_is_alphabet (T : Ev fa fx fn K mg base) : mg "is_alphabet" = some (.ref (He.ga K "is_alphabet")) := T.glo 1
theorem g_checked_alphabet (T : Ev fa fx fn K mg base) : mg "checked_alphabet" = some (.ref (He.ga K "checked_alphabet")) := T.glo 2
theorem g_put_together (T : Ev fa fx fn K mg base) : mg "put_together" = some (.ref (He.ga K "put_together")) := T.glo 3
theorem g_lowest_pair (T : Ev fa fx fn K mg base) : mg "lowest_pair" = some (.ref (He.ga K "lowest_pair")) := T.glo 4
theorem g_cut_row (T : Ev fa fx fn K mg base) : mg "cut_row" = some (.ref (He.ga K "cut_row")) := T.glo 5
theorem g_is_sequence (T : Ev fa fx fn K mg base) : mg "is_sequence" = some (.ref (He.ga K "is_sequence")) := T.glo 6
theorem g_is_text_over (T : Ev fa fx fn K mg base) : mg "is_text_over" = some (.ref (He.ga K "is_text_over")) := T.glo 7
theorem g_is_word_text (T : Ev fa fx fn K mg base) : mg "is_word_text" = some (.ref (He.ga K "is_word_text")) := T.glo 8
theorem g_checked_alphabet_of_words (T : Ev fa fx fn K mg base) : mg "checked_alphabet_of_words" = some (.ref (He.ga K "checked_alphabet_of_words")) := T.glo 9
theorem g_checked_further (T : Ev fa fx fn K mg base) : mg "checked_further" = some (.ref (He.ga K "checked_further")) := T.glo 10
theorem g_is_way (T : Ev fa fx fn K mg base) : mg "is_way" = some (.ref (He.ga K "is_way")) := T.glo 11
theorem g_checked_costs (T : Ev fa fx fn K mg base) : mg "checked_costs" = some (.ref (He.ga K "checked_costs")) := T.glo 12
theorem g__law_bag (T : Ev fa fx fn K mg base) : mg "_law_bag" = some (.ref (He.ga K "_law_bag")) := T.glo 13
theorem g__law_draw (T : Ev fa fx fn K mg base) : mg "_law_draw" = some (.ref (He.ga K "_law_draw")) := T.glo 14
theorem g__law_letters (T : Ev fa fx fn K mg base) : mg "_law_letters" = some (.ref (He.ga K "_law_letters")) := T.glo 15
theorem g__law_further (T : Ev fa fx fn K mg base) : mg "_law_further" = some (.ref (He.ga K "_law_further")) := T.glo 16
theorem g__law_is_number (T : Ev fa fx fn K mg base) : mg "_law_is_number" = some (.ref (He.ga K "_law_is_number")) := T.glo 17
theorem g__law_alike (T : Ev fa fx fn K mg base) : mg "_law_alike" = some (.ref (He.ga K "_law_alike")) := T.glo 18
theorem g__law_fault (T : Ev fa fx fn K mg base) : mg "_law_fault" = some (.ref (He.ga K "_law_fault")) := T.glo 19
theorem g__law_no_row (T : Ev fa fx fn K mg base) : mg "_law_no_row" = some (.ref (He.ga K "_law_no_row")) := T.glo 20
theorem g__law_rows (T : Ev fa fx fn K mg base) : mg "_law_rows" = some (.ref (He.ga K "_law_rows")) := T.glo 21
theorem g__law_faults (T : Ev fa fx fn K mg base) : mg "_law_faults" = some (.ref (He.ga K "_law_faults")) := T.glo 22
theorem g__law_differ (T : Ev fa fx fn K mg base) : mg "_law_differ" = some (.ref (He.ga K "_law_differ")) := T.glo 23
theorem g__law_equals (T : Ev fa fx fn K mg base) : mg "_law_equals" = some (.ref (He.ga K "_law_equals")) := T.glo 24
theorem g_law (T : Ev fa fx fn K mg base) : mg "law" = some (.ref (He.ga K "law")) := T.glo 25
theorem g_JoinError (T : Ev fa fx fn K mg base) : mg "JoinError" = some (.ref (He.ga K "JoinError")) := T.glo 26
theorem g_InvalidAlphabet (T : Ev fa fx fn K mg base) : mg "InvalidAlphabet" = some (.ref (He.ga K "InvalidAlphabet")) := T.glo 27
theorem g_NotProper (T : Ev fa fx fn K mg base) : mg "NotProper" = some (.ref (He.ga K "NotProper")) := T.glo 28
theorem g_InvalidNumber (T : Ev fa fx fn K mg base) : mg "InvalidNumber" = some (.ref (He.ga K "InvalidNumber")) := T.glo 29
theorem g_InvalidWords (T : Ev fa fx fn K mg base) : mg "InvalidWords" = some (.ref (He.ga K "InvalidWords")) := T.glo 30
theorem g_InvalidCutter (T : Ev fa fx fn K mg base) : mg "InvalidCutter" = some (.ref (He.ga K "InvalidCutter")) := T.glo 31
theorem g_InvalidRow (T : Ev fa fx fn K mg base) : mg "InvalidRow" = some (.ref (He.ga K "InvalidRow")) := T.glo 32
theorem g_TooMany (T : Ev fa fx fn K mg base) : mg "TooMany" = some (.ref (He.ga K "TooMany")) := T.glo 33
theorem g_Joins (T : Ev fa fx fn K mg base) : mg "Joins" = some (.ref (He.ga K "Joins")) := T.glo 34
theorem g_Words (T : Ev fa fx fn K mg base) : mg "Words" = some (.ref (He.ga K "Words")) := T.glo 35
theorem g_Costs (T : Ev fa fx fn K mg base) : mg "Costs" = some (.ref (He.ga K "Costs")) := T.glo 36
theorem f_bool (T : Ev fa fx fn K mg base) : mg "bool" = none := T.free 37
theorem f_enumerate (T : Ev fa fx fn K mg base) : mg "enumerate" = none := T.free 38
theorem f_int (T : Ev fa fx fn K mg base) : mg "int" = none := T.free 39
theorem f_isinstance (T : Ev fa fx fn K mg base) : mg "isinstance" = none := T.free 40
theorem f_iter (T : Ev fa fx fn K mg base) : mg "iter" = none := T.free 41
theorem f_len (T : Ev fa fx fn K mg base) : mg "len" = none := T.free 42
theorem f_list (T : Ev fa fx fn K mg base) : mg "list" = none := T.free 43
theorem f_max (T : Ev fa fx fn K mg base) : mg "max" = none := T.free 44
theorem f_property (T : Ev fa fx fn K mg base) : mg "property" = none := T.free 45
theorem f_range (T : Ev fa fx fn K mg base) : mg "range" = none := T.free 46
theorem f_set (T : Ev fa fx fn K mg base) : mg "set" = none := T.free 47
theorem f_sorted (T : Ev fa fx fn K mg base) : mg "sorted" = none := T.free 48
theorem f_str (T : Ev fa fx fn K mg base) : mg "str" = none := T.free 49
theorem f_sum (T : Ev fa fx fn K mg base) : mg "sum" = none := T.free 50
theorem f_tuple (T : Ev fa fx fn K mg base) : mg "tuple" = none := T.free 51
theorem c_MOST_LETTERS (T : Ev fa fx fn K mg base) : ∃ t, mg "MOST_LETTERS" = some (.int 30 t) := T.int 52
theorem c_LONGEST_PIECE (T : Ev fa fx fn K mg base) : ∃ t, mg "LONGEST_PIECE" = some (.int 40 t) := T.int 53
theorem c_SHORTEST_WORD (T : Ev fa fx fn K mg base) : ∃ t, mg "SHORTEST_WORD" = some (.int 2 t) := T.int 54
theorem c_LONGEST_WORD (T : Ev fa fx fn K mg base) : ∃ t, mg "LONGEST_WORD" = some (.int 6 t) := T.int 55
theorem c_MOST_WORDS (T : Ev fa fx fn K mg base) : ∃ t, mg "MOST_WORDS" = some (.int 10 t) := T.int 56
theorem c_LEAST_COST (T : Ev fa fx fn K mg base) : ∃ t, mg "LEAST_COST" = some (.int 1 t) := T.int 57
theorem c_GREATEST_COST (T : Ev fa fx fn K mg base) : ∃ t, mg "GREATEST_COST" = some (.int 9 t) := T.int 58
theorem cls_Joins (T : Ev fa fx fn K mg base) : Cls K (He.ga K "Joins") := T.cls 59
theorem mkr_Joins (T : Ev fa fx fn K mg base) : Mk K (He.ga K "Joins") (He.ma K (He.ga K "Joins") "__init__") := T.mkr 60
theorem no_Joins_alphabet (T : Ev fa fx fn K mg base) : NoAttr K (He.ga K "Joins") "alphabet" := T.noat 61
theorem no_Joins_pairs (T : Ev fa fx fn K mg base) : NoAttr K (He.ga K "Joins") "pairs" := T.noat 62
theorem no_Joins_texts (T : Ev fa fx fn K mg base) : NoAttr K (He.ga K "Joins") "texts" := T.noat 63
theorem no_Joins_ranks (T : Ev fa fx fn K mg base) : NoAttr K (He.ga K "Joins") "ranks" := T.noat 64
theorem no_Joins_numbers (T : Ev fa fx fn K mg base) : NoAttr K (He.ga K "Joins") "numbers" := T.noat 65
theorem no_Joins_longest (T : Ev fa fx fn K mg base) : NoAttr K (He.ga K "Joins") "longest" := T.noat 66
theorem me_Joins_take (T : Ev fa fx fn K mg base) : Meth K (He.ga K "Joins") "take" (He.ma K (He.ga K "Joins") "take") := T.meth 67
theorem me_Joins_is_proper (T : Ev fa fx fn K mg base) : Meth K (He.ga K "Joins") "is_proper" (He.ma K (He.ga K "Joins") "is_proper") := T.meth 68
theorem me_Joins_is_piece (T : Ev fa fx fn K mg base) : Meth K (He.ga K "Joins") "is_piece" (He.ma K (He.ga K "Joins") "is_piece") := T.meth 69
theorem me_Joins_check_piece (T : Ev fa fx fn K mg base) : Meth K (He.ga K "Joins") "check_piece" (He.ma K (He.ga K "Joins") "check_piece") := T.meth 70
theorem me_Joins_text_of (T : Ev fa fx fn K mg base) : Meth K (He.ga K "Joins") "text_of" (He.ma K (He.ga K "Joins") "text_of") := T.meth 71
theorem me_Joins_parts_of (T : Ev fa fx fn K mg base) : Meth K (He.ga K "Joins") "parts_of" (He.ma K (He.ga K "Joins") "parts_of") := T.meth 72
theorem me_Joins_rank_of (T : Ev fa fx fn K mg base) : Meth K (He.ga K "Joins") "rank_of" (He.ma K (He.ga K "Joins") "rank_of") := T.meth 73
theorem me_Joins_piece_of (T : Ev fa fx fn K mg base) : Meth K (He.ga K "Joins") "piece_of" (He.ma K (He.ga K "Joins") "piece_of") := T.meth 74
theorem me_Joins_first (T : Ev fa fx fn K mg base) : Meth K (He.ga K "Joins") "first" (He.ma K (He.ga K "Joins") "first") := T.meth 75
theorem me_Joins___len__ (T : Ev fa fx fn K mg base) : Meth K (He.ga K "Joins") "__len__" (He.ma K (He.ga K "Joins") "__len__") := T.meth 76
theorem me_Joins___iter__ (T : Ev fa fx fn K mg base) : Meth K (He.ga K "Joins") "__iter__" (He.ma K (He.ga K "Joins") "__iter__") := T.meth 77
theorem me_Joins___eq__ (T : Ev fa fx fn K mg base) : Meth K (He.ga K "Joins") "__eq__" (He.ma K (He.ga K "Joins") "__eq__") := T.meth 78
theorem cls_Words (T : Ev fa fx fn K mg base) : Cls K (He.ga K "Words") := T.cls 79
theorem mkr_Words (T : Ev fa fx fn K mg base) : Mk K (He.ga K "Words") (He.ma K (He.ga K "Words") "__init__") := T.mkr 80
theorem no_Words_alphabet (T : Ev fa fx fn K mg base) : NoAttr K (He.ga K "Words") "alphabet" := T.noat 81
theorem no_Words_further (T : Ev fa fx fn K mg base) : NoAttr K (He.ga K "Words") "further" := T.noat 82
theorem no_Words_known (T : Ev fa fx fn K mg base) : NoAttr K (He.ga K "Words") "known" := T.noat 83
theorem no_Words_longest (T : Ev fa fx fn K mg base) : NoAttr K (He.ga K "Words") "longest" := T.noat 84
theorem me_Words_all_words (T : Ev fa fx fn K mg base) : Meth K (He.ga K "Words") "all_words" (He.ma K (He.ga K "Words") "all_words") := T.meth 85
theorem me_Words_has (T : Ev fa fx fn K mg base) : Meth K (He.ga K "Words") "has" (He.ma K (He.ga K "Words") "has") := T.meth 86
theorem me_Words_without (T : Ev fa fx fn K mg base) : Meth K (He.ga K "Words") "without" (He.ma K (He.ga K "Words") "without") := T.meth 87
theorem me_Words_lengths_ahead (T : Ev fa fx fn K mg base) : Meth K (He.ga K "Words") "lengths_ahead" (He.ma K (He.ga K "Words") "lengths_ahead") := T.meth 88
theorem me_Words_lengths_behind (T : Ev fa fx fn K mg base) : Meth K (He.ga K "Words") "lengths_behind" (He.ma K (He.ga K "Words") "lengths_behind") := T.meth 89
theorem me_Words___eq__ (T : Ev fa fx fn K mg base) : Meth K (He.ga K "Words") "__eq__" (He.ma K (He.ga K "Words") "__eq__") := T.meth 90
theorem cls_Costs (T : Ev fa fx fn K mg base) : Cls K (He.ga K "Costs") := T.cls 91
theorem mkr_Costs (T : Ev fa fx fn K mg base) : Mk K (He.ga K "Costs") (He.ma K (He.ga K "Costs") "__init__") := T.mkr 92
theorem no_Costs_words (T : Ev fa fx fn K mg base) : NoAttr K (He.ga K "Costs") "words" := T.noat 93
theorem no_Costs_costs (T : Ev fa fx fn K mg base) : NoAttr K (He.ga K "Costs") "costs" := T.noat 94
theorem no_Costs_prices (T : Ev fa fx fn K mg base) : NoAttr K (He.ga K "Costs") "prices" := T.noat 95
theorem me_Costs_cost_of (T : Ev fa fx fn K mg base) : Meth K (He.ga K "Costs") "cost_of" (He.ma K (He.ga K "Costs") "cost_of") := T.meth 96
theorem me_Costs___eq__ (T : Ev fa fx fn K mg base) : Meth K (He.ga K "Costs") "__eq__" (He.ma K (He.ga K "Costs") "__eq__") := T.meth 97
theorem no_InvalidAlphabet_alphabet (T : Ev fa fx fn K mg base) : NoAttr K (He.ga K "InvalidAlphabet") "alphabet" := T.noat 98
theorem no_NotProper_rank (T : Ev fa fx fn K mg base) : NoAttr K (He.ga K "NotProper") "rank" := T.noat 99
theorem no_InvalidNumber_number (T : Ev fa fx fn K mg base) : NoAttr K (He.ga K "InvalidNumber") "number" := T.noat 100
theorem no_InvalidWords_place (T : Ev fa fx fn K mg base) : NoAttr K (He.ga K "InvalidWords") "place" := T.noat 101
theorem no_InvalidCutter_part (T : Ev fa fx fn K mg base) : NoAttr K (He.ga K "InvalidCutter") "part" := T.noat 102
theorem no_InvalidRow_row (T : Ev fa fx fn K mg base) : NoAttr K (He.ga K "InvalidRow") "row" := T.noat 103
theorem no_TooMany_what (T : Ev fa fx fn K mg base) : NoAttr K (He.ga K "TooMany") "what" := T.noat 104
theorem exm_InvalidAlphabet_InvalidCutter (T : Ev fa fx fn K mg base) : PySem.W.exmOne K (.ref (He.ga K "InvalidAlphabet")) (.ref (He.ga K "InvalidCutter")) = some false := T.exm 105
theorem exm_InvalidAlphabet_InvalidNumber (T : Ev fa fx fn K mg base) : PySem.W.exmOne K (.ref (He.ga K "InvalidAlphabet")) (.ref (He.ga K "InvalidNumber")) = some false := T.exm 106
theorem exm_InvalidAlphabet_InvalidRow (T : Ev fa fx fn K mg base) : PySem.W.exmOne K (.ref (He.ga K "InvalidAlphabet")) (.ref (He.ga K "InvalidRow")) = some false := T.exm 107
theorem exm_NotProper_InvalidCutter (T : Ev fa fx fn K mg base) : PySem.W.exmOne K (.ref (He.ga K "NotProper")) (.ref (He.ga K "InvalidCutter")) = some false := T.exm 108
theorem exm_NotProper_InvalidNumber (T : Ev fa fx fn K mg base) : PySem.W.exmOne K (.ref (He.ga K "NotProper")) (.ref (He.ga K "InvalidNumber")) = some false := T.exm 109
theorem exm_NotProper_InvalidRow (T : Ev fa fx fn K mg base) : PySem.W.exmOne K (.ref (He.ga K "NotProper")) (.ref (He.ga K "InvalidRow")) = some false := T.exm 110
theorem exm_InvalidNumber_InvalidCutter (T : Ev fa fx fn K mg base) : PySem.W.exmOne K (.ref (He.ga K "InvalidNumber")) (.ref (He.ga K "InvalidCutter")) = some false := T.exm 111
theorem exm_InvalidNumber_InvalidNumber (T : Ev fa fx fn K mg base) : PySem.W.exmOne K (.ref (He.ga K "InvalidNumber")) (.ref (He.ga K "InvalidNumber")) = some true := T.exm 112
theorem exm_InvalidNumber_InvalidRow (T : Ev fa fx fn K mg base) : PySem.W.exmOne K (.ref (He.ga K "InvalidNumber")) (.ref (He.ga K "InvalidRow")) = some false := T.exm 113
theorem exm_InvalidWords_InvalidCutter (T : Ev fa fx fn K mg base) : PySem.W.exmOne K (.ref (He.ga K "InvalidWords")) (.ref (He.ga K "InvalidCutter")) = some false := T.exm 114
theorem exm_InvalidWords_InvalidNumber (T : Ev fa fx fn K mg base) : PySem.W.exmOne K (.ref (He.ga K "InvalidWords")) (.ref (He.ga K "InvalidNumber")) = some false := T.exm 115
theorem exm_InvalidWords_InvalidRow (T : Ev fa fx fn K mg base) : PySem.W.exmOne K (.ref (He.ga K "InvalidWords")) (.ref (He.ga K "InvalidRow")) = some false := T.exm 116
theorem exm_InvalidCutter_InvalidCutter (T : Ev fa fx fn K mg base) : PySem.W.exmOne K (.ref (He.ga K "InvalidCutter")) (.ref (He.ga K "InvalidCutter")) = some true := T.exm 117
theorem exm_InvalidCutter_InvalidNumber (T : Ev fa fx fn K mg base) : PySem.W.exmOne K (.ref (He.ga K "InvalidCutter")) (.ref (He.ga K "InvalidNumber")) = some false := T.exm 118
theorem exm_InvalidCutter_InvalidRow (T : Ev fa fx fn K mg base) : PySem.W.exmOne K (.ref (He.ga K "InvalidCutter")) (.ref (He.ga K "InvalidRow")) = some false := T.exm 119
theorem exm_InvalidRow_InvalidCutter (T : Ev fa fx fn K mg base) : PySem.W.exmOne K (.ref (He.ga K "InvalidRow")) (.ref (He.ga K "InvalidCutter")) = some false := T.exm 120
theorem exm_InvalidRow_InvalidNumber (T : Ev fa fx fn K mg base) : PySem.W.exmOne K (.ref (He.ga K "InvalidRow")) (.ref (He.ga K "InvalidNumber")) = some false := T.exm 121
theorem exm_InvalidRow_InvalidRow (T : Ev fa fx fn K mg base) : PySem.W.exmOne K (.ref (He.ga K "InvalidRow")) (.ref (He.ga K "InvalidRow")) = some true := T.exm 122
theorem exm_TooMany_InvalidCutter (T : Ev fa fx fn K mg base) : PySem.W.exmOne K (.ref (He.ga K "TooMany")) (.ref (He.ga K "InvalidCutter")) = some false := T.exm 123
theorem exm_TooMany_InvalidNumber (T : Ev fa fx fn K mg base) : PySem.W.exmOne K (.ref (He.ga K "TooMany")) (.ref (He.ga K "InvalidNumber")) = some false := T.exm 124
theorem exm_TooMany_InvalidRow (T : Ev fa fx fn K mg base) : PySem.W.exmOne K (.ref (He.ga K "TooMany")) (.ref (He.ga K "InvalidRow")) = some false := T.exm 125
theorem ins_Joins (T : Ev fa fx fn K mg base) : Ic K (He.ga K "Joins") := T.ins 0
theorem ins_Words (T : Ev fa fx fn K mg base) : Ic K (He.ga K "Words") := T.ins 1
theorem ins_Costs (T : Ev fa fx fn K mg base) : Ic K (He.ga K "Costs") := T.ins 2
theorem exc_InvalidAlphabet (T : Ev fa fx fn K mg base) : Xc K (He.ga K "InvalidAlphabet") := T.exc 3
theorem exc_NotProper (T : Ev fa fx fn K mg base) : Xc K (He.ga K "NotProper") := T.exc 4
theorem exc_InvalidNumber (T : Ev fa fx fn K mg base) : Xc K (He.ga K "InvalidNumber") := T.exc 5
theorem exc_InvalidWords (T : Ev fa fx fn K mg base) : Xc K (He.ga K "InvalidWords") := T.exc 6
theorem exc_InvalidCutter (T : Ev fa fx fn K mg base) : Xc K (He.ga K "InvalidCutter") := T.exc 7
theorem exc_InvalidRow (T : Ev fa fx fn K mg base) : Xc K (He.ga K "InvalidRow") := T.exc 8
theorem exc_TooMany (T : Ev fa fx fn K mg base) : Xc K (He.ga K "TooMany") := T.exc 9
theorem kit_InvalidAlphabet_InvalidRow (T : Ev fa fx fn K mg base) : PySem.W.kitOne K (.ref (He.ga K "InvalidAlphabet")) (.ref (He.ga K "InvalidRow")) = some false := T.kit 10 (t := .own "InvalidAlphabet") (c := .own "InvalidRow")
theorem kit_InvalidAlphabet_InvalidWords (T : Ev fa fx fn K mg base) : PySem.W.kitOne K (.ref (He.ga K "InvalidAlphabet")) (.ref (He.ga K "InvalidWords")) = some false := T.kit 11 (t := .own "InvalidAlphabet") (c := .own "InvalidWords")
theorem kit_InvalidAlphabet_InvalidNumber (T : Ev fa fx fn K mg base) : PySem.W.kitOne K (.ref (He.ga K "InvalidAlphabet")) (.ref (He.ga K "InvalidNumber")) = some false := T.kit 12 (t := .own "InvalidAlphabet") (c := .own "InvalidNumber")
theorem kit_NotProper_InvalidRow (T : Ev fa fx fn K mg base) : PySem.W.kitOne K (.ref (He.ga K "NotProper")) (.ref (He.ga K "InvalidRow")) = some false := T.kit 13 (t := .own "NotProper") (c := .own "InvalidRow")
theorem kit_NotProper_InvalidWords (T : Ev fa fx fn K mg base) : PySem.W.kitOne K (.ref (He.ga K "NotProper")) (.ref (He.ga K "InvalidWords")) = some false := T.kit 14 (t := .own "NotProper") (c := .own "InvalidWords")
theorem kit_NotProper_InvalidNumber (T : Ev fa fx fn K mg base) : PySem.W.kitOne K (.ref (He.ga K "NotProper")) (.ref (He.ga K "InvalidNumber")) = some false := T.kit 15 (t := .own "NotProper") (c := .own "InvalidNumber")
theorem kit_InvalidNumber_InvalidRow (T : Ev fa fx fn K mg base) : PySem.W.kitOne K (.ref (He.ga K "InvalidNumber")) (.ref (He.ga K "InvalidRow")) = some false := T.kit 16 (t := .own "InvalidNumber") (c := .own "InvalidRow")
theorem kit_InvalidNumber_InvalidWords (T : Ev fa fx fn K mg base) : PySem.W.kitOne K (.ref (He.ga K "InvalidNumber")) (.ref (He.ga K "InvalidWords")) = some false := T.kit 17 (t := .own "InvalidNumber") (c := .own "InvalidWords")
theorem kit_InvalidNumber_InvalidNumber (T : Ev fa fx fn K mg base) : PySem.W.kitOne K (.ref (He.ga K "InvalidNumber")) (.ref (He.ga K "InvalidNumber")) = some true := T.kit 18 (t := .own "InvalidNumber") (c := .own "InvalidNumber")
theorem kit_InvalidWords_InvalidRow (T : Ev fa fx fn K mg base) : PySem.W.kitOne K (.ref (He.ga K "InvalidWords")) (.ref (He.ga K "InvalidRow")) = some false := T.kit 19 (t := .own "InvalidWords") (c := .own "InvalidRow")
theorem kit_InvalidWords_InvalidWords (T : Ev fa fx fn K mg base) : PySem.W.kitOne K (.ref (He.ga K "InvalidWords")) (.ref (He.ga K "InvalidWords")) = some true := T.kit 20 (t := .own "InvalidWords") (c := .own "InvalidWords")
theorem kit_InvalidWords_InvalidNumber (T : Ev fa fx fn K mg base) : PySem.W.kitOne K (.ref (He.ga K "InvalidWords")) (.ref (He.ga K "InvalidNumber")) = some false := T.kit 21 (t := .own "InvalidWords") (c := .own "InvalidNumber")
theorem kit_InvalidCutter_InvalidRow (T : Ev fa fx fn K mg base) : PySem.W.kitOne K (.ref (He.ga K "InvalidCutter")) (.ref (He.ga K "InvalidRow")) = some false := T.kit 22 (t := .own "InvalidCutter") (c := .own "InvalidRow")
theorem kit_InvalidCutter_InvalidWords (T : Ev fa fx fn K mg base) : PySem.W.kitOne K (.ref (He.ga K "InvalidCutter")) (.ref (He.ga K "InvalidWords")) = some false := T.kit 23 (t := .own "InvalidCutter") (c := .own "InvalidWords")
theorem kit_InvalidCutter_InvalidNumber (T : Ev fa fx fn K mg base) : PySem.W.kitOne K (.ref (He.ga K "InvalidCutter")) (.ref (He.ga K "InvalidNumber")) = some false := T.kit 24 (t := .own "InvalidCutter") (c := .own "InvalidNumber")
theorem kit_InvalidRow_InvalidRow (T : Ev fa fx fn K mg base) : PySem.W.kitOne K (.ref (He.ga K "InvalidRow")) (.ref (He.ga K "InvalidRow")) = some true := T.kit 25 (t := .own "InvalidRow") (c := .own "InvalidRow")
theorem kit_InvalidRow_InvalidWords (T : Ev fa fx fn K mg base) : PySem.W.kitOne K (.ref (He.ga K "InvalidRow")) (.ref (He.ga K "InvalidWords")) = some false := T.kit 26 (t := .own "InvalidRow") (c := .own "InvalidWords")
theorem kit_InvalidRow_InvalidNumber (T : Ev fa fx fn K mg base) : PySem.W.kitOne K (.ref (He.ga K "InvalidRow")) (.ref (He.ga K "InvalidNumber")) = some false := T.kit 27 (t := .own "InvalidRow") (c := .own "InvalidNumber")
theorem kit_TooMany_InvalidRow (T : Ev fa fx fn K mg base) : PySem.W.kitOne K (.ref (He.ga K "TooMany")) (.ref (He.ga K "InvalidRow")) = some false := T.kit 28 (t := .own "TooMany") (c := .own "InvalidRow")
theorem kit_TooMany_InvalidWords (T : Ev fa fx fn K mg base) : PySem.W.kitOne K (.ref (He.ga K "TooMany")) (.ref (He.ga K "InvalidWords")) = some false := T.kit 29 (t := .own "TooMany") (c := .own "InvalidWords")
theorem kit_TooMany_InvalidNumber (T : Ev fa fx fn K mg base) : PySem.W.kitOne K (.ref (He.ga K "TooMany")) (.ref (He.ga K "InvalidNumber")) = some false := T.kit 30 (t := .own "TooMany") (c := .own "InvalidNumber")
theorem kit_Joins_tuple (T : Ev fa fx fn K mg base) : PySem.W.kitOne K (.ref (He.ga K "Joins")) (.type "tuple") = some false := T.kit 31 (t := .own "Joins") (c := .blt "tuple")
theorem kit_Joins_list (T : Ev fa fx fn K mg base) : PySem.W.kitOne K (.ref (He.ga K "Joins")) (.type "list") = some false := T.kit 32 (t := .own "Joins") (c := .blt "list")
theorem kit_Joins_int (T : Ev fa fx fn K mg base) : PySem.W.kitOne K (.ref (He.ga K "Joins")) (.type "int") = some false := T.kit 33 (t := .own "Joins") (c := .blt "int")
theorem kit_Joins_str (T : Ev fa fx fn K mg base) : PySem.W.kitOne K (.ref (He.ga K "Joins")) (.type "str") = some false := T.kit 34 (t := .own "Joins") (c := .blt "str")
theorem kit_Joins_bool (T : Ev fa fx fn K mg base) : PySem.W.kitOne K (.ref (He.ga K "Joins")) (.type "bool") = some false := T.kit 35 (t := .own "Joins") (c := .blt "bool")
theorem kit_Joins_Words (T : Ev fa fx fn K mg base) : PySem.W.kitOne K (.ref (He.ga K "Joins")) (.ref (He.ga K "Words")) = some false := T.kit 36 (t := .own "Joins") (c := .own "Words")
theorem kit_Joins_Joins (T : Ev fa fx fn K mg base) : PySem.W.kitOne K (.ref (He.ga K "Joins")) (.ref (He.ga K "Joins")) = some true := T.kit 37 (t := .own "Joins") (c := .own "Joins")
theorem kit_Joins_Costs (T : Ev fa fx fn K mg base) : PySem.W.kitOne K (.ref (He.ga K "Joins")) (.ref (He.ga K "Costs")) = some false := T.kit 38 (t := .own "Joins") (c := .own "Costs")
theorem kit_Words_tuple (T : Ev fa fx fn K mg base) : PySem.W.kitOne K (.ref (He.ga K "Words")) (.type "tuple") = some false := T.kit 39 (t := .own "Words") (c := .blt "tuple")
theorem kit_Words_list (T : Ev fa fx fn K mg base) : PySem.W.kitOne K (.ref (He.ga K "Words")) (.type "list") = some false := T.kit 40 (t := .own "Words") (c := .blt "list")
theorem kit_Words_int (T : Ev fa fx fn K mg base) : PySem.W.kitOne K (.ref (He.ga K "Words")) (.type "int") = some false := T.kit 41 (t := .own "Words") (c := .blt "int")
theorem kit_Words_str (T : Ev fa fx fn K mg base) : PySem.W.kitOne K (.ref (He.ga K "Words")) (.type "str") = some false := T.kit 42 (t := .own "Words") (c := .blt "str")
theorem kit_Words_bool (T : Ev fa fx fn K mg base) : PySem.W.kitOne K (.ref (He.ga K "Words")) (.type "bool") = some false := T.kit 43 (t := .own "Words") (c := .blt "bool")
theorem kit_Words_Words (T : Ev fa fx fn K mg base) : PySem.W.kitOne K (.ref (He.ga K "Words")) (.ref (He.ga K "Words")) = some true := T.kit 44 (t := .own "Words") (c := .own "Words")
theorem kit_Words_Joins (T : Ev fa fx fn K mg base) : PySem.W.kitOne K (.ref (He.ga K "Words")) (.ref (He.ga K "Joins")) = some false := T.kit 45 (t := .own "Words") (c := .own "Joins")
theorem kit_Words_Costs (T : Ev fa fx fn K mg base) : PySem.W.kitOne K (.ref (He.ga K "Words")) (.ref (He.ga K "Costs")) = some false := T.kit 46 (t := .own "Words") (c := .own "Costs")
theorem kit_Costs_tuple (T : Ev fa fx fn K mg base) : PySem.W.kitOne K (.ref (He.ga K "Costs")) (.type "tuple") = some false := T.kit 47 (t := .own "Costs") (c := .blt "tuple")
theorem kit_Costs_list (T : Ev fa fx fn K mg base) : PySem.W.kitOne K (.ref (He.ga K "Costs")) (.type "list") = some false := T.kit 48 (t := .own "Costs") (c := .blt "list")
theorem kit_Costs_int (T : Ev fa fx fn K mg base) : PySem.W.kitOne K (.ref (He.ga K "Costs")) (.type "int") = some false := T.kit 49 (t := .own "Costs") (c := .blt "int")
theorem kit_Costs_str (T : Ev fa fx fn K mg base) : PySem.W.kitOne K (.ref (He.ga K "Costs")) (.type "str") = some false := T.kit 50 (t := .own "Costs") (c := .blt "str")
theorem kit_Costs_bool (T : Ev fa fx fn K mg base) : PySem.W.kitOne K (.ref (He.ga K "Costs")) (.type "bool") = some false := T.kit 51 (t := .own "Costs") (c := .blt "bool")
theorem kit_Costs_Words (T : Ev fa fx fn K mg base) : PySem.W.kitOne K (.ref (He.ga K "Costs")) (.ref (He.ga K "Words")) = some false := T.kit 52 (t := .own "Costs") (c := .own "Words")
theorem kit_Costs_Joins (T : Ev fa fx fn K mg base) : PySem.W.kitOne K (.ref (He.ga K "Costs")) (.ref (He.ga K "Joins")) = some false := T.kit 53 (t := .own "Costs") (c := .own "Joins")
theorem kit_Costs_Costs (T : Ev fa fx fn K mg base) : PySem.W.kitOne K (.ref (He.ga K "Costs")) (.ref (He.ga K "Costs")) = some true := T.kit 54 (t := .own "Costs") (c := .own "Costs")
theorem kit_int_Words (T : Ev fa fx fn K mg base) : PySem.W.kitOne K (.type "int") (.ref (He.ga K "Words")) = some false := T.kit 55 (t := .blt "int") (c := .own "Words")
theorem kit_int_Joins (T : Ev fa fx fn K mg base) : PySem.W.kitOne K (.type "int") (.ref (He.ga K "Joins")) = some false := T.kit 56 (t := .blt "int") (c := .own "Joins")
theorem kit_int_Costs (T : Ev fa fx fn K mg base) : PySem.W.kitOne K (.type "int") (.ref (He.ga K "Costs")) = some false := T.kit 57 (t := .blt "int") (c := .own "Costs")
theorem kit_bool_Words (T : Ev fa fx fn K mg base) : PySem.W.kitOne K (.type "bool") (.ref (He.ga K "Words")) = some false := T.kit 58 (t := .blt "bool") (c := .own "Words")
theorem kit_bool_Joins (T : Ev fa fx fn K mg base) : PySem.W.kitOne K (.type "bool") (.ref (He.ga K "Joins")) = some false := T.kit 59 (t := .blt "bool") (c := .own "Joins")
theorem kit_bool_Costs (T : Ev fa fx fn K mg base) : PySem.W.kitOne K (.type "bool") (.ref (He.ga K "Costs")) = some false := T.kit 60 (t := .blt "bool") (c := .own "Costs")
theorem kit_str_Words (T : Ev fa fx fn K mg base) : PySem.W.kitOne K (.type "str") (.ref (He.ga K "Words")) = some false := T.kit 61 (t := .blt "str") (c := .own "Words")
theorem kit_str_Joins (T : Ev fa fx fn K mg base) : PySem.W.kitOne K (.type "str") (.ref (He.ga K "Joins")) = some false := T.kit 62 (t := .blt "str") (c := .own "Joins")
theorem kit_str_Costs (T : Ev fa fx fn K mg base) : PySem.W.kitOne K (.type "str") (.ref (He.ga K "Costs")) = some false := T.kit 63 (t := .blt "str") (c := .own "Costs")
theorem kit_tuple_Words (T : Ev fa fx fn K mg base) : PySem.W.kitOne K (.type "tuple") (.ref (He.ga K "Words")) = some false := T.kit 64 (t := .blt "tuple") (c := .own "Words")
theorem kit_tuple_Joins (T : Ev fa fx fn K mg base) : PySem.W.kitOne K (.type "tuple") (.ref (He.ga K "Joins")) = some false := T.kit 65 (t := .blt "tuple") (c := .own "Joins")
theorem kit_tuple_Costs (T : Ev fa fx fn K mg base) : PySem.W.kitOne K (.type "tuple") (.ref (He.ga K "Costs")) = some false := T.kit 66 (t := .blt "tuple") (c := .own "Costs")
theorem kit_list_Words (T : Ev fa fx fn K mg base) : PySem.W.kitOne K (.type "list") (.ref (He.ga K "Words")) = some false := T.kit 67 (t := .blt "list") (c := .own "Words")
theorem kit_list_Joins (T : Ev fa fx fn K mg base) : PySem.W.kitOne K (.type "list") (.ref (He.ga K "Joins")) = some false := T.kit 68 (t := .blt "list") (c := .own "Joins")
theorem kit_list_Costs (T : Ev fa fx fn K mg base) : PySem.W.kitOne K (.type "list") (.ref (He.ga K "Costs")) = some false := T.kit 69 (t := .blt "list") (c := .own "Costs")
theorem kit_NoneType_Words (T : Ev fa fx fn K mg base) : PySem.W.kitOne K (.type "NoneType") (.ref (He.ga K "Words")) = some false := T.kit 70 (t := .blt "NoneType") (c := .own "Words")
theorem kit_NoneType_Joins (T : Ev fa fx fn K mg base) : PySem.W.kitOne K (.type "NoneType") (.ref (He.ga K "Joins")) = some false := T.kit 71 (t := .blt "NoneType") (c := .own "Joins")
theorem kit_NoneType_Costs (T : Ev fa fx fn K mg base) : PySem.W.kitOne K (.type "NoneType") (.ref (He.ga K "Costs")) = some false := T.kit 72 (t := .blt "NoneType") (c := .own "Costs")
theorem kit_dict_Words (T : Ev fa fx fn K mg base) : PySem.W.kitOne K (.type "dict") (.ref (He.ga K "Words")) = some false := T.kit 73 (t := .blt "dict") (c := .own "Words")
theorem kit_dict_Joins (T : Ev fa fx fn K mg base) : PySem.W.kitOne K (.type "dict") (.ref (He.ga K "Joins")) = some false := T.kit 74 (t := .blt "dict") (c := .own "Joins")
theorem kit_dict_Costs (T : Ev fa fx fn K mg base) : PySem.W.kitOne K (.type "dict") (.ref (He.ga K "Costs")) = some false := T.kit 75 (t := .blt "dict") (c := .own "Costs")
theorem eqc_Joins (T : Ev fa fx fn K mg base) : Eqc K (He.ga K "Joins") (He.ma K (He.ga K "Joins") "__eq__") := eqcB_ok (T.says.xt 76 (f := .any (fun K => eqcB K (He.ga K "Joins"))))
theorem nf_Joins_Joins (T : Ev fa fx fn K mg base) : PySem.W.notFirst K (He.ga K "Joins") (.ref (He.ga K "Joins")) = true := T.says.xt 77 (f := .any (fun K => PySem.W.notFirst K (He.ga K "Joins") ((Cn.own "Joins").val K)))
theorem nf_Joins_Words (T : Ev fa fx fn K mg base) : PySem.W.notFirst K (He.ga K "Joins") (.ref (He.ga K "Words")) = true := T.says.xt 78 (f := .any (fun K => PySem.W.notFirst K (He.ga K "Joins") ((Cn.own "Words").val K)))
theorem nf_Joins_Costs (T : Ev fa fx fn K mg base) : PySem.W.notFirst K (He.ga K "Joins") (.ref (He.ga K "Costs")) = true := T.says.xt 79 (f := .any (fun K => PySem.W.notFirst K (He.ga K "Joins") ((Cn.own "Costs").val K)))
theorem nf_Joins_NoneType (T : Ev fa fx fn K mg base) : PySem.W.notFirst K (He.ga K "Joins") (.type "NoneType") = true := T.says.xt 80 (f := .any (fun K => PySem.W.notFirst K (He.ga K "Joins") ((Cn.blt "NoneType").val K)))
theorem nf_Joins_bool (T : Ev fa fx fn K mg base) : PySem.W.notFirst K (He.ga K "Joins") (.type "bool") = true := T.says.xt 81 (f := .any (fun K => PySem.W.notFirst K (He.ga K "Joins") ((Cn.blt "bool").val K)))
theorem nf_Joins_int (T : Ev fa fx fn K mg base) : PySem.W.notFirst K (He.ga K "Joins") (.type "int") = true := T.says.xt 82 (f := .any (fun K => PySem.W.notFirst K (He.ga K "Joins") ((Cn.blt "int").val K)))
theorem nf_Joins_str (T : Ev fa fx fn K mg base) : PySem.W.notFirst K (He.ga K "Joins") (.type "str") = true := T.says.xt 83 (f := .any (fun K => PySem.W.notFirst K (He.ga K "Joins") ((Cn.blt "str").val K)))
theorem nf_Joins_tuple (T : Ev fa fx fn K mg base) : PySem.W.notFirst K (He.ga K "Joins") (.type "tuple") = true := T.says.xt 84 (f := .any (fun K => PySem.W.notFirst K (He.ga K "Joins") ((Cn.blt "tuple").val K)))
theorem nf_Joins_list (T : Ev fa fx fn K mg base) : PySem.W.notFirst K (He.ga K "Joins") (.type "list") = true := T.says.xt 85 (f := .any (fun K => PySem.W.notFirst K (He.ga K "Joins") ((Cn.blt "list").val K)))
theorem eqc_Words (T : Ev fa fx fn K mg base) : Eqc K (He.ga K "Words") (He.ma K (He.ga K "Words") "__eq__") := eqcB_ok (T.says.xt 86 (f := .any (fun K => eqcB K (He.ga K "Words"))))
theorem nf_Words_Joins (T : Ev fa fx fn K mg base) : PySem.W.notFirst K (He.ga K "Words") (.ref (He.ga K "Joins")) = true := T.says.xt 87 (f := .any (fun K => PySem.W.notFirst K (He.ga K "Words") ((Cn.own "Joins").val K)))
theorem nf_Words_Words (T : Ev fa fx fn K mg base) : PySem.W.notFirst K (He.ga K "Words") (.ref (He.ga K "Words")) = true := T.says.xt 88 (f := .any (fun K => PySem.W.notFirst K (He.ga K "Words") ((Cn.own "Words").val K)))
theorem nf_Words_Costs (T : Ev fa fx fn K mg base) : PySem.W.notFirst K (He.ga K "Words") (.ref (He.ga K "Costs")) = true := T.says.xt 89 (f := .any (fun K => PySem.W.notFirst K (He.ga K "Words") ((Cn.own "Costs").val K)))
theorem nf_Words_NoneType (T : Ev fa fx fn K mg base) : PySem.W.notFirst K (He.ga K "Words") (.type "NoneType") = true := T.says.xt 90 (f := .any (fun K => PySem.W.notFirst K (He.ga K "Words") ((Cn.blt "NoneType").val K)))
theorem nf_Words_bool (T : Ev fa fx fn K mg base) : PySem.W.notFirst K (He.ga K "Words") (.type "bool") = true := T.says.xt 91 (f := .any (fun K => PySem.W.notFirst K (He.ga K "Words") ((Cn.blt "bool").val K)))
theorem nf_Words_int (T : Ev fa fx fn K mg base) : PySem.W.notFirst K (He.ga K "Words") (.type "int") = true := T.says.xt 92 (f := .any (fun K => PySem.W.notFirst K (He.ga K "Words") ((Cn.blt "int").val K)))
theorem nf_Words_str (T : Ev fa fx fn K mg base) : PySem.W.notFirst K (He.ga K "Words") (.type "str") = true := T.says.xt 93 (f := .any (fun K => PySem.W.notFirst K (He.ga K "Words") ((Cn.blt "str").val K)))
theorem nf_Words_tuple (T : Ev fa fx fn K mg base) : PySem.W.notFirst K (He.ga K "Words") (.type "tuple") = true := T.says.xt 94 (f := .any (fun K => PySem.W.notFirst K (He.ga K "Words") ((Cn.blt "tuple").val K)))
theorem nf_Words_list (T : Ev fa fx fn K mg base) : PySem.W.notFirst K (He.ga K "Words") (.type "list") = true := T.says.xt 95 (f := .any (fun K => PySem.W.notFirst K (He.ga K "Words") ((Cn.blt "list").val K)))
theorem eqc_Costs (T : Ev fa fx fn K mg base) : Eqc K (He.ga K "Costs") (He.ma K (He.ga K "Costs") "__eq__") := eqcB_ok (T.says.xt 96 (f := .any (fun K => eqcB K (He.ga K "Costs"))))
theorem nf_Costs_Joins (T : Ev fa fx fn K mg base) : PySem.W.notFirst K (He.ga K "Costs") (.ref (He.ga K "Joins")) = true := T.says.xt 97 (f := .any (fun K => PySem.W.notFirst K (He.ga K "Costs") ((Cn.own "Joins").val K)))
theorem nf_Costs_Words (T : Ev fa fx fn K mg base) : PySem.W.notFirst K (He.ga K "Costs") (.ref (He.ga K "Words")) = true := T.says.xt 98 (f := .any (fun K => PySem.W.notFirst K (He.ga K "Costs") ((Cn.own "Words").val K)))
theorem nf_Costs_Costs (T : Ev fa fx fn K mg base) : PySem.W.notFirst K (He.ga K "Costs") (.ref (He.ga K "Costs")) = true := T.says.xt 99 (f := .any (fun K => PySem.W.notFirst K (He.ga K "Costs") ((Cn.own "Costs").val K)))
theorem nf_Costs_NoneType (T : Ev fa fx fn K mg base) : PySem.W.notFirst K (He.ga K "Costs") (.type "NoneType") = true := T.says.xt 100 (f := .any (fun K => PySem.W.notFirst K (He.ga K "Costs") ((Cn.blt "NoneType").val K)))
theorem nf_Costs_bool (T : Ev fa fx fn K mg base) : PySem.W.notFirst K (He.ga K "Costs") (.type "bool") = true := T.says.xt 101 (f := .any (fun K => PySem.W.notFirst K (He.ga K "Costs") ((Cn.blt "bool").val K)))
theorem nf_Costs_int (T : Ev fa fx fn K mg base) : PySem.W.notFirst K (He.ga K "Costs") (.type "int") = true := T.says.xt 102 (f := .any (fun K => PySem.W.notFirst K (He.ga K "Costs") ((Cn.blt "int").val K)))
theorem nf_Costs_str (T : Ev fa fx fn K mg base) : PySem.W.notFirst K (He.ga K "Costs") (.type "str") = true := T.says.xt 103 (f := .any (fun K => PySem.W.notFirst K (He.ga K "Costs") ((Cn.blt "str").val K)))
theorem nf_Costs_tuple (T : Ev fa fx fn K mg base) : PySem.W.notFirst K (He.ga K "Costs") (.type "tuple") = true := T.says.xt 104 (f := .any (fun K => PySem.W.notFirst K (He.ga K "Costs") ((Cn.blt "tuple").val K)))
theorem nf_Costs_list (T : Ev fa fx fn K mg base) : PySem.W.notFirst K (He.ga K "Costs") (.type "list") = true := T.says.xt 105 (f := .any (fun K => PySem.W.notFirst K (He.ga K "Costs") ((Cn.blt "list").val K)))
end
end K76

local macro_rules | `(tactic| walk_at "s1") => `(tactic| first
  | with_reducible refine PH.v_seq ?_ | with_reducible refine PH.v_asg ?_ | with_reducible refine PH.v_var rfl ?_ | with_reducible refine PH.v_c ?_ | with_reducible refine PH.v_op ?_ | with_reducible refine PH.v_I0 ?_
  | with_reducible refine PH.v_test ?_ | with_reducible refine PH.v_bl ?_ | with_reducible refine PH.v_ifS ?_ | with_reducible refine PH.v_name ?_ | with_reducible refine PH.v_cb ?_ | with_reducible refine PH.v_cons ?_ | with_reducible refine PH.v_nil ?_ | with_reducible refine PH.v_ret ?_
  | with_reducible refine PH.v_sub ?_ | with_reducible refine PH.v_next ?_ | with_reducible refine PH.v_tB ?_ | with_reducible refine PH.v_and ?_ | with_reducible refine PH.v_or ?_ | with_reducible refine PH.v_not ?_ | with_reducible refine PH.v_andV ?_ | with_reducible refine PH.v_orV ?_
  | with_reducible refine PH.v_notV ?_ | with_reducible refine PH.v_if ?_ | with_reducible refine PH.v_call ?_ | with_reducible refine PH.v_fld ?_ | with_reducible refine PH.v_retN ?_ | with_reducible refine PH.v_drop ?_ | with_reducible refine PH.v_un ?_ | with_reducible refine PH.v_U ?_)
local macro_rules | `(tactic| walk_at "s2") => `(tactic| first
  | with_reducible refine PH.v_lst ?_ | with_reducible refine PH.v_tup ?_ | with_reducible refine PH.v_lc ?_ | with_reducible refine PH.v_dc ?_ | with_reducible refine PH.v_iList ?_ | with_reducible refine PH.v_iTup ?_ | with_reducible refine PH.v_iStr ?_
  | with_reducible refine PH.v_iRng1 ?_ | with_reducible refine PH.v_iRng2 ?_ | with_reducible refine PH.v_iEnumS ?_ | with_reducible refine PH.v_iEnumT ?_ | with_reducible refine PH.v_iEnum ?_ | with_reducible refine PH.v_sl ?_ | with_reducible refine PH.v_noPart ?_ | with_reducible refine PH.v_part ?_
  | with_reducible refine PH.v_part1 ?_ | with_reducible refine PH.v_yes ?_ | with_reducible refine PH.v_yif ?_ | with_reducible refine PH.v_nif ?_ | with_reducible refine PH.v_gnil ?_ | with_reducible refine PH.v_gcons ?_ | with_reducible refine PH.v_chain ?_ | with_reducible refine PH.v_meth ?_
  | with_reducible refine PH.v_make ?_ | with_reducible refine PH.v_xf ?_ | with_reducible refine PH.v_dget ?_ | with_reducible refine PH.v_din ?_ | with_reducible refine PH.v_sfld ?_ | with_reducible refine PH.v_bm ?_ | with_reducible refine PH.v_bm0 ?_ | with_reducible refine PH.v_m1 ?_
  | with_reducible refine PH.v_aug rfl ?_ | with_reducible refine PH.v_callW ?_ | with_reducible refine PH.v_methW ?_ | with_reducible refine PH.v_makeW ?_ | with_reducible refine PH.v_x1 ?_ | with_reducible refine PH.v_eqI ?_ | with_reducible refine PH.v_neI ?_ | with_reducible refine PH.v_eqS ?_ | with_reducible refine PH.v_neS ?_ | with_reducible refine PH.v_eqB ?_ | with_reducible refine PH.v_neB ?_)
local macro_rules | `(tactic| walk_at "s") => `(tactic| repeat walk_at "s1")
local macro_rules | `(tactic| walk_at "cl") => `(tactic| try dsimp only [PH.cx_K, PH.cx_w, PH.cx_P])
local macro_rules | `(tactic| walk_at "ix") => `(tactic| ((with_reducible refine' PH.v_ixL (L2.SqL.of ?h) ?ha ?q); (case h => first | assumption | exact L2.upd_same); (case ha => rfl)))
local macro_rules | `(tactic| walk_at "int1") => `(tactic| (with_reducible refine Or.inl ⟨_, rfl, ?_⟩))
local macro_rules | `(tactic| walk_at "x") => `(tactic| repeat (first | walk_at "s1" | walk_at "ix" | walk_at "int1"))
local macro_rules | `(tactic| walk_at "I") => `(tactic| ((with_reducible refine' PH.v_I ?hc ?q); (case hc => first | decide | assumption | omega | (dsimp only; omega) | exact ⟨by omega, by omega⟩ | exact Or.inl ⟨by omega, by omega⟩ | exact Or.inr ⟨by omega, by omega⟩)))
local macro_rules | `(tactic| walk_at "set") => `(tactic| ((with_reducible refine' PH.v_setL ?h ?hj ?q); (case h => first | assumption | exact L2.upd_same); (case hj => rfl)))
local macro_rules | `(tactic| walk_at "x") => `(tactic| repeat (first | walk_at "s1" | walk_at "s2" | with_reducible refine PH.v_for ?_ | walk_at "ix" | walk_at "int1" | walk_at "I" | walk_at "set"))
local macro_rules | `(tactic| walk_at "y") => `(tactic| repeat (first | walk_at "s1" | walk_at "s2" | walk_at "ix" | walk_at "int1" | walk_at "I" | walk_at "set"))

namespace K76
open PySem PySem.Spec L2 PH
open C8 (tCut pss_cut)
section
variable {P : Program} {w : World} {K : PySem.W.Frag} {mg : Str → Option Value} {base : Heap}
theorem ok__law_draw (T : Ev fa fx fn K mg base) : Dn P w K mg base 1 (He.ga K "_law_draw") ["bag", "many"] spDraw := by
  refine dn_of (d__law_draw T) sc__law_draw bo__law_draw (fun vs H Q E h => ?_) (fun cdv A outer s H vs Q E hr h => ?_)
  · obtain ⟨a, l, many, rfl, _⟩ := h
    rfl
  · obtain ⟨a, l, many, rfl, ⟨cells, i, r, m, h1, hl, hla, hi, hr0, hr1, hm0, hm1⟩, hn0, hn1, k⟩ := h
    refine ⟨_, (PSs.nox (pss_cut (ps_if (pt_cmpR op_lt (pe_ix (ix_listK (K := K) rfl) (pv 0) pe_int (fun _ _ => rfl)) pe_int (nomark _))
        (pss_cons (ps_set (i := 2) sc__law_draw.nd rfl (.inl rfl) pe_int)
      (pss_cut (ps_if (pt_cmpR op_lt (pe_ix (ix_listK (K := K) rfl) (pv 0) pe_int (fun _ _ => rfl)) (pe_callB (call_lenK (K := K) rfl) (by rfl) (f_len T) bb_len (pa_cons (pe_ix ix_list (pv 0) pe_int (fun _ _ => rfl)) pa_nil)) (nomark _))
        (pss_one (ps_set (i := 2) sc__law_draw.nd rfl (.inl rfl) (pe_ix (ix_listK (K := K) rfl) (pe_ix ix_list (pv 0) pe_int (fun _ _ => rfl)) (pe_ix (ix_listK (K := K) rfl) (pv 0) pe_int (fun _ _ => rfl)) (fun _ _ => rfl)))) pss_nil)
      (pss_cons (ps_asg (pe_op op_add (pe_ix (ix_listK (K := K) rfl) (pv 0) pe_int (fun _ _ => rfl)) pe_int) (pg_sub (pv 0) pe_int set_list))
      (pss_cut (ps_if (pt_cmpR op_ge (pv 2) (pe_op op_pow pe_int pe_int) (nomark _))
        (pss_one (ps_asg (pe_op op_mod (pv 2) (pe_op op_pow pe_int pe_int)) (pg_sub (pv 0) pe_int set_list))) pss_nil)
      (pss_cons (ps_set (i := 3) sc__law_draw.nd rfl (.inl rfl) (pe_op op_mod (pe_callTy call_int1 (by rfl) (f_int T) bb_int (pa_cons (pe_op op_add (pe_ix (ix_listK (K := K) rfl) (pv 0) pe_int (fun _ _ => rfl)) (pv 2)) pa_nil)) pe_int))
      (pss_cons (ps_set (i := 3) sc__law_draw.nd rfl (.inl rfl) (pe_op op_mod (pe_callTy call_int1 (by rfl) (f_int T) bb_int (pa_cons (pe_op op_add (pe_op op_mul (pv 3) (pv 3)) (pe_ix (ix_listK (K := K) rfl) (pv 0) pe_int (fun _ _ => rfl))) pa_nil)) pe_int))
      (pss_one (ps_asg (pe_op op_mod (pe_callTy call_int1 (by rfl) (f_int T) bb_int (pa_cons (pe_op op_add (pe_op op_mul (pv 3) (pv 3)) pe_int) pa_nil)) pe_int) (pg_sub (pv 0) pe_int set_list))))))))) pss_nil)
      (pss_cons (ps_if (pt_cmpR op_gt (pe_ix (ix_listK (K := K) rfl) (pv 0) pe_int (fun _ _ => rfl)) pe_int (nomark _))
        (pss_cons (ps_set (i := 4) sc__law_draw.nd rfl (.inl rfl) (pe_op op_mod (pe_callTy call_int1 (by rfl) (f_int T) bb_int (pa_cons (pe_ix (ix_listK (K := K) rfl) (pv 0) pe_int (fun _ _ => rfl)) pa_nil)) (pv 1)))
      (pss_cons (ps_asg (pe_op op_fdiv (pe_ix (ix_listK (K := K) rfl) (pv 0) pe_int (fun _ _ => rfl)) (pv 1)) (pg_sub (pv 0) pe_int set_list))
      (pss_one (ps_ret (pv 4))))) pss_nil)
      (pss_one (ps_ret (pe_op op_mod (pe_op op_fdiv (pe_callTy call_int1 (by rfl) (f_int T) bb_int (pa_cons (pe_ix (ix_listK (K := K) rfl) (pv 0) pe_int (fun _ _ => rfl)) pa_nil)) pe_int) (pv 1))))))), ?_⟩
    walk_at "cl"
    refine v_cut (fun σ' H' => ∃ (i r m : Int) (c : Option V) (x : Option V), σ' = [some (.ref a), some (.int many), c, x, none] ∧ H' a = some (.lst [.ref l, .int i, .int r, .int m]) ∧ H' l = some (.lst (cells.map V.int)) ∧ hid [a] H' = hid [a] H ∧ 0 ≤ i ∧ 0 ≤ r ∧ r < 10 ^ 60 ∧ 0 ≤ m ∧ m < 2305843009213693951) ?_ ?_
    · walk_at "x"
      refine if_dec (fun c1 => ?_) (fun c1 => ?_)
      · walk_at "x"
        refine v_cut (fun σ' H' => ∃ (c : Int), σ' = [some (.ref a), some (.int many), some (.int c), none, none] ∧ H' = H) ?_ ?_
        · walk_at "x"
          refine ⟨_, cells.length, rfl, .inl ⟨_, sqL_of hl, by rw [List.length_map]⟩, ?_⟩
          walk_at "x"
          refine if_dec (fun c2 => ?_) (fun c2 => ?_)
          · walk_at "x"
            obtain ⟨j, rfl⟩ := Int.eq_ofNat_of_zero_le hi
            have hj : j < cells.length := by omega
            refine v_ixL (v := .int (cells[j])) (sqL_of hl) (atI_nat (by simp [hj])) ?_
            walk_at "x"
            exact ⟨_, rfl, rfl⟩
          · walk_at "x"
            exact ⟨_, rfl, rfl⟩
        · rintro σ' H' ⟨c, rfl, rfl⟩
          walk_at "x"
          refine v_cut (fun σ'' H'' => ∃ (r : Int), σ'' = [some (.ref a), some (.int many), some (.int c), none, none] ∧ H'' a = some (.lst [.ref l, .int (i + 1), .int r, .int m]) ∧ H'' l = some (.lst (cells.map V.int)) ∧ hid [a] H'' = hid [a] H' ∧ 0 ≤ r ∧ r < 10 ^ 60) ?_ ?_
          · walk_at "x"
            refine if_dec (fun c2 => ?_) (fun c2 => ?_)
            · walk_at "x"
              refine ⟨_, rfl, upd_same, by rw [upd_ne hla, upd_ne hla]; exact hl, ?_, Int.emod_nonneg _ (by decide), Int.emod_lt_of_pos _ (by decide)⟩
              rw [hid_in (by simp), hid_in (by simp)]
            · walk_at "x"
              exact ⟨_, rfl, upd_same, by rw [upd_ne hla]; exact hl, hid_in (by simp), hr0, hr1⟩
          · rintro σ'' H'' ⟨r', rfl, h2, hl2, e2, hr0', hr1'⟩
            walk_at "x"
            exact ⟨i + 1, r', _, _, _, rfl, upd_same, by rw [upd_ne hla]; exact hl2, by rw [hid_in (by simp), e2], by omega, hr0', hr1', Int.emod_nonneg _ (by decide), Int.emod_lt_of_pos _ (by decide)⟩
      · walk_at "x"
        exact ⟨i, r, m, none, none, rfl, h1, hl, rfl, hi, hr0, hr1, hm0, hm1⟩
    · rintro σ' H' ⟨i', r', m', c, x, rfl, h2, hl', e2, hi', hr0', hr1', hm0', hm1'⟩
      have same : Same (hid [a] H) (hid [a] H') := by rw [e2]; exact Same.refl _
      have fin : ∀ (z : Int) (H'' : Hp), 0 ≤ z → z < many → BagAt H'' a l → Same (hid [a] H) (hid [a] H'') → Q (.int z) H'' := fun z H'' hz0 hz1 hB hS => by
        obtain ⟨n, rfl⟩ := Int.eq_ofNat_of_zero_le hz0
        exact k n H'' hz1 hB hS
      walk_at "x"
      refine if_dec (fun c1 => ?_) (fun c1 => ?_)
      · walk_at "x"
        refine fin _ _ (Int.emod_nonneg _ (by omega)) (Int.emod_lt_of_pos _ hn0) ⟨cells, _, _, _, upd_same, by rw [upd_ne hla]; exact hl', hla, hi', Int.ediv_nonneg hr0' (by omega), ?_, hm0', hm1'⟩ ?_
        · exact Int.lt_of_le_of_lt (Int.ediv_le_self _ hr0') hr1'
        · rw [hid_in (by simp)]; exact same
      · walk_at "x"
        exact fin _ _ (Int.emod_nonneg _ (by omega)) (Int.emod_lt_of_pos _ hn0) ⟨cells, _, _, _, h2, hl', hla, hi', hr0', hr1', hm0', hm1'⟩ same
end

end K76

namespace K76
open PySem PySem.Spec L2 PH
open C8 (tCut pss_cut)
section
variable {P : Program} {w : World} {K : PySem.W.Frag} {mg : Str → Option Value} {base : Heap}
def spBag (K : PySem.W.Frag) : Sp := fun vs H Q _ => ∃ (p : Addr) (ns : List Int), vs = [.ref p] ∧ SqL K H p (ns.map V.int) ∧ ns.length ≤ 63 ∧
  ∀ (b l : Addr) (H' : Hp), H b = none → BagAt H' b l → Same H H' → Q (.ref b) H'
theorem ok__law_bag (T : Ev fa fx fn K mg base) : Dn P w K mg base 1 (He.ga K "_law_bag") ["script"] (spBag K) := by
  refine dn_of (d__law_bag T) sc__law_bag bo__law_bag (fun vs H Q E h => ?_) (fun cdv A outer s H vs Q E hr h => ?_)
  · obtain ⟨p, ns, rfl, _⟩ := h
    rfl
  · obtain ⟨p, ns, rfl, hp, hl, k⟩ := h
    refine ⟨_, (PSs.nox (pss_one (ps_ret (pe_lst (pa_cons (pe_lc (own := [("cell", 1)]) rfl sc__law_bag.nd (pi_list (pe_slice sl_list (pv 0) po_none (po_some pe_int))) (blkOk_by (own := [("cell", 1)]) (N := ["script", "cell"]) (sc := defScope s__law_bag) (by decide +kernel)) (fun _ _ _ _ _ => (pg_name (i := 1) sc__law_bag.nd rfl (.inl rfl))) (fun _ _ _ _ _ => pts_nil) (fun _ _ _ _ _ => (pe_callTy call_int1 (by rfl) (f_int T) bb_int (pa_cons (pv 1) pa_nil)))) (pa_cons pe_int (pa_cons pe_int (pa_cons pe_int pa_nil)))))))), ?_⟩
    walk_at "cl"
    walk_at "x"
    refine ⟨p, ns.map V.int, rfl, hp, fun l hl0 => ⟨l, rfl, ⟨_, sqL_of upd_same⟩, fun D hD => ?_⟩⟩
    have hDl : D ≠ l := fun e => by rw [e, upd_same] at hD; cases hD
    have hH : H D = none := by rw [upd_ne hDl] at hD; exact hD
    refine lc_it (walk_list (xs := ns.map V.int)) (fun i H' => Same H H' ∧ SqL K H' l (ns.map V.int) ∧ H' D = some (.lst ((ns.take i).map V.int))) ?_ ?_ ?_ ?_
    · refine ⟨(same_new hl0).trans (same_new hD), ?_, upd_same⟩
      refine sqL_of ?_
      rw [upd_ne (Ne.symm hDl), upd_same, show (63 : Int) = ((63 : Nat) : Int) from rfl, cut_take, List.take_of_length_le (by simpa using hl)]
    · rintro i H' hi ⟨_, h, _⟩
      exact h
    · rintro i x H1 H2 hi ⟨h1, h2, h3⟩ ⟨rfl, hx⟩
      have hi : i < ns.length := by simpa using hi
      have hx : x = .int ns[i] := by
        rw [List.getElem?_map, List.getElem?_eq_getElem hi] at hx
        exact (Option.some.inj hx).symm
      subst hx
      walk_at "x"
      refine ⟨rfl, ?_⟩
      walk_at "x"
      have hz := smallL (n := ns.length) (by omega)
      refine ⟨_, h3, by rw [List.length_map, List.length_take]; omega, same_mut h1 hH, sqL_mut h2 (Ne.symm hDl), ?_⟩
      rw [upd_same, List.take_add_one, List.getElem?_eq_getElem hi, List.map_append]
      rfl
    · rintro H' ⟨h1, h2, h3⟩
      walk_at "x"
      refine ⟨by show 4 ≤ sizeLine; exact small (by decide), fun b hb => ?_⟩
      have hbD : D ≠ b := fun e => by rw [← e, h3] at hb; cases hb
      have hHb : H b = none := none_same h1 hb
      have e : ns.take (ns.map V.int).length = ns := List.take_of_length_le (by simp)
      rw [e] at h3
      exact k b D _ hHb ⟨ns, 0, 0, 1618033988749894848, upd_same, by rw [upd_ne hbD]; exact h3, hbD, by decide, by decide, by decide, by decide, by decide⟩ (same_upd h1 hb)
/-! ### letters -/
def spLetters : Sp := fun vs H Q _ => ∃ (b l : Addr) (n : Nat), vs = [.ref b, .int (n : Int)] ∧ BagAt H b l ∧ 1 ≤ n ∧ n ≤ 4 ∧
  ∀ (z : Str) (H' : Hp), AlphaOk z n → BagAt H' b l → Same (hid [b] H) (hid [b] H') → Q (.str z) H'
def signs94 : Str := Str.ofString " !\"#$&'()*+,-./0123456789:;<=>?@ABCDEFGHIJKLMNOPQRSTUVWXYZ[\\]^_`" ++ Str.ofString "abcdefghijklmnopqrstuvwxyz{|}~"
theorem signs94_len : signs94.cps.toList.length = 94 := by decide +kernel
theorem signs94_all : ∀ c ∈ signs94.cps.toList, 32 ≤ c ∧ c ≤ 126 := by decide +kernel
theorem alpha_abcd {k n : Nat} (h1 : 1 ≤ k) (h2 : k ≤ n) (h3 : n ≤ 4) : AlphaOk (cutS (Str.ofString "abcd") none (some (k : Int))) n := by
  have e := cutS_take (Str.ofString "abcd") k
  have e2 : (Str.ofString "abcd").cps.toList = [97, 98, 99, 100] := by decide +kernel
  rw [e2] at e
  have hk : k = 1 ∨ k = 2 ∨ k = 3 ∨ k = 4 := by omega
  constructor
  · rw [e, List.length_take]; simp; omega
  · rw [e, List.length_take]; simp; omega
  · rw [e]
    intro c hc
    have hc := List.mem_of_mem_take hc
    simp at hc
    omega
  · rw [e]
    exact List.Pairwise.sublist (List.take_sublist _ _) (by decide)
theorem ok__law_letters (T : Ev fa fx fn K mg base) : Dn P w K mg base 2 (He.ga K "_law_letters") ["bag", "most"] spLetters := by
  refine dn_of (d__law_letters T) sc__law_letters bo__law_letters (fun vs H Q E h => ?_) (fun cdv A outer s H vs Q E hr h => ?_)
  · obtain ⟨b, l, n, rfl, _⟩ := h
    rfl
  · obtain ⟨b, l, n, rfl, hB, hn1, hn4, k⟩ := h
    refine ⟨_, (PSs.nox (pss_cons (ps_set (i := 2) sc__law_letters.nd rfl (.inr rfl) pe_str)
      (pss_cons (ps_set (i := 2) sc__law_letters.nd rfl (.inr rfl) (pe_op op_add_str (pv 2) pe_str))
      (pss_cons (ps_set (i := 3) sc__law_letters.nd rfl (.inl rfl) (pe_op op_add pe_int (pe_d (ok__law_draw T) (hr.mono (by decide)) (g__law_draw T) passL (pa_cons (pv 0) (pa_cons (pv 1) pa_nil)))))
      (pss_cons (ps_if (pt_cmpR op_eq (pe_d (ok__law_draw T) (hr.mono (by decide)) (g__law_draw T) passL (pa_cons (pv 0) (pa_cons pe_int pa_nil))) pe_int (nomark _))
        (pss_one (ps_ret (pe_slice sl_str pe_str po_none (po_some (pv 3))))) pss_nil)
      (pss_one (ps_ret (pe_join pe_str (pe_callB (cr_sorted_strs rfl) (by rfl) (f_sorted T) bb_sorted (pa_cons (pe_callTy (cr_set_strs rfl) (by rfl) (f_set T) bb_set (pa_cons (pe_lc (own := [("k", 4)]) rfl sc__law_letters.nd (pi_range1 rfl (f_range T) (pa_cons (pv 3) pa_nil)) (blkOk_by (own := [("k", 4)]) (N := ["bag", "most", "signs", "many", "k"]) (sc := defScope s__law_letters) (by decide +kernel)) (fun _ _ _ _ _ => (pg_name (i := 4) sc__law_letters.nd rfl (.inl rfl))) (fun _ _ _ _ _ => pts_nil) (fun _ _ _ _ _ => (pe_ix ix_str (pv 2) (pe_d (ok__law_draw T) (hr.mono (by decide)) (g__law_draw T) passL (pa_cons (pv 0) (pa_cons pe_int pa_nil))) (fun _ _ => rfl)))) pa_nil)) pa_nil)))))))))), ?_⟩
    walk_at "cl"
    walk_at "x"
    refine ⟨_, _, rfl, rfl, by rw [sizeLine_eq]; decide +kernel, ?_⟩
    walk_at "x"
    refine draw_step hB (by omega) (by omega) fun k1 H1 h1 hB1 hS1 => ?_
    walk_at "x"
    refine draw_step hB1 (by omega) (by omega) fun k2 H2 h2 hB2 hS2 => ?_
    walk_at "x"
    refine if_dec (fun c2 => ?_) (fun c2 => ?_)
    · walk_at "x"
      refine ⟨_, rfl, by rw [sizeLine_eq]; decide +kernel, ?_⟩
      refine k _ _ ?_ hB2 (hS1.trans hS2)
      have e : (1 + (k1 : Int)) = ((1 + k1 : Nat) : Int) := by omega
      rw [e]
      exact alpha_abcd (by omega) (by omega) hn4
    · walk_at "x"
      refine ⟨⟨_, rfl⟩, ?_⟩
      walk_at "x"
      refine ⟨1 + (k1 : Int), rfl, by omega, by omega, fun D hD => ?_⟩
      have hj : (1 + (k1 : Int)).toNat = 1 + k1 := by omega
      rw [hj]
      obtain ⟨nb, nl⟩ := hB2.ne hD
      refine lc_it walk_range (fun i H' => ∃ cs : List Nat, cs.length = i ∧ (∀ c ∈ cs, c ∈ signs94.cps.toList) ∧ H' D = some (.lst ((cs.map s1).map V.str)) ∧ BagAt H' b l ∧ Same (hid [b] H2) (hid [b] H')) ?_ ?_ ?_ ?_
      · exact ⟨[], rfl, (fun c hc => by cases hc), upd_same, hB2.new hD, hsame_mut hsame_refl hD⟩
      · intros
        trivial
      · rintro i x H3 H4 hi ⟨cs, hl, hm, hd, hB3, hS3⟩ ⟨rfl, rfl⟩
        walk_at "x"
        refine ⟨rfl, ?_⟩
        walk_at "x"
        refine draw_step hB3 (by omega) (by omega) fun k3 H5 h5 hB5 hS5 => ?_
        have hk3 : k3 < signs94.cps.toList.length := by rw [signs94_len]; omega
        refine v_ixS (c := signs94.cps.toList[k3]) (by rw [sizeLine_eq]; decide +kernel) (atI_nat (by show signs94.cps.toList[k3]? = _; rw [List.getElem?_eq_getElem hk3])) ?_
        have hd5 : H5 D = some (.lst ((cs.map s1).map V.str)) := hid_get hS5 hd (by simpa using nb)
        refine ⟨_, hd5, smallL (by simp; omega), cs ++ [signs94.cps.toList[k3]], by simp [hl], fun c hc => ?_, ?_, hB5.mut nb nl, hsame_mut (hS3.trans hS5) hD⟩
        · rcases List.mem_append.mp hc with hc | hc
          · exact hm c hc
          · rw [List.mem_singleton.mp hc]
            exact List.getElem_mem hk3
        · rw [upd_same]
          simp [s1]
      · rintro H' ⟨cs, hl, hm, hd, hB', hS'⟩
        walk_at "x"
        refine ⟨D, cs.map s1, rfl, sqL_of hd, by simp; omega, fun a c ha hc => ?_⟩
        walk_at "x"
        refine ⟨a, _, _, rfl, upd_same, by simp at hc; omega, fun ys p hs hnd hmem hlen hp => ?_⟩
        obtain ⟨cs', rfl, hup, hin⟩ := sorted_signs (S := cs) hs hnd fun y hy => by
          have q := (hmem y).1 hy
          obtain ⟨c', hc', e⟩ := List.mem_map.mp (of_decide_eq_true q)
          exact ⟨c', hc', e.symm⟩
        have hne : cs' ≠ [] := by
          intro e
          subst e
          cases cs with
          | nil => simp at hl; omega
          | cons c0 r =>
            have q := (hmem (s1 c0)).2 (decide_eq_true (by simp))
            simp at q
        have hl2 : cs'.length ≤ cs.length := by
          simp at hlen hc
          omega
        refine ⟨_, p, cs'.map s1, rfl, rfl, .inl (sqL_of upd_same), ?_, k _ _ ⟨?_, ?_, ?_, ?_⟩ ?_ ?_⟩
        · have e : ((cs'.map s1).map (·.length)).sum = cs'.length := by
            have go : ∀ l : List Nat, ((l.map s1).map (·.length)).sum = l.length := by
              intro l
              induction l with
              | nil => rfl
              | cons x r ih =>
                rw [List.map_cons, List.map_cons, List.sum_cons, ih, List.length_cons, Nat.add_comm]
                rfl
            exact go cs'
          rw [e]
          simp
          show cs'.length + cs'.length * 0 ≤ _
          omega
        · rw [join_signs]
          cases cs' with
          | nil => exact absurd rfl hne
          | cons _ _ => simp
        · rw [join_signs]; omega
        · rw [join_signs]
          exact fun c hc => signs94_all c (hm c (hin c hc))
        · rw [join_signs]; exact hup
        · exact ((hB'.new ha).new hp)
        · exact (hS1.trans hS2).trans (hsame_new (hsame_new hS' ha) hp)
end

end K76

namespace K76
open PySem PySem.Spec L2 PH
open C8 (tCut pss_cut)
section
variable {P : Program} {w : World} {K : PySem.W.Frag} {mg : Str → Option Value} {base : Heap}
def spFurther : Sp := fun vs H Q _ => ∃ (b l : Addr) (z : Str) (m n : Nat), vs = [.ref b, .str z, .int (m : Int), .int (n : Int)] ∧ BagAt H b l ∧ AlphaOk z 4 ∧ m ≤ 20 ∧ 2 ≤ n ∧ n ≤ 20 ∧
  ∀ (t : Addr) (ws : List Str) (H' : Hp), H t = none → FurtherOk z m n ws → H' t = some (.lst (ws.map V.str)) → BagAt H' b l → Same (hid [b] H) (hid [b] H') → Q (.ref t) H'
theorem ok__law_further (T : Ev fa fx fn K mg base) : Dn P w K mg base 2 (He.ga K "_law_further") ["bag", "letters", "most", "longest"] spFurther := by
  refine dn_of (d__law_further T) sc__law_further bo__law_further (fun vs H Q E h => ?_) (fun cdv A outer s H vs Q E hr h => ?_)
  · obtain ⟨b, l, z, m, n, rfl, _⟩ := h
    rfl
  · obtain ⟨b, l, z, m, n, rfl, hB, hz, hm, hn2, hn, k⟩ := h
    refine ⟨_, (PSs.nox (pss_cons (ps_set (i := 4) sc__law_further.nd rfl (.inl rfl) (pe_lst pa_nil))
      (pss_cons (ps_for PassesOwn.never rfl (pi_range1 rfl (f_range T) (pa_cons (pe_d (ok__law_draw T) (hr.mono (by decide)) (g__law_draw T) passL (pa_cons (pv 0) (pa_cons (pe_op op_add (pv 2) pe_int) pa_nil))) pa_nil)) (pg_name (i := 5) sc__law_further.nd rfl (.inl rfl))
        (pss_cons (ps_set (i := 6) sc__law_further.nd rfl (.inl rfl) (pe_join pe_str (pe_lc (own := [("i", 7)]) rfl sc__law_further.nd (pi_range1 rfl (f_range T) (pa_cons (pe_op op_add pe_int (pe_d (ok__law_draw T) (hr.mono (by decide)) (g__law_draw T) passL (pa_cons (pv 0) (pa_cons (pe_op op_sub (pv 3) pe_int) pa_nil)))) pa_nil)) (blkOk_by (own := [("i", 7)]) (N := ["bag", "letters", "most", "longest", "told", "k", "word", "i"]) (sc := defScope s__law_further) (by decide +kernel)) (fun _ _ _ _ _ => (pg_name (i := 7) sc__law_further.nd rfl (.inl rfl))) (fun _ _ _ _ _ => pts_nil) (fun _ _ _ _ _ => (pe_ix ix_str (pv 1) (pe_d (ok__law_draw T) (hr.mono (by decide)) (g__law_draw T) passL (pa_cons (pv 0) (pa_cons (pe_callB (call_lenK (K := K) rfl) (by rfl) (f_len T) bb_len (pa_cons (pv 1) pa_nil)) pa_nil))) (fun _ _ => rfl))))))
      (pss_one (ps_if (pt_cmpR (op_notIn_seqK (K := K) rfl) (pv 6) (pv 4) rfl)
        (pss_one (ps_expr (pe_bm PySem.F.plainAttrs_list PySem.F.slot_list_append PySem.F.type_list_append mt_append (pv 4) (pa_cons (pv 6) pa_nil)))) pss_nil))))
      (pss_one (ps_ret (pv 4)))))), ?_⟩
    walk_at "cl"
    walk_at "x"
    refine ⟨small (by decide), fun t ht => ?_⟩
    walk_at "x"
    obtain ⟨tb, tl⟩ := hB.ne ht
    refine draw_step (hB.new ht) (by omega) (by omega) fun k1 H1 h1 hB1 hS1 => ?_
    walk_at "x"
    refine ⟨(k1 : Int), rfl, by omega, by omega, ?_⟩
    rw [Int.toNat_natCast]
    refine for_it walk_range (fun i σ' H' => ∃ (x y : Option V) (ws : List Str), σ' = [some (.ref b), some (.str z), some (.int m), some (.int n), some (.ref t), x, y, none] ∧ FurtherOk z i n ws ∧ H' t = some (.lst (ws.map V.str)) ∧ BagAt H' b l ∧ Same (hid [b] H) (hid [b] H')) ?_ ?_ ?_ ?_
    · refine ⟨none, none, [], rfl, ⟨(fun x hx => by cases hx), List.nodup_nil, Nat.zero_le _⟩, hid_get hS1 upd_same (by simpa using tb), hB1, (hsame_new hsame_refl ht).trans hS1⟩
    · intros
      trivial
    · rintro i x σ' H2 H3 hi ⟨x0, y0, ws, rfl, hF, ht2, hB2, hS2⟩ ⟨rfl, rfl⟩
      walk_at "x"
      refine ⟨⟨_, rfl⟩, ?_⟩
      walk_at "x"
      refine draw_step hB2 (by omega) (by omega) fun k2 H4 h4 hB4 hS4 => ?_
      walk_at "x"
      refine ⟨2 + (k2 : Int), rfl, by omega, by omega, fun D hD => ?_⟩
      have hj : (2 + (k2 : Int)).toNat = 2 + k2 := by omega
      rw [hj]
      obtain ⟨nb, nl⟩ := hB4.ne hD
      have ht4 : H4 t = some (.lst (ws.map V.str)) := hid_get hS4 ht2 (by simpa using tb)
      have nt : t ≠ D := ne_of_none ht4 hD
      have hDH : H D = none := hnone (hS2.trans hS4) hD (by simpa using nb)
      refine lc_it walk_range (fun j H' => ∃ cs : List Nat, cs.length = j ∧ (∀ c ∈ cs, c ∈ z.cps.toList) ∧ H' D = some (.lst ((cs.map s1).map V.str)) ∧ H' t = some (.lst (ws.map V.str)) ∧ BagAt H' b l ∧ Same (hid [b] H) (hid [b] H')) ?_ ?_ ?_ ?_
      · exact ⟨[], rfl, (fun c hc => by cases hc), upd_same, by rw [upd_ne nt]; exact ht4, hB4.new hD, hsame_new (hS2.trans hS4) hD⟩
      · intros
        trivial
      · rintro j x H5 H6 hj ⟨cs, hl, hm, hd, ht5, hB5, hS5⟩ ⟨rfl, rfl⟩
        walk_at "x"
        refine ⟨rfl, ?_⟩
        walk_at "x"
        have hzl := hz.lo
        have hzh := hz.hi
        have hzz : z.length ≤ sizeLine := small (by rw [tl_len]; omega)
        refine v_lenS hzz ?_
        walk_at "x"
        refine draw_step hB5 (by rw [tl_len]; omega) (by rw [tl_len]; omega) fun k3 H7 h7 hB7 hS7 => ?_
        walk_at "x"
        have hk3 : k3 < z.cps.toList.length := by rw [← tl_len]; omega
        refine v_ixS (c := z.cps.toList[k3]) hzz (atI_nat (by rw [List.getElem?_eq_getElem hk3])) ?_
        have hd7 : H7 D = some (.lst ((cs.map s1).map V.str)) := hid_get hS7 hd (by simpa using nb)
        refine ⟨_, hd7, smallL (by simp; omega), cs ++ [z.cps.toList[k3]], by simp [hl], fun c hc => ?_, ?_, ?_, hB7.mut nb nl, hsame_mut (hS5.trans hS7) hDH⟩
        · rcases List.mem_append.mp hc with hc | hc
          · exact hm c hc
          · rw [List.mem_singleton.mp hc]
            exact List.getElem_mem hk3
        · rw [upd_same]
          simp [s1]
        · rw [upd_ne nt]
          exact hid_get hS7 ht5 (by simpa using tb)
      · rintro H' ⟨cs, hl, hm, hd, ht', hB', hS'⟩
        have hsum : ∀ l : List Nat, ((l.map s1).map (·.length)).sum = l.length := by
          intro l
          induction l with
          | nil => rfl
          | cons x r ih =>
            rw [List.map_cons, List.map_cons, List.sum_cons, ih, List.length_cons, Nat.add_comm]
            rfl
        refine ⟨_, D, cs.map s1, rfl, rfl, .inl (sqL_of hd), ?_, ?_⟩
        · rw [hsum]
          simp
          show cs.length + cs.length * 0 ≤ _
          omega
        walk_at "x"
        have hw : WordOk z n (Txt.join (Str.ofString "") (cs.map s1)) := ⟨by rw [join_signs]; omega, by rw [join_signs]; omega, by rw [join_signs]; exact hm⟩
        generalize Txt.join (Str.ofString "") (cs.map s1) = word at hw
        refine v_notIn (.inl (sqL_of ht')) ?_
        walk_at "x"
        refine if_bnot (fun c => ?_) (fun c => ?_)
        · walk_at "x"
          refine ⟨ty_list (sqL_of ht'), ?_⟩
          walk_at "x"
          have hlen := hF.few
          refine v_append ht' (smallL (by simp; omega)) ?_
          walk_at "x"
          refine ⟨_, _, ws ++ [word], rfl, ⟨fun x hx => ?_, ?_, by simp; exact hF.few⟩, by rw [upd_same]; simp, hB'.mut tb tl, hsame_mut hS' ht⟩
          · rcases List.mem_append.mp hx with hx | hx
            · exact hF.ok x hx
            · rw [List.mem_singleton.mp hx]; exact hw
          · rw [List.nodup_append]
            refine ⟨hF.nd, by simp, fun a ha b hb => ?_⟩
            rw [List.mem_singleton.mp hb]
            exact fun e => c (e ▸ ha)
        · walk_at "x"
          exact ⟨_, _, ws, rfl, ⟨hF.ok, hF.nd, Nat.le_succ_of_le hF.few⟩, ht', hB', hS'⟩
    · rintro σ' H' ⟨x0, y0, ws, rfl, hF, ht2, hB2, hS2⟩
      walk_at "x"
      exact k t ws H' ht ⟨hF.ok, hF.nd, by have := hF.few; omega⟩ ht2 hB2 hS2
end

end K76

namespace K76
open PySem PySem.Spec L2 PH
open C8 (tCut pss_cut)
section
variable {P : Program} {w : World} {K : PySem.W.Frag} {mg : Str → Option Value} {base : Heap}
theorem ok_InvalidAlphabet___init__ (T : Ev fa fx fn K mg base) : Dn P w K mg base 1 (He.ma K (He.ga K "InvalidAlphabet") "__init__") ["self", "alphabet"] (spX1 (He.ga K "InvalidAlphabet") "alphabet") := by
  refine dn_of (d_InvalidAlphabet___init__ T) sc_InvalidAlphabet___init__ bo_InvalidAlphabet___init__ (fun vs H Q E h => ?_) (fun cdv A outer s H vs Q E hr h => ?_)
  · obtain ⟨a, v, rfl, _⟩ := h
    rfl
  · obtain ⟨a, v, rfl, ha, k⟩ := h
    refine ⟨_, (PSs.nox (pss_one (ps_ost (pv 0) (pv 1)))), ?_⟩
    walk_at "cl"
    refine v_var rfl (v_var rfl ?_)
    exact ⟨a, _, rfl, (exc_InvalidAlphabet T).oex, no_InvalidAlphabet_alphabet T, .inl ⟨ha, fun dx h1 h2 => k dx h1 h2⟩⟩

theorem ok_NotProper___init__ (T : Ev fa fx fn K mg base) : Dn P w K mg base 1 (He.ma K (He.ga K "NotProper") "__init__") ["self", "rank"] (spX1 (He.ga K "NotProper") "rank") := by
  refine dn_of (d_NotProper___init__ T) sc_NotProper___init__ bo_NotProper___init__ (fun vs H Q E h => ?_) (fun cdv A outer s H vs Q E hr h => ?_)
  · obtain ⟨a, v, rfl, _⟩ := h
    rfl
  · obtain ⟨a, v, rfl, ha, k⟩ := h
    refine ⟨_, (PSs.nox (pss_one (ps_ost (pv 0) (pv 1)))), ?_⟩
    walk_at "cl"
    refine v_var rfl (v_var rfl ?_)
    exact ⟨a, _, rfl, (exc_NotProper T).oex, no_NotProper_rank T, .inl ⟨ha, fun dx h1 h2 => k dx h1 h2⟩⟩

theorem ok_InvalidNumber___init__ (T : Ev fa fx fn K mg base) : Dn P w K mg base 1 (He.ma K (He.ga K "InvalidNumber") "__init__") ["self", "number"] (spX1 (He.ga K "InvalidNumber") "number") := by
  refine dn_of (d_InvalidNumber___init__ T) sc_InvalidNumber___init__ bo_InvalidNumber___init__ (fun vs H Q E h => ?_) (fun cdv A outer s H vs Q E hr h => ?_)
  · obtain ⟨a, v, rfl, _⟩ := h
    rfl
  · obtain ⟨a, v, rfl, ha, k⟩ := h
    refine ⟨_, (PSs.nox (pss_one (ps_ost (pv 0) (pv 1)))), ?_⟩
    walk_at "cl"
    refine v_var rfl (v_var rfl ?_)
    exact ⟨a, _, rfl, (exc_InvalidNumber T).oex, no_InvalidNumber_number T, .inl ⟨ha, fun dx h1 h2 => k dx h1 h2⟩⟩

theorem ok_InvalidWords___init__ (T : Ev fa fx fn K mg base) : Dn P w K mg base 1 (He.ma K (He.ga K "InvalidWords") "__init__") ["self", "place"] (spX1 (He.ga K "InvalidWords") "place") := by
  refine dn_of (d_InvalidWords___init__ T) sc_InvalidWords___init__ bo_InvalidWords___init__ (fun vs H Q E h => ?_) (fun cdv A outer s H vs Q E hr h => ?_)
  · obtain ⟨a, v, rfl, _⟩ := h
    rfl
  · obtain ⟨a, v, rfl, ha, k⟩ := h
    refine ⟨_, (PSs.nox (pss_one (ps_ost (pv 0) (pv 1)))), ?_⟩
    walk_at "cl"
    refine v_var rfl (v_var rfl ?_)
    exact ⟨a, _, rfl, (exc_InvalidWords T).oex, no_InvalidWords_place T, .inl ⟨ha, fun dx h1 h2 => k dx h1 h2⟩⟩

theorem ok_InvalidCutter___init__ (T : Ev fa fx fn K mg base) : Dn P w K mg base 1 (He.ma K (He.ga K "InvalidCutter") "__init__") ["self", "part"] (spX1 (He.ga K "InvalidCutter") "part") := by
  refine dn_of (d_InvalidCutter___init__ T) sc_InvalidCutter___init__ bo_InvalidCutter___init__ (fun vs H Q E h => ?_) (fun cdv A outer s H vs Q E hr h => ?_)
  · obtain ⟨a, v, rfl, _⟩ := h
    rfl
  · obtain ⟨a, v, rfl, ha, k⟩ := h
    refine ⟨_, (PSs.nox (pss_one (ps_ost (pv 0) (pv 1)))), ?_⟩
    walk_at "cl"
    refine v_var rfl (v_var rfl ?_)
    exact ⟨a, _, rfl, (exc_InvalidCutter T).oex, no_InvalidCutter_part T, .inl ⟨ha, fun dx h1 h2 => k dx h1 h2⟩⟩

theorem ok_InvalidRow___init__ (T : Ev fa fx fn K mg base) : Dn P w K mg base 1 (He.ma K (He.ga K "InvalidRow") "__init__") ["self", "row"] (spX1 (He.ga K "InvalidRow") "row") := by
  refine dn_of (d_InvalidRow___init__ T) sc_InvalidRow___init__ bo_InvalidRow___init__ (fun vs H Q E h => ?_) (fun cdv A outer s H vs Q E hr h => ?_)
  · obtain ⟨a, v, rfl, _⟩ := h
    rfl
  · obtain ⟨a, v, rfl, ha, k⟩ := h
    refine ⟨_, (PSs.nox (pss_one (ps_ost (pv 0) (pv 1)))), ?_⟩
    walk_at "cl"
    refine v_var rfl (v_var rfl ?_)
    exact ⟨a, _, rfl, (exc_InvalidRow T).oex, no_InvalidRow_row T, .inl ⟨ha, fun dx h1 h2 => k dx h1 h2⟩⟩

theorem ok_TooMany___init__ (T : Ev fa fx fn K mg base) : Dn P w K mg base 1 (He.ma K (He.ga K "TooMany") "__init__") ["self", "what"] (spX1 (He.ga K "TooMany") "what") := by
  refine dn_of (d_TooMany___init__ T) sc_TooMany___init__ bo_TooMany___init__ (fun vs H Q E h => ?_) (fun cdv A outer s H vs Q E hr h => ?_)
  · obtain ⟨a, v, rfl, _⟩ := h
    rfl
  · obtain ⟨a, v, rfl, ha, k⟩ := h
    refine ⟨_, (PSs.nox (pss_one (ps_ost (pv 0) (pv 1)))), ?_⟩
    walk_at "cl"
    refine v_var rfl (v_var rfl ?_)
    exact ⟨a, _, rfl, (exc_TooMany T).oex, no_TooMany_what T, .inl ⟨ha, fun dx h1 h2 => k dx h1 h2⟩⟩

def spIsNum : Sp := fun vs H Q _ => ∃ m n : Int, vs = [.int m, .int n] ∧ Q (.bl (decide (m = n))) H
theorem ok__law_is_number (T : Ev fa fx fn K mg base) : Dn P w K mg base 1 (He.ga K "_law_is_number") ["value", "due"] spIsNum := by
  refine dn_of (d__law_is_number T) sc__law_is_number bo__law_is_number (fun vs H Q E h => ?_) (fun cdv A outer s H vs Q E hr h => ?_)
  · obtain ⟨m, n, rfl, _⟩ := h
    rfl
  · obtain ⟨m, n, rfl, k⟩ := h
    refine ⟨_, (PSs.nox (pss_one (ps_ret (pe_and (pe_callB (call_isiK' (K := K) rfl) (by rfl) (f_isinstance T) bb_isinstance (pa_cons (pv 0) (pa_cons (pe_ty (f_int T) bb_int) pa_nil))) (pe_and (pe_not (pe_callB (call_isiK' (K := K) rfl) (by rfl) (f_isinstance T) bb_isinstance (pa_cons (pv 0) (pa_cons (pe_ty (f_bool T) bb_bool) pa_nil)))) (pe_one (pe_cmpR op_eq (pv 0) (pv 1) (nomark _)))))))), ?_⟩
    walk_at "cl"
    walk_at "x"
    refine isi_int (.int m) ?_
    walk_at "x"
    refine iteT ?_
    walk_at "x"
    refine isi_bool (.int m) ?_
    walk_at "x"
    refine iteT ?_
    walk_at "x"
    exact k
def spAlike (K : PySem.W.Frag) : Sp := fun vs H Q _ => ∃ (x y : V) (d : PyData), vs = [x, y] ∧ Dp K H x d ∧ Dp K H y d ∧ SeqAt.shaped d = true ∧ Q (.bl true) H
theorem ok__law_alike (T : Ev fa fx fn K mg base) : Ds P w K mg base 1 (He.ga K "_law_alike") ["value", "due"] (spAlike K) := by
  refine ds_of (d__law_alike T) sc__law_alike bo__law_alike (fun vs H Q E h => ?_) (fun cdv A outer s H vs Q E hr h => ?_)
  · obtain ⟨x, y, d, rfl, _⟩ := h
    rfl
  · obtain ⟨x, y, d, rfl, hx, hy, hs, k⟩ := h
    refine ⟨_, (pss_cons (ps_if (pw_or (pt_cmpR op_ne (pe_callB (call_isiK' (K := K) rfl) (by rfl) (f_isinstance T) bb_isinstance (pa_cons (pv 0) (pa_cons (pe_ty (f_bool T) bb_bool) pa_nil))) (pe_callB (call_isiK' (K := K) rfl) (by rfl) (f_isinstance T) bb_isinstance (pa_cons (pv 1) (pa_cons (pe_ty (f_bool T) bb_bool) pa_nil))) (nomark _)) (pw_or1 (pt_cmpR op_ne (pe_callB (call_isiK' (K := K) rfl) (by rfl) (f_isinstance T) bb_isinstance (pa_cons (pv 0) (pa_cons (pe_ty (f_tuple T) bb_tuple) pa_nil))) (pe_callB (call_isiK' (K := K) rfl) (by rfl) (f_isinstance T) bb_isinstance (pa_cons (pv 1) (pa_cons (pe_ty (f_tuple T) bb_tuple) pa_nil))) (nomark _)))).pt
        (pss_one (ps_ret pe_bl)) pss_nil)
      (pss_one (ps_ret (pe_cmpR (op_eqDK (K := K) rfl hr.units) (pv 0) (pv 1) (nomark _))))), ?_⟩
    walk_at "cl"
    walk_at "x"
    refine isi_bool hx ?_
    walk_at "x"
    refine isi_bool hy ?_
    walk_at "x"
    refine iteF_of (by simp) ?_
    walk_at "x"
    refine isi_tuple hx ?_
    walk_at "x"
    refine isi_tuple hy ?_
    walk_at "x"
    refine iteF_of (by simp) ?_
    walk_at "x"
    refine ⟨d, d, hx, hy, hs, hs, ?_⟩
    rw [PySem.SeqAt.eqv_refl d (SeqAt.canLay_of_shaped hs)]
    exact k
def spBet (K : PySem.W.Frag) : Sp := fun vs H Q _ => ∃ (x : V) (a b : Int) (d : PyData), vs = [x, .int a, .int b] ∧ Dp K H x d ∧ Q (.bl (dBet a b d)) H
theorem ok_is_between (T : Ev fa fx fn K mg base) : Dn P w K mg base 1 (He.ga K "is_between") ["value", "least", "most"] (spBet K) := by
  refine dn_of (d_is_between T) sc_is_between bo_is_between (fun vs H Q E h => ?_) (fun cdv A outer s H vs Q E hr h => ?_)
  · obtain ⟨x, a, b, d, rfl, _⟩ := h
    rfl
  · obtain ⟨x, a, b0, d, rfl, hx, k⟩ := h
    refine ⟨_, (PSs.nox (pss_one (ps_ret (pe_and (pe_callB (call_isiK' (K := K) rfl) (by rfl) (f_isinstance T) bb_isinstance (pa_cons (pv 0) (pa_cons (pe_ty (f_int T) bb_int) pa_nil))) (pe_and (pe_not (pe_callB (call_isiK' (K := K) rfl) (by rfl) (f_isinstance T) bb_isinstance (pa_cons (pv 0) (pa_cons (pe_ty (f_bool T) bb_bool) pa_nil)))) (pe_one (pe_chain op_le op_le (pv 1) (pv 0) (pv 2)))))))), ?_⟩
    walk_at "cl"
    walk_at "x"
    refine isi_int hx ?_
    walk_at "x"
    have fin : ∀ b : Bool, dBet a b0 d = b → Q (.bl b) H := fun b e => e ▸ k
    refine if_b (fun c => ?_) (fun c => ?_)
    · walk_at "x"
      refine isi_bool hx ?_
      walk_at "x"
      refine if_b (fun c2 => ?_) (fun c2 => ?_)
      · cases hx with
        | int i =>
          walk_at "x"
          refine if_dec (fun c3 => ?_) (fun c3 => ?_)
          · walk_at "x"
            refine fin _ ?_
            show decide (a ≤ i ∧ i ≤ b0) = decide (i ≤ b0)
            simp [c3]
          · refine fin _ ?_
            show decide (a ≤ i ∧ i ≤ b0) = false
            simp [c3]
        | bl _ => cases c2
        | non => cases c
        | str _ => cases c
        | lst _ _ => cases c
        | tup _ _ => cases c
      · refine fin _ ?_
        cases hx with
        | int i => cases c2
        | bl _ => rfl
        | non => cases c
        | str _ => cases c
        | lst _ _ => cases c
        | tup _ _ => cases c
    · refine fin _ ?_
      cases hx with
      | int i => cases c
      | bl _ => cases c
      | non => rfl
      | str _ => rfl
      | lst _ _ => rfl
      | tup _ _ => rfl
def spSeq (K : PySem.W.Frag) : Sp := fun vs H Q _ => ∃ (x : V) (d : PyData), vs = [x] ∧ Dp K H x d ∧ ∀ H', Same H H' → Q (.bl (dSeq d)) H'
theorem ok_is_sequence (T : Ev fa fx fn K mg base) : Dn P w K mg base 1 (He.ga K "is_sequence") ["value"] (spSeq K) := by
  refine dn_of (d_is_sequence T) sc_is_sequence bo_is_sequence (fun vs H Q E h => ?_) (fun cdv A outer s H vs Q E hr h => ?_)
  · obtain ⟨x, d, rfl, _⟩ := h
    rfl
  · obtain ⟨x, d, rfl, hx, k⟩ := h
    refine ⟨_, (PSs.nox (pss_one (ps_ret (pe_callB (call_isiTK (K := K) rfl) (by rfl) (f_isinstance T) bb_isinstance (pa_cons (pv 0) (pa_cons (pe_tup (pa_cons (pe_ty (f_tuple T) bb_tuple) (pa_cons (pe_ty (f_list T) bb_list) pa_nil))) pa_nil)))))), ?_⟩
    walk_at "cl"
    walk_at "x"
    refine ⟨small (by decide), fun p hp => ?_⟩
    walk_at "x"
    exact isi_seq (dp_same (same_new hp) _ _ hx) upd_same (k _ (same_new hp))
end

end K76

namespace K76
open PySem PySem.Spec L2 PH
open C8 (tCut pss_cut)
section
variable {P : Program} {w : World} {K : PySem.W.Frag} {mg : Str → Option Value} {base : Heap}
def spAlphabet : Sp := fun vs H Q _ => ∃ z : Str, vs = [.str z] ∧ AlphaOk z 4 ∧ Q (.bl true) H
theorem ok_is_alphabet (T : Ev fa fx fn K mg base) : Dn P w K mg base 1 (He.ga K "is_alphabet") ["alphabet"] spAlphabet := by
  refine dn_of (d_is_alphabet T) sc_is_alphabet bo_is_alphabet (fun vs H Q E h => ?_) (fun cdv A outer s H vs Q E hr h => ?_)
  · obtain ⟨z, rfl, _⟩ := h
    rfl
  · obtain ⟨z, rfl, hz, k⟩ := h
    have z1 := hz.lo
    have z2 := hz.hi
    have zl : z.length = z.cps.toList.length := tl_len
    have hzz : z.length ≤ sizeLine := small (by omega)
    refine ⟨_, (PSs.nox (pss_cons (ps_if (pt_not (pt_chain op_le op_le pe_int (pe_callB (call_lenK (K := K) rfl) (by rfl) (f_len T) bb_len (pa_cons (pv 0) pa_nil)) (pe_gi (c_MOST_LETTERS T))))
        (pss_one (ps_ret pe_bl)) pss_nil)
      (pss_cons (ps_for PassesOwn.never rfl (pi_str (pv 0)) (pg_name (i := 1) sc_is_alphabet.nd rfl (.inl rfl))
        (pss_one (ps_if (pt_not (pt_chain op_le_str op_le_str pe_str (pv 1) pe_str))
        (pss_one (ps_ret pe_bl)) pss_nil)))
      (pss_cons (ps_for PassesOwn.never rfl (pi_range2 rfl (f_range T) (pa_cons pe_int (pa_cons (pe_callB (call_lenK (K := K) rfl) (by rfl) (f_len T) bb_len (pa_cons (pv 0) pa_nil)) pa_nil))) (pg_name (i := 2) sc_is_alphabet.nd rfl (.inl rfl))
        (pss_one (ps_if (pt_cmpR op_ge_str (pe_ix ix_str (pv 0) (pe_op op_sub (pv 2) pe_int) (fun _ _ => rfl)) (pe_ix ix_str (pv 0) (pv 2) (fun _ _ => rfl)) (nomark _))
        (pss_one (ps_ret pe_bl)) pss_nil)))
      (pss_one (ps_ret pe_bl)))))), ?_⟩
    walk_at "cl"
    walk_at "x"
    refine v_lenS hzz ?_
    walk_at "x"
    refine if_dec_t (by omega) ?_
    walk_at "x"
    refine if_nd_f (by omega) ?_
    walk_at "x"
    refine ⟨z, rfl, ?_⟩
    refine for_it walk_str (fun i σ' H' => (∃ y, σ' = [some (.str z), y, none]) ∧ H' = H) ?_ ?_ ?_ ?_
    · exact ⟨⟨_, rfl⟩, rfl⟩
    · intros
      trivial
    · rintro i x σ' H1 H2 hi ⟨⟨y, rfl⟩, rfl⟩ ⟨rfl, c, hc, rfl⟩
      have hcm : c ∈ z.cps.toList := by
        rw [← Array.getElem?_toList] at hc
        exact List.mem_of_getElem? hc
      obtain ⟨c1, c2⟩ := hz.sg c hcm
      walk_at "x"
      refine ⟨_, _, rfl, rfl, ?_⟩
      walk_at "x"
      refine iteT_of ?_ ?_
      · rw [show Str.ofString " " = (⟨#[32]⟩ : Str) from by decide +kernel, sign_nlt c1]
        rfl
      walk_at "x"
      refine ⟨_, _, rfl, rfl, ?_⟩
      walk_at "x"
      refine iteF_of ?_ ?_
      · rw [show Str.ofString "~" = (⟨#[126]⟩ : Str) from by decide +kernel, sign_nlt c2]
        rfl
      walk_at "x"
      exact ⟨⟨_, rfl⟩, rfl⟩
    · rintro σ' H1 ⟨⟨y, rfl⟩, rfl⟩
      walk_at "x"
      refine v_lenS hzz ?_
      walk_at "x"
      refine ⟨1, _, rfl, ⟨by decide, by decide, by omega, by omega⟩, ?_⟩
      refine for_it walk_range (fun i σ' H' => (∃ u, σ' = [some (.str z), y, u]) ∧ H' = H1) ?_ ?_ ?_ ?_
      · exact ⟨⟨_, rfl⟩, rfl⟩
      · intros
        trivial
      · rintro i x σ' H2 H3 hi ⟨⟨u, rfl⟩, rfl⟩ ⟨rfl, rfl⟩
        have h1 : i < z.cps.toList.length := by omega
        have h2 : i + 1 < z.cps.toList.length := by omega
        walk_at "x"
        refine v_ixS (c := z.cps.toList[i]) hzz ?_ ?_
        · have e : (1 + (i : Int) - 1) = (i : Int) := by omega
          rw [e]
          exact atI_nat (List.getElem?_eq_getElem h1)
        walk_at "x"
        refine v_ixS (c := z.cps.toList[i + 1]) hzz ?_ ?_
        · have e : (1 + (i : Int)) = ((i + 1 : Nat) : Int) := by omega
          rw [e]
          exact atI_nat (List.getElem?_eq_getElem h2)
        refine ⟨_, _, rfl, rfl, ?_⟩
        walk_at "x"
        refine iteF_of ?_ ?_
        · rw [sign_lt (List.pairwise_iff_getElem.mp hz.up i (i + 1) h1 h2 (by omega))]
          rfl
        walk_at "x"
        exact ⟨⟨_, rfl⟩, rfl⟩
      · rintro σ' H2 ⟨⟨u, rfl⟩, rfl⟩
        walk_at "x"
        exact k
def spChk : Sp := fun vs H Q _ => ∃ z : Str, vs = [.str z] ∧ AlphaOk z 4 ∧ Q (.str z) H
theorem ok_checked_alphabet (T : Ev fa fx fn K mg base) : Dn P w K mg base 3 (He.ga K "checked_alphabet") ["alphabet"] spChk := by
  refine dn_of (d_checked_alphabet T) sc_checked_alphabet bo_checked_alphabet (fun vs H Q E h => ?_) (fun cdv A outer s H vs Q E hr h => ?_)
  · obtain ⟨z, rfl, _⟩ := h
    rfl
  · obtain ⟨z, rfl, hz, k⟩ := h
    refine ⟨_, (pss_cons (ps_if (pt_not (pt_val (pe_d (ok_is_alphabet T) (hr.mono (by decide)) (g_is_alphabet T) passL (pa_cons (pv 0) pa_nil))))
        (pss_one (ps_raise rfl (takes_of rfl rfl rfl rfl) (pmk_x1 (exc_InvalidAlphabet T) (ok_InvalidAlphabet___init__ T) (hr.mono (by decide)) (g_InvalidAlphabet T) (pv 0)))) pss_nil)
      (pss_one (ps_ret (pv 0)))), ?_⟩
    walk_at "cl"
    walk_at "x"
    refine ⟨z, rfl, hz, ?_⟩
    walk_at "x"
    refine iteF_of rfl ?_
    walk_at "x"
    exact k
theorem ok_checked_alphabet_of_words (T : Ev fa fx fn K mg base) : Dn P w K mg base 3 (He.ga K "checked_alphabet_of_words") ["alphabet"] spChk := by
  refine dn_of (d_checked_alphabet_of_words T) sc_checked_alphabet_of_words bo_checked_alphabet_of_words (fun vs H Q E h => ?_) (fun cdv A outer s H vs Q E hr h => ?_)
  · obtain ⟨z, rfl, _⟩ := h
    rfl
  · obtain ⟨z, rfl, hz, k⟩ := h
    refine ⟨_, (pss_cons (ps_if (pw_or (pt_not (pt_val (pe_callB (call_isiK' (K := K) rfl) (by rfl) (f_isinstance T) bb_isinstance (pa_cons (pv 0) (pa_cons (pe_ty (f_str T) bb_str) pa_nil))))) (pw_or1 (pt_not (pt_val (pe_d (ok_is_alphabet T) (hr.mono (by decide)) (g_is_alphabet T) passL (pa_cons (pv 0) pa_nil)))))).pt
        (pss_one (ps_raise rfl (takes_of rfl rfl rfl rfl) (pmk_x1 (exc_InvalidAlphabet T) (ok_InvalidAlphabet___init__ T) (hr.mono (by decide)) (g_InvalidAlphabet T) (pv 0)))) pss_nil)
      (pss_one (ps_ret (pv 0)))), ?_⟩
    walk_at "cl"
    walk_at "x"
    refine isi_str (.str z) ?_
    walk_at "x"
    refine iteF_of rfl ?_
    walk_at "x"
    refine ⟨z, rfl, hz, ?_⟩
    walk_at "x"
    refine iteF_of rfl ?_
    walk_at "x"
    exact k
def spOver : Sp := fun vs H Q _ => ∃ z x : Str, vs = [.str z, .str x] ∧ (∀ c ∈ x.cps.toList, c ∈ z.cps.toList) ∧ Q (.bl true) H
theorem ok_is_text_over (T : Ev fa fx fn K mg base) : Dn P w K mg base 1 (He.ga K "is_text_over") ["alphabet", "value"] spOver := by
  refine dn_of (d_is_text_over T) sc_is_text_over bo_is_text_over (fun vs H Q E h => ?_) (fun cdv A outer s H vs Q E hr h => ?_)
  · obtain ⟨z, x, rfl, _⟩ := h
    rfl
  · obtain ⟨z, x, rfl, ho, k⟩ := h
    refine ⟨_, (PSs.nox (pss_cons (ps_if (pt_not (pt_val (pe_callB (call_isiK' (K := K) rfl) (by rfl) (f_isinstance T) bb_isinstance (pa_cons (pv 1) (pa_cons (pe_ty (f_str T) bb_str) pa_nil)))))
        (pss_one (ps_ret pe_bl)) pss_nil)
      (pss_cons (ps_for PassesOwn.never rfl (pi_str (pv 1)) (pg_name (i := 2) sc_is_text_over.nd rfl (.inl rfl))
        (pss_one (ps_if (pt_cmpR op_notIn_sign (pv 2) (pv 0) rfl)
        (pss_one (ps_ret pe_bl)) pss_nil)))
      (pss_one (ps_ret pe_bl))))), ?_⟩
    walk_at "cl"
    walk_at "x"
    refine isi_str (.str x) ?_
    walk_at "x"
    refine iteF_of rfl ?_
    walk_at "x"
    refine ⟨x, rfl, ?_⟩
    refine for_it walk_str (fun i σ' H' => (∃ y, σ' = [some (.str z), some (.str x), y]) ∧ H' = H) ?_ ?_ ?_ ?_
    · exact ⟨⟨_, rfl⟩, rfl⟩
    · intros
      trivial
    · rintro i v σ' H1 H2 hi ⟨⟨y, rfl⟩, rfl⟩ ⟨rfl, c, hc, rfl⟩
      have hcm : c ∈ x.cps.toList := by
        rw [← Array.getElem?_toList] at hc
        exact List.mem_of_getElem? hc
      walk_at "x"
      refine ⟨c, z, rfl, rfl, ?_⟩
      walk_at "x"
      refine if_nd_f (ho c hcm) ?_
      walk_at "x"
      exact ⟨⟨_, rfl⟩, rfl⟩
    · rintro σ' H1 ⟨⟨y, rfl⟩, rfl⟩
      walk_at "x"
      exact k
def spWordT : Sp := fun vs H Q _ => ∃ z x : Str, vs = [.str z, .str x] ∧ WordOk z 6 x ∧ Q (.bl true) H
theorem ok_is_word_text (T : Ev fa fx fn K mg base) : Dn P w K mg base 2 (He.ga K "is_word_text") ["alphabet", "value"] spWordT := by
  refine dn_of (d_is_word_text T) sc_is_word_text bo_is_word_text (fun vs H Q E h => ?_) (fun cdv A outer s H vs Q E hr h => ?_)
  · obtain ⟨z, x, rfl, _⟩ := h
    rfl
  · obtain ⟨z, x, rfl, ho, k⟩ := h
    have x1 := ho.lo
    have x2 := ho.hi
    have xl : x.length = x.cps.toList.length := tl_len
    refine ⟨_, (PSs.nox (pss_one (ps_ret (pe_and (pe_d (ok_is_text_over T) (hr.mono (by decide)) (g_is_text_over T) passL (pa_cons (pv 0) (pa_cons (pv 1) pa_nil))) (pe_one (pe_chain op_le op_le (pe_gi (c_SHORTEST_WORD T)) (pe_callB (call_lenK (K := K) rfl) (by rfl) (f_len T) bb_len (pa_cons (pv 1) pa_nil)) (pe_gi (c_LONGEST_WORD T)))))))), ?_⟩
    walk_at "cl"
    walk_at "x"
    refine ⟨z, x, rfl, ho.ov, ?_⟩
    refine ⟨true, rfl, iteT ?_⟩
    walk_at "x"
    refine v_lenS (small (by omega)) ?_
    walk_at "x"
    refine if_dec_t (by omega) ?_
    walk_at "x"
    have e : decide ((x.length : Int) ≤ 6) = true := decide_eq_true (by omega)
    rw [e]
    exact k
end

end K76

namespace K76
open PySem PySem.Spec L2 PH
open C8 (tCut pss_cut)
section
variable {P : Program} {w : World} {K : PySem.W.Frag} {mg : Str → Option Value} {base : Heap}
def spCF (K : PySem.W.Frag) : Sp := fun vs H Q _ => ∃ (z : Str) (p : Addr) (ws : List Str), vs = [.str z, .ref p] ∧ (SqL K H p (ws.map V.str) ∨ SqT K H p (ws.map V.str)) ∧ FurtherOk z 10 6 ws ∧
  ∀ q H', H q = none → H' q = some (.tup (ws.map V.str)) → Same H H' → Q (.ref q) H'
theorem ok_checked_further (T : Ev fa fx fn K mg base) : Dn P w K mg base 3 (He.ga K "checked_further") ["alphabet", "further"] (spCF K) := by
  refine dn_of (d_checked_further T) sc_checked_further bo_checked_further (fun vs H Q E h => ?_) (fun cdv A outer s H vs Q E hr h => ?_)
  · obtain ⟨z, p, ws, rfl, _⟩ := h
    rfl
  · obtain ⟨z, p, ws, rfl, hp, hF, k⟩ := h
    have few := hF.few
    refine ⟨_, (pss_cons (ps_if (pt_not (pt_val (pe_d (ok_is_sequence T) (hr.mono (by decide)) (g_is_sequence T) passL (pa_cons (pv 1) pa_nil))))
        (pss_one (ps_raise rfl (takes_of rfl rfl rfl rfl) (pmk_x1 (exc_InvalidWords T) (ok_InvalidWords___init__ T) (hr.mono (by decide)) (g_InvalidWords T) pe_int))) pss_nil)
      (pss_cons (ps_set (i := 2) sc_checked_further.nd rfl (.inl rfl) (pe_lst pa_nil))
      (pss_cons (ps_for (passes_of rfl) rfl (pi_or (pi_enum (by rfl) (f_enumerate T) (pa_cons (pv 1) pa_nil)) (pi_enumT (by rfl) (f_enumerate T) (pa_cons (pv 1) pa_nil))) (pg_two (K := K) (i := 3) (j := 4) rfl rfl sc_checked_further.nd rfl rfl (.inl rfl) (.inl rfl))
        (pss_cons (ps_if (pw_or (pt_not (pt_val (pe_d (ok_is_word_text T) (hr.mono (by decide)) (g_is_word_text T) passL (pa_cons (pv 0) (pa_cons (pv 4) pa_nil))))) (pw_or1 (pt_cmpR (op_in_seqK (K := K) rfl) (pv 4) (pv 2) rfl))).pt
        (pss_one (ps_raise rfl (takes_of rfl rfl rfl rfl) (pmk_x1 (exc_InvalidWords T) (ok_InvalidWords___init__ T) (hr.mono (by decide)) (g_InvalidWords T) (pv 3)))) pss_nil)
      (pss_one (ps_expr (pe_bm PySem.F.plainAttrs_list PySem.F.slot_list_append PySem.F.type_list_append mt_append (pv 2) (pa_cons (pv 4) pa_nil))))))
      (pss_cons (ps_if (pt_cmpR op_gt (pe_callB (call_lenK (K := K) rfl) (by rfl) (f_len T) bb_len (pa_cons (pv 2) pa_nil)) (pe_gi (c_MOST_WORDS T)) (nomark _))
        (pss_one (ps_raise rfl (takes_of rfl rfl rfl rfl) (pmk_x1 (exc_TooMany T) (ok_TooMany___init__ T) (hr.mono (by decide)) (g_TooMany T) pe_str))) pss_nil)
      (pss_one (ps_ret (pe_callTy call_tuple_of (by rfl) (f_tuple T) bb_tuple (pa_cons (pv 2) pa_nil)))))))), ?_⟩
    walk_at "cl"
    walk_at "x"
    obtain ⟨d, hd, hds⟩ := dp_seq_strs hp
    refine ⟨_, d, rfl, hd, fun H1 hS1 => ?_⟩
    walk_at "x"
    refine iteF_of (by rw [hds]; rfl) ?_
    walk_at "x"
    refine ⟨small (by decide), fun f hf => ?_⟩
    walk_at "y"
    have hfH : H f = none := none_same hS1 hf
    refine for_enumA hp (fun Q q => ?_) (fun i σ' H' => ∃ x y : Option V, σ' = [some (.str z), some (.ref p), some (.ref f), x, y] ∧ H' f = some (.lst ((ws.take i).map V.str)) ∧ Same H H') ?_ ?_ ?_ ?_
    · walk_at "y"
      exact q
    · exact ⟨none, none, rfl, upd_same, hS1.trans (same_new hf)⟩
    · rintro i σ' H' _ ⟨_, _, _, _, h⟩
      exact h
    · rintro i x σ' H2 t hi ⟨x0, y0, rfl, hf2, hS2⟩ hx ht
      have hi : i < ws.length := by simpa using hi
      have hx : x = .str ws[i] := by
        rw [List.getElem?_map, List.getElem?_eq_getElem hi] at hx
        exact (Option.some.inj hx).symm
      subst hx
      have hft : f ≠ t := ne_of_none hf2 ht
      refine v_gtup (sqT_of upd_same) rfl ?_
      walk_at "y"
      refine ⟨z, ws[i], rfl, hF.ok _ (List.getElem_mem hi), ?_⟩
      walk_at "y"
      refine iteF_of rfl ?_
      walk_at "y"
      have hf3 : upd H2 t (.tup [.int (i : Nat), .str ws[i]]) f = some (.lst ((ws.take i).map V.str)) := by rw [upd_ne hft]; exact hf2
      refine v_in (.inl (sqL_of hf3)) ?_
      walk_at "y"
      refine if_dec_f ?_ ?_
      · intro hm
        obtain ⟨j, hj, e⟩ := List.getElem_of_mem hm
        have hji : j < i := by rw [List.length_take] at hj; omega
        rw [List.getElem_take] at e
        exact List.pairwise_iff_getElem.mp hF.nd j i (by omega) hi hji e
      walk_at "y"
      refine ⟨ty_list (sqL_of hf3), ?_⟩
      walk_at "y"
      refine v_append hf3 (smallL (by simp; omega)) ?_
      walk_at "y"
      refine ⟨_, _, rfl, ?_, same_mut (same_upd hS2 ht) hfH⟩
      rw [upd_same, List.take_add_one, List.getElem?_eq_getElem hi, List.map_append]
      rfl
    · rintro σ' H2 ⟨x0, y0, rfl, hf2, hS2⟩
      have e : ws.take (ws.map V.str).length = ws := List.take_of_length_le (by simp)
      rw [e] at hf2
      walk_at "y"
      refine v_lenL (sqL_of hf2) ?_
      walk_at "y"
      refine if_dec_f (by simp; omega) ?_
      walk_at "y"
      refine ⟨f, _, rfl, .inl ⟨sqL_of hf2, fun q hq => ?_⟩⟩
      exact k q _ (none_same hS2 hq) upd_same (same_upd hS2 hq)
/-! ### Words -/
structure WordsAt (K : PySem.W.Frag) (H : Hp) (a : Addr) (z : Str) (ws : List Str) : Prop where
  al : AlphaOk z 4
  fu : FurtherOk z 10 6 ws
  ex : ∃ (dx fp kn : Addr) (fs : List (Str × V)) (kvs : List (Key × V)), H a = some (.ins (He.ga K "Words") dx fs) ∧ lk fs "alphabet" = some (.str z) ∧ lk fs "further" = some (.ref fp) ∧ lk fs "known" = some (.ref kn) ∧
    lk fs "all_words" = none ∧ lk fs "has" = none ∧ H fp = some (.tup (ws.map V.str)) ∧ H kn = some (.dK kvs) ∧ ∀ x : Str, (valV kvs (.inr x)).isSome = decide (x ∈ z.cps.toList.map s1 ++ ws)
theorem WordsAt.same {H H' : Hp} {a : Addr} {z : Str} {ws : List Str} (e : Same H H') (h : WordsAt K H a z ws) : WordsAt K H' a z ws := by
  obtain ⟨al, fu, dx, fp, kn, fs, kvs, h1, h2, h3, h4, h5, h6, h7, h8, h9⟩ := h
  exact ⟨al, fu, dx, fp, kn, fs, kvs, e _ _ h1, h2, h3, h4, h5, h6, e _ _ h7, e _ _ h8, h9⟩
def allW (z : Str) (ws : List Str) : List Str := z.cps.toList.map s1 ++ ws
def spAllW (K : PySem.W.Frag) : Sp := fun vs H Q _ => ∃ (a dx fp : Addr) (fs : List (Str × V)) (z : Str) (ws : List Str), vs = [.ref a] ∧ H a = some (.ins (He.ga K "Words") dx fs) ∧ lk fs "alphabet" = some (.str z) ∧ lk fs "further" = some (.ref fp) ∧ H fp = some (.tup (ws.map V.str)) ∧ AlphaOk z 4 ∧ ws.length ≤ 100 ∧
  ∀ q H', H q = none → SqT K H' q ((allW z ws).map V.str) → Same H H' → Q (.ref q) H'
theorem ok_Words_all_words (T : Ev fa fx fn K mg base) : Dn P w K mg base 1 (He.ma K (He.ga K "Words") "all_words") ["self"] (spAllW K) := by
  refine dn_of (d_Words_all_words T) sc_Words_all_words bo_Words_all_words (fun vs H Q E h => ?_) (fun cdv A outer s H vs Q E hr h => ?_)
  · obtain ⟨a, dx, fp, fs, z, ws, rfl, _⟩ := h
    rfl
  · obtain ⟨a, dx, fp, fs, z, ws, rfl, ha, h1, h2, hp, hz, hl, k⟩ := h
    refine ⟨_, (PSs.nox (pss_one (ps_ret (pe_op op_catA (pe_callTy (cr_tuple_str rfl) (by rfl) (f_tuple T) bb_tuple (pa_cons (pe_fldK (K := K) rfl (pv 0) rfl) pa_nil)) (pe_fldK (K := K) rfl (pv 0) rfl))))), ?_⟩
    walk_at "cl"
    walk_at "y"
    refine ⟨_, _, _, _, _, rfl, ha, (cls_Words T), (no_Words_alphabet T), h1, ?_⟩
    walk_at "y"
    refine ⟨z, rfl, small (by have := hz.hi; rw [tl_len]; omega), fun t ht => ?_⟩
    walk_at "y"
    have ha1 : upd H t (.tup (sg z)) a = some (.ins (He.ga K "Words") dx fs) := same_new ht _ _ ha
    refine ⟨_, _, _, _, _, rfl, ha1, (cls_Words T), (no_Words_further T), h2, ?_⟩
    have e : sg z = (z.cps.toList.map s1).map V.str := by
      unfold sg
      rw [List.map_map]
      rfl
    have e2 : (allW z ws).map V.str = sg z ++ ws.map V.str := by
      unfold allW
      rw [List.map_append, ← e]
    have zlo := hz.lo
    have zhi := hz.hi
    have ne : sg z ≠ [] := by
      intro e3
      have := congrArg List.length e3
      rw [sg_length, tl_len] at this
      simp at this
      simp [this] at zlo
    have hS : Same H (upd H t (.tup (sg z))) := same_new ht
    refine ⟨t, fp, sg z, ws.map V.str, rfl, rfl, sqT_of upd_same, sqT_of (hS _ _ hp), ?_, fun h => absurd h ne, fun _ h => ?_, fun _ _ q hq => ?_⟩
    · rw [sg_length, tl_len, List.length_map]
      exact small (by omega)
    · refine k t _ ht ?_ hS
      rw [e2, h, List.append_nil]
      exact sqT_of upd_same
    · refine k q _ (none_same hS hq) ?_ (same_upd hS hq)
      rw [e2]
      exact sqT_of upd_same
def spWI (K : PySem.W.Frag) : Sp := fun vs H Q _ => ∃ (a dx : Addr) (z : Str) (p : Addr) (ws : List Str), vs = [.ref a, .str z, .ref p] ∧ H a = some (.ins (He.ga K "Words") dx []) ∧ (SqL K H p (ws.map V.str) ∨ SqT K H p (ws.map V.str)) ∧ AlphaOk z 4 ∧ FurtherOk z 10 6 ws ∧
  ∀ H', WordsAt K H' a z ws → Same (hid [a] H) (hid [a] H') → Q .non H'
theorem ok_Words___init__ (T : Ev fa fx fn K mg base) : Dn P w K mg base 4 (He.ma K (He.ga K "Words") "__init__") ["self", "alphabet", "further"] (spWI K) := by
  refine dn_of (d_Words___init__ T) sc_Words___init__ bo_Words___init__ (fun vs H Q E h => ?_) (fun cdv A outer s H vs Q E hr h => ?_)
  · obtain ⟨a, dx, z, p, ws, rfl, _⟩ := h
    rfl
  · obtain ⟨a, dx, z, p, ws, rfl, ha, hp, hz, hF, k⟩ := h
    have zlo := hz.lo
    have zhi := hz.hi
    have few := hF.few
    have hp0 := hp.imp (fun h => sqL_hid h (one_ins ha)) (fun h => sqT_hid h (one_ins ha))
    refine ⟨_, (pss_cons (ps_fld (pv 0) (pe_d (ok_checked_alphabet_of_words T) (hr.mono (by decide)) (g_checked_alphabet_of_words T) (passes_call (takes_of rfl rfl rfl rfl) (fun _ _ _ _ h => h)) (pa_cons (pv 1) pa_nil)) rfl)
      (pss_cons (ps_fld (pv 0) (pe_d (ok_checked_further T) (hr.mono (by decide)) (g_checked_further T) (passes_call (takes_of rfl rfl rfl rfl) (fun _ _ _ _ h => h)) (pa_cons (pe_fldK (K := K) rfl (pv 0) rfl) (pa_cons (pv 2) pa_nil))) rfl)
      (pss_cons (ps_fld (pv 0) (pe_dc (own := [("text", 3)]) rfl sc_Words___init__.nd (pi_tup (pe_m0 (ok_Words_all_words T) (hr.mono (by decide)) (cls_Words T) (me_Words_all_words T) passL (pv 0))) (blkOk_by (own := [("text", 3)]) (N := ["self", "alphabet", "further", "text"]) (sc := defScope s_Words___init__) (by decide +kernel)) (fun _ _ _ _ _ => (pg_name (i := 3) sc_Words___init__.nd rfl (.inl rfl))) (fun _ _ _ _ _ => pts_nil) (fun _ _ _ _ _ => (pv 3)) (fun _ _ _ _ _ => pe_bl)) rfl)
      (pss_one (ps_fld (pv 0) (pe_callB (cr_max rfl) (by rfl) (f_max T) bb_max (pa_cons (pe_lc (own := [("text", 3)]) rfl sc_Words___init__.nd (pi_tup (pe_m0 (ok_Words_all_words T) (hr.mono (by decide)) (cls_Words T) (me_Words_all_words T) passL (pv 0))) (blkOk_by (own := [("text", 3)]) (N := ["self", "alphabet", "further", "text"]) (sc := defScope s_Words___init__) (by decide +kernel)) (fun _ _ _ _ _ => (pg_name (i := 3) sc_Words___init__.nd rfl (.inl rfl))) (fun _ _ _ _ _ => pts_nil) (fun _ _ _ _ _ => (pe_callB (call_lenK (K := K) rfl) (by rfl) (f_len T) bb_len (pa_cons (pv 3) pa_nil)))) pa_nil)) rfl))))), ?_⟩
    walk_at "cl"
    walk_at "y"
    refine ⟨z, rfl, hz, ?_⟩
    walk_at "y"
    refine ⟨_, _, _, _, rfl, ha, (cls_Words T), (no_Words_alphabet T), (by decide), ?_⟩
    walk_at "y"
    refine ⟨_, _, _, _, _, rfl, upd_same, (cls_Words T), (no_Words_alphabet T), lk_same, ?_⟩
    walk_at "y"
    have hS1 : Same (hid [a] H) (hid [a] (upd H a (.ins (He.ga K "Words") dx (putF "alphabet" (.str z) [])))) := hid_put (Same.refl _)
    refine ⟨z, p, ws, rfl, hp0.imp (fun h => sqL_same (hS1.trans hid_sub) h) (fun h => sqT_same (hS1.trans hid_sub) h), hF, fun q H2 hq hq2 hS2 => ?_⟩
    have ha2 := hS2 _ _ upd_same
    have hS2' : Same (hid [a] H) (hid [a] H2) := hS1.trans (hid_same hS2)
    have aq : q ≠ a := (ne_of_none upd_same hq).symm
    generalize hfs1 : putF "alphabet" (.str z) ([] : List (Str × V)) = fs1 at ha2
    have l1 : fs1.length ≤ 1 := by rw [← hfs1]; exact putF_len _ _ _
    have k1 : lk fs1 "alphabet" = some (.str z) := by rw [← hfs1]; exact lk_same
    have m1 : lk fs1 "all_words" = none := by rw [← hfs1, lk_ne (by decide +kernel)]; rfl
    have n1 : lk fs1 "has" = none := by rw [← hfs1, lk_ne (by decide +kernel)]; rfl
    walk_at "y"
    refine ⟨_, _, _, _, rfl, ha2, (cls_Words T), (no_Words_further T), by omega, ?_⟩
    generalize hfs2 : putF "further" (.ref q) fs1 = fs2
    have l2 : fs2.length ≤ 2 := by rw [← hfs2]; exact Nat.le_trans (putF_len _ _ _) (by omega)
    have k2 : lk fs2 "alphabet" = some (.str z) := by rw [← hfs2, lk_ne (by decide +kernel)]; exact k1
    have f2 : lk fs2 "further" = some (.ref q) := by rw [← hfs2]; exact lk_same
    have m2 : lk fs2 "all_words" = none := by rw [← hfs2, lk_ne (by decide +kernel)]; exact m1
    have n2 : lk fs2 "has" = none := by rw [← hfs2, lk_ne (by decide +kernel)]; exact n1
    have hS3 : Same (hid [a] H) (hid [a] (upd H2 a (.ins (He.ga K "Words") dx fs2))) := hid_put hS2'
    have ha3 : upd H2 a (.ins (He.ga K "Words") dx fs2) a = some (.ins (He.ga K "Words") dx fs2) := upd_same
    have hq3 : upd H2 a (.ins (He.ga K "Words") dx fs2) q = some (.tup (ws.map V.str)) := by rw [upd_ne aq]; exact hq2
    generalize upd H2 a (.ins (He.ga K "Words") dx fs2) = H3 at hS3 ha3 hq3
    walk_at "y"
    refine ⟨a, dx, fs2, rfl, ha3, m2, ?_⟩
    walk_at "y"
    refine ⟨a, dx, q, fs2, z, ws, rfl, ha3, k2, f2, hq3, hz, by omega, fun r H4 hr1 hr2 hS4 => ?_⟩
    refine ⟨r, rfl, ⟨_, hr2⟩, fun D hD => ?_⟩
    refine dc_it (walk_tup (xs := (allW z ws).map V.str)) (fun i H' => Same H4 H' ∧ ∃ kvs, H' D = some (.dK kvs) ∧ kvs.length ≤ i ∧ ∀ x : Str, (valV kvs (.inr x)).isSome = decide (x ∈ (allW z ws).take i)) ?_ ?_ ?_ ?_
    · exact ⟨same_new hD, [], upd_same, Nat.le_refl _, fun x => by simp [valV_nil]⟩
    · rintro i H' _ ⟨h, _⟩
      exact sqT_same h hr2
    · rintro i x H5 H6 hi ⟨h5, kvs, hd5, hl5, hv5⟩ ⟨rfl, hx⟩
      have hi : i < (allW z ws).length := by simpa using hi
      have hall : (allW z ws).length ≤ 14 := by
        unfold allW
        simp at zhi ⊢
        omega
      have hx : x = .str (allW z ws)[i] := by
        rw [List.getElem?_map, List.getElem?_eq_getElem hi] at hx
        exact (Option.some.inj hx).symm
      subst hx
      walk_at "y"
      refine ⟨rfl, ?_⟩
      walk_at "y"
      refine ⟨kvs, .inr (allW z ws)[i], rfl, hd5, smallL (by omega), same_mut h5 hD, _, upd_same, ?_, fun y => ?_⟩
      · exact Nat.le_trans (length_putK _ _ _) (by omega)
      · rw [valV_put, List.take_add_one, List.getElem?_eq_getElem hi]
        exact isSome_step (hv5 y)
    · rintro H5 ⟨h5, kvs, hd5, hl5, hv5⟩
      rw [List.length_map, List.take_length] at hv5
      have hDH : H3 D = none := none_same hS4 hD
      have ha5 := h5 _ _ (hS4 _ _ ha3)
      have aD : D ≠ a := (ne_of_none (hS4 _ _ ha3) hD).symm
      have hS5 : Same (hid [a] H) (hid [a] H5) := hS3.trans (hid_same (hS4.trans h5))
      have hq5 := h5 _ _ (hS4 _ _ hq3)
      walk_at "y"
      refine ⟨_, _, _, _, rfl, ha5, (cls_Words T), (no_Words_known T), by omega, ?_⟩
      generalize hfs3 : putF "known" (.ref D) fs2 = fs3
      have l3 : fs3.length ≤ 3 := by rw [← hfs3]; exact Nat.le_trans (putF_len _ _ _) (by omega)
      have k3 : lk fs3 "alphabet" = some (.str z) := by rw [← hfs3, lk_ne (by decide +kernel)]; exact k2
      have f3 : lk fs3 "further" = some (.ref q) := by rw [← hfs3, lk_ne (by decide +kernel)]; exact f2
      have g3 : lk fs3 "known" = some (.ref D) := by rw [← hfs3]; exact lk_same
      have m3 : lk fs3 "all_words" = none := by rw [← hfs3, lk_ne (by decide +kernel)]; exact m2
      have n3 : lk fs3 "has" = none := by rw [← hfs3, lk_ne (by decide +kernel)]; exact n2
      have hS6 : Same (hid [a] H) (hid [a] (upd H5 a (.ins (He.ga K "Words") dx fs3))) := hid_put hS5
      have ha6 : upd H5 a (.ins (He.ga K "Words") dx fs3) a = some (.ins (He.ga K "Words") dx fs3) := upd_same
      have hq6 : upd H5 a (.ins (He.ga K "Words") dx fs3) q = some (.tup (ws.map V.str)) := by rw [upd_ne aq]; exact hq5
      have hD6 : upd H5 a (.ins (He.ga K "Words") dx fs3) D = some (.dK kvs) := by rw [upd_ne aD]; exact hd5
      generalize upd H5 a (.ins (He.ga K "Words") dx fs3) = H6 at hS6 ha6 hq6 hD6
      walk_at "y"
      refine ⟨a, dx, fs3, rfl, ha6, m3, ?_⟩
      walk_at "y"
      refine ⟨a, dx, q, fs3, z, ws, rfl, ha6, k3, f3, hq6, hz, by omega, fun r2 H7 hr3 hr4 hS7 => ?_⟩
      refine ⟨r2, rfl, ⟨_, hr4⟩, fun D2 hD2 => ?_⟩
      refine lc_it (walk_tup (xs := (allW z ws).map V.str)) (fun i H' => Same H7 H' ∧ ∃ ns : List Int, H' D2 = some (.lst (ns.map V.int)) ∧ ns.length = i) ?_ ?_ ?_ ?_
      · exact ⟨same_new hD2, [], upd_same, rfl⟩
      · rintro i H' _ ⟨h, _⟩
        exact sqT_same h hr4
      · rintro i x H8 H9 hi ⟨h8, ns, hd8, hl8⟩ ⟨rfl, hx⟩
        have hi : i < (allW z ws).length := by simpa using hi
        have hall : (allW z ws).length ≤ 14 := by
          unfold allW
          simp at zhi ⊢
          omega
        have hx : x = .str (allW z ws)[i] := by
          rw [List.getElem?_map, List.getElem?_eq_getElem hi] at hx
          exact (Option.some.inj hx).symm
        subst hx
        walk_at "y"
        refine ⟨rfl, ?_⟩
        walk_at "y"
        refine v_lenS (small ?_) ?_
        · have hm : (allW z ws)[i] ∈ allW z ws := List.getElem_mem hi
          rcases List.mem_append.mp hm with hm | hm
          · obtain ⟨c, _, e⟩ := List.mem_map.mp hm
            rw [← e]
            show 1 ≤ _
            omega
          · have := (hF.ok _ hm).hi
            rw [tl_len]
            omega
        walk_at "y"
        refine ⟨_, hd8, smallL (by simp; omega), same_mut h8 hD2, ns ++ [_], by rw [upd_same, List.map_append]; rfl, by simp [hl8]⟩
      · rintro H8 ⟨h8, ns, hd8, hl8⟩
        have ha8 := h8 _ _ (hS7 _ _ ha6)
        have hS8 : Same (hid [a] H) (hid [a] H8) := hS6.trans (hid_same (hS7.trans h8))
        walk_at "y"
        refine ⟨D2, ns, rfl, sqL_of hd8, ?_, fun m _ _ => ?_⟩
        · rw [hl8]
          unfold allW
          simp at zlo ⊢
          omega
        walk_at "y"
        refine ⟨_, _, _, _, rfl, ha8, (cls_Words T), (no_Words_longest T), by omega, ?_⟩
        refine k _ ⟨hz, hF, dx, q, D, putF "longest" (.int m) fs3, kvs, upd_same, ?_, ?_, ?_, ?_, ?_, ?_, ?_, hv5⟩ (hid_put hS8)
        · rw [lk_ne (by decide +kernel)]; exact k3
        · rw [lk_ne (by decide +kernel)]; exact f3
        · rw [lk_ne (by decide +kernel)]; exact g3
        · rw [lk_ne (by decide +kernel)]; exact m3
        · rw [lk_ne (by decide +kernel)]; exact n3
        · rw [upd_ne aq]; exact h8 _ _ (hS7 _ _ hq6)
        · rw [upd_ne aD]; exact h8 _ _ (hS7 _ _ hD6)
end

end K76

namespace K76
open PySem PySem.Spec L2 PH
open C8 (tCut pss_cut)
section
variable {P : Program} {w : World} {K : PySem.W.Frag} {mg : Str → Option Value} {base : Heap}
def dHas (z : Str) (ws : List Str) : PyData → Bool
  | .str x => decide (x ∈ allW z ws)
  | _ => false
def spHas (K : PySem.W.Frag) : Sp := fun vs H Q _ => ∃ (a : Addr) (x : V) (z : Str) (ws : List Str) (d : PyData), vs = [.ref a, x] ∧ WordsAt K H a z ws ∧ Dp K H x d ∧ Q (.bl (dHas z ws d)) H
theorem ok_Words_has (T : Ev fa fx fn K mg base) : Dn P w K mg base 1 (He.ma K (He.ga K "Words") "has") ["self", "text"] (spHas K) := by
  refine dn_of (d_Words_has T) sc_Words_has bo_Words_has (fun vs H Q E h => ?_) (fun cdv A outer s H vs Q E hr h => ?_)
  · obtain ⟨a, x, z, ws, d, rfl, _⟩ := h
    rfl
  · obtain ⟨a, x, z, ws, d, rfl, ⟨al, fu, dx, fp, kn, fs, kvs, h1, h2, h3, h4, h5, h6, h7, h8, h9⟩, hd, k⟩ := h
    refine ⟨_, (PSs.nox (pss_one (ps_ret (pe_and (pe_callB (call_isiK' (K := K) rfl) (by rfl) (f_isinstance T) bb_isinstance (pa_cons (pv 1) (pa_cons (pe_ty (f_str T) bb_str) pa_nil))) (pe_one (pe_cmp (pc_din hr.hu (pv 1) (pe_fldK (K := K) rfl (pv 0) rfl)))))))), ?_⟩
    walk_at "cl"
    walk_at "y"
    refine isi_str hd ?_
    walk_at "y"
    refine if_b (fun c => ?_) (fun c => ?_)
    · walk_at "y"
      refine ⟨_, _, _, _, _, rfl, h1, (cls_Words T), (no_Words_known T), h4, ?_⟩
      cases hd with
      | str y =>
        refine ⟨kn, valV kvs (.inr y), rfl, .inl ⟨kvs, .inr y, .inl h8, rfl, rfl⟩, ?_⟩
        rw [h9 y]
        exact k
      | non => cases c
      | bl _ => cases c
      | int _ => cases c
      | lst _ _ => cases c
      | tup _ _ => cases c
    · cases hd with
      | str y => cases c
      | non => exact k
      | bl _ => exact k
      | int _ => exact k
      | lst _ _ => exact k
      | tup _ _ => exact k
def dWay (z : Str) (ws : List Str) : PyData → Bool
  | .tuple ds => ds.all (dHas z ws)
  | _ => false
def spWay (K : PySem.W.Frag) : Sp := fun vs H Q _ => ∃ (a : Addr) (x : V) (z : Str) (ws : List Str) (d : PyData), vs = [.ref a, x] ∧ WordsAt K H a z ws ∧ Dp K H x d ∧ Q (.bl (dWay z ws d)) H
theorem ok_is_way (T : Ev fa fx fn K mg base) : Dn P w K mg base 2 (He.ga K "is_way") ["words", "row"] (spWay K) := by
  refine dn_of (d_is_way T) sc_is_way bo_is_way (fun vs H Q E h => ?_) (fun cdv A outer s H vs Q E hr h => ?_)
  · obtain ⟨a, x, z, ws, d, rfl, _⟩ := h
    rfl
  · obtain ⟨a, x, z, ws, d, rfl, hw, hd, k⟩ := h
    have ⟨al, fu, dx, fp, kn, fs, kvs, h1, h2, h3, h4, h5, h6, h7, h8, h9⟩ := hw
    refine ⟨_, (PSs.nox (pss_cons (ps_if (pt_not (pt_val (pe_callB (call_isiK' (K := K) rfl) (by rfl) (f_isinstance T) bb_isinstance (pa_cons (pv 1) (pa_cons (pe_ty (f_tuple T) bb_tuple) pa_nil)))))
        (pss_one (ps_ret pe_bl)) pss_nil)
      (pss_cons (ps_for PassesOwn.never rfl (pi_tup (pv 1)) (pg_name (i := 2) sc_is_way.nd rfl (.inl rfl))
        (pss_one (ps_if (pt_not (pt_val (pe_m (ok_Words_has T) (hr.mono (by decide)) (cls_Words T) (me_Words_has T) passL (pv 0) (pa_cons (pv 2) pa_nil))))
        (pss_one (ps_ret pe_bl)) pss_nil)))
      (pss_one (ps_ret pe_bl))))), ?_⟩
    walk_at "cl"
    walk_at "y"
    refine isi_tuple hd ?_
    walk_at "y"
    refine if_b (fun c => ?_) (fun c => ?_)
    · walk_at "y"
      cases hd with
      | tup _ _ => cases c
      | non => exact k
      | bl _ => exact k
      | int _ => exact k
      | lst _ _ => exact k
      | str _ => exact k
    · cases hd with
      | non => cases c
      | bl _ => cases c
      | int _ => cases c
      | lst _ _ => cases c
      | str _ => cases c
      | @tup p xs ds hs ha =>
        walk_at "x"
        refine ⟨p, rfl, ⟨xs, hs⟩, ?_⟩
        have hl := dpAll_length ha
        refine for_it (walk_tup (xs := xs)) (fun i σ' H' => (∃ y, σ' = [some (.ref a), some (.ref p), y]) ∧ H' = H ∧ (ds.take i).all (dHas z ws) = true) ?_ ?_ ?_ ?_
        · exact ⟨⟨_, rfl⟩, rfl, rfl⟩
        · rintro i σ' H' _ ⟨_, rfl, _⟩
          exact hs
        · rintro i x σ' H1 H2 hi ⟨⟨y, rfl⟩, rfl, hall⟩ ⟨rfl, hx⟩
          obtain ⟨e, he, hde⟩ := dpAll_get ha hx
          walk_at "y"
          refine ⟨a, dx, fs, rfl, h1, h6, ?_⟩
          walk_at "y"
          refine ⟨a, x, z, ws, e, rfl, hw, hde, ?_⟩
          walk_at "y"
          cases hb : dHas z ws e with
          | true =>
            refine iteF_of rfl ?_
            walk_at "y"
            refine ⟨⟨_, rfl⟩, rfl, ?_⟩
            rw [List.take_add_one, he, List.all_append, hall]
            show (true && (dHas z ws e && true)) = true
            rw [hb]
            rfl
          | false =>
            refine iteT_of rfl ?_
            walk_at "y"
            have q : dWay z ws (.tuple ds) = false := by
              show ds.all (dHas z ws) = false
              rw [List.all_eq_false]
              exact ⟨e, List.mem_of_getElem? he, by rw [hb]; decide⟩
            rw [q] at k
            exact k
        · rintro σ' H1 ⟨⟨y, rfl⟩, rfl, hall⟩
          walk_at "y"
          rw [hl, List.take_length] at hall
          have q : dWay z ws (.tuple ds) = true := hall
          rw [q] at k
          exact k
def spWE (K : PySem.W.Frag) : Sp := fun vs H Q _ => ∃ (a : Addr) (y : V) (z : Str) (ws : List Str), vs = [.ref a, y] ∧ WordsAt K H a z ws ∧
  ((∃ (b : Addr) (z' : Str) (ws' : List Str), y = .ref b ∧ WordsAt K H b z' ws' ∧ Q (.bl (decide (z = z' ∧ ws = ws'))) H) ∨ ∃ t, TyX K H y t ∧ PySem.W.kitOne K t (.ref (He.ga K "Words")) = some false ∧ Q (.bl false) H)
theorem WordsAt.ty (T : Ev fa fx fn K mg base) {H : Hp} {a : Addr} {z : Str} {ws : List Str} (h : WordsAt K H a z ws) : TyX K H (.ref a) (.ref (He.ga K "Words")) := by
  obtain ⟨al, fu, dx, fp, kn, fs, kvs, h1, _⟩ := h
  exact ty_ins h1 (cls_Words T) (ins_Words T)
theorem ok_Words___eq__ (T : Ev fa fx fn K mg base) : Dn P w K mg base 1 (He.ma K (He.ga K "Words") "__eq__") ["self", "other"] (spWE K) := by
  refine dn_of (d_Words___eq__ T) sc_Words___eq__ bo_Words___eq__ (fun vs H Q E h => ?_) (fun cdv A outer s H vs Q E hr h => ?_)
  · obtain ⟨a, x, z, ws, rfl, _⟩ := h
    rfl
  · obtain ⟨a, y, z, ws, rfl, ⟨al, fu, dx, fp, kn, fs, kvs, h1, h2, h3, h4, h5, h6, h7, h8, h9⟩, h⟩ := h
    refine ⟨_, (PSs.nox (pss_one (ps_ret (pe_and (pe_callB (call_isiK' (K := K) rfl) (by rfl) (f_isinstance T) bb_isinstance (pa_cons (pv 1) (pa_cons (pe_cv (g_Words T)) pa_nil))) (pe_and (pe_cmpR op_eq (pe_fldK (K := K) rfl (pv 0) rfl) (pe_fldK (K := K) rfl (pv 1) rfl) (nomark _)) (pe_one (pe_cmpR (op_eqDK (K := K) rfl hr.units) (pe_fldK (K := K) rfl (pv 0) rfl) (pe_fldK (K := K) rfl (pv 1) rfl) (nomark _)))))))), ?_⟩
    walk_at "cl"
    walk_at "y"
    rcases h with ⟨b, z', ws', rfl, hb, k⟩ | ⟨t, ht, hk, k⟩
    · have ⟨al', fu', dx', fp', kn', fs', kvs', b1, b2, b3, _, _, _, b7, _⟩ := hb
      refine isi_own (hb.ty T) (kit_Words_Words T) ?_
      walk_at "y"
      refine ⟨_, _, _, _, _, rfl, h1, (cls_Words T), (no_Words_alphabet T), h2, ?_⟩
      walk_at "y"
      refine ⟨_, _, _, _, _, rfl, b1, (cls_Words T), (no_Words_alphabet T), b2, ?_⟩
      walk_at "y"
      refine if_dec (fun c => ?_) (fun c => ?_)
      · walk_at "y"
        refine ⟨_, _, _, _, _, rfl, h1, (cls_Words T), (no_Words_further T), h3, ?_⟩
        walk_at "y"
        refine ⟨_, _, _, _, _, rfl, b1, (cls_Words T), (no_Words_further T), b3, ?_⟩
        refine ⟨_, _, .tup (sqT_of h7) (dpAll_strs ws), .tup (sqT_of b7) (dpAll_strs ws'), (shaped_strs (fu.le al)).1, (shaped_strs (fu'.le al')).1, ?_⟩
        show Q (.bl (PyData.eqvAll (ws.map PyData.str) (ws'.map PyData.str))) H
        rw [eqvAll_strs]
        simpa [c] using k
      · simpa [c] using k
    · refine isi_own ht hk ?_
      walk_at "y"
      exact k
end

end K76

namespace K76
open PySem PySem.Spec L2 PH
open C8 (tCut pss_cut)
section
variable {P : Program} {w : World} {K : PySem.W.Frag} {mg : Str → Option Value} {base : Heap}
theorem ok_Joins_take (T : Ev fa fx fn K mg base) : Dn P w K mg base 1 (He.ma K (He.ga K "Joins") "take") ["self", "pair"] (fun _ _ _ _ => False) :=
  dn_of (d_Joins_take T) sc_Joins_take bo_Joins_take (fun _ _ _ _ h => h.elim) (fun _ _ _ _ _ _ _ _ _ h => h.elim)
def spJI (K : PySem.W.Frag) : Sp := fun vs H Q _ => ∃ (a dx : Addr) (z : Str) (p : Addr), vs = [.ref a, .str z, .ref p] ∧ H a = some (.ins (He.ga K "Joins") dx []) ∧ SqT K H p [] ∧ AlphaOk z 4 ∧
  ∀ H' fs, H' a = some (.ins (He.ga K "Joins") dx fs) → Same (hid [a] H) (hid [a] H') → Q .non H'
theorem ok_Joins___init__ (T : Ev fa fx fn K mg base) : Dn P w K mg base 4 (He.ma K (He.ga K "Joins") "__init__") ["self", "alphabet", "pairs"] (spJI K) := by
  refine dn_of (d_Joins___init__ T) sc_Joins___init__ bo_Joins___init__ (fun vs H Q E h => ?_) (fun cdv A outer s H vs Q E hr h => ?_)
  · obtain ⟨a, dx, z, p, rfl, _⟩ := h
    rfl
  · obtain ⟨a, dx, z, p, rfl, ha, hp, hz, k⟩ := h
    have zlo := hz.lo
    have zhi := hz.hi
    have zl : z.length ≤ sizeLine := small (by rw [tl_len]; omega)
    have hp0 := sqT_hid hp (one_ins ha)
    have hS0 : Same (hid [a] H) (hid [a] H) := Same.refl _
    refine ⟨_, (pss_cons (ps_fld (pv 0) (pe_d (ok_checked_alphabet T) (hr.mono (by decide)) (g_checked_alphabet T) (passes_call (takes_of rfl rfl rfl rfl) (fun _ _ _ _ h => h)) (pa_cons (pv 1) pa_nil)) rfl)
      (pss_cons (ps_fld (pv 0) (pe_tup pa_nil) rfl)
      (pss_cons (ps_fld (pv 0) (pe_callTy (cr_list_str rfl) (by rfl) (f_list T) bb_list (pa_cons (pv 1) pa_nil)) rfl)
      (pss_cons (ps_fld (pv 0) pe_dnewK rfl)
      (pss_cons (ps_fld (pv 0) (pe_dc (own := [("at", 3), ("letter", 4)]) rfl sc_Joins___init__.nd (pi_enumS (by rfl) (f_enumerate T) (pa_cons (pv 1) pa_nil)) (blkOk_by (own := [("at", 3), ("letter", 4)]) (N := ["self", "alphabet", "pairs", "at", "letter", "pair"]) (sc := defScope s_Joins___init__) (by decide +kernel)) (fun _ _ _ _ _ => (pg_two (K := K) (i := 3) (j := 4) rfl rfl sc_Joins___init__.nd rfl rfl (.inl rfl) (.inl rfl))) (fun _ _ _ _ _ => pts_nil) (fun _ _ _ _ _ => (pv 4)) (fun _ _ _ _ _ => (pv 3))) rfl)
      (pss_cons (ps_fld (pv 0) pe_int rfl)
      (pss_one (ps_for (passes_of rfl) rfl (pi_tup (pv 2)) (pg_name (i := 5) sc_Joins___init__.nd rfl (.inl rfl))
        (pss_one (ps_expr (pe_m (ok_Joins_take T) (hr.mono (by decide)) (cls_Joins T) (me_Joins_take T) (passes_call (takes_of rfl rfl rfl rfl) (fun _ _ _ _ h => h)) (pv 0) (pa_cons (pe_callTy call_tuple_of (by rfl) (f_tuple T) bb_tuple (pa_cons (pv 5) pa_nil)) pa_nil)))))))))))), ?_⟩
    walk_at "cl"
    walk_at "y"
    refine ⟨z, rfl, hz, ?_⟩
    walk_at "y"
    refine ⟨_, _, _, _, rfl, ha, (cls_Joins T), (no_Joins_alphabet T), by decide, ?_⟩
    have hS1 := hid_put (o := .ins (He.ga K "Joins") dx (putF "alphabet" (.str z) [])) hS0
    have ha1 : upd H a (.ins (He.ga K "Joins") dx (putF "alphabet" (.str z) [])) a = _ := upd_same
    have l1 : (putF "alphabet" (.str z) ([] : List (Str × V))).length ≤ 1 := putF_len _ _ _
    generalize upd H a (.ins (He.ga K "Joins") dx (putF "alphabet" (.str z) [])) = H1 at hS1 ha1
    generalize putF "alphabet" (.str z) ([] : List (Str × V)) = fs1 at ha1 l1
    walk_at "y"
    refine ⟨Nat.zero_le _, fun q hq => ?_⟩
    walk_at "y"
    have ha2 := same_new (o := .tup []) hq _ _ ha1
    refine ⟨_, _, _, _, rfl, ha2, (cls_Joins T), (no_Joins_pairs T), by omega, ?_⟩
    have hS2 := hid_put (o := .ins (He.ga K "Joins") dx (putF "pairs" (.ref q) fs1)) (hsame_new (o := .tup []) hS1 hq)
    have ha3 : upd (upd H1 q (.tup [])) a (.ins (He.ga K "Joins") dx (putF "pairs" (.ref q) fs1)) a = _ := upd_same
    have l2 : (putF "pairs" (.ref q) fs1).length ≤ 2 := Nat.le_trans (putF_len _ _ _) (by omega)
    generalize upd (upd H1 q (.tup [])) a (.ins (He.ga K "Joins") dx (putF "pairs" (.ref q) fs1)) = H2 at hS2 ha3
    generalize putF "pairs" (.ref q) fs1 = fs2 at ha3 l2
    walk_at "y"
    refine ⟨z, rfl, zl, fun r hr1 => ?_⟩
    walk_at "y"
    have ha4 := same_new (o := .lst (sg z)) hr1 _ _ ha3
    refine ⟨_, _, _, _, rfl, ha4, (cls_Joins T), (no_Joins_texts T), by omega, ?_⟩
    have hS3 := hid_put (o := .ins (He.ga K "Joins") dx (putF "texts" (.ref r) fs2)) (hsame_new (o := .lst (sg z)) hS2 hr1)
    have ha5 : upd (upd H2 r (.lst (sg z))) a (.ins (He.ga K "Joins") dx (putF "texts" (.ref r) fs2)) a = _ := upd_same
    have l3 : (putF "texts" (.ref r) fs2).length ≤ 3 := Nat.le_trans (putF_len _ _ _) (by omega)
    generalize upd (upd H2 r (.lst (sg z))) a (.ins (He.ga K "Joins") dx (putF "texts" (.ref r) fs2)) = H3 at hS3 ha5
    generalize putF "texts" (.ref r) fs2 = fs3 at ha5 l3
    walk_at "y"
    intro d hd1
    walk_at "y"
    have ha6 := same_new (o := .dK []) hd1 _ _ ha5
    refine ⟨_, _, _, _, rfl, ha6, (cls_Joins T), (no_Joins_ranks T), by omega, ?_⟩
    have hS4 := hid_put (o := .ins (He.ga K "Joins") dx (putF "ranks" (.ref d) fs3)) (hsame_new (o := .dK []) hS3 hd1)
    have ha7 : upd (upd H3 d (.dK [])) a (.ins (He.ga K "Joins") dx (putF "ranks" (.ref d) fs3)) a = _ := upd_same
    have l4 : (putF "ranks" (.ref d) fs3).length ≤ 4 := Nat.le_trans (putF_len _ _ _) (by omega)
    generalize upd (upd H3 d (.dK [])) a (.ins (He.ga K "Joins") dx (putF "ranks" (.ref d) fs3)) = H4 at hS4 ha7
    generalize putF "ranks" (.ref d) fs3 = fs4 at ha7 l4
    walk_at "y"
    refine ⟨z, rfl, fun D hD => ?_⟩
    refine dc_it (walk_enumG (G := fun _ => True)) (fun i H' => Same H4 H' ∧ ∃ kvs, H' D = some (.dK kvs) ∧ kvs.length ≤ i) ?_ ?_ ?_ ?_
    · exact ⟨same_new hD, [], upd_same, Nat.le_refl _⟩
    · intros
      trivial
    · rintro i x H5 H6 hi ⟨h5, kvs, hd5, hl5⟩ ⟨t, u, rfl, ht, rfl, c, hc, rfl⟩
      have hDt : D ≠ t := ne_of_none hd5 ht
      refine v_gtup (sqT_of upd_same) rfl ?_
      walk_at "y"
      refine ⟨rfl, ?_⟩
      walk_at "y"
      refine ⟨kvs, .inr ⟨#[c]⟩, rfl, by rw [upd_ne hDt]; exact hd5, smallL (by simp at zhi hi; omega), same_mut (same_upd h5 ht) hD, _, upd_same, Nat.le_trans (length_putK _ _ _) (by omega)⟩
    · rintro H5 ⟨h5, kvs, hd5, hl5⟩
      have ha8 := h5 _ _ ha7
      walk_at "y"
      refine ⟨_, _, _, _, rfl, ha8, (cls_Joins T), (no_Joins_numbers T), by omega, ?_⟩
      have hS5 := hid_put (o := .ins (He.ga K "Joins") dx (putF "numbers" (.ref D) fs4)) (hS4.trans (hid_same h5))
      have ha9 : upd H5 a (.ins (He.ga K "Joins") dx (putF "numbers" (.ref D) fs4)) a = _ := upd_same
      have l5 : (putF "numbers" (.ref D) fs4).length ≤ 5 := Nat.le_trans (putF_len _ _ _) (by omega)
      generalize upd H5 a (.ins (He.ga K "Joins") dx (putF "numbers" (.ref D) fs4)) = H6 at hS5 ha9
      generalize putF "numbers" (.ref D) fs4 = fs5 at ha9 l5
      walk_at "y"
      refine ⟨_, _, _, _, rfl, ha9, (cls_Joins T), (no_Joins_longest T), by omega, ?_⟩
      have hS6 := hid_put (o := .ins (He.ga K "Joins") dx (putF "longest" (.int 1) fs5)) hS5
      have ha10 : upd H6 a (.ins (He.ga K "Joins") dx (putF "longest" (.int 1) fs5)) a = _ := upd_same
      generalize upd H6 a (.ins (He.ga K "Joins") dx (putF "longest" (.int 1) fs5)) = H7 at hS6 ha10
      have hp7 : SqT K H7 p [] := sqT_same (hS6.trans hid_sub) hp0
      walk_at "x"
      refine ⟨p, rfl, ⟨_, hp7⟩, ?_⟩
      refine for_it (walk_tup (xs := [])) (fun i σ' H' => σ' = _ ∧ H' = H7) ⟨rfl, rfl⟩ ?_ ?_ ?_
      · rintro i σ' H' _ ⟨_, rfl⟩
        exact hp7
      · intro i x σ' H8 H9 hi
        simp at hi
      · rintro σ' H' ⟨_, rfl⟩
        exact k H' _ ha10 hS6
end

end K76

namespace K76
open PySem PySem.Spec L2 PH
open C8 (tCut pss_cut)
section
variable {P : Program} {w : World} {K : PySem.W.Frag} {mg : Str → Option Value} {base : Heap}
def dFault (n : Nat) : PyData → Option PyData
  | .list ds => if ds.length = n then ds.find? (fun e => !dBet 1 9 e) else some (.list ds)
  | .tuple ds => if ds.length = n then ds.find? (fun e => !dBet 1 9 e) else some (.tuple ds)
  | d => some d
def CostOk (n : Nat) (d : PyData) (cs : List Int) : Prop := (d = .list (cs.map .int) ∨ d = .tuple (cs.map .int)) ∧ cs.length = n ∧ ∀ c ∈ cs, 1 ≤ c ∧ c ≤ 9
theorem bet_all {cs : List Int} (h : ∀ c ∈ cs, 1 ≤ c ∧ c ≤ 9) : (cs.map PyData.int).find? (fun e => !dBet 1 9 e) = none := by
  rw [List.find?_eq_none]
  intro x hx
  obtain ⟨c, hc, rfl⟩ := List.mem_map.mp hx
  have h1 := h c hc
  show ¬ (!decide (1 ≤ c ∧ c ≤ 9)) = true
  rw [decide_eq_true h1]
  decide
theorem dFault_ok {n : Nat} {d : PyData} {cs : List Int} (h : CostOk n d cs) : dFault n d = none := by
  obtain ⟨h1, h2, h3⟩ := h
  rcases h1 with rfl | rfl
  · show (if (cs.map PyData.int).length = n then _ else _) = none
    rw [if_pos (by simpa using h2)]
    exact bet_all h3
  · show (if (cs.map PyData.int).length = n then _ else _) = none
    rw [if_pos (by simpa using h2)]
    exact bet_all h3
theorem find_at {α : Type} {p : α → Bool} : ∀ {l : List α} {i : Nat} {x : α}, l[i]? = some x → p x = true → (∀ j, j < i → ∀ y, l[j]? = some y → p y = false) → l.find? p = some x
  | [], _, _, h, _, _ => by simp at h
  | a :: l, 0, x, h, hp, _ => by
    simp at h
    subst h
    rw [List.find?_cons, hp]
  | a :: l, i + 1, x, h, hp, hj => by
    rw [List.find?_cons, hj 0 (by omega) a rfl]
    exact find_at (i := i) (by simpa using h) hp fun j hji y hy => hj (j + 1) (by omega) y (by simpa using hy)
def spCC (K : PySem.W.Frag) : Sp := fun vs H Q E => ∃ (wa : Addr) (z : Str) (ws : List Str) (c : V) (d : PyData), vs = [.ref wa, c] ∧ WordsAt K H wa z ws ∧ Dp K H c d ∧
  ((∃ cs, CostOk (allW z ws).length d cs ∧ ∀ q H', Same H H' → SqT K H' q (cs.map V.int) → Q (.ref q) H') ∨
   (∃ e, dFault (allW z ws).length d = some e ∧ ∀ v dd H', Dp K H' v e → Same H H' → H' dd = none → E (.ref (He.ga K "InvalidNumber")) (some dd) (upd H' dd (.xd [("number", v)]))))
theorem ok_checked_costs (T : Ev fa fx fn K mg base) : Dn P w K mg base 3 (He.ga K "checked_costs") ["words", "costs"] (spCC K) := by
  refine dn_of (d_checked_costs T) sc_checked_costs bo_checked_costs (fun vs H Q E h => ?_) (fun cdv A outer s H vs Q E hr h => ?_)
  · obtain ⟨wa, z, ws, c, d, rfl, _⟩ := h
    rfl
  · obtain ⟨wa, z, ws, c, d, rfl, hw, hd, k⟩ := h
    have ⟨al, fu, dx, fp, kn, fs, kvs, h1, h2, h3, h4, h5, h6, h7, h8, h9⟩ := hw
    refine ⟨_, (pss_cons (ps_if (pw_or (pt_not (pt_val (pe_d (ok_is_sequence T) (hr.mono (by decide)) (g_is_sequence T) passL (pa_cons (pv 1) pa_nil)))) (pw_or1 (pt_cmpR op_ne (pe_callB (call_lenK (K := K) rfl) (by rfl) (f_len T) bb_len (pa_cons (pv 1) pa_nil)) (pe_callB (call_lenK (K := K) rfl) (by rfl) (f_len T) bb_len (pa_cons (pe_m0 (ok_Words_all_words T) (hr.mono (by decide)) (cls_Words T) (me_Words_all_words T) passL (pv 0)) pa_nil)) (nomark _)))).pt
        (pss_one (ps_raise rfl (takes_of rfl rfl rfl rfl) (pmk_x1 (exc_InvalidNumber T) (ok_InvalidNumber___init__ T) (hr.mono (by decide)) (g_InvalidNumber T) (pv 1)))) pss_nil)
      (pss_cons (ps_for (passes_of rfl) rfl (pi_or (pi_list (pv 1)) (pi_tup (pv 1))) (pg_name (i := 2) sc_checked_costs.nd rfl (.inl rfl))
        (pss_one (ps_if (pt_not (pt_val (pe_d (ok_is_between T) (hr.mono (by decide)) (g_is_between T) passL (pa_cons (pv 2) (pa_cons (pe_gi (c_LEAST_COST T)) (pa_cons (pe_gi (c_GREATEST_COST T)) pa_nil))))))
        (pss_one (ps_raise rfl (takes_of rfl rfl rfl rfl) (pmk_x1 (exc_InvalidNumber T) (ok_InvalidNumber___init__ T) (hr.mono (by decide)) (g_InvalidNumber T) (pv 2)))) pss_nil)))
      (pss_one (ps_ret (pe_callTy call_tuple_of (by rfl) (f_tuple T) bb_tuple (pa_cons (pv 1) pa_nil)))))), ?_⟩
    walk_at "cl"
    walk_at "y"
    refine ⟨c, d, rfl, hd, fun H1 hS1 => ?_⟩
    walk_at "y"
    have kE : ∀ e v dd H', dFault (allW z ws).length d = some e → Dp K H' v e → Same H H' → H' dd = none → E (.ref (He.ga K "InvalidNumber")) (some dd) (upd H' dd (.xd [("number", v)])) := by
      intro e v dd H' he hv hS hn
      rcases k with ⟨cs, hc, _⟩ | ⟨e', he', k⟩
      · rw [dFault_ok hc] at he
        cases he
      · rw [he] at he'
        cases he'
        exact k v dd H' hv hS hn
    have kQ : dFault (allW z ws).length d = none → ∃ cs, CostOk (allW z ws).length d cs ∧ ∀ q H', Same H H' → SqT K H' q (cs.map V.int) → Q (.ref q) H' := by
      intro he
      rcases k with h | ⟨e', he', k⟩
      · exact h
      · rw [he] at he'
        cases he'
    cases hq : dSeq d with
    | false =>
      refine iteT_of rfl ?_
      walk_at "y"
      intro dd hdd
      refine kE d c dd H1 ?_ (dp_same hS1 _ _ hd) hS1 hdd
      cases hd with
      | non => rfl
      | bl _ => rfl
      | int _ => rfl
      | str _ => rfl
      | lst _ _ => cases hq
      | tup _ _ => cases hq
    | true =>
      refine iteF_of rfl ?_
      walk_at "y"
      obtain ⟨p, xs, ds, rfl, hds, hall⟩ := dp_seq_of hd hq
      have hp : SqL K H p xs ∨ SqT K H p xs := hds.imp (fun h => h.2) fun h => h.2
      have hlen := dpAll_length hall
      have hdf : dFault (allW z ws).length d = if ds.length = (allW z ws).length then ds.find? (fun e => !dBet 1 9 e) else some d := by
        rcases hds with ⟨rfl, _⟩ | ⟨rfl, _⟩ <;> rfl
      refine v_lenA (hp.imp (sqL_same hS1) (sqT_same hS1)) ?_
      walk_at "y"
      refine ⟨wa, dx, fs, rfl, hS1 _ _ h1, h5, ?_⟩
      walk_at "y"
      refine ⟨wa, dx, fp, fs, z, ws, rfl, hS1 _ _ h1, h2, h3, hS1 _ _ h7, al, by have := fu.few; omega, fun q H2 hq1 hq2 hS2 => ?_⟩
      walk_at "y"
      refine v_lenT hq2 ?_
      walk_at "y"
      rw [List.length_map]
      refine if_bnot (fun c => ?_) (fun c => ?_)
      · walk_at "y"
        intro dd hdd
        refine kE d _ dd H2 ?_ (dp_same (hS1.trans hS2) _ _ hd) (hS1.trans hS2) hdd
        rw [hdf, if_neg (fun e => c (by rw [hlen, e]))]
      · walk_at "y"
        have hl2 : ds.length = (allW z ws).length := by omega
        rw [if_pos hl2] at hdf
        refine for_seq hp (fun Q q => ?_) (fun i σ' H' => (∃ y, σ' = [some (.ref wa), some (.ref p), y]) ∧ Same H H' ∧ ∀ j, j < i → ∀ e, ds[j]? = some e → (!dBet 1 9 e) = false) ?_ ?_ ?_ ?_
        · walk_at "y"
          exact q
        · exact ⟨⟨_, rfl⟩, hS1.trans hS2, fun j hj => by omega⟩
        · rintro i σ' H' _ ⟨_, h, _⟩
          exact h
        · rintro i x σ' H3 hi ⟨⟨y, rfl⟩, hS3, hb⟩ hx
          obtain ⟨e, he, hde⟩ := dpAll_get hall hx
          walk_at "y"
          refine ⟨x, 1, 9, e, rfl, dp_same hS3 _ _ hde, ?_⟩
          walk_at "y"
          cases hbe : dBet 1 9 e with
          | true =>
            refine iteF_of rfl ?_
            walk_at "y"
            refine ⟨⟨_, rfl⟩, hS3, fun j hj e' he' => ?_⟩
            by_cases hji : j < i
            · exact hb j hji e' he'
            · have : j = i := by omega
              subst this
              rw [he] at he'
              cases he'
              rw [hbe]
              rfl
          | false =>
            refine iteT_of rfl ?_
            walk_at "y"
            intro dd hdd
            refine kE e x dd H3 ?_ (dp_same hS3 _ _ hde) hS3 hdd
            rw [hdf]
            exact find_at he (by rw [hbe]; rfl) hb
        · rintro σ' H3 ⟨⟨y, rfl⟩, hS3, hb⟩
          have hnone : dFault (allW z ws).length d = none := by
            rw [hdf, List.find?_eq_none]
            intro e he
            obtain ⟨j, hj, rfl⟩ := List.getElem_of_mem he
            rw [hb j (by omega) _ (List.getElem?_eq_getElem hj)]
            decide
          obtain ⟨cs, hco, kq⟩ := kQ hnone
          have hxs : xs = cs.map V.int := by
            have hds2 : ds = cs.map PyData.int := by
              rcases hds with ⟨rfl, _⟩ | ⟨rfl, _⟩ <;> rcases hco.1 with e | e <;> first | (injection e) | cases e
            subst hds2
            exact dpAll_ints_inv hall
          subst hxs
          walk_at "y"
          refine ⟨p, cs.map V.int, rfl, ?_⟩
          rcases hp with hp | hp
          · refine .inl ⟨sqL_same hS3 hp, fun q hq => ?_⟩
            exact kq q _ (same_upd hS3 hq) (sqT_of upd_same)
          · exact .inr ⟨sqT_same hS3 hp, kq p _ hS3 (sqT_same hS3 hp)⟩
/-! ### Costs -/
structure CostsAt (K : PySem.W.Frag) (H : Hp) (a wa : Addr) (z : Str) (ws : List Str) (cs : List Int) : Prop where
  wo : WordsAt K H wa z ws
  len : cs.length = (allW z ws).length
  bd : ∀ c ∈ cs, 1 ≤ c ∧ c ≤ 9
  ex : ∃ (dx cp pr : Addr) (fs : List (Str × V)) (kvs : List (Key × V)), H a = some (.ins (He.ga K "Costs") dx fs) ∧ lk fs "words" = some (.ref wa) ∧ lk fs "costs" = some (.ref cp) ∧ lk fs "prices" = some (.ref pr) ∧ lk fs "cost_of" = none ∧
    SqT K (hid [a] H) cp (cs.map V.int) ∧ H pr = some (.dK kvs) ∧ ∀ (i : Nat) (x : Str), (allW z ws)[i]? = some x → valV kvs (.inr x) = some (.int (cs.getD i 0))
theorem CostsAt.same {H H' : Hp} {a wa : Addr} {z : Str} {ws : List Str} {cs : List Int} (e : Same H H') (h : CostsAt K H a wa z ws cs) : CostsAt K H' a wa z ws cs := by
  obtain ⟨wo, len, bd, dx, cp, pr, fs, kvs, h1, h2, h3, h4, h5, h6, h7, h8⟩ := h
  exact ⟨wo.same e, len, bd, dx, cp, pr, fs, kvs, e _ _ h1, h2, h3, h4, h5, sqT_same (hid_same e) h6, e _ _ h7, h8⟩
theorem allW_nodup {z : Str} {ws : List Str} (al : AlphaOk z 4) (fu : FurtherOk z 10 6 ws) : (allW z ws).Nodup := by
  unfold allW
  rw [List.nodup_append]
  refine ⟨?_, fu.nd, fun x hx y hy e => ?_⟩
  · have h : z.cps.toList.Nodup := al.up.imp (fun h => Nat.ne_of_lt h)
    exact List.Pairwise.map s1 (fun a b hne e => hne (by unfold s1 at e; simpa using e)) h
  · subst e
    obtain ⟨c, _, e⟩ := List.mem_map.mp hx
    have := (fu.ok x hy).lo
    rw [← e] at this
    simp [s1] at this
def spCI (K : PySem.W.Frag) : Sp := fun vs H Q E => ∃ (a dx : Addr) (wv c : V), vs = [.ref a, wv, c] ∧ H a = some (.ins (He.ga K "Costs") dx []) ∧
  ((∃ t, TyX K H wv t ∧ PySem.W.kitOne K t (.ref (He.ga K "Words")) = some false ∧ ∀ dd, H dd = none → E (.ref (He.ga K "InvalidCutter")) (some dd) (upd H dd (.xd [("part", .str "words")]))) ∨
   ∃ (wa : Addr) (z : Str) (ws : List Str) (d : PyData), wv = .ref wa ∧ WordsAt K H wa z ws ∧ Dp K H c d ∧
    ((∃ cs, CostOk (allW z ws).length d cs ∧ ∀ H', CostsAt K H' a wa z ws cs → Same (hid [a] H) (hid [a] H') → Q .non H') ∨
     (∃ e, dFault (allW z ws).length d = some e ∧ ∀ v dd H', Dp K H' v e → Same (hid [a] H) (hid [a] H') → H' dd = none → E (.ref (He.ga K "InvalidNumber")) (some dd) (upd H' dd (.xd [("number", v)])))))
theorem WordsAt.hid (h : WordsAt K H wa z ws) (ha : H a = some (.ins (He.ga K "Costs") dx fs)) (ne : a ≠ wa) : WordsAt K (PH.hid [a] H) wa z ws := by
  obtain ⟨al, fu, dx, fp, kn, fs, kvs, h1, h2, h3, h4, h5, h6, h7, h8, h9⟩ := h
  refine ⟨al, fu, dx, fp, kn, fs, kvs, hid_at h1 (by simpa using Ne.symm ne), h2, h3, h4, h5, h6, hid_at h7 ?_, hid_at h8 ?_, h9⟩
  · intro hm
    rw [List.mem_singleton.mp hm, ha] at h7
    cases h7
  · intro hm
    rw [List.mem_singleton.mp hm, ha] at h8
    cases h8
theorem ok_Costs___init__ (T : Ev fa fx fn K mg base) : Dn P w K mg base 4 (He.ma K (He.ga K "Costs") "__init__") ["self", "words", "costs"] (spCI K) := by
  refine dn_of (d_Costs___init__ T) sc_Costs___init__ bo_Costs___init__ (fun vs H Q E h => ?_) (fun cdv A outer s H vs Q E hr h => ?_)
  · obtain ⟨a, dx, wv, c, rfl, _⟩ := h
    rfl
  · obtain ⟨a, dx, wv, c, rfl, ha, h⟩ := h
    refine ⟨_, (pss_cons (ps_if (pt_not (pt_val (pe_callB (call_isiK' (K := K) rfl) (by rfl) (f_isinstance T) bb_isinstance (pa_cons (pv 1) (pa_cons (pe_cv (g_Words T)) pa_nil)))))
        (pss_one (ps_raise rfl (takes_of rfl rfl rfl rfl) (pmk_x1 (exc_InvalidCutter T) (ok_InvalidCutter___init__ T) (hr.mono (by decide)) (g_InvalidCutter T) pe_str))) pss_nil)
      (pss_cons (ps_fld (pv 0) (pv 1) rfl)
      (pss_cons (ps_fld (pv 0) (pe_d (ok_checked_costs T) (hr.mono (by decide)) (g_checked_costs T) (passes_call (takes_of rfl rfl rfl rfl) (fun _ _ _ _ h => h)) (pa_cons (pv 1) (pa_cons (pv 2) pa_nil))) rfl)
      (pss_one (ps_fld (pv 0) (pe_dc (own := [("at", 3), ("text", 4)]) rfl sc_Costs___init__.nd (pi_enumT (by rfl) (f_enumerate T) (pa_cons (pe_m0 (ok_Words_all_words T) (hr.mono (by decide)) (cls_Words T) (me_Words_all_words T) passL (pv 1)) pa_nil)) (blkOk_by (own := [("at", 3), ("text", 4)]) (N := ["self", "words", "costs", "at", "text"]) (sc := defScope s_Costs___init__) (by decide +kernel)) (fun _ _ _ _ _ => (pg_two (K := K) (i := 3) (j := 4) rfl rfl sc_Costs___init__.nd rfl rfl (.inl rfl) (.inl rfl))) (fun _ _ _ _ _ => pts_nil) (fun _ _ _ _ _ => (pv 4)) (fun _ _ _ _ _ => (pe_ix (ix_tupK (K := K) rfl) (pe_fldK (K := K) rfl (pv 0) rfl) (pv 3) (fun _ _ => rfl)))) rfl))))), ?_⟩
    walk_at "cl"
    walk_at "y"
    rcases h with ⟨t, ht, hk, k⟩ | ⟨wa, z, ws, d, rfl, hw, hd, k⟩
    · refine isi_own ht hk ?_
      walk_at "y"
      refine iteT_of rfl ?_
      walk_at "y"
      intro dd hdd
      exact k dd hdd
    · refine isi_own (hw.ty T) (kit_Words_Words T) ?_
      walk_at "y"
      refine iteF_of rfl ?_
      walk_at "y"
      have ne : a ≠ wa := fun e => by
        obtain ⟨al, fu, dx', fp, kn, fs, kvs, h1, h2, _⟩ := hw
        rw [← e, ha] at h1
        injection h1 with h1
        injection h1 with _ _ h1
        rw [← h1] at h2
        cases h2
      have hw0 := hw.hid ha ne
      have hd0 := dp_hid (one_ins ha) _ _ hd
      have hS0 : Same (PH.hid [a] H) (PH.hid [a] H) := Same.refl _
      refine ⟨_, _, _, _, rfl, ha, (cls_Costs T), (no_Costs_words T), by decide, ?_⟩
      have hS1 := hid_put (o := .ins (He.ga K "Costs") dx (putF "words" (.ref wa) [])) hS0
      have ha1 : upd H a (.ins (He.ga K "Costs") dx (putF "words" (.ref wa) [])) a = _ := upd_same
      have l1 : (putF "words" (.ref wa) ([] : List (Str × V))).length ≤ 1 := putF_len _ _ _
      have w1 : lk (putF "words" (.ref wa) ([] : List (Str × V))) "words" = some (.ref wa) := lk_same
      have n1 : lk (putF "words" (.ref wa) ([] : List (Str × V))) "cost_of" = none := by rw [lk_ne (by decide +kernel)]; rfl
      generalize upd H a (.ins (He.ga K "Costs") dx (putF "words" (.ref wa) [])) = H1 at hS1 ha1
      generalize putF "words" (.ref wa) ([] : List (Str × V)) = fs1 at ha1 l1 w1 n1
      walk_at "y"
      refine ⟨wa, z, ws, c, d, rfl, hw0.same (hS1.trans hid_sub), dp_same (hS1.trans hid_sub) _ _ hd0, ?_⟩
      rcases k with ⟨cs, hco, k⟩ | ⟨e, he, k⟩
      · left
        refine ⟨cs, hco, fun q H2 hS2 hq => ?_⟩
        have hS3 : Same (PH.hid [a] H) (PH.hid [a] H2) := hS1.trans (hid_same hS2)
        have ha2 := hS2 _ _ ha1
        have hq0 : SqT K (PH.hid [a] H2) q (cs.map V.int) := sqT_hid hq (one_ins ha2)
        walk_at "y"
        refine ⟨_, _, _, _, rfl, ha2, (cls_Costs T), (no_Costs_costs T), by omega, ?_⟩
        have hS4 := hid_put (o := .ins (He.ga K "Costs") dx (putF "costs" (.ref q) fs1)) hS3
        have ha4 : upd H2 a (.ins (He.ga K "Costs") dx (putF "costs" (.ref q) fs1)) a = _ := upd_same
        have hq4 : SqT K (PH.hid [a] (upd H2 a (.ins (He.ga K "Costs") dx (putF "costs" (.ref q) fs1)))) q (cs.map V.int) := by rw [hid_in (by simp)]; exact hq0
        have l2 : (putF "costs" (.ref q) fs1).length ≤ 2 := Nat.le_trans (putF_len _ _ _) (by omega)
        have w2 : lk (putF "costs" (.ref q) fs1) "words" = some (.ref wa) := by rw [lk_ne (by decide +kernel)]; exact w1
        have n2 : lk (putF "costs" (.ref q) fs1) "cost_of" = none := by rw [lk_ne (by decide +kernel)]; exact n1
        have c2 : lk (putF "costs" (.ref q) fs1) "costs" = some (.ref q) := lk_same
        generalize upd H2 a (.ins (He.ga K "Costs") dx (putF "costs" (.ref q) fs1)) = H3 at hS4 ha4 hq4
        generalize putF "costs" (.ref q) fs1 = fs2 at ha4 l2 w2 n2 c2
        have hw3 : WordsAt K H3 wa z ws := hw0.same (hS4.trans hid_sub)
        have ⟨al, fu, dx', fp, kn, fsw, kvs, h1, h2, h3, h4, h5, h6, h7, h8, h9⟩ := hw3
        have zlo := al.lo
        have zhi := al.hi
        have few := fu.few
        have hnd := allW_nodup al fu
        have hall : (allW z ws).length ≤ 14 := by
          unfold allW
          simp at zhi ⊢
          omega
        walk_at "y"
        refine ⟨wa, dx', fsw, rfl, h1, h5, ?_⟩
        walk_at "y"
        refine ⟨wa, dx', fp, fsw, z, ws, rfl, h1, h2, h3, h7, al, by omega, fun r H4 hr1 hr2 hS5 => ?_⟩
        walk_at "y"
        refine ⟨r, _, rfl, hr2, fun D hD => ?_⟩
        refine dc_it walk_enumT (fun i H' => Same H4 H' ∧ ∃ kvs, H' D = some (.dK kvs) ∧ kvs.length ≤ i ∧ ∀ (j : Nat) (x : Str), j < i → (allW z ws)[j]? = some x → valV kvs (.inr x) = some (.int (cs.getD j 0))) ?_ ?_ ?_ ?_
        · exact ⟨same_new hD, [], upd_same, Nat.le_refl _, fun j x hj => by omega⟩
        · rintro i H' _ ⟨h, _⟩
          exact sqT_same h hr2
        · rintro i x H5 H6 hi ⟨h5, kv, hd5, hl5, hv5⟩ ⟨t, u, v, rfl, ht, rfl, e1, e2⟩
          cases e1
          have e2 : ((allW z ws).map V.str)[i]? = some v := e2
          have hi : i < (allW z ws).length := by simpa using hi
          have hx : v = .str (allW z ws)[i] := by
            rw [List.getElem?_map, List.getElem?_eq_getElem hi] at e2
            exact (Option.some.inj e2).symm
          subst hx
          have hDt : D ≠ t := ne_of_none hd5 ht
          have hS6 : Same H4 (upd H5 t (.tup [.int (i : Nat), .str (allW z ws)[i]])) := same_upd h5 ht
          refine v_gtup (sqT_of upd_same) rfl ?_
          walk_at "y"
          refine ⟨rfl, ?_⟩
          walk_at "y"
          refine ⟨_, _, _, _, _, rfl, hS6 _ _ (hS5 _ _ ha4), (cls_Costs T), (no_Costs_costs T), c2, ?_⟩
          walk_at "y"
          have hic : i < cs.length := by rw [hco.2.1]; exact hi
          refine v_ixT (v := .int (cs.getD i 0)) (sqT_same ((hid_sub.trans hS5).trans hS6) hq4) (atI_nat ?_) ?_
          · rw [List.getElem?_map, List.getElem?_eq_getElem hic, List.getD_eq_getElem?_getD, List.getElem?_eq_getElem hic]
            rfl
          refine ⟨kv, .inr (allW z ws)[i], rfl, by rw [upd_ne hDt]; exact hd5, smallL (by omega), same_mut hS6 hD, _, upd_same, Nat.le_trans (length_putK _ _ _) (by omega), fun j y hj hy => ?_⟩
          rw [valV_put]
          by_cases hji : j = i
          · subst hji
            rw [List.getElem?_eq_getElem hi] at hy
            cases hy
            rw [if_pos rfl]
          · have hjl : j < (allW z ws).length := (List.getElem?_eq_some_iff.mp hy).1
            have hyj : y = (allW z ws)[j] := by
              rw [List.getElem?_eq_getElem hjl] at hy
              exact (Option.some.inj hy).symm
            have hlt : j < i := by omega
            rw [if_neg (fun e => by
              injection e with e
              rw [hyj] at e
              exact List.pairwise_iff_getElem.mp hnd j i hjl hi hlt e)]
            exact hv5 j y hlt hy
        · rintro H5 ⟨h5', kv, hd5, hl5, hv5⟩
          rw [List.length_map] at hv5
          have ha5 := h5' _ _ (hS5 _ _ ha4)
          have aD : D ≠ a := (ne_of_none (hS5 _ _ ha4) hD).symm
          have hS7 : Same (PH.hid [a] H) (PH.hid [a] H5) := hS4.trans (hid_same (hS5.trans h5'))
          walk_at "y"
          refine ⟨_, _, _, _, rfl, ha5, (cls_Costs T), (no_Costs_prices T), by omega, ?_⟩
          refine k _ ⟨hw0.same ((hid_put hS7).trans hid_sub), hco.2.1, hco.2.2, dx, q, D, putF "prices" (.ref D) fs2, kv, upd_same, ?_, ?_, lk_same, ?_, ?_, ?_, ?_⟩ (hid_put hS7)
          · rw [lk_ne (by decide +kernel)]; exact w2
          · rw [lk_ne (by decide +kernel)]; exact c2
          · rw [lk_ne (by decide +kernel)]; exact n2
          · rw [hid_in (by simp)]; exact sqT_same (hid_same (hS5.trans h5')) hq4
          · rw [upd_ne aD]; exact hd5
          · exact fun i x hx => hv5 i x (List.getElem?_eq_some_iff.mp hx).1 hx
      · right
        refine ⟨e, he, fun v dd H' hv hS hdd => ?_⟩
        exact k v dd H' hv (hS1.trans (hid_same hS)) hdd
end

end K76

namespace K76
open PySem PySem.Spec L2 PH
open C8 (tCut pss_cut)
section
variable {P : Program} {w : World} {K : PySem.W.Frag} {mg : Str → Option Value} {base : Heap}
def dRow : PyData → PyData
  | .list ds => .tuple ds
  | d => d
def rowD (z : Str) (ws : List Str) (ps : List Nat) : List PyData := ps.map fun p => .str ((allW z ws).getD p (s1 0))
def spCO (K : PySem.W.Frag) : Sp := fun vs H Q E => ∃ (a wa : Addr) (r : V) (z : Str) (ws : List Str) (cs : List Int) (d : PyData), vs = [.ref a, r] ∧ CostsAt K H a wa z ws cs ∧ Dp K H r d ∧
  ((∃ ps : List Nat, (∀ p ∈ ps, p < (allW z ws).length) ∧ ps.length ≤ 1000 ∧ dRow d = .tuple (rowD z ws ps) ∧ ∀ H', Same H H' → Q (.int (ps.map fun p => cs.getD p 0).sum) H') ∨
   (dWay z ws (dRow d) = false ∧ ∀ dd H', Same H H' → H' dd = none → E (.ref (He.ga K "InvalidRow")) (some dd) (upd H' dd (.xd [("row", r)]))))
theorem way_row {z : Str} {ws : List Str} {ps : List Nat} (h : ∀ p ∈ ps, p < (allW z ws).length) : dWay z ws (.tuple (rowD z ws ps)) = true := by
  show (rowD z ws ps).all (dHas z ws) = true
  rw [List.all_eq_true]
  intro x hx
  obtain ⟨p, hp, rfl⟩ := List.mem_map.mp hx
  have hlt := h p hp
  show decide _ = true
  refine decide_eq_true ?_
  rw [List.getD_eq_getElem?_getD, List.getElem?_eq_getElem hlt]
  exact List.getElem_mem hlt
theorem ok_Costs_cost_of (T : Ev fa fx fn K mg base) : Dn P w K mg base 3 (He.ma K (He.ga K "Costs") "cost_of") ["self", "row"] (spCO K) := by
  refine dn_of (d_Costs_cost_of T) sc_Costs_cost_of bo_Costs_cost_of (fun vs H Q E h => ?_) (fun cdv A outer s H vs Q E hr h => ?_)
  · obtain ⟨a, wa, r, z, ws, cs, d, rfl, _⟩ := h
    rfl
  · obtain ⟨a, wa, r, z, ws, cs, d, rfl, ⟨wo, len, bd, dx, cp, pr, fs, kvs, h1, h2, h3, h4, h5, h6, h7, h8⟩, hd, k⟩ := h
    refine ⟨_, (pss_cut (ps_set (i := 2) sc_Costs_cost_of.nd rfl (.inl rfl) (pe_ifExp (pt_val (pe_callB (call_isiK' (K := K) rfl) (by rfl) (f_isinstance T) bb_isinstance (pa_cons (pv 1) (pa_cons (pe_ty (f_list T) bb_list) pa_nil)))) (pe_callTy call_tuple_of (by rfl) (f_tuple T) bb_tuple (pa_cons (pv 1) pa_nil)) (pv 1)))
      (pss_cons (ps_if (pt_not (pt_val (pe_d (ok_is_way T) (hr.mono (by decide)) (g_is_way T) passL (pa_cons (pe_fldK (K := K) rfl (pv 0) rfl) (pa_cons (pv 2) pa_nil)))))
        (pss_one (ps_raise rfl (takes_of rfl rfl rfl rfl) (pmk_x1 (exc_InvalidRow T) (ok_InvalidRow___init__ T) (hr.mono (by decide)) (g_InvalidRow T) (pv 1)))) pss_nil)
      (pss_one (ps_ret (pe_callB (cr_sum rfl) (by rfl) (f_sum T) bb_sum (pa_cons (pe_lc (own := [("text", 3)]) rfl sc_Costs_cost_of.nd (pi_tup (pv 2)) (blkOk_by (own := [("text", 3)]) (N := ["self", "row", "found", "text"]) (sc := defScope s_Costs_cost_of) (by decide +kernel)) (fun _ _ _ _ _ => (pg_name (i := 3) sc_Costs_cost_of.nd rfl (.inl rfl))) (fun _ _ _ _ _ => pts_nil) (fun _ _ _ _ _ => (pe_dget hr.hu (pe_fldK (K := K) rfl (pv 0) rfl) (pv 3) (fun _ _ => rfl)))) pa_nil)))))), ?_⟩
    walk_at "cl"
    refine v_cut (fun σ' H' => ∃ u : V, σ' = [some (.ref a), some r, some u, none] ∧ Dp K H' u (dRow d) ∧ Same H H') ?_ ?_
    · walk_at "y"
      refine isi_list hd ?_
      walk_at "y"
      cases hd with
      | @lst p xs ds hs ha =>
        refine iteT_of rfl ?_
        walk_at "y"
        refine ⟨p, xs, rfl, .inl ⟨hs, fun q hq => ?_⟩⟩
        exact ⟨_, rfl, .tup (sqT_of upd_same) (dpAll_same (same_new hq) _ _ ha), same_new hq⟩
      | tup hs ha =>
        refine iteF_of rfl ?_
        walk_at "y"
        exact ⟨_, rfl, .tup hs ha, Same.refl _⟩
      | non => exact iteF_of rfl (v_var rfl ⟨_, rfl, .non, Same.refl _⟩)
      | bl b => exact iteF_of rfl (v_var rfl ⟨_, rfl, .bl b, Same.refl _⟩)
      | int i => exact iteF_of rfl (v_var rfl ⟨_, rfl, .int i, Same.refl _⟩)
      | str x => exact iteF_of rfl (v_var rfl ⟨_, rfl, .str x, Same.refl _⟩)
    · rintro σ' H1 ⟨u, rfl, hu, hS1⟩
      walk_at "y"
      refine ⟨_, _, _, _, _, rfl, hS1 _ _ h1, (cls_Costs T), (no_Costs_words T), h2, ?_⟩
      walk_at "y"
      refine ⟨wa, u, z, ws, dRow d, rfl, wo.same hS1, hu, ?_⟩
      walk_at "y"
      rcases k with ⟨ps, hps, hpl, hrow, k⟩ | ⟨hbad, k⟩
      · rw [hrow, way_row hps]
        refine iteF_of rfl ?_
        walk_at "y"
        rw [hrow] at hu
        cases hu with
        | @tup p xs _ hs ha =>
          have hxs : xs = (ps.map fun p => (allW z ws).getD p (s1 0)).map V.str := by
            have e : rowD z ws ps = (ps.map fun p => (allW z ws).getD p (s1 0)).map PyData.str := by
              unfold rowD
              rw [List.map_map]
              rfl
            rw [e] at ha
            exact dpAll_strs_inv ha
          refine ⟨p, rfl, ⟨xs, hs⟩, fun D hD => ?_⟩
          subst hxs
          refine lc_it (walk_tup (xs := (ps.map fun p => (allW z ws).getD p (s1 0)).map V.str)) (fun i H' => Same H1 H' ∧ H' D = some (.lst ((((ps.map fun p => cs.getD p 0)).take i).map V.int))) ?_ ?_ ?_ ?_
          · exact ⟨same_new hD, upd_same⟩
          · rintro i H' _ ⟨h, _⟩
            exact sqT_same h hs
          · rintro i x H5 H6 hi ⟨h5, hd5⟩ ⟨rfl, hx⟩
            have hi : i < ps.length := by simpa using hi
            have hx : x = .str ((allW z ws).getD ps[i] (s1 0)) := by
              rw [List.getElem?_map, List.getElem?_map, List.getElem?_eq_getElem hi] at hx
              exact (Option.some.inj hx).symm
            subst hx
            have hlt := hps _ (List.getElem_mem hi)
            walk_at "y"
            refine ⟨rfl, ?_⟩
            walk_at "y"
            refine ⟨_, _, _, _, _, rfl, h5 _ _ (hS1 _ _ h1), (cls_Costs T), (no_Costs_prices T), h4, ?_⟩
            walk_at "y"
            refine ⟨pr, .int (cs.getD ps[i] 0), rfl, .inl ⟨kvs, .inr ((allW z ws).getD ps[i] (s1 0)), .inl (h5 _ _ (hS1 _ _ h7)), rfl, ?_⟩, ?_⟩
            · refine (h8 ps[i] _ ?_).symm
              rw [List.getD_eq_getElem?_getD, List.getElem?_eq_getElem hlt]
              rfl
            refine ⟨_, hd5, smallL (by simp; omega), same_mut h5 hD, ?_⟩
            rw [upd_same, List.take_add_one, List.getElem?_map, List.getElem?_eq_getElem hi, List.map_append]
            rfl
          · rintro H5 ⟨h5, hd5⟩
            walk_at "y"
            refine ⟨D, ps.map fun p => cs.getD p 0, rfl, ?_, ?_⟩
            · have e : (ps.map fun p => cs.getD p 0).take ((ps.map fun p => (allW z ws).getD p (s1 0)).map V.str).length = ps.map fun p => cs.getD p 0 := List.take_of_length_le (by simp)
              rw [e] at hd5
              exact sqL_of hd5
            exact k _ (hS1.trans h5)
      · rw [hbad]
        refine iteT_of rfl ?_
        walk_at "y"
        intro dd hdd
        exact k dd H1 hS1 hdd
def spCE (K : PySem.W.Frag) : Sp := fun vs H Q _ => ∃ (a wa : Addr) (y : V) (z : Str) (ws : List Str) (cs : List Int), vs = [.ref a, y] ∧ CostsAt K H a wa z ws cs ∧
  ((∃ (b wb : Addr) (z' : Str) (ws' : List Str) (cs' : List Int), y = .ref b ∧ CostsAt K H b wb z' ws' cs' ∧ Q (.bl (decide (z = z' ∧ ws = ws' ∧ cs = cs'))) H) ∨ ∃ t, TyX K H y t ∧ PySem.W.kitOne K t (.ref (He.ga K "Costs")) = some false ∧ Q (.bl false) H)
theorem CostsAt.ty (T : Ev fa fx fn K mg base) {H : Hp} {a wa : Addr} {z : Str} {ws : List Str} {cs : List Int} (h : CostsAt K H a wa z ws cs) : TyX K H (.ref a) (.ref (He.ga K "Costs")) := by
  obtain ⟨wo, len, bd, dx, cp, pr, fs, kvs, h1, _⟩ := h
  exact ty_ins h1 (cls_Costs T) (ins_Costs T)
theorem ok_Costs___eq__ (T : Ev fa fx fn K mg base) : Dn P w K mg base 2 (He.ma K (He.ga K "Costs") "__eq__") ["self", "other"] (spCE K) := by
  refine dn_of (d_Costs___eq__ T) sc_Costs___eq__ bo_Costs___eq__ (fun vs H Q E h => ?_) (fun cdv A outer s H vs Q E hr h => ?_)
  · obtain ⟨a, wa, y, z, ws, cs, rfl, _⟩ := h
    rfl
  · obtain ⟨a, wa, y, z, ws, cs, rfl, ⟨wo, len, bd, dx, cp, pr, fs, kvs, h1, h2, h3, h4, h5, h6, h7, h8⟩, h⟩ := h
    refine ⟨_, (PSs.nox (pss_one (ps_ret (pe_and (pe_callB (call_isiK' (K := K) rfl) (by rfl) (f_isinstance T) bb_isinstance (pa_cons (pv 1) (pa_cons (pe_cv (g_Costs T)) pa_nil))) (pe_and (pe_cmpR (op_ownEq (eqc_Words T) (ok_Words___eq__ T) (hr.mono (by decide))) (pe_fldK (K := K) rfl (pv 0) rfl) (pe_fldK (K := K) rfl (pv 1) rfl) (nomark _)) (pe_one (pe_cmpR (op_eqDK (K := K) rfl hr.units) (pe_fldK (K := K) rfl (pv 0) rfl) (pe_fldK (K := K) rfl (pv 1) rfl) (nomark _)))))))), ?_⟩
    walk_at "cl"
    walk_at "y"
    rcases h with ⟨b, wb, z', ws', cs', rfl, hb, k⟩ | ⟨t, ht, hk, k⟩
    · have ⟨wo', len', bd', dx', cp', pr', fs', kvs', b1, b2, b3, b4, b5, b6, b7, b8⟩ := hb
      refine isi_own (hb.ty T) (kit_Costs_Costs T) ?_
      walk_at "y"
      refine ⟨_, _, _, _, _, rfl, h1, (cls_Costs T), (no_Costs_words T), h2, ?_⟩
      walk_at "y"
      refine ⟨_, _, _, _, _, rfl, b1, (cls_Costs T), (no_Costs_words T), b2, ?_⟩
      have ⟨_, _, dxw, _, _, fsw, _, w1, _⟩ := wo
      refine ⟨wa, dxw, fsw, .ref (He.ga K "Words"), rfl, w1, wo'.ty T, nf_Words_Words T, ?_⟩
      refine ⟨wa, .ref wb, z, ws, rfl, wo, .inl ⟨wb, z', ws', rfl, wo', ?_⟩⟩
      refine ⟨_, rfl, ?_⟩
      walk_at "y"
      refine if_dec (fun c => ?_) (fun c => ?_)
      · walk_at "y"
        refine ⟨_, _, _, _, _, rfl, h1, (cls_Costs T), (no_Costs_costs T), h3, ?_⟩
        walk_at "y"
        refine ⟨_, _, _, _, _, rfl, b1, (cls_Costs T), (no_Costs_costs T), b3, ?_⟩
        refine ⟨_, _, .tup (sqT_same hid_sub h6) (dpAll_ints cs), .tup (sqT_same hid_sub b6) (dpAll_ints cs'), (shaped_ints cs).1, (shaped_ints cs').1, ?_⟩
        show Q (.bl (PyData.eqvAll (cs.map PyData.int) (cs'.map PyData.int))) H
        rw [eqvAll_ints]
        simpa [c.1, c.2] using k
      · have e : decide (z = z' ∧ ws = ws' ∧ cs = cs') = false := decide_eq_false fun h => c ⟨h.1, h.2.1⟩
        rw [e] at k
        exact k
    · refine isi_own ht hk ?_
      walk_at "y"
      exact k
end

end K76

namespace K76
open PySem PySem.Spec L2 PH
open C8 (tCut pss_cut)
section
variable {P : Program} {w : World} {K : PySem.W.Frag} {mg : Str → Option Value} {base : Heap}
def spDiff (K : PySem.W.Frag) : Sp := fun vs H Q _ => ∃ (a wa : Addr) (y : V) (z : Str) (ws : List Str) (cs : List Int), vs = [.ref a, y] ∧ CostsAt K H a wa z ws cs ∧
  ((∃ (b wb : Addr) (z' : Str) (ws' : List Str) (cs' : List Int), y = .ref b ∧ CostsAt K H b wb z' ws' cs' ∧ ¬ (z = z' ∧ ws = ws' ∧ cs = cs')) ∨ ∃ t, TyX K H y t ∧ PySem.W.kitOne K t (.ref (He.ga K "Costs")) = some false ∧ PySem.W.notFirst K (He.ga K "Costs") t = true) ∧ Q (.bl true) H
theorem ok__law_differ (T : Ev fa fx fn K mg base) : Dn P w K mg base 4 (He.ga K "_law_differ") ["one", "other"] (spDiff K) := by
  refine dn_of (d__law_differ T) sc__law_differ bo__law_differ (fun vs H Q E h => ?_) (fun cdv A outer s H vs Q E hr h => ?_)
  · obtain ⟨a, wa, y, z, ws, cs, rfl, _⟩ := h
    rfl
  · obtain ⟨a, wa, y, z, ws, cs, rfl, hc, h, k⟩ := h
    refine ⟨_, (PSs.nox (pss_one (ps_ret (pe_and (pe_cmpR op_isBl (pe_cmpR (op_ownEq (eqc_Costs T) (ok_Costs___eq__ T) (hr.mono (by decide))) (pv 0) (pv 1) (nomark _)) pe_bl (nomark _)) (pe_one (pe_cmpR op_isBl (pe_cmpR (op_ownNe (eqc_Costs T) (ok_Costs___eq__ T) (hr.mono (by decide))) (pv 0) (pv 1) (nomark _)) pe_bl (nomark _))))))), ?_⟩
    walk_at "cl"
    walk_at "y"
    have ⟨_, _, _, dx, _, _, fs, _, a1, _⟩ := hc
    rcases h with ⟨b, wb, z', ws', cs', rfl, hb, hne⟩ | ⟨t, ht, hk, hnf⟩
    · have e : decide (z = z' ∧ ws = ws' ∧ cs = cs') = false := decide_eq_false hne
      refine ⟨a, dx, fs, _, rfl, a1, hb.ty T, nf_Costs_Costs T, ?_⟩
      refine ⟨a, wa, .ref b, z, ws, cs, rfl, hc, .inl ⟨b, wb, z', ws', cs', rfl, hb, ?_⟩⟩
      rw [e]
      refine ⟨_, rfl, ?_⟩
      walk_at "y"
      refine ⟨false, false, rfl, rfl, ?_⟩
      refine ⟨_, rfl, iteT_of (by decide) ?_⟩
      walk_at "y"
      refine ⟨a, dx, fs, _, rfl, a1, hb.ty T, nf_Costs_Costs T, ?_⟩
      refine ⟨a, wa, .ref b, z, ws, cs, rfl, hc, .inl ⟨b, wb, z', ws', cs', rfl, hb, ?_⟩⟩
      rw [e]
      refine ⟨_, rfl, ?_⟩
      walk_at "y"
      exact ⟨true, true, rfl, rfl, k⟩
    · refine ⟨a, dx, fs, _, rfl, a1, ht, hnf, ?_⟩
      refine ⟨a, wa, y, z, ws, cs, rfl, hc, .inr ⟨t, ht, hk, ?_⟩⟩
      refine ⟨_, rfl, ?_⟩
      walk_at "y"
      refine ⟨false, false, rfl, rfl, ?_⟩
      refine ⟨_, rfl, iteT_of (by decide) ?_⟩
      walk_at "y"
      refine ⟨a, dx, fs, _, rfl, a1, ht, hnf, ?_⟩
      refine ⟨a, wa, y, z, ws, cs, rfl, hc, .inr ⟨t, ht, hk, ?_⟩⟩
      refine ⟨_, rfl, ?_⟩
      walk_at "y"
      exact ⟨true, true, rfl, rfl, k⟩
def spNR (K : PySem.W.Frag) : Sp := fun vs H Q _ => ∃ (a wa : Addr) (r : V) (z : Str) (ws : List Str) (cs : List Int) (d : PyData), vs = [.ref a, r] ∧ CostsAt K H a wa z ws cs ∧ Dp K H r d ∧ SeqAt.shaped d = true ∧ dWay z ws (dRow d) = false ∧ ∀ H', Same H H' → Q (.bl true) H'
theorem ok__law_no_row (T : Ev fa fx fn K mg base) : Dn P w K mg base 4 (He.ga K "_law_no_row") ["priced", "row"] (spNR K) := by
  refine dn_of (d__law_no_row T) sc__law_no_row bo__law_no_row (fun vs H Q E h => ?_) (fun cdv A outer s H vs Q E hr h => ?_)
  · obtain ⟨a, wa, r, z, ws, cs, d, rfl, _⟩ := h
    rfl
  · obtain ⟨a, wa, r, z, ws, cs, d, rfl, hc, hd, hs, hb, k⟩ := h
    refine ⟨_, (PSs.nox (pss_cons (ps_try_A rfl rfl sc__law_no_row.nd takes0 (fun W pn xe tk _ => (pss_one (ps_expr (pe_mW (ok_Costs_cost_of T) (hr.mono (by decide)) (cls_Costs T) (me_Costs_cost_of T) tk (pv 0) (pa_cons (pv 1) pa_nil))))) (.cons ⟨rfl, by decide, .inl (g_InvalidRow T)⟩ (i := 2) rfl rfl (fun a oe cls d pn hz hf => (pss_one (ps_ret (pe_and (pe_not (pe_callB (call_isX hz hf) (by rfl) (f_isinstance T) bb_isinstance (pa_cons (pv 2) (pa_cons (pe_cv (g_InvalidWords T)) pa_nil)))) (pe_and (pe_not (pe_callB (call_isX hz hf) (by rfl) (f_isinstance T) bb_isinstance (pa_cons (pv 2) (pa_cons (pe_cv (g_InvalidNumber T)) pa_nil)))) (pe_one (pe_s (ok__law_alike T) (RoomS.mark (RoomS.of (hr.mono (by decide)))) (g__law_alike T) (pa_cons (pe_xf (exc_InvalidRow T).xf (no_InvalidRow_row T) hz hf (pv 2)) (pa_cons (pv 1) pa_nil))))))))) .nil))
      (pss_one (ps_ret pe_bl)))), ?_⟩
    walk_at "cl"
    walk_at "y"
    have ⟨_, _, _, dx, _, _, fs, _, a1, _, _, _, a5, _⟩ := hc
    refine ⟨a, dx, fs, rfl, a1, a5, ?_⟩
    walk_at "y"
    refine ⟨a, wa, r, z, ws, cs, d, rfl, hc, hd, .inr ⟨hb, fun dd H1 hS hdd => ?_⟩⟩
    refine ⟨true, exm_InvalidRow_InvalidRow T, fun _ e1 he => ?_, (fun h => by cases h)⟩
    walk_at "y"
    refine isx_own upd_same (exc_InvalidRow T) (kit_InvalidRow_InvalidWords T) ?_
    walk_at "y"
    refine iteT_of rfl ?_
    walk_at "y"
    refine isx_own upd_same (exc_InvalidRow T) (kit_InvalidRow_InvalidNumber T) ?_
    walk_at "y"
    refine iteT_of rfl ?_
    walk_at "y"
    refine ⟨rfl, rfl, dd, _, _, rfl, upd_same, rfl, ?_⟩
    walk_at "y"
    have hS2 := same_upd (o := .xd [("row", r)]) hS hdd
    refine ⟨r, r, d, rfl, dp_same hS2 _ _ hd, dp_same hS2 _ _ hd, hs, ?_⟩
    exact k _ hS2
def spFau (K : PySem.W.Frag) : Sp := fun vs H Q _ => ∃ (pl c due : V), vs = [pl, c, due] ∧
  ((∃ t, TyX K H pl t ∧ PySem.W.kitOne K t (.ref (He.ga K "Words")) = some false ∧ due = .str "words") ∨
   (∃ (wa : Addr) (z : Str) (ws : List Str) (d e : PyData), pl = .ref wa ∧ WordsAt K H wa z ws ∧ Dp K H c d ∧ dFault (allW z ws).length d = some e ∧ Dp K H due e ∧ SeqAt.shaped e = true ∧ PyData.eqv e (.str "words") = false)) ∧
  ∀ H', Same H H' → Q (.bl true) H'
theorem ok__law_fault (T : Ev fa fx fn K mg base) : Dn P w K mg base 6 (He.ga K "_law_fault") ["plain", "values", "due"] (spFau K) := by
  refine dn_of (d__law_fault T) sc__law_fault bo__law_fault (fun vs H Q E h => ?_) (fun cdv A outer s H vs Q E hr h => ?_)
  · obtain ⟨pl, c, due, rfl, _⟩ := h
    rfl
  · obtain ⟨pl, c, due, rfl, h, k⟩ := h
    refine ⟨_, (PSs.nox (pss_cons (ps_try_A rfl rfl sc__law_fault.nd takes0 (fun W pn xe tk _ => (pss_one (ps_expr (pe_mkW (ok_Costs___init__ T) (mkr_Costs T) (hr.mono (by decide)) (g_Costs T) tk (pa_cons (pv 0) (pa_cons (pv 1) pa_nil)))))) (.cons ⟨rfl, by decide, .inl (g_InvalidCutter T)⟩ (i := 3) rfl rfl (fun a oe cls d pn hz hf => (pss_one (ps_ret (pe_and (pe_cmpR (op_eqDK (K := K) rfl hr.units) (pv 2) pe_str (nomark _)) (pe_and (pe_not (pe_callB (call_isX hz hf) (by rfl) (f_isinstance T) bb_isinstance (pa_cons (pv 3) (pa_cons (pe_cv (g_InvalidNumber T)) pa_nil)))) (pe_and (pe_not (pe_callB (call_isX hz hf) (by rfl) (f_isinstance T) bb_isinstance (pa_cons (pv 3) (pa_cons (pe_cv (g_InvalidRow T)) pa_nil)))) (pe_one (pe_cmpR op_eq (pe_xf (exc_InvalidCutter T).xf (no_InvalidCutter_part T) hz hf (pv 3)) pe_str (nomark _))))))))) (.cons ⟨rfl, by decide, .inl (g_InvalidNumber T)⟩ (i := 3) rfl rfl (fun a oe cls d pn hz hf => (pss_cons (ps_if (pw_or (pt_val (pe_callB (call_isX hz hf) (by rfl) (f_isinstance T) bb_isinstance (pa_cons (pv 3) (pa_cons (pe_cv (g_InvalidRow T)) pa_nil)))) (pw_or1 (pt_val (pe_callB (call_isX hz hf) (by rfl) (f_isinstance T) bb_isinstance (pa_cons (pv 3) (pa_cons (pe_cv (g_InvalidWords T)) pa_nil)))))).pt
        (pss_one (ps_ret pe_bl)) pss_nil)
      (pss_one (ps_ret (pe_and (pe_cmpR (op_neDK (K := K) rfl hr.units) (pv 2) pe_str (nomark _)) (pe_one (pe_s (ok__law_alike T) (RoomS.mark (RoomS.of (hr.mono (by decide)))) (g__law_alike T) (pa_cons (pe_xf (exc_InvalidNumber T).xf (no_InvalidNumber_number T) hz hf (pv 3)) (pa_cons (pv 2) pa_nil))))))))) .nil)))
      (pss_one (ps_ret pe_bl)))), ?_⟩
    walk_at "cl"
    walk_at "y"
    intro x dx hx hdx hne
    have hM : Same H (upd (upd H dx (.own x)) x (.ins (He.ga K "Costs") dx [])) := same_upd (same_new hdx) (by rw [upd_ne (Ne.symm hne)]; exact hx)
    rcases h with ⟨t, ht, hk, rfl⟩ | ⟨wa, z, ws, d, e, rfl, hw, hd, hF, hdue, hsh, hneq⟩
    · refine ⟨x, dx, pl, c, rfl, upd_same, .inl ⟨t, ty_same hM ht, hk, fun dd hdd => ?_⟩⟩
      have hS2 := same_upd (o := .xd [("part", .str "words")]) hM hdd
      refine ⟨true, exm_InvalidCutter_InvalidCutter T, fun _ e1 he => ?_, (fun h => by cases h)⟩
      walk_at "y"
      refine ⟨.str "words", .str "words", .str _, .str _, by decide +kernel, by decide +kernel, ?_⟩
      refine ⟨_, rfl, iteT_of (by decide +kernel) ?_⟩
      walk_at "y"
      refine isx_own upd_same (exc_InvalidCutter T) (kit_InvalidCutter_InvalidNumber T) ?_
      walk_at "y"
      refine iteT_of rfl ?_
      walk_at "y"
      refine isx_own upd_same (exc_InvalidCutter T) (kit_InvalidCutter_InvalidRow T) ?_
      walk_at "y"
      refine iteT_of rfl ?_
      walk_at "y"
      refine ⟨rfl, rfl, dd, _, _, rfl, upd_same, rfl, ?_⟩
      walk_at "y"
      have q := k _ hS2
      rw [decide_eq_true rfl]
      exact q
    · refine ⟨x, dx, .ref wa, c, rfl, upd_same, .inr ⟨wa, z, ws, d, rfl, hw.same hM, dp_same hM _ _ hd, .inr ⟨e, hF, fun v dd H1 hv hS hdd => ?_⟩⟩⟩
      have hS1 := make_same hS hx hdx hne
      have hS2 := same_upd (o := .xd [("number", v)]) hS1 hdd
      refine ⟨false, exm_InvalidNumber_InvalidCutter T, (fun h => by cases h), fun _ => ?_⟩
      refine ⟨true, exm_InvalidNumber_InvalidNumber T, fun _ e1 he => ?_, (fun h => by cases h)⟩
      walk_at "y"
      refine isx_own upd_same (exc_InvalidNumber T) (kit_InvalidNumber_InvalidRow T) ?_
      walk_at "y"
      refine isx_own upd_same (exc_InvalidNumber T) (kit_InvalidNumber_InvalidWords T) ?_
      walk_at "y"
      refine ⟨e, .str "words", dp_same hS2 _ _ hdue, .str _, hsh, by decide +kernel, ?_⟩
      rw [hneq]
      refine ⟨_, rfl, iteT_of rfl ?_⟩
      walk_at "y"
      refine ⟨rfl, rfl, dd, _, _, rfl, upd_same, rfl, ?_⟩
      walk_at "y"
      refine ⟨v, due, e, rfl, dp_same (same_new hdd) _ _ hv, dp_same hS2 _ _ hdue, hsh, ?_⟩
      exact k _ hS2
end

end K76

namespace K76
open PySem PySem.Spec L2 PH
open C8 (tCut pss_cut)
section
variable {P : Program} {w : World} {K : PySem.W.Frag} {mg : Str → Option Value} {base : Heap}
theorem allW_ok {z : Str} {ws : List Str} (al : AlphaOk z 4) (fu : FurtherOk z 10 6 ws) : ∀ x ∈ allW z ws, 1 ≤ x.cps.toList.length ∧ x.cps.toList.length ≤ 6 ∧ ∀ c ∈ x.cps.toList, c ≤ 126 := by
  intro x hx
  rcases List.mem_append.mp hx with h | h
  · obtain ⟨c, hc, rfl⟩ := List.mem_map.mp h
    exact ⟨by simp [s1], by simp [s1], fun d hd => by simp [s1] at hd; rw [hd]; exact al.le c hc⟩
  · have q := fu.ok x h
    have := q.lo
    exact ⟨by omega, q.hi, fun c hc => al.le c (q.ov c hc)⟩
theorem allW_pos {z : Str} {ws : List Str} (al : AlphaOk z 4) (fu : FurtherOk z 10 6 ws) : 1 ≤ (allW z ws).length ∧ (allW z ws).length ≤ 14 := by
  have h1 := al.lo
  have h2 := al.hi
  have h3 := fu.few
  unfold allW
  rw [List.length_append, List.length_map]
  omega
theorem no_word {z : Str} {ws : List Str} (al : AlphaOk z 4) (fu : FurtherOk z 10 6 ws) {x : Str} (h : x.cps.toList.length = 0 ∨ 7 ≤ x.cps.toList.length) : dHas z ws (.str x) = false := by
  refine decide_eq_false fun hm => ?_
  obtain ⟨h1, h2, _⟩ := allW_ok al fu x hm
  omega
theorem tame_row {z : Str} {ws : List Str} (al : AlphaOk z 4) (fu : FurtherOk z 10 6 ws) {ps : List Nat} (h : ∀ p ∈ ps, p < (allW z ws).length) : ∀ e ∈ rowD z ws ps, Tame 5 e := by
  intro e he
  obtain ⟨p, hp, rfl⟩ := List.mem_map.mp he
  have hlt := h p hp
  refine tame_str (allW_ok al fu _ ?_).2.2
  rw [List.getD_eq_getElem?_getD, List.getElem?_eq_getElem hlt]
  exact List.getElem_mem hlt
theorem mix_way {z : Str} {ws : List Str} {ds : List PyData} {e : PyData} {n : Nat} (he : dHas z ws e = false) : dWay z ws (.tuple (ds.take n ++ [e] ++ ds.drop n)) = false := by
  show (ds.take n ++ [e] ++ ds.drop n).all (dHas z ws) = false
  rw [List.all_append, List.all_append]
  show ((ds.take n).all (dHas z ws) && (dHas z ws e && true) && (ds.drop n).all (dHas z ws)) = false
  rw [he]
  simp
theorem mix_tame {ds : List PyData} {e : PyData} {n k : Nat} (h : ∀ x ∈ ds, Tame k x) (he : Tame k e) : ∀ x ∈ ds.take n ++ [e] ++ ds.drop n, Tame k x := by
  intro x hx
  rcases List.mem_append.mp hx with hx | hx
  · rcases List.mem_append.mp hx with hx | hx
    · exact h x (List.mem_of_mem_take hx)
    · rw [List.mem_singleton.mp hx]; exact he
  · exact h x (List.mem_of_mem_drop hx)
theorem CostsAt.ins {H : Hp} {a wa : Addr} {z : Str} {ws : List Str} {cs : List Int} (h : CostsAt K H a wa z ws cs) : ∃ dx fs, H a = some (.ins (He.ga K "Costs") dx fs) ∧ lk fs "cost_of" = none := by
  obtain ⟨wo, len, bd, dx, cp, pr, fs, kvs, h1, h2, h3, h4, h5, h6, h7, h8⟩ := h
  exact ⟨dx, fs, h1, h5⟩
def spRows (K : PySem.W.Frag) : Sp := fun vs H Q _ => ∃ (b l wl cl a wa : Addr) (z : Str) (ws : List Str) (cs : List Int), vs = [.ref b, .ref wl, .ref cl, .ref a] ∧ BagAt H b l ∧ wl ≠ b ∧ cl ≠ b ∧
  H wl = some (.lst ((allW z ws).map V.str)) ∧ H cl = some (.lst (cs.map V.int)) ∧ CostsAt K (hid [b] H) a wa z ws cs ∧ ∀ H', BagAt H' b l → Same (hid [b] H) (hid [b] H') → Q (.bl true) H'
theorem ok__law_rows (T : Ev fa fx fn K mg base) : Dn P w K mg base 5 (He.ga K "_law_rows") ["bag", "words", "costs", "priced"] (spRows K) := by
  refine dn_of (d__law_rows T) sc__law_rows bo__law_rows (fun vs H Q E h => ?_) (fun cdv A outer s H vs Q E hr h => ?_)
  · obtain ⟨b, l, wl, cl, a, wa, z, ws, cs, rfl, _⟩ := h
    rfl
  · obtain ⟨b, l, wl, cl, a, wa, z, ws, cs, rfl, hB, nwb, ncb, hwl, hcl, hC, k⟩ := h
    have al := hC.wo.al
    have fu := hC.wo.fu
    obtain ⟨np1, np2⟩ := allW_pos al fu
    have hcn := hC.len
    have getW : ∀ {H' : Hp}, Same (hid [b] H) (hid [b] H') → H' wl = some (.lst ((allW z ws).map V.str)) := fun e => hid_get e hwl (by simpa using nwb)
    have getC : ∀ {H' : Hp}, Same (hid [b] H) (hid [b] H') → H' cl = some (.lst (cs.map V.int)) := fun e => hid_get e hcl (by simpa using ncb)
    have getA : ∀ {H' : Hp}, Same (hid [b] H) (hid [b] H') → CostsAt K H' a wa z ws cs := fun e => hC.same (e.trans hid_sub)
    have w0 : ((allW z ws).map V.str)[0]? = some (.str ((allW z ws).getD 0 (s1 0))) := by
      rw [List.getElem?_map, List.getD_eq_getElem?_getD, List.getElem?_eq_getElem (by omega : 0 < (allW z ws).length)]
      rfl
    have m0 : (allW z ws).getD 0 (s1 0) ∈ allW z ws := by
      rw [List.getD_eq_getElem?_getD, List.getElem?_eq_getElem (by omega : 0 < (allW z ws).length)]
      exact List.getElem_mem _
    have wn : ((allW z ws).map V.str)[(allW z ws).length - 1]? = some (.str ((allW z ws).getD ((allW z ws).length - 1) (s1 0))) := by
      rw [List.getElem?_map, List.getD_eq_getElem?_getD, List.getElem?_eq_getElem (by omega : (allW z ws).length - 1 < (allW z ws).length)]
      rfl
    have mn : (allW z ws).getD ((allW z ws).length - 1) (s1 0) ∈ allW z ws := by
      rw [List.getD_eq_getElem?_getD, List.getElem?_eq_getElem (by omega : (allW z ws).length - 1 < (allW z ws).length)]
      exact List.getElem_mem _
    refine ⟨_, (PSs.nox (pss_cons (ps_for PassesOwn.never rfl (pi_range1 rfl (f_range T) (pa_cons pe_int pa_nil)) (pg_name (i := 4) sc__law_rows.nd rfl (.inl rfl))
        (pss_cons (ps_setLc (i := 5) (own := [("i", 6)]) rfl sc__law_rows.nd rfl rfl (sw_true rfl rfl rfl (by decide +kernel)) (pi_range1 rfl (f_range T) (pa_cons (pe_d (ok__law_draw T) (hr.mono (by decide)) (g__law_draw T) passL (pa_cons (pv 0) (pa_cons pe_int pa_nil))) pa_nil)) (blkOk_by (own := [("i", 6)]) (N := ["bag", "words", "costs", "priced", "k", "places", "i", "row", "place", "due", "handed", "at", "wrong"]) (sc := defScope s__law_rows) (by decide +kernel)) (fun _ _ _ _ _ => (pg_name (i := 6) sc__law_rows.nd rfl (.inl rfl))) (fun _ _ _ _ _ => pts_nil) (fun _ _ _ _ _ => (pe_d (ok__law_draw T) (hr.mono (by decide)) (g__law_draw T) passL (pa_cons (pv 0) (pa_cons (pe_callB (call_lenK (K := K) rfl) (by rfl) (f_len T) bb_len (pa_cons (pv 1) pa_nil)) pa_nil)))))
      (pss_cons (ps_setLc (i := 7) (own := [("place", 8)]) rfl sc__law_rows.nd rfl rfl (sw_true rfl rfl rfl (by decide +kernel)) (pi_list (pv 5)) (blkOk_by (own := [("place", 8)]) (N := ["bag", "words", "costs", "priced", "k", "places", "i", "row", "place", "due", "handed", "at", "wrong"]) (sc := defScope s__law_rows) (by decide +kernel)) (fun _ _ _ _ _ => (pg_name (i := 8) sc__law_rows.nd rfl (.inl rfl))) (fun _ _ _ _ _ => pts_nil) (fun _ _ _ _ _ => (pe_ix (ix_listK (K := K) rfl) (pv 1) (pv 8) (fun _ _ => rfl))))
      (pss_cons (ps_set (i := 9) sc__law_rows.nd rfl (.inl rfl) (pe_callB (cr_sum rfl) (by rfl) (f_sum T) bb_sum (pa_cons (pe_lc (own := [("place", 8)]) rfl sc__law_rows.nd (pi_list (pv 5)) (blkOk_by (own := [("place", 8)]) (N := ["bag", "words", "costs", "priced", "k", "places", "i", "row", "place", "due", "handed", "at", "wrong"]) (sc := defScope s__law_rows) (by decide +kernel)) (fun _ _ _ _ _ => (pg_name (i := 8) sc__law_rows.nd rfl (.inl rfl))) (fun _ _ _ _ _ => pts_nil) (fun _ _ _ _ _ => (pe_ix (ix_listK (K := K) rfl) (pv 2) (pv 8) (fun _ _ => rfl)))) pa_nil)))
      (pss_cons (ps_set (i := 10) sc__law_rows.nd rfl (.inl rfl) (pe_callTy call_list_of (by rfl) (f_list T) bb_list (pa_cons (pv 7) pa_nil)))
      (pss_cons (ps_if (pw_or (pt_not (pt_val (pe_d (ok__law_is_number T) (hr.mono (by decide)) (g__law_is_number T) passL (pa_cons (pe_m (ok_Costs_cost_of T) (hr.mono (by decide)) (cls_Costs T) (me_Costs_cost_of T) passL (pv 3) (pa_cons (pe_callTy call_tuple_of (by rfl) (f_tuple T) bb_tuple (pa_cons (pv 7) pa_nil)) pa_nil)) (pa_cons (pv 9) pa_nil))))) (pw_or1 (pt_not (pt_val (pe_d (ok__law_is_number T) (hr.mono (by decide)) (g__law_is_number T) passL (pa_cons (pe_m (ok_Costs_cost_of T) (hr.mono (by decide)) (cls_Costs T) (me_Costs_cost_of T) passL (pv 3) (pa_cons (pv 10) pa_nil)) (pa_cons (pv 9) pa_nil))))))).pt
        (pss_one (ps_ret pe_bl)) pss_nil)
      (pss_cons (ps_if (pt_cmpR (op_neDK (K := K) rfl hr.units) (pv 10) (pv 7) (nomark _))
        (pss_one (ps_ret pe_bl)) pss_nil)
      (pss_cons (ps_set (i := 11) sc__law_rows.nd rfl (.inl rfl) (pe_d (ok__law_draw T) (hr.mono (by decide)) (g__law_draw T) passL (pa_cons (pv 0) (pa_cons (pe_op op_add (pe_callB (call_lenK (K := K) rfl) (by rfl) (f_len T) bb_len (pa_cons (pv 7) pa_nil)) pe_int) pa_nil))))
      (pss_cons (ps_for PassesOwn.never rfl (pi_list (pe_lst (pa_cons pe_str (pa_cons (pe_op op_mul_str (pe_ix (ix_listK (K := K) rfl) (pv 1) pe_int (fun _ _ => rfl)) pe_int) (pa_cons pe_non (pa_cons pe_int (pa_cons (pe_tup (pa_cons pe_str pa_nil)) (pa_cons (pe_lst (pa_cons (pe_ix (ix_listK (K := K) rfl) (pv 1) pe_int (fun _ _ => rfl)) pa_nil)) (pa_cons (pe_op op_add_str (pe_ix (ix_listK (K := K) rfl) (pv 1) (pe_op op_sub (pe_callB (call_lenK (K := K) rfl) (by rfl) (f_len T) bb_len (pa_cons (pv 1) pa_nil)) pe_int) (fun _ _ => rfl)) pe_str) pa_nil))))))))) (pg_name (i := 12) sc__law_rows.nd rfl (.inl rfl))
        (pss_one (ps_if (pt_not (pt_val (pe_d (ok__law_no_row T) (hr.mono (by decide)) (g__law_no_row T) passL (pa_cons (pv 3) (pa_cons (pe_callTy call_tuple_of (by rfl) (f_tuple T) bb_tuple (pa_cons (pe_op op_cat (pe_op op_cat (pe_slice sl_list (pv 7) po_none (po_some (pv 11))) (pe_lst (pa_cons (pv 12) pa_nil))) (pe_slice sl_list (pv 7) (po_some (pv 11)) po_none)) pa_nil)) pa_nil)))))
        (pss_one (ps_ret pe_bl)) pss_nil)))
      (pss_one (ps_if (pt_not (pt_val (pe_d (ok__law_no_row T) (hr.mono (by decide)) (g__law_no_row T) passL (pa_cons (pv 3) (pa_cons (pe_op op_cat (pe_op op_cat (pe_slice sl_list (pv 7) po_none (po_some (pv 11))) (pe_lst (pa_cons pe_non pa_nil))) (pe_slice sl_list (pv 7) (po_some (pv 11)) po_none)) pa_nil)))))
        (pss_one (ps_ret pe_bl)) pss_nil)))))))))))
      (pss_cons (ps_for PassesOwn.never rfl (pi_list (pe_lst (pa_cons pe_non (pa_cons pe_int (pa_cons pe_bl (pa_cons (pe_ix (ix_listK (K := K) rfl) (pv 1) pe_int (fun _ _ => rfl)) (pa_cons (pe_ix (ix_listK (K := K) rfl) (pv 1) (pe_op op_sub (pe_callB (call_lenK (K := K) rfl) (by rfl) (f_len T) bb_len (pa_cons (pv 1) pa_nil)) pe_int) (fun _ _ => rfl)) pa_nil))))))) (pg_name (i := 12) sc__law_rows.nd rfl (.inl rfl))
        (pss_one (ps_if (pt_not (pt_val (pe_d (ok__law_no_row T) (hr.mono (by decide)) (g__law_no_row T) passL (pa_cons (pv 3) (pa_cons (pv 12) pa_nil)))))
        (pss_one (ps_ret pe_bl)) pss_nil)))
      (pss_one (ps_ret (pe_and (pe_d (ok__law_is_number T) (hr.mono (by decide)) (g__law_is_number T) passL (pa_cons (pe_m (ok_Costs_cost_of T) (hr.mono (by decide)) (cls_Costs T) (me_Costs_cost_of T) passL (pv 3) (pa_cons (pe_tup pa_nil) pa_nil)) (pa_cons pe_int pa_nil))) (pe_one (pe_d (ok__law_is_number T) (hr.mono (by decide)) (g__law_is_number T) passL (pa_cons (pe_m (ok_Costs_cost_of T) (hr.mono (by decide)) (cls_Costs T) (me_Costs_cost_of T) passL (pv 3) (pa_cons (pe_lst pa_nil) pa_nil)) (pa_cons pe_int pa_nil)))))))))), ?_⟩
    walk_at "cl"
    walk_at "x"
    refine ⟨4, rfl, by decide, by decide, ?_⟩
    refine for_it walk_range (fun i σ' H' => (∃ x4 x5 x7 x9 x10 x11 x12, σ' = [some (.ref b), some (.ref wl), some (.ref cl), some (.ref a), x4, x5, none, x7, none, x9, x10, x11, x12]) ∧ BagAt H' b l ∧ Same (hid [b] H) (hid [b] H')) ?_ ?_ ?_ ?_
    · exact ⟨⟨_, _, _, _, _, _, _, rfl⟩, hB, Same.refl _⟩
    · intros
      trivial
    · rintro i x σ' H1 H2 hi ⟨⟨x4, x5, x7, x9, x10, x11, x12, rfl⟩, hB1, hS1⟩ ⟨rfl, rfl⟩
      walk_at "y"
      refine draw_step hB1 (by omega) (by omega) fun m H3 hm hB3 hS3 => ?_
      walk_at "y"
      refine ⟨(m : Int), rfl, by omega, by omega, fun D hD => ?_⟩
      rw [Int.toNat_natCast]
      obtain ⟨nb, nl⟩ := hB3.ne hD
      have hDH : H D = none := hnone (hS1.trans hS3) hD (by simpa using nb)
      refine lc_it walk_range (fun j H' => ∃ ps : List Nat, ps.length = j ∧ (∀ p ∈ ps, p < (allW z ws).length) ∧ H' D = some (.lst (ps.map fun p => V.int (p : Nat))) ∧ BagAt H' b l ∧ Same (hid [b] H) (hid [b] H')) ?_ ?_ ?_ ?_
      · exact ⟨[], rfl, (fun p hp => by cases hp), upd_same, hB3.new hD, hsame_new (hS1.trans hS3) hD⟩
      · intros
        trivial
      · rintro j x H4 H5 hj ⟨ps, hl, hm2, hd, hB4, hS4⟩ ⟨rfl, rfl⟩
        walk_at "y"
        refine ⟨rfl, ?_⟩
        walk_at "y"
        refine v_lenL (sqL_of (getW hS4)) ?_
        walk_at "y"
        rw [List.length_map]
        refine draw_step hB4 (by omega) (by omega) fun p H6 hp hB6 hS6 => ?_
        have hd6 := hid_get hS6 hd (by simpa using nb)
        refine ⟨_, hd6, smallL (by simp; omega), ps ++ [p], by simp [hl], fun q hq => ?_, ?_, hB6.mut nb nl, hsame_mut (hS4.trans hS6) hDH⟩
        · rcases List.mem_append.mp hq with hq | hq
          · exact hm2 q hq
          · rw [List.mem_singleton.mp hq]
            omega
        · rw [upd_same, List.map_append]
          rfl
      · rintro H4 ⟨ps, hl, hps, hd, hB4, hS4⟩
        walk_at "y"
        have wAt : ∀ p, p < (allW z ws).length → ((allW z ws).map V.str)[p]? = some (.str ((allW z ws).getD p (s1 0))) := fun p hp => by
          rw [List.getElem?_map, List.getD_eq_getElem?_getD, List.getElem?_eq_getElem hp]
          rfl
        have cAt : ∀ p, p < (allW z ws).length → (cs.map V.int)[p]? = some (.int (cs.getD p 0)) := fun p hp => by
          have hp : p < cs.length := by omega
          rw [List.getElem?_map, List.getD_eq_getElem?_getD, List.getElem?_eq_getElem hp]
          rfl
        refine ⟨D, rfl, ⟨_, sqL_of hd⟩, fun R hR => ?_⟩
        refine lc_it (walk_list (xs := ps.map fun p => V.int (p : Nat))) (fun j H' => Same H4 H' ∧ H' R = some (.lst (((ps.map fun p => (allW z ws).getD p (s1 0)).take j).map V.str))) ?_ ?_ ?_ ?_
        · exact ⟨same_new hR, upd_same⟩
        · rintro j H' _ ⟨h, _⟩
          exact sqL_of (h _ _ hd)
        · rintro j x H5 H6 hj ⟨h5, hr5⟩ ⟨rfl, hx⟩
          have hj : j < ps.length := by simpa using hj
          have hx : x = .int (ps[j] : Nat) := by
            rw [List.getElem?_map, List.getElem?_eq_getElem hj] at hx
            exact (Option.some.inj hx).symm
          subst hx
          walk_at "y"
          refine ⟨rfl, ?_⟩
          walk_at "y"
          refine v_ixL (v := .str ((allW z ws).getD ps[j] (s1 0))) (sqL_of (h5 _ _ (getW hS4))) (atI_nat (wAt _ (hps _ (List.getElem_mem hj)))) ?_
          refine ⟨_, hr5, smallL (by simp; omega), same_mut h5 hR, ?_⟩
          rw [upd_same, List.take_add_one, List.getElem?_map, List.getElem?_eq_getElem hj, List.map_append]
          rfl
        rintro H5 ⟨h5, hr5⟩
        have e5 : (ps.map fun p => (allW z ws).getD p (s1 0)).take (ps.map fun p => V.int (p : Nat)).length = ps.map fun p => (allW z ws).getD p (s1 0) := List.take_of_length_le (by simp)
        rw [e5] at hr5
        walk_at "y"
        refine ⟨D, rfl, ⟨_, sqL_of (h5 _ _ hd)⟩, fun D2 hD2 => ?_⟩
        refine lc_it (walk_list (xs := ps.map fun p => V.int (p : Nat))) (fun j H' => Same H5 H' ∧ H' D2 = some (.lst (((ps.map fun p => cs.getD p 0).take j).map V.int))) ?_ ?_ ?_ ?_
        · exact ⟨same_new hD2, upd_same⟩
        · rintro j H' _ ⟨h, _⟩
          exact sqL_of (h _ _ (h5 _ _ hd))
        · rintro j x H6 H7 hj ⟨h6, hr6⟩ ⟨rfl, hx⟩
          have hj : j < ps.length := by simpa using hj
          have hx : x = .int (ps[j] : Nat) := by
            rw [List.getElem?_map, List.getElem?_eq_getElem hj] at hx
            exact (Option.some.inj hx).symm
          subst hx
          walk_at "y"
          refine ⟨rfl, ?_⟩
          walk_at "y"
          refine v_ixL (v := .int (cs.getD ps[j] 0)) (sqL_of (h6 _ _ (h5 _ _ (getC hS4)))) (atI_nat (cAt _ (hps _ (List.getElem_mem hj)))) ?_
          refine ⟨_, hr6, smallL (by simp; omega), same_mut h6 hD2, ?_⟩
          rw [upd_same, List.take_add_one, List.getElem?_map, List.getElem?_eq_getElem hj, List.map_append]
          rfl
        rintro H6 ⟨h6, hr6⟩
        have e6 : (ps.map fun p => cs.getD p 0).take (ps.map fun p => V.int (p : Nat)).length = ps.map fun p => cs.getD p 0 := List.take_of_length_le (by simp)
        rw [e6] at hr6
        have hrow : (ps.map fun p => (allW z ws).getD p (s1 0)).map PyData.str = rowD z ws ps := by
          unfold rowD
          rw [List.map_map]
          rfl
        generalize hrv : ps.map (fun p => (allW z ws).getD p (s1 0)) = rw at hr5 hrow
        have hrl : rw.length = ps.length := by rw [← hrv]; simp
        walk_at "y"
        refine ⟨D2, ps.map fun p => cs.getD p 0, rfl, sqL_of hr6, ?_⟩
        walk_at "y"
        have hr6' := h6 _ _ hr5
        refine ⟨R, rw.map V.str, rfl, .inl (sqL_of hr6'), fun h hh => ?_⟩
        have h7 := same_new (o := .lst (rw.map V.str)) hh
        have hS7 : Same (hid [b] H) (hid [b] (upd H6 h (.lst (rw.map V.str)))) := hS4.trans (hid_same ((h5.trans h6).trans h7))
        have hB7 : BagAt (upd H6 h (.lst (rw.map V.str))) b l := hB4.same ((h5.trans h6).trans h7)
        have hr7 := h7 _ _ hr6'
        have hh7 : upd H6 h (.lst (rw.map V.str)) h = some (.lst (rw.map V.str)) := upd_same
        generalize upd H6 h (.lst (rw.map V.str)) = H7 at hS7 hB7 hr7 hh7
        walk_at "y"
        obtain ⟨dx, fs, hi7, hno⟩ := (getA hS7).ins
        refine ⟨a, dx, fs, rfl, hi7, hno, ?_⟩
        walk_at "y"
        refine ⟨R, rw.map V.str, rfl, .inl ⟨sqL_of hr7, fun t ht => ?_⟩⟩
        walk_at "y"
        have h8 := same_new (o := .tup (rw.map V.str)) ht
        have hd8 : ∀ {H8 : Hp}, Same (upd H7 t (.tup (rw.map V.str))) H8 → Dp K H8 (.ref t) (.tuple (rowD z ws ps)) := fun e => by
          rw [← hrow]
          exact .tup (sqT_of (e _ _ upd_same)) (dpAll_strs rw)
        refine ⟨a, wa, .ref t, z, ws, cs, .tuple (rowD z ws ps), rfl, (getA hS7).same h8, hd8 (Same.refl _), .inl ⟨ps, hps, by omega, rfl, fun H9 h9 => ?_⟩⟩
        walk_at "y"
        refine ⟨_, _, rfl, ?_⟩
        rw [decide_eq_true rfl]
        refine ⟨_, rfl, ?_⟩
        refine iteF_of rfl ?_
        walk_at "y"
        have hS9 : Same (hid [b] H) (hid [b] H9) := hS7.trans (hid_same (h8.trans h9))
        have hB9 : BagAt H9 b l := hB7.same (h8.trans h9)
        have hr9 := h9 _ _ (h8 _ _ hr7)
        have hh9 := h9 _ _ (h8 _ _ hh7)
        obtain ⟨dx, fs, hi9, hno⟩ := (getA hS9).ins
        refine ⟨a, dx, fs, rfl, hi9, hno, ?_⟩
        walk_at "y"
        have hdh : ∀ {H8 : Hp}, H8 h = some (.lst (rw.map V.str)) → Dp K H8 (.ref h) (.list (rowD z ws ps)) := fun e => by
          rw [← hrow]
          exact .lst (sqL_of e) (dpAll_strs rw)
        refine ⟨a, wa, .ref h, z, ws, cs, .list (rowD z ws ps), rfl, getA hS9, hdh hh9, .inl ⟨ps, hps, by omega, rfl, fun H10 h10 => ?_⟩⟩
        walk_at "y"
        refine ⟨_, _, rfl, ?_⟩
        rw [decide_eq_true rfl]
        refine ⟨_, rfl, ?_⟩
        refine iteF_of rfl ?_
        walk_at "y"
        have hS10 : Same (hid [b] H) (hid [b] H10) := hS9.trans (hid_same h10)
        have hB10 : BagAt H10 b l := hB9.same h10
        have hr10 := h10 _ _ hr9
        have hh10 := h10 _ _ hh9
        have tr := tame_row al fu hps
        have hdr : ∀ {H8 : Hp}, H8 R = some (.lst (rw.map V.str)) → Dp K H8 (.ref R) (.list (rowD z ws ps)) := fun e => by
          rw [← hrow]
          exact .lst (sqL_of e) (dpAll_strs rw)
        refine ⟨_, _, hdh hh10, hdr hr10, (tame_list tr).shaped (by decide), (tame_list tr).shaped (by decide), ?_⟩
        rw [PySem.SeqAt.eqv_refl _ (tame_list tr).1]
        refine ⟨_, rfl, iteF_of rfl ?_⟩
        walk_at "y"
        refine v_lenL (sqL_of hr10) ?_
        walk_at "y"
        rw [List.length_map]
        refine draw_step hB10 (by omega) (by omega) fun at_ H11 hat hB11 hS11 => ?_
        walk_at "y"
        have hS11' := hS10.trans hS11
        have hr11 := hid_get hS11 hr10 (p := R) (by
          intro hm
          have := List.mem_singleton.mp hm
          subst this
          obtain ⟨_, _, _, _, e, _⟩ := hB10
          rw [hr10] at e
          injection e with e
          injection e with e
          cases rw with
          | nil => simp at e
          | cons u v => simp at e)
        have hw11 := getW hS11'
        have al0 := allW_ok al fu _ m0
        have aln := allW_ok al fu _ mn
        walk_at "x"
        refine v_ixL (v := .str ((allW z ws).getD 0 (s1 0))) (sqL_of hw11) (atI_nat w0) ?_
        walk_at "y"
        refine ⟨_, rfl, rfl, by rw [tl_len]; omega, by rw [tl_len]; omega, ?_⟩
        walk_at "y"
        refine ⟨small (by decide), fun t1 ht1 => ?_⟩
        have g1 := same_new (o := .tup [.str "a"]) ht1
        have gt1 : upd H11 t1 (.tup [.str "a"]) t1 = some (.tup [.str "a"]) := upd_same
        generalize upd H11 t1 (.tup [.str "a"]) = H12 at g1 gt1
        walk_at "y"
        refine v_ixL (v := .str ((allW z ws).getD 0 (s1 0))) (sqL_of (g1 _ _ hw11)) (atI_nat w0) ?_
        walk_at "y"
        refine ⟨small (by show 1 ≤ _; decide), fun t2 ht2 => ?_⟩
        have g2 := same_new (o := .lst [.str ((allW z ws).getD 0 (s1 0))]) ht2
        have gt2 : upd H12 t2 (.lst [.str ((allW z ws).getD 0 (s1 0))]) t2 = some (.lst [.str ((allW z ws).getD 0 (s1 0))]) := upd_same
        generalize upd H12 t2 (.lst [.str ((allW z ws).getD 0 (s1 0))]) = H13 at g2 gt2
        have hw13 := g2 _ _ (g1 _ _ hw11)
        walk_at "y"
        refine v_lenL (sqL_of hw13) ?_
        walk_at "y"
        rw [List.length_map]
        refine v_ixL (v := .str ((allW z ws).getD ((allW z ws).length - 1) (s1 0))) (sqL_of hw13) ?_ ?_
        · rw [show (((allW z ws).length : Nat) : Int) - 1 = (((allW z ws).length - 1 : Nat) : Int) by omega]
          exact atI_nat wn
        walk_at "y"
        have l7 : (Str.ofString "aaaaaaa").cps.toList.length = 7 := by decide +kernel
        refine ⟨_, _, rfl, rfl, small (by rw [tl_len, tl_len, l7]; omega), ?_⟩
        walk_at "y"
        generalize hw0 : (allW z ws).getD 0 (s1 0) = x0 at al0 gt2 m0
        generalize hwn : (allW z ws).getD ((allW z ws).length - 1) (s1 0) = xn at aln mn
        refine ⟨small (by show 7 ≤ _; decide), fun L hL => ?_⟩
        walk_at "y"
        have g3 := same_new (o := .lst [.str "", .str (rep7 x0), .non, .int 3, .ref t1, .ref t2, .str (xn ++ "aaaaaaa")]) hL
        have gL : upd H13 L (.lst [.str "", .str (rep7 x0), .non, .int 3, .ref t1, .ref t2, .str (xn ++ "aaaaaaa")]) L = some (.lst [.str "", .str (rep7 x0), .non, .int 3, .ref t1, .ref t2, .str (xn ++ "aaaaaaa")]) := upd_same
        generalize upd H13 L (.lst [.str "", .str (rep7 x0), .non, .int 3, .ref t1, .ref t2, .str (xn ++ "aaaaaaa")]) = H14 at g3 gL
        have g11 : Same H11 H14 := (g1.trans g2).trans g3
        have hS14 : Same (hid [b] H) (hid [b] H14) := hS11'.trans (hid_same g11)
        have hB14 : BagAt H14 b l := hB11.same g11
        have hr14 := g11 _ _ hr11
        have hall : DpAll K H14 [.str "", .str (rep7 x0), .non, .int 3, .ref t1, .ref t2, .str (xn ++ "aaaaaaa")] [.str "", .str (rep7 x0), .none, .int 3, .tuple [.str "a"], .list [.str x0], .str (xn ++ "aaaaaaa")] :=
          .cons (.str _) (.cons (.str _) (.cons .non (.cons (.int 3) (.cons (.tup (sqT_of (g3 _ _ (g2 _ _ gt1))) (.cons (.str _) .nil)) (.cons (.lst (sqL_of (g3 _ _ gt2)) (.cons (.str _) .nil)) (.cons (.str _) .nil))))))
        have a7 : ∀ c ∈ (Str.ofString "aaaaaaa").cps.toList, c ≤ 126 := by decide +kernel
        have hbad : ∀ e ∈ ([.str "", .str (rep7 x0), .none, .int 3, .tuple [.str "a"], .list [.str x0], .str (xn ++ "aaaaaaa")] : List PyData), dHas z ws e = false ∧ Tame 5 e := by
          intro e he
          simp only [List.mem_cons, List.not_mem_nil, or_false] at he
          rcases he with rfl | rfl | rfl | rfl | rfl | rfl | rfl
          · exact ⟨no_word al fu (.inl (by decide +kernel)), tame_str (by decide +kernel)⟩
          · exact ⟨no_word al fu (.inr (by rw [← tl_len, rep7_length, tl_len]; omega)), tame_str fun c hc => al0.2.2 c (rep7_mem hc)⟩
          · exact ⟨rfl, tame_none⟩
          · exact ⟨rfl, tame_int _⟩
          · exact ⟨rfl, (tame_tuple (k := 1) (fun e he => by rw [List.mem_singleton.mp he]; exact tame_str (by decide +kernel))).mono (by decide)⟩
          · exact ⟨rfl, (tame_list (k := 1) (fun e he => by rw [List.mem_singleton.mp he]; exact tame_str al0.2.2)).mono (by decide)⟩
          · refine ⟨no_word al fu (.inr ?_), tame_str fun c hc => ?_⟩
            · rw [app_cps, List.length_append, l7]
              omega
            · rw [app_cps] at hc
              rcases List.mem_append.mp hc with hc | hc
              · exact aln.2.2 c hc
              · exact a7 c hc
        have dr14 : ∀ {H' : Hp}, Same H14 H' → DpAll K H' (rw.map V.str) (rowD z ws ps) := fun e => by
          rw [← hrow]
          exact dpAll_strs rw
        refine ⟨L, rfl, ⟨_, sqL_of gL⟩, ?_⟩
        refine for_it (walk_list (xs := [.str "", .str (rep7 x0), .non, .int 3, .ref t1, .ref t2, .str (xn ++ "aaaaaaa")])) (fun j σ' H' => (∃ y, σ' = [some (.ref b), some (.ref wl), some (.ref cl), some (.ref a), some (.int (0 + (i : Nat))), some (.ref D), none, some (.ref R), none, some (.int (ps.map fun p => cs.getD p 0).sum), some (.ref h), some (.int (at_ : Nat)), y]) ∧ Same H14 H') ?_ ?_ ?_ ?_
        · exact ⟨⟨_, rfl⟩, Same.refl _⟩
        · rintro j σ' H' _ ⟨_, h⟩
          exact sqL_of (h _ _ gL)
        · rintro j x σ' H15 H16 hj ⟨⟨y, rfl⟩, h15⟩ ⟨rfl, hx⟩
          obtain ⟨e, he, hde⟩ := dpAll_get hall hx
          obtain ⟨hb1, hb2⟩ := hbad e (List.mem_of_getElem? he)
          have hr15 := h15 _ _ hr14
          walk_at "y"
          refine ⟨R, rw.map V.str, rfl, sqL_of hr15, fun u1 hu1 => ?_⟩
          rw [cut_take]
          have q1 : Same H16 _ := same_new (o := .lst ((rw.map V.str).take at_)) hu1
          walk_at "y"
          refine ⟨small (by show 1 ≤ _; decide), fun u2 hu2 => ?_⟩
          have q2 := same_upd (o := .lst [x]) q1 hu2
          walk_at "y"
          refine ⟨u1, u2, _, _, rfl, rfl, same_new hu2 _ _ upd_same, upd_same, small (by simp; omega), fun u3 hu3 => ?_⟩
          have q3 := same_upd (o := .lst ((rw.map V.str).take at_ ++ [x])) q2 hu3
          walk_at "y"
          refine ⟨R, rw.map V.str, rfl, sqL_of (q3 _ _ hr15), fun u4 hu4 => ?_⟩
          rw [cut_drop]
          have q4 := same_upd (o := .lst ((rw.map V.str).drop at_)) q3 hu4
          walk_at "y"
          refine ⟨u3, u4, _, _, rfl, rfl, same_new hu4 _ _ upd_same, upd_same, small (by simp; omega), fun u5 hu5 => ?_⟩
          have q5 := same_upd (o := .lst ((rw.map V.str).take at_ ++ [x] ++ (rw.map V.str).drop at_)) q4 hu5
          walk_at "y"
          refine ⟨u5, _, rfl, .inl ⟨sqL_of upd_same, fun u6 hu6 => ?_⟩⟩
          have q6 := same_upd (o := .tup ((rw.map V.str).take at_ ++ [x] ++ (rw.map V.str).drop at_)) q5 hu6
          walk_at "y"
          have hS16 : Same (hid [b] H) (hid [b] _) := hS14.trans (hid_same (h15.trans q6))
          have hmix : DpAll K _ ((rw.map V.str).take at_ ++ [x] ++ (rw.map V.str).drop at_) ((rowD z ws ps).take at_ ++ [e] ++ (rowD z ws ps).drop at_) :=
            dpAll_append (dpAll_append (dpAll_take at_ (dr14 (h15.trans q6))) (.cons (dp_same (h15.trans q6) _ _ hde) .nil)) (dpAll_drop at_ (dr14 (h15.trans q6)))
          refine ⟨a, wa, .ref u6, z, ws, cs, .tuple ((rowD z ws ps).take at_ ++ [e] ++ (rowD z ws ps).drop at_), rfl, getA hS16, .tup (sqT_of upd_same) hmix, (tame_tuple (mix_tame tr hb2)).shaped (by decide), mix_way hb1, fun H17 h17 => ?_⟩
          refine ⟨_, rfl, ?_⟩
          refine iteF_of rfl ?_
          walk_at "y"
          exact ⟨⟨_, rfl⟩, (h15.trans q6).trans h17⟩
        · rintro σ' H15 ⟨⟨y, rfl⟩, h15⟩
          have hr15 := h15 _ _ hr14
          walk_at "y"
          refine ⟨R, rw.map V.str, rfl, sqL_of hr15, fun u1 hu1 => ?_⟩
          rw [cut_take]
          have q1 : Same H15 _ := same_new (o := .lst ((rw.map V.str).take at_)) hu1
          walk_at "y"
          refine ⟨small (by show 1 ≤ _; decide), fun u2 hu2 => ?_⟩
          have q2 := same_upd (o := .lst [V.non]) q1 hu2
          walk_at "y"
          refine ⟨u1, u2, _, _, rfl, rfl, same_new hu2 _ _ upd_same, upd_same, small (by simp; omega), fun u3 hu3 => ?_⟩
          have q3 := same_upd (o := .lst ((rw.map V.str).take at_ ++ [V.non])) q2 hu3
          walk_at "y"
          refine ⟨R, rw.map V.str, rfl, sqL_of (q3 _ _ hr15), fun u4 hu4 => ?_⟩
          rw [cut_drop]
          have q4 := same_upd (o := .lst ((rw.map V.str).drop at_)) q3 hu4
          walk_at "y"
          refine ⟨u3, u4, _, _, rfl, rfl, same_new hu4 _ _ upd_same, upd_same, small (by simp; omega), fun u5 hu5 => ?_⟩
          have q5 := same_upd (o := .lst ((rw.map V.str).take at_ ++ [V.non] ++ (rw.map V.str).drop at_)) q4 hu5
          walk_at "y"
          have hS16 : Same (hid [b] H) (hid [b] _) := hS14.trans (hid_same (h15.trans q5))
          have hmix : DpAll K _ ((rw.map V.str).take at_ ++ [V.non] ++ (rw.map V.str).drop at_) ((rowD z ws ps).take at_ ++ [.none] ++ (rowD z ws ps).drop at_) :=
            dpAll_append (dpAll_append (dpAll_take at_ (dr14 (h15.trans q5))) (.cons .non .nil)) (dpAll_drop at_ (dr14 (h15.trans q5)))
          refine ⟨a, wa, .ref u5, z, ws, cs, .list ((rowD z ws ps).take at_ ++ [.none] ++ (rowD z ws ps).drop at_), rfl, getA hS16, .lst (sqL_of upd_same) hmix, (tame_list (mix_tame tr tame_none)).shaped (by decide), mix_way rfl, fun H17 h17 => ?_⟩
          refine ⟨_, rfl, ?_⟩
          refine iteF_of rfl ?_
          walk_at "y"
          exact ⟨⟨_, _, _, _, _, _, _, rfl⟩, hB14.same ((h15.trans q5).trans h17), hS14.trans (hid_same ((h15.trans q5).trans h17))⟩
    · rintro σ' H1 ⟨⟨x4, x5, x7, x9, x10, x11, x12, rfl⟩, hB1, hS1⟩
      have hw1 := getW hS1
      have al0 := allW_ok al fu _ m0
      have aln := allW_ok al fu _ mn
      walk_at "x"
      refine v_ixL (v := .str ((allW z ws).getD 0 (s1 0))) (sqL_of hw1) (atI_nat w0) ?_
      walk_at "y"
      refine v_lenL (sqL_of hw1) ?_
      walk_at "y"
      rw [List.length_map]
      refine v_ixL (v := .str ((allW z ws).getD ((allW z ws).length - 1) (s1 0))) (sqL_of hw1) ?_ ?_
      · rw [show (((allW z ws).length : Nat) : Int) - 1 = (((allW z ws).length - 1 : Nat) : Int) by omega]
        exact atI_nat wn
      walk_at "y"
      generalize hw0 : (allW z ws).getD 0 (s1 0) = x0 at al0 m0
      generalize hwn : (allW z ws).getD ((allW z ws).length - 1) (s1 0) = xn at aln mn
      refine ⟨small (by show 5 ≤ _; decide), fun L hL => ?_⟩
      walk_at "y"
      have g3 := same_new (o := .lst [.non, .int 5, .bl true, .str x0, .str xn]) hL
      have gL : upd H1 L (.lst [.non, .int 5, .bl true, .str x0, .str xn]) L = some (.lst [.non, .int 5, .bl true, .str x0, .str xn]) := upd_same
      generalize upd H1 L (.lst [.non, .int 5, .bl true, .str x0, .str xn]) = H14 at g3 gL
      have hS14 : Same (hid [b] H) (hid [b] H14) := hS1.trans (hid_same g3)
      have hB14 : BagAt H14 b l := hB1.same g3
      have hall : DpAll K H14 [.non, .int 5, .bl true, .str x0, .str xn] [.none, .int 5, .bool true, .str x0, .str xn] :=
        .cons .non (.cons (.int 5) (.cons (.bl true) (.cons (.str _) (.cons (.str _) .nil))))
      have hbad : ∀ e ∈ ([.none, .int 5, .bool true, .str x0, .str xn] : List PyData), dWay z ws (dRow e) = false ∧ Tame 5 e := by
        intro e he
        simp only [List.mem_cons, List.not_mem_nil, or_false] at he
        rcases he with rfl | rfl | rfl | rfl | rfl
        · exact ⟨rfl, tame_none⟩
        · exact ⟨rfl, tame_int _⟩
        · exact ⟨rfl, tame_bool _⟩
        · exact ⟨rfl, tame_str al0.2.2⟩
        · exact ⟨rfl, tame_str aln.2.2⟩
      refine ⟨L, rfl, ⟨_, sqL_of gL⟩, ?_⟩
      refine for_it (walk_list (xs := [.non, .int 5, .bl true, .str x0, .str xn])) (fun j σ' H' => (∃ y, σ' = [some (.ref b), some (.ref wl), some (.ref cl), some (.ref a), x4, x5, none, x7, none, x9, x10, x11, y]) ∧ Same H14 H') ?_ ?_ ?_ ?_
      · exact ⟨⟨_, rfl⟩, Same.refl _⟩
      · rintro j σ' H' _ ⟨_, h⟩
        exact sqL_of (h _ _ gL)
      · rintro j x σ' H15 H16 hj ⟨⟨y, rfl⟩, h15⟩ ⟨rfl, hx⟩
        obtain ⟨e, he, hde⟩ := dpAll_get hall hx
        obtain ⟨hb1, hb2⟩ := hbad e (List.mem_of_getElem? he)
        walk_at "y"
        refine ⟨a, wa, x, z, ws, cs, e, rfl, getA (hS14.trans (hid_same h15)), dp_same h15 _ _ hde, hb2.shaped (by decide), hb1, fun H17 h17 => ?_⟩
        refine ⟨_, rfl, ?_⟩
        refine iteF_of rfl ?_
        walk_at "y"
        exact ⟨⟨_, rfl⟩, h15.trans h17⟩
      · rintro σ' H15 ⟨⟨y, rfl⟩, h15⟩
        have hS15 := hS14.trans (hid_same h15)
        walk_at "y"
        obtain ⟨dx, fs, hi7, hno⟩ := (getA hS15).ins
        refine ⟨a, dx, fs, rfl, hi7, hno, ?_⟩
        walk_at "y"
        refine ⟨Nat.zero_le _, fun t ht => ?_⟩
        have k1 := same_new (o := .tup []) ht
        walk_at "y"
        refine ⟨a, wa, .ref t, z, ws, cs, .tuple (rowD z ws []), rfl, (getA hS15).same k1, .tup (sqT_of upd_same) .nil, .inl ⟨[], (fun p hp => by cases hp), Nat.zero_le _, rfl, fun H16 h16 => ?_⟩⟩
        walk_at "y"
        refine ⟨_, _, rfl, ?_⟩
        refine ⟨_, rfl, iteT_of rfl ?_⟩
        walk_at "y"
        have hS16 := hS15.trans (hid_same (k1.trans h16))
        obtain ⟨dx, fs, hi7, hno⟩ := (getA hS16).ins
        refine ⟨a, dx, fs, rfl, hi7, hno, ?_⟩
        walk_at "y"
        refine ⟨Nat.zero_le _, fun t2 ht2 => ?_⟩
        have k2 := same_new (o := .lst []) ht2
        walk_at "y"
        refine ⟨a, wa, .ref t2, z, ws, cs, .list (rowD z ws []), rfl, (getA hS16).same k2, .lst (sqL_of upd_same) .nil, .inl ⟨[], (fun p hp => by cases hp), Nat.zero_le _, rfl, fun H17 h17 => ?_⟩⟩
        walk_at "y"
        refine ⟨_, _, rfl, ?_⟩
        exact k _ (hB14.same (h15.trans ((k1.trans h16).trans (k2.trans h17)))) (hS16.trans (hid_same (k2.trans h17)))
end

end K76

namespace K76
open PySem PySem.Spec L2 PH
open C8 (tCut pss_cut)
section
variable {P : Program} {w : World} {K : PySem.W.Frag} {mg : Str → Option Value} {base : Heap}
theorem dFault_list {n : Nat} {ds : List PyData} (h : ds.length ≠ n) : dFault n (.list ds) = some (.list ds) := by
  show (if ds.length = n then _ else _) = _
  rw [if_neg h]
theorem dFault_tuple {n : Nat} {ds : List PyData} (h : ds.length ≠ n) : dFault n (.tuple ds) = some (.tuple ds) := by
  show (if ds.length = n then _ else _) = _
  rw [if_neg h]
def spFaults (K : PySem.W.Frag) : Sp := fun vs H Q _ => ∃ (b l wa cl a : Addr) (z : Str) (ws : List Str) (cs : List Int), vs = [.ref b, .ref wa, .ref cl, .ref a] ∧ BagAt H b l ∧ cl ≠ b ∧
  H cl = some (.lst (cs.map V.int)) ∧ CostsAt K (hid [b] H) a wa z ws cs ∧ ∀ H', BagAt H' b l → Same (hid [b] H) (hid [b] H') → Q (.bl true) H'
theorem ok__law_faults (T : Ev fa fx fn K mg base) : Dn P w K mg base 7 (He.ga K "_law_faults") ["bag", "plain", "costs", "priced"] (spFaults K) := by
  refine dn_of (d__law_faults T) sc__law_faults bo__law_faults (fun vs H Q E h => ?_) (fun cdv A outer s H vs Q E hr h => ?_)
  · obtain ⟨b, l, wa, cl, a, z, ws, cs, rfl, _⟩ := h
    rfl
  · obtain ⟨b, l, wa, cl, a, z, ws, cs, rfl, hB, ncb, hcl, hC, k⟩ := h
    have al := hC.wo.al
    have fu := hC.wo.fu
    obtain ⟨np1, np2⟩ := allW_pos al fu
    have hcn := hC.len
    have hbd := hC.bd
    have getC : ∀ {H' : Hp}, Same (hid [b] H) (hid [b] H') → H' cl = some (.lst (cs.map V.int)) := fun e => hid_get e hcl (by simpa using ncb)
    have getA : ∀ {H' : Hp}, Same (hid [b] H) (hid [b] H') → CostsAt K H' a wa z ws cs := fun e => hC.same (e.trans hid_sub)
    have ⟨_, _, dxw, _, _, fsw, _, ww1, ww2, _⟩ := hC.wo
    refine ⟨_, (PSs.nox (pss_cons (ps_for PassesOwn.never rfl (pi_list (pe_lst (pa_cons pe_non (pa_cons pe_str (pa_cons pe_int (pa_cons (pe_tup (pa_cons pe_str (pa_cons (pe_tup pa_nil) pa_nil))) (pa_cons (pv 3) (pa_cons (pe_mk' (ok_Joins___init__ T) (mkr_Joins T) (hr.mono (by decide)) (g_Joins T) passL (pa_cons (pe_fldK (K := K) rfl (pv 1) rfl) (pa_cons (pe_tup pa_nil) pa_nil))) pa_nil)))))))) (pg_name (i := 4) sc__law_faults.nd rfl (.inl rfl))
        (pss_one (ps_if (pw_or (pt_not (pt_val (pe_d (ok__law_fault T) (hr.mono (by decide)) (g__law_fault T) passL (pa_cons (pv 4) (pa_cons (pe_callTy call_list_of (by rfl) (f_list T) bb_list (pa_cons (pv 2) pa_nil)) (pa_cons pe_str pa_nil)))))) (pw_or1 (pt_not (pt_val (pe_d (ok__law_fault T) (hr.mono (by decide)) (g__law_fault T) passL (pa_cons (pv 4) (pa_cons pe_non (pa_cons pe_str pa_nil)))))))).pt
        (pss_one (ps_ret pe_bl)) pss_nil)))
      (pss_cons (ps_set (i := 5) sc__law_faults.nd rfl (.inl rfl) (pe_d (ok__law_draw T) (hr.mono (by decide)) (g__law_draw T) passL (pa_cons (pv 0) (pa_cons (pe_callB (call_lenK (K := K) rfl) (by rfl) (f_len T) bb_len (pa_cons (pv 2) pa_nil)) pa_nil))))
      (pss_cons (ps_set (i := 6) sc__law_faults.nd rfl (.inl rfl) (pe_lst (pa_cons pe_int (pa_cons pe_int (pa_cons (pe_un un_neg pe_int) (pa_cons pe_bl (pa_cons pe_bl (pa_cons pe_non (pa_cons pe_str (pa_cons (pe_tup (pa_cons pe_int pa_nil)) (pa_cons (pe_op op_add pe_int (pe_d (ok__law_draw T) (hr.mono (by decide)) (g__law_draw T) passL (pa_cons (pv 0) (pa_cons (pe_op op_pow pe_int pe_int) pa_nil)))) pa_nil)))))))))))
      (pss_cons (ps_set (i := 7) sc__law_faults.nd rfl (.inl rfl) (pe_ix (ix_listK (K := K) rfl) (pv 6) (pe_d (ok__law_draw T) (hr.mono (by decide)) (g__law_draw T) passL (pa_cons (pv 0) (pa_cons pe_int pa_nil))) (fun _ _ => rfl)))
      (pss_cons (ps_for PassesOwn.never rfl (pi_list (pe_lst (pa_cons pe_non (pa_cons pe_int (pa_cons pe_bl (pa_cons (pe_tup pa_nil) (pa_cons (pe_slice sl_list (pv 2) po_none (po_some (pe_un un_neg pe_int))) (pa_cons (pe_op op_cat (pv 2) (pe_lst (pa_cons pe_int pa_nil))) (pa_cons (pe_callTy call_tuple_of (by rfl) (f_tuple T) bb_tuple (pa_cons (pe_op op_cat (pv 2) (pe_lst (pa_cons pe_int pa_nil))) pa_nil)) (pa_cons (pe_op op_cat (pe_op op_cat (pe_slice sl_list (pv 2) po_none (po_some (pv 5))) (pe_lst (pa_cons (pv 7) pa_nil))) (pe_slice sl_list (pv 2) (po_some (pv 5)) po_none)) pa_nil)))))))))) (pg_name (i := 8) sc__law_faults.nd rfl (.inl rfl))
        (pss_one (ps_if (pt_not (pt_val (pe_d (ok__law_fault T) (hr.mono (by decide)) (g__law_fault T) passL (pa_cons (pv 1) (pa_cons (pv 8) (pa_cons (pv 8) pa_nil))))))
        (pss_one (ps_ret pe_bl)) pss_nil)))
      (pss_cons (ps_for PassesOwn.never rfl (pi_list (pv 6)) (pg_name (i := 7) sc__law_faults.nd rfl (.inl rfl))
        (pss_cons (ps_set (i := 8) sc__law_faults.nd rfl (.inl rfl) (pe_op op_cat (pe_op op_cat (pe_slice sl_list (pv 2) po_none (po_some (pv 5))) (pe_lst (pa_cons (pv 7) pa_nil))) (pe_slice sl_list (pv 2) (po_some (pe_op op_add (pv 5) pe_int)) po_none)))
      (pss_cut (ps_if (pt_cmpR op_lt (pe_op op_add (pv 5) pe_int) (pe_callB (call_lenK (K := K) rfl) (by rfl) (f_len T) bb_len (pa_cons (pv 2) pa_nil)) (nomark _))
        (pss_one (ps_asg (pe_ix (ix_listK (K := K) rfl) (pv 6) (pe_d (ok__law_draw T) (hr.mono (by decide)) (g__law_draw T) passL (pa_cons (pv 0) (pa_cons pe_int pa_nil))) (fun _ _ => rfl)) (pg_sub (pv 8) (pe_op op_sub (pe_callB (call_lenK (K := K) rfl) (by rfl) (f_len T) bb_len (pa_cons (pv 2) pa_nil)) pe_int) set_list))) pss_nil)
      (pss_one (ps_if (pw_or (pt_not (pt_val (pe_d (ok__law_fault T) (hr.mono (by decide)) (g__law_fault T) passL (pa_cons (pv 1) (pa_cons (pv 8) (pa_cons (pv 7) pa_nil)))))) (pw_or1 (pt_not (pt_val (pe_d (ok__law_fault T) (hr.mono (by decide)) (g__law_fault T) passL (pa_cons (pv 1) (pa_cons (pe_callTy call_tuple_of (by rfl) (f_tuple T) bb_tuple (pa_cons (pv 8) pa_nil)) (pa_cons (pv 7) pa_nil)))))))).pt
        (pss_one (ps_ret pe_bl)) pss_nil)))))
      (pss_one (ps_ret pe_bl))))))))), ?_⟩
    walk_at "cl"
    walk_at "x"
    refine ⟨Nat.zero_le _, fun t0 ht0 => ?_⟩
    have g0 := same_new (o := .tup []) ht0
    generalize upd H t0 (.tup []) = G0 at g0
    walk_at "y"
    refine ⟨small (by show 2 ≤ _; decide), fun t1 ht1 => ?_⟩
    have g1 := same_new (o := .tup [.str "ab", .ref t0]) ht1
    have gt1 : upd G0 t1 (.tup [.str "ab", .ref t0]) t1 = some (.tup [.str "ab", .ref t0]) := upd_same
    generalize upd G0 t1 (.tup [.str "ab", .ref t0]) = G1 at g1 gt1
    have gw1 := (g0.trans g1) _ _ (hid_sub _ _ ww1)
    walk_at "y"
    refine ⟨_, _, _, _, _, rfl, gw1, (cls_Words T), (no_Words_alphabet T), ww2, ?_⟩
    walk_at "y"
    refine ⟨Nat.zero_le _, fun t2 ht2 => ?_⟩
    have g2 := same_new (o := .tup []) ht2
    have gt2 : upd G1 t2 (.tup []) t2 = some (.tup []) := upd_same
    generalize upd G1 t2 (.tup []) = G2 at g2 gt2
    walk_at "y"
    intro j dxj hj hdxj hnej
    have gj0 : Same G2 (upd (upd G2 dxj (.own j)) j (.ins (He.ga K "Joins") dxj [])) := same_upd (same_new hdxj) (by rw [upd_ne (Ne.symm hnej)]; exact hj)
    refine ⟨j, dxj, z, t2, rfl, upd_same, sqT_of (gj0 _ _ gt2), al, fun G3 fsj hfj hSj => ⟨rfl, ?_⟩⟩
    have g3 : Same G2 G3 := make_same hSj hj hdxj hnej
    walk_at "y"
    refine ⟨small (by show 6 ≤ _; decide), fun L hL => ?_⟩
    have g4 := same_new (o := .lst [.non, .str "ab", .int 3, .ref t1, .ref a, .ref j]) hL
    have gL : upd G3 L (.lst [.non, .str "ab", .int 3, .ref t1, .ref a, .ref j]) L = some (.lst [.non, .str "ab", .int 3, .ref t1, .ref a, .ref j]) := upd_same
    generalize upd G3 L (.lst [.non, .str "ab", .int 3, .ref t1, .ref a, .ref j]) = G4 at g4 gL
    have gg : Same H G4 := ((g0.trans g1).trans (g2.trans g3)).trans g4
    have hS4 : Same (hid [b] H) (hid [b] G4) := hid_same gg
    have hB4 : BagAt G4 b l := hB.same gg
    have hA4 := getA hS4
    have hty : ∀ x ∈ ([.non, .str "ab", .int 3, .ref t1, .ref a, .ref j] : List V), ∃ t, TyX K G4 x t ∧ PySem.W.kitOne K t (.ref (He.ga K "Words")) = some false := by
      intro x hx
      simp only [List.mem_cons, List.not_mem_nil, or_false] at hx
      rcases hx with rfl | rfl | rfl | rfl | rfl | rfl
      · exact ⟨_, .base .non, kit_NoneType_Words T⟩
      · exact ⟨_, .base (.str _), kit_str_Words T⟩
      · exact ⟨_, .base (.int _), kit_int_Words T⟩
      · exact ⟨_, ty_sqT (sqT_of ((g2.trans g3).trans g4 _ _ gt1)), kit_tuple_Words T⟩
      · exact ⟨_, hA4.ty T, kit_Costs_Words T⟩
      · exact ⟨_, ty_ins (g4 _ _ hfj) (cls_Joins T) (ins_Joins T), kit_Joins_Words T⟩
    refine ⟨L, rfl, ⟨_, sqL_of gL⟩, ?_⟩
    refine for_it (walk_list (xs := [.non, .str "ab", .int 3, .ref t1, .ref a, .ref j])) (fun i σ' H' => (∃ y, σ' = [some (.ref b), some (.ref wa), some (.ref cl), some (.ref a), y, none, none, none, none]) ∧ Same G4 H') ?_ ?_ ?_ ?_
    · exact ⟨⟨_, rfl⟩, Same.refl _⟩
    · rintro j σ' H' _ ⟨_, h⟩
      exact sqL_of (h _ _ gL)
    · rintro i x σ' H5 H6 hi ⟨⟨y, rfl⟩, h5⟩ ⟨rfl, hx⟩
      obtain ⟨t, ht, hk⟩ := hty x (List.mem_of_getElem? hx)
      walk_at "y"
      refine ⟨cl, cs.map V.int, rfl, .inl (sqL_of (h5 _ _ (getC hS4))), fun q hq => ?_⟩
      have h7 := same_upd (o := .lst (cs.map V.int)) h5 hq
      walk_at "y"
      refine ⟨x, .ref q, .str "words", rfl, .inl ⟨t, ty_same h7 ht, hk, rfl⟩, fun H8 h8 => ?_⟩
      refine ⟨_, rfl, iteF_of rfl ?_⟩
      walk_at "y"
      have h9 := h7.trans h8
      refine ⟨x, .non, .str "words", rfl, .inl ⟨t, ty_same h9 ht, hk, rfl⟩, fun H10 h10 => ?_⟩
      refine ⟨_, rfl, iteF_of rfl ?_⟩
      walk_at "y"
      exact ⟨⟨_, rfl⟩, h9.trans h10⟩
    · rintro σ' H5 ⟨⟨y, rfl⟩, h5⟩
      have hS5 := hS4.trans (hid_same h5)
      have hB5 := hB4.same h5
      walk_at "y"
      refine v_lenL (sqL_of (getC hS5)) ?_
      walk_at "y"
      rw [List.length_map]
      refine draw_step hB5 (by omega) (by omega) fun at_ H6 hat hB6 hS6' => ?_
      have hS6 := hS5.trans hS6'
      walk_at "y"
      refine ⟨small (by show 1 ≤ _; decide), fun t3 ht3 => ?_⟩
      have g7 := same_new (o := .tup [.int 1]) ht3
      have gt3 : upd H6 t3 (.tup [.int 1]) t3 = some (.tup [.int 1]) := upd_same
      have nt3 := (hB6.ne ht3).1
      have hB7 := hB6.same g7
      have hS7 := hS6.trans (hid_same g7)
      generalize upd H6 t3 (.tup [.int 1]) = H7 at g7 gt3 hB7 hS7
      walk_at "y"
      refine draw_step hB7 (by decide) (by decide) fun r H8 hr8 hB8 hS8' => ?_
      have hS8 := hS7.trans hS8'
      have gt38 := hid_get hS8' gt3 (by simpa using nt3)
      walk_at "y"
      refine ⟨small (by show 9 ≤ _; decide), fun W hW => ?_⟩
      have g9 := same_new (o := .lst [.int 0, .int 10, .int (-1), .bl true, .bl false, .non, .str "3", .ref t3, .int (10 + (r : Int))]) hW
      have gW : upd H8 W (.lst [.int 0, .int 10, .int (-1), .bl true, .bl false, .non, .str "3", .ref t3, .int (10 + (r : Int))]) W = some (.lst [.int 0, .int 10, .int (-1), .bl true, .bl false, .non, .str "3", .ref t3, .int (10 + (r : Int))]) := upd_same
      have nW := (hB8.ne hW).1
      have hB9 := hB8.same g9
      have hS9 := hS8.trans (hid_same g9)
      generalize upd H8 W (.lst [.int 0, .int 10, .int (-1), .bl true, .bl false, .non, .str "3", .ref t3, .int (10 + (r : Int))]) = H9 at g9 gW hB9 hS9
      have gt39 := g9 _ _ gt38
      have hall : ∀ {H' : Hp}, H' t3 = some (.tup [.int 1]) → DpAll K H' [.int 0, .int 10, .int (-1), .bl true, .bl false, .non, .str "3", .ref t3, .int (10 + (r : Int))] [.int 0, .int 10, .int (-1), .bool true, .bool false, .none, .str "3", .tuple [.int 1], .int (10 + (r : Int))] := fun h =>
        .cons (.int _) (.cons (.int _) (.cons (.int _) (.cons (.bl _) (.cons (.bl _) (.cons .non (.cons (.str _) (.cons (.tup (sqT_of h) (.cons (.int _) .nil)) (.cons (.int _) .nil))))))))
      have hbad : ∀ e ∈ ([.int 0, .int 10, .int (-1), .bool true, .bool false, .none, .str "3", .tuple [.int 1], .int (10 + (r : Int))] : List PyData), dBet 1 9 e = false ∧ Tame 5 e ∧ PyData.eqv e (.str "words") = false := by
        intro e he
        simp only [List.mem_cons, List.not_mem_nil, or_false] at he
        rcases he with rfl | rfl | rfl | rfl | rfl | rfl | rfl | rfl | rfl
        · exact ⟨rfl, tame_int _, rfl⟩
        · exact ⟨rfl, tame_int _, rfl⟩
        · exact ⟨rfl, tame_int _, rfl⟩
        · exact ⟨rfl, tame_bool _, rfl⟩
        · exact ⟨rfl, tame_bool _, rfl⟩
        · exact ⟨rfl, tame_none, rfl⟩
        · exact ⟨rfl, tame_str (by decide +kernel), by decide +kernel⟩
        · exact ⟨rfl, (tame_tuple (k := 1) (fun e he => by rw [List.mem_singleton.mp he]; exact tame_int _)).mono (by decide), rfl⟩
        · exact ⟨decide_eq_false (by omega), tame_int _, rfl⟩
      generalize hxs9 : ([.int 0, .int 10, .int (-1), .bl true, .bl false, .non, .str "3", .ref t3, .int (10 + (r : Int))] : List V) = xs9 at gW hall
      generalize hds9 : ([.int 0, .int 10, .int (-1), .bool true, .bool false, .none, .str "3", .tuple [.int 1], .int (10 + (r : Int))] : List PyData) = ds9 at hbad hall
      have hl9 : xs9.length = 9 := by rw [← hxs9]; rfl
      have pick : ∀ (q : Nat), q < 9 → ∃ x e, xs9[q]? = some x ∧ (∀ {H' : Hp}, H' t3 = some (.tup [.int 1]) → Dp K H' x e) ∧ dBet 1 9 e = false ∧ Tame 5 e ∧ PyData.eqv e (.str "words") = false := by
        intro q hq
        have hx : xs9[q]? = some xs9[q] := List.getElem?_eq_getElem (by omega)
        obtain ⟨e, he, _⟩ := dpAll_get (hall gt39) hx
        obtain ⟨e1, e2, e3⟩ := hbad e (List.mem_of_getElem? he)
        refine ⟨_, e, hx, fun h => ?_, e1, e2, e3⟩
        obtain ⟨e', he', hd⟩ := dpAll_get (hall h) hx
        rw [he] at he'
        cases he'
        exact hd
      walk_at "y"
      refine draw_step hB9 (by decide) (by decide) fun q H10 hq10 hB10 hS10' => ?_
      have hS10 := hS9.trans hS10'
      have gW10 := hid_get hS10' gW (by simpa using nW)
      have gt310 := hid_get hS10' gt39 (by simpa using nt3)
      obtain ⟨xq, eq, hxq, hdq, hq1, hq2, hq3⟩ := pick q (by omega)
      walk_at "y"
      refine v_ixL (v := xq) (sqL_of gW10) (atI_nat hxq) ?_
      walk_at "x"
      refine ⟨Nat.zero_le _, fun e0 he0 => ?_⟩
      have k0 := same_new (o := .tup []) he0
      have gE0 : upd H10 e0 (.tup []) e0 = some (.tup []) := upd_same
      generalize upd H10 e0 (.tup []) = M0 at k0 gE0
      have hc0 := k0 _ _ (getC hS10)
      walk_at "y"
      refine ⟨cl, cs.map V.int, rfl, sqL_of hc0, fun e1 he1 => ?_⟩
      rw [show (-1 : Int) = -1 from rfl, cut_last']
      have k1 := same_new (o := .lst ((cs.map V.int).take ((cs.map V.int).length - 1))) he1
      have gE1 : upd M0 e1 (.lst ((cs.map V.int).take ((cs.map V.int).length - 1))) e1 = _ := upd_same
      generalize upd M0 e1 (.lst ((cs.map V.int).take ((cs.map V.int).length - 1))) = M1 at k1 gE1
      walk_at "y"
      refine ⟨small (by show 1 ≤ _; decide), fun e2 he2 => ?_⟩
      have k2 := same_new (o := .lst [.int 5]) he2
      have gE2 : upd M1 e2 (.lst [.int 5]) e2 = _ := upd_same
      generalize upd M1 e2 (.lst [.int 5]) = M2 at k2 gE2
      walk_at "y"
      have hc2 := k2 _ _ (k1 _ _ hc0)
      refine ⟨cl, e2, _, _, rfl, rfl, hc2, gE2, small (by simp; omega), fun e3 he3 => ?_⟩
      have k3 := same_new (o := .lst (cs.map V.int ++ [.int 5])) he3
      have gE3 : upd M2 e3 (.lst (cs.map V.int ++ [.int 5])) e3 = _ := upd_same
      generalize upd M2 e3 (.lst (cs.map V.int ++ [.int 5])) = M3 at k3 gE3
      walk_at "y"
      refine ⟨small (by show 1 ≤ _; decide), fun e4 he4 => ?_⟩
      have k4 := same_new (o := .lst [.int 1]) he4
      have gE4 : upd M3 e4 (.lst [.int 1]) e4 = _ := upd_same
      generalize upd M3 e4 (.lst [.int 1]) = M4 at k4 gE4
      walk_at "y"
      have hc4 := k4 _ _ (k3 _ _ hc2)
      refine ⟨cl, e4, _, _, rfl, rfl, hc4, gE4, small (by simp; omega), fun e5 he5 => ?_⟩
      have k5 := same_new (o := .lst (cs.map V.int ++ [.int 1])) he5
      have gE5 : upd M4 e5 (.lst (cs.map V.int ++ [.int 1])) e5 = _ := upd_same
      generalize upd M4 e5 (.lst (cs.map V.int ++ [.int 1])) = M5 at k5 gE5
      walk_at "y"
      refine ⟨e5, _, rfl, .inl ⟨sqL_of gE5, fun e6 he6 => ?_⟩⟩
      have k6 := same_new (o := .tup (cs.map V.int ++ [.int 1])) he6
      have gE6 : upd M5 e6 (.tup (cs.map V.int ++ [.int 1])) e6 = _ := upd_same
      generalize upd M5 e6 (.tup (cs.map V.int ++ [.int 1])) = M6 at k6 gE6
      have hc6 := k6 _ _ (k5 _ _ hc4)
      walk_at "y"
      refine ⟨cl, cs.map V.int, rfl, sqL_of hc6, fun u1 hu1 => ?_⟩
      rw [cut_take]
      have j1 := same_new (o := .lst ((cs.map V.int).take at_)) hu1
      walk_at "y"
      refine ⟨small (by show 1 ≤ _; decide), fun u2 hu2 => ?_⟩
      have j2 := same_upd (o := .lst [xq]) j1 hu2
      walk_at "y"
      refine ⟨u1, u2, _, _, rfl, rfl, same_new hu2 _ _ upd_same, upd_same, small (by simp; omega), fun u3 hu3 => ?_⟩
      have j3 := same_upd (o := .lst ((cs.map V.int).take at_ ++ [xq])) j2 hu3
      walk_at "y"
      refine ⟨cl, cs.map V.int, rfl, sqL_of (j3 _ _ hc6), fun u4 hu4 => ?_⟩
      rw [cut_drop]
      have j4 := same_upd (o := .lst ((cs.map V.int).drop at_)) j3 hu4
      walk_at "y"
      refine ⟨u3, u4, _, _, rfl, rfl, same_new hu4 _ _ upd_same, upd_same, small (by simp; omega), fun u5 hu5 => ?_⟩
      have j5 := same_upd (o := .lst ((cs.map V.int).take at_ ++ [xq] ++ (cs.map V.int).drop at_)) j4 hu5
      have gU5 : upd _ u5 (.lst ((cs.map V.int).take at_ ++ [xq] ++ (cs.map V.int).drop at_)) u5 = some (.lst ((cs.map V.int).take at_ ++ [xq] ++ (cs.map V.int).drop at_)) := upd_same (H := upd (upd (upd (upd M6 u1 (.lst ((cs.map V.int).take at_))) u2 (.lst [xq])) u3 (.lst ((cs.map V.int).take at_ ++ [xq]))) u4 (.lst ((cs.map V.int).drop at_)))
      generalize upd (upd (upd (upd (upd M6 u1 (.lst ((cs.map V.int).take at_))) u2 (.lst [xq])) u3 (.lst ((cs.map V.int).take at_ ++ [xq]))) u4 (.lst ((cs.map V.int).drop at_))) u5 (.lst ((cs.map V.int).take at_ ++ [xq] ++ (cs.map V.int).drop at_)) = M7 at j5 gU5
      walk_at "y"
      refine ⟨small (by show 8 ≤ _; decide), fun V8 hV8 => ?_⟩
      have k8 := same_new (o := .lst [.non, .int 7, .bl true, .ref e0, .ref e1, .ref e3, .ref e6, .ref u5]) hV8
      have gV8 : upd M7 V8 (.lst [.non, .int 7, .bl true, .ref e0, .ref e1, .ref e3, .ref e6, .ref u5]) V8 = some (.lst [.non, .int 7, .bl true, .ref e0, .ref e1, .ref e3, .ref e6, .ref u5]) := upd_same
      generalize upd M7 V8 (.lst [.non, .int 7, .bl true, .ref e0, .ref e1, .ref e3, .ref e6, .ref u5]) = M8 at k8 gV8
      have kk : Same H10 M8 := ((((k0.trans k1).trans (k2.trans k3)).trans ((k4.trans k5).trans k6)).trans j5).trans k8
      have hS11 : Same (hid [b] H) (hid [b] M8) := hS10.trans (hid_same kk)
      have hB11 := hB10.same kk
      have gW11 := kk _ _ gW10
      have gt311 := kk _ _ gt310
      have e1' := k8 _ _ (j5 _ _ (k6 _ _ (k5 _ _ (k4 _ _ (k3 _ _ (k2 _ _ gE1))))))
      have e0' := k8 _ _ (j5 _ _ (k6 _ _ (k5 _ _ (k4 _ _ (k3 _ _ (k2 _ _ (k1 _ _ gE0)))))))
      have e3' := k8 _ _ (j5 _ _ (k6 _ _ (k5 _ _ (k4 _ _ gE3))))
      have e6' := k8 _ _ (j5 _ _ gE6)
      have u5' := k8 _ _ gU5
      have hci : ∀ {H' : Hp}, DpAll K H' (cs.map V.int) (cs.map PyData.int) := dpAll_ints cs
      have hall8 : DpAll K M8 [.non, .int 7, .bl true, .ref e0, .ref e1, .ref e3, .ref e6, .ref u5]
          [.none, .int 7, .bool true, .tuple [], .list ((cs.map PyData.int).take ((cs.map V.int).length - 1)), .list (cs.map PyData.int ++ [.int 5]), .tuple (cs.map PyData.int ++ [.int 1]), .list ((cs.map PyData.int).take at_ ++ [eq] ++ (cs.map PyData.int).drop at_)] :=
        .cons .non (.cons (.int _) (.cons (.bl _) (.cons (.tup (sqT_of e0') .nil) (.cons (.lst (sqL_of e1') (dpAll_take _ hci)) (.cons (.lst (sqL_of e3') (dpAll_append hci (.cons (.int _) .nil)))
          (.cons (.tup (sqT_of e6') (dpAll_append hci (.cons (.int _) .nil))) (.cons (.lst (sqL_of u5') (dpAll_append (dpAll_append (dpAll_take _ hci) (.cons (hdq gt311) .nil)) (dpAll_drop _ hci))) .nil)))))))
      have tci : ∀ {k : Nat}, ∀ e ∈ cs.map PyData.int, Tame k e := tame_ints cs
      have hbad8 : ∀ e ∈ ([.none, .int 7, .bool true, .tuple [], .list ((cs.map PyData.int).take ((cs.map V.int).length - 1)), .list (cs.map PyData.int ++ [.int 5]), .tuple (cs.map PyData.int ++ [.int 1]), .list ((cs.map PyData.int).take at_ ++ [eq] ++ (cs.map PyData.int).drop at_)] : List PyData),
          dFault (allW z ws).length e = some e ∧ Tame 6 e ∧ PyData.eqv e (.str "words") = false := by
        intro e he
        simp only [List.mem_cons, List.not_mem_nil, or_false] at he
        rcases he with rfl | rfl | rfl | rfl | rfl | rfl | rfl | rfl
        · exact ⟨rfl, tame_none, rfl⟩
        · exact ⟨rfl, tame_int _, rfl⟩
        · exact ⟨rfl, tame_bool _, rfl⟩
        · exact ⟨dFault_tuple (by simp; omega), tame_tuple (fun e he => by cases he), rfl⟩
        · exact ⟨dFault_list (by simp; omega), tame_list (fun e he => tci e (List.mem_of_mem_take he)), rfl⟩
        · refine ⟨dFault_list (by simp; omega), tame_list (fun e he => ?_), rfl⟩
          rcases List.mem_append.mp he with he | he
          · exact tci e he
          · rw [List.mem_singleton.mp he]; exact tame_int _
        · refine ⟨dFault_tuple (by simp; omega), tame_tuple (fun e he => ?_), rfl⟩
          rcases List.mem_append.mp he with he | he
          · exact tci e he
          · rw [List.mem_singleton.mp he]; exact tame_int _
        · exact ⟨dFault_list (by simp; omega), tame_list (mix_tame tci hq2), rfl⟩
      refine ⟨V8, rfl, ⟨_, sqL_of gV8⟩, ?_⟩
      refine for_it (walk_list (xs := [.non, .int 7, .bl true, .ref e0, .ref e1, .ref e3, .ref e6, .ref u5])) (fun i σ' H' => (∃ y8, σ' = [some (.ref b), some (.ref wa), some (.ref cl), some (.ref a), y, some (.int (at_ : Nat)), some (.ref W), some xq, y8]) ∧ Same M8 H') ?_ ?_ ?_ ?_
      · exact ⟨⟨_, rfl⟩, Same.refl _⟩
      · rintro i σ' H' _ ⟨_, h⟩
        exact sqL_of (h _ _ gV8)
      · rintro i x σ' H12 H13 hi ⟨⟨y8, rfl⟩, h12⟩ ⟨rfl, hx⟩
        obtain ⟨e, he, hde⟩ := dpAll_get hall8 hx
        obtain ⟨hb1, hb2, hb3⟩ := hbad8 e (List.mem_of_getElem? he)
        walk_at "y"
        have hd12 := dp_same h12 _ _ hde
        refine ⟨.ref wa, x, x, rfl, .inr ⟨wa, z, ws, e, e, rfl, (getA (hS11.trans (hid_same h12))).wo, hd12, hb1, hd12, hb2.shaped (by decide), hb3⟩, fun H14 h14 => ?_⟩
        refine ⟨_, rfl, iteF_of rfl ?_⟩
        walk_at "y"
        exact ⟨⟨_, rfl⟩, h12.trans h14⟩
      rintro σ' H12 ⟨⟨y8, rfl⟩, h12⟩
      have hS12 := hS11.trans (hid_same h12)
      have hB12 := hB11.same h12
      have gW12 := h12 _ _ gW11
      have gt312 := h12 _ _ gt311
      walk_at "x"
      refine ⟨W, rfl, ⟨_, sqL_of gW12⟩, ?_⟩
      refine for_it (walk_list (xs := xs9)) (fun i σ' H' => (∃ y7 y8, σ' = [some (.ref b), some (.ref wa), some (.ref cl), some (.ref a), y, some (.int (at_ : Nat)), some (.ref W), y7, y8]) ∧ BagAt H' b l ∧ Same (hid [b] H12) (hid [b] H')) ?_ ?_ ?_ ?_
      · exact ⟨⟨_, _, rfl⟩, hB12, Same.refl _⟩
      · rintro i σ' H' _ ⟨_, _, h⟩
        exact sqL_of (hid_get h gW12 (by simpa using nW))
      · rintro i x σ' H13 H14 hi ⟨⟨y7, y8, rfl⟩, hB13, hS13⟩ ⟨rfl, hx⟩
        obtain ⟨x', e, hx', hde, hb1, hb2, hb3⟩ := pick i (by omega)
        rw [hx] at hx'
        cases hx'
        have hS14 := hS12.trans hS13
        have gW14 := hid_get hS13 gW12 (by simpa using nW)
        have gt314 := hid_get hS13 gt312 (by simpa using nt3)
        have hc14 := getC hS14
        walk_at "y"
        refine ⟨cl, cs.map V.int, rfl, sqL_of hc14, fun u1 hu1 => ?_⟩
        rw [cut_take]
        have j1 := same_new (o := .lst ((cs.map V.int).take at_)) hu1
        walk_at "y"
        refine ⟨small (by show 1 ≤ _; decide), fun u2 hu2 => ?_⟩
        have j2 := same_upd (o := .lst [x]) j1 hu2
        walk_at "y"
        refine ⟨u1, u2, _, _, rfl, rfl, same_new hu2 _ _ upd_same, upd_same, small (by simp; omega), fun u3 hu3 => ?_⟩
        have j3 := same_upd (o := .lst ((cs.map V.int).take at_ ++ [x])) j2 hu3
        walk_at "y"
        refine ⟨cl, cs.map V.int, rfl, sqL_of (j3 _ _ hc14), fun u4 hu4 => ?_⟩
        rw [show ((at_ : Int) + 1) = ((at_ + 1 : Nat) : Int) from rfl, cut_drop]
        have j4 := same_upd (o := .lst ((cs.map V.int).drop (at_ + 1))) j3 hu4
        walk_at "y"
        refine ⟨u3, u4, _, _, rfl, rfl, same_new hu4 _ _ upd_same, upd_same, small (by simp; omega), fun u5 hu5 => ?_⟩
        have j5 := same_upd (o := .lst ((cs.map V.int).take at_ ++ [x] ++ (cs.map V.int).drop (at_ + 1))) j4 hu5
        have gU5 : upd _ u5 (.lst ((cs.map V.int).take at_ ++ [x] ++ (cs.map V.int).drop (at_ + 1))) u5 = some (.lst ((cs.map V.int).take at_ ++ [x] ++ (cs.map V.int).drop (at_ + 1))) := upd_same (H := upd (upd (upd (upd H14 u1 (.lst ((cs.map V.int).take at_))) u2 (.lst [x])) u3 (.lst ((cs.map V.int).take at_ ++ [x]))) u4 (.lst ((cs.map V.int).drop (at_ + 1))))
        have nU5 := none_same j4 hu5
        generalize upd (upd (upd (upd (upd H14 u1 (.lst ((cs.map V.int).take at_))) u2 (.lst [x])) u3 (.lst ((cs.map V.int).take at_ ++ [x]))) u4 (.lst ((cs.map V.int).drop (at_ + 1)))) u5 (.lst ((cs.map V.int).take at_ ++ [x] ++ (cs.map V.int).drop (at_ + 1))) = H15 at j5 gU5
        obtain ⟨nub, nul⟩ := hB13.ne nU5
        have nuW : u5 ≠ W := (ne_of_none gW14 nU5).symm
        have nut : u5 ≠ t3 := (ne_of_none gt314 nU5).symm
        have nuc : u5 ≠ cl := (ne_of_none hc14 nU5).symm
        have nu12 : H12 u5 = none := hnone hS13 nU5 (by simpa using nub)
        have hB15 := hB13.same j5
        have hS15 : Same (hid [b] H12) (hid [b] H15) := hS13.trans (hid_same j5)
        walk_at "y"
        have hal : at_ < (allW z ws).length := by omega
        have hl8 : ((cs.map PyData.int).take at_ ++ [e] ++ (cs.map PyData.int).drop (at_ + 1)).length = (allW z ws).length := by simp; omega
        refine v_cut (fun σ' H' => ∃ (vs8 : List V) (ds8 : List PyData), σ' = [some (.ref b), some (.ref wa), some (.ref cl), some (.ref a), y, some (.int (at_ : Nat)), some (.ref W), some x, some (.ref u5)] ∧ H' u5 = some (.lst vs8) ∧
          (∀ H'' : Hp, H'' t3 = some (.tup [.int 1]) → DpAll K H'' vs8 ds8) ∧ ds8.length = (allW z ws).length ∧ ds8[at_]? = some e ∧ (∀ j, j < at_ → ∀ e', ds8[j]? = some e' → (!dBet 1 9 e') = false) ∧ (∀ e' ∈ ds8, Tame 5 e') ∧ BagAt H' b l ∧ Same (hid [b] H12) (hid [b] H')) ?_ ?_
        · have base1 : ((cs.map PyData.int).take at_ ++ [e] ++ (cs.map PyData.int).drop (at_ + 1))[at_]? = some e := by
            rw [List.append_assoc, List.getElem?_append_right (by simp; omega)]
            simp [Nat.min_eq_left (by omega : at_ ≤ cs.length)]
          have base2 : ∀ j, j < at_ → ∀ e', ((cs.map PyData.int).take at_ ++ [e] ++ (cs.map PyData.int).drop (at_ + 1))[j]? = some e' → (!dBet 1 9 e') = false := by
            intro j hj e' he'
            rw [List.append_assoc, List.getElem?_append_left (by simp; omega), List.getElem?_take_of_lt hj] at he'
            obtain ⟨c, hc, rfl⟩ := List.mem_map.mp (List.mem_of_getElem? he')
            show (!decide (1 ≤ c ∧ c ≤ 9)) = false
            rw [decide_eq_true (hbd c hc)]
            rfl
          have base3 : ∀ e' ∈ (cs.map PyData.int).take at_ ++ [e] ++ (cs.map PyData.int).drop (at_ + 1), Tame 5 e' := by
            intro e' he'
            rcases List.mem_append.mp he' with he' | he'
            · rcases List.mem_append.mp he' with he' | he'
              · exact tci e' (List.mem_of_mem_take he')
              · rw [List.mem_singleton.mp he']; exact hb2
            · exact tci e' (List.mem_of_mem_drop he')
          have base4 : ∀ H'' : Hp, H'' t3 = some (.tup [.int 1]) → DpAll K H'' ((cs.map V.int).take at_ ++ [x] ++ (cs.map V.int).drop (at_ + 1)) ((cs.map PyData.int).take at_ ++ [e] ++ (cs.map PyData.int).drop (at_ + 1)) := fun H'' h =>
            dpAll_append (dpAll_append (dpAll_take _ hci) (.cons (hde h) .nil)) (dpAll_drop _ hci)
          generalize (cs.map PyData.int).take at_ ++ [e] ++ (cs.map PyData.int).drop (at_ + 1) = ds8 at hl8 base1 base2 base3 base4
          have hvl : ((cs.map V.int).take at_ ++ [x] ++ (cs.map V.int).drop (at_ + 1)).length = (allW z ws).length := by simp; omega
          generalize (cs.map V.int).take at_ ++ [x] ++ (cs.map V.int).drop (at_ + 1) = vs8 at base4 gU5 hvl
          walk_at "y"
          refine v_lenL (sqL_of (j5 _ _ hc14)) ?_
          walk_at "y"
          rw [List.length_map]
          refine if_dec (fun c => ?_) (fun c => ?_)
          · walk_at "y"
            refine draw_step hB15 (by decide) (by decide) fun q2 H16 hq2 hB16 hS16 => ?_
            obtain ⟨xr, er, hxr, hdr, hr1, hr2, hr3⟩ := pick q2 (by omega)
            have gW16 := hid_get hS16 (j5 _ _ gW14) (by simpa using nW)
            have gU16 := hid_get hS16 gU5 (by simpa using nub)
            have hc16 := hid_get hS16 (j5 _ _ hc14) (by simpa using ncb)
            refine v_ixL (v := xr) (sqL_of gW16) (atI_nat hxr) ?_
            walk_at "y"
            refine v_lenL (sqL_of hc16) ?_
            walk_at "y"
            rw [List.length_map]
            refine v_setL gU16 (j := cs.length - 1) ?_ ?_
            · rw [show ((cs.length : Nat) : Int) - 1 = ((cs.length - 1 : Nat) : Int) by omega]
              exact ixN_nat' (by omega)
            refine ⟨vs8.set (cs.length - 1) xr, ds8.set (cs.length - 1) er, rfl, upd_same, fun H'' h => dpAll_set (hdr h) _ (base4 H'' h), by simp [hl8], ?_, fun j hj e' he' => ?_, fun e' he' => ?_, hB16.mut nub nul, hsame_mut (hS15.trans hS16) nu12⟩
            · rw [List.getElem?_set_ne (by omega)]
              exact base1
            · rw [List.getElem?_set_ne (by omega)] at he'
              exact base2 j hj e' he'
            · rcases List.mem_or_eq_of_mem_set he' with he' | rfl
              · exact base3 e' he'
              · exact hr2
          · walk_at "y"
            exact ⟨vs8, ds8, rfl, gU5, base4, hl8, base1, base2, base3, hB15, hS15⟩
        · rintro σ' H16 ⟨vs8, ds8, rfl, gU16, d4, hl8, d1, d2, d3, hB16, hS16⟩
          have hS16' := hS12.trans hS16
          have gt316 := hid_get hS16 gt312 (by simpa using nt3)
          have hF : (∀ d, d = .list ds8 ∨ d = .tuple ds8 → dFault (allW z ws).length d = some e) := by
            intro d hd
            have q : ds8.find? (fun e => !dBet 1 9 e) = some e := find_at d1 (by rw [hb1]; rfl) d2
            rcases hd with rfl | rfl
            · show (if ds8.length = _ then _ else _) = _
              rw [if_pos hl8]
              exact q
            · show (if ds8.length = _ then _ else _) = _
              rw [if_pos hl8]
              exact q
          walk_at "y"
          refine ⟨.ref wa, .ref u5, x, rfl, .inr ⟨wa, z, ws, .list ds8, e, rfl, (getA hS16').wo, .lst (sqL_of gU16) (d4 _ gt316), hF _ (.inl rfl), hde gt316, hb2.shaped (by decide), hb3⟩, fun H17 h17 => ?_⟩
          refine ⟨_, rfl, iteF_of rfl ?_⟩
          walk_at "y"
          refine ⟨u5, vs8, rfl, .inl ⟨sqL_of (h17 _ _ gU16), fun u6 hu6 => ?_⟩⟩
          have h18 := same_upd (o := .tup vs8) h17 hu6
          have gt318 := h18 _ _ gt316
          walk_at "y"
          refine ⟨.ref wa, .ref u6, x, rfl, .inr ⟨wa, z, ws, .tuple ds8, e, rfl, (getA (hS16'.trans (hid_same h18))).wo, .tup (sqT_of upd_same) (d4 _ gt318), hF _ (.inr rfl), hde gt318, hb2.shaped (by decide), hb3⟩, fun H19 h19 => ?_⟩
          refine ⟨_, rfl, iteF_of rfl ?_⟩
          walk_at "y"
          exact ⟨⟨_, _, rfl⟩, hB16.same (h18.trans h19), hS16.trans (hid_same (h18.trans h19))⟩
      · rintro σ' H13 ⟨⟨y7, y8, rfl⟩, hB13, hS13⟩
        walk_at "y"
        exact k _ hB13 (hS12.trans hS13)
end

end K76

namespace K76
open PySem PySem.Spec L2 PH
open C8 (tCut pss_cut)
section
variable {P : Program} {w : World} {K : PySem.W.Frag} {mg : Str → Option Value} {base : Heap}
theorem CostsAt.hid {H : Hp} {M : List Addr} {a wa : Addr} {z : Str} {ws : List Str} {cs : List Int} (h : CostsAt K H a wa z ws cs) (hM : ∀ m ∈ M, ∃ xs, H m = some (.lst xs)) : CostsAt K (PH.hid M H) a wa z ws cs := by
  have keep : ∀ {p : Addr} {o : HO}, H p = some o → (∀ xs, o ≠ .lst xs) → PH.hid M H p = some o := fun {p o} hp ho => hid_at hp fun hm => by
    obtain ⟨xs, e⟩ := hM p hm
    rw [hp] at e
    injection e with e
    exact ho xs e
  obtain ⟨⟨al, fu, dx, fp, kn, fs, kvs, w1, w2, w3, w4, w5, w6, w7, w8, w9⟩, len, bd, dx', cp, pr, fs', kvs', h1, h2, h3, h4, h5, h6, h7, h8⟩ := h
  refine ⟨⟨al, fu, dx, fp, kn, fs, kvs, keep w1 (fun _ e => nomatch e), w2, w3, w4, w5, w6, keep w7 (fun _ e => nomatch e), keep w8 (fun _ e => nomatch e), w9⟩, len, bd, dx', cp, pr, fs', kvs', keep h1 (fun _ e => nomatch e), h2, h3, h4, h5, ?_, keep h7 (fun _ e => nomatch e), h8⟩
  rcases h6 with h6 | h6
  · left
    rcases h6 with h6 | ⟨o, h6⟩
    · left
      have n : cp ∉ [a] := fun hm => by rw [hid_none hm] at h6; cases h6
      exact hid_at (keep (hid_sub _ _ h6) (fun _ e => nomatch e)) n
    · right
      have n : cp ∉ [a] := fun hm => by rw [hid_none hm] at h6; cases h6
      exact ⟨o, hid_at (keep (hid_sub _ _ h6) (fun _ e => nomatch e)) n⟩
  · exact .inr h6
def spEqs (K : PySem.W.Frag) : Sp := fun vs H Q _ => ∃ (b l fl cl a wa : Addr) (z : Str) (ws : List Str) (cs : List Int), vs = [.ref b, .str z, .ref fl, .ref cl, .ref a] ∧ BagAt H b l ∧ fl ≠ b ∧ cl ≠ b ∧
  H fl = some (.lst (ws.map V.str)) ∧ H cl = some (.lst (cs.map V.int)) ∧ CostsAt K (PH.hid [b] H) a wa z ws cs ∧ ∀ H', BagAt H' b l → Same (PH.hid [b] H) (PH.hid [b] H') → Q (.bl true) H'
/-- words and costs made: the two steps at once -/
theorem made2 {H H1 H2 : Hp} {x dx y dy : Addr} {o1 o2 o3 o4 : HO} (hx : H x = none) (hdx : H dx = none) (hne : dx ≠ x) (h1 : Same (PH.hid [x] (upd (upd H dx o1) x o2)) (PH.hid [x] H1)) (hy : H1 y = none) (hdy : H1 dy = none) (hne2 : dy ≠ y)
    (h2 : Same (PH.hid [y] (upd (upd H1 dy o3) y o4)) (PH.hid [y] H2)) : Same H H1 ∧ Same H1 H2 := ⟨make_same h1 hx hdx hne, make_same h2 hy hdy hne2⟩
theorem mod_ne {c : Int} (h : 1 ≤ c ∧ c ≤ 9) : 1 + c % 9 ≠ c ∧ 1 ≤ 1 + c % 9 ∧ 1 + c % 9 ≤ 9 := by omega
theorem ok__law_equals (T : Ev fa fx fn K mg base) : Dn P w K mg base 7 (He.ga K "_law_equals") ["bag", "letters", "further", "costs", "priced"] (spEqs K) := by
  refine dn_of (d__law_equals T) sc__law_equals bo__law_equals (fun vs H Q E h => ?_) (fun cdv A outer s H vs Q E hr h => ?_)
  · obtain ⟨b, l, fl, cl, a, wa, z, ws, cs, rfl, _⟩ := h
    rfl
  · obtain ⟨b, l, fl, cl, a, wa, z, ws, cs, rfl, hB, nfb, ncb, hfl, hcl, hC, k⟩ := h
    have al := hC.wo.al
    have fu := hC.wo.fu
    obtain ⟨np1, np2⟩ := allW_pos al fu
    have hcn := hC.len
    have hbd := hC.bd
    have getC : ∀ {H' : Hp}, Same (PH.hid [b] H) (PH.hid [b] H') → H' cl = some (.lst (cs.map V.int)) := fun e => hid_get e hcl (by simpa using ncb)
    have getF : ∀ {H' : Hp}, Same (PH.hid [b] H) (PH.hid [b] H') → H' fl = some (.lst (ws.map V.str)) := fun e => hid_get e hfl (by simpa using nfb)
    have getA : ∀ {H' : Hp}, Same (PH.hid [b] H) (PH.hid [b] H') → CostsAt K H' a wa z ws cs := fun e => hC.same (e.trans hid_sub)
    refine ⟨_, (PSs.nox (pss_cons (ps_set (i := 5) sc__law_equals.nd rfl (.inl rfl) (pe_d (ok__law_draw T) (hr.mono (by decide)) (g__law_draw T) passL (pa_cons (pv 0) (pa_cons (pe_callB (call_lenK (K := K) rfl) (by rfl) (f_len T) bb_len (pa_cons (pv 3) pa_nil)) pa_nil))))
      (pss_cons (ps_set (i := 6) sc__law_equals.nd rfl (.inl rfl) (pe_op op_cat (pe_op op_cat (pe_slice sl_list (pv 3) po_none (po_some (pv 5))) (pe_lst (pa_cons (pe_op op_add pe_int (pe_op op_mod (pe_ix (ix_listK (K := K) rfl) (pv 3) (pv 5) (fun _ _ => rfl)) pe_int)) pa_nil))) (pe_slice sl_list (pv 3) (po_some (pe_op op_add (pv 5) pe_int)) po_none)))
      (pss_cons (ps_if (pt_not (pt_val (pe_d (ok__law_differ T) (hr.mono (by decide)) (g__law_differ T) passL (pa_cons (pv 4) (pa_cons (pe_mk' (ok_Costs___init__ T) (mkr_Costs T) (hr.mono (by decide)) (g_Costs T) passL (pa_cons (pe_mk' (ok_Words___init__ T) (mkr_Words T) (hr.mono (by decide)) (g_Words T) passL (pa_cons (pv 1) (pa_cons (pv 2) pa_nil))) (pa_cons (pv 6) pa_nil))) pa_nil)))))
        (pss_one (ps_ret pe_bl)) pss_nil)
      (pss_cut (ps_if (pt_cmpR op_gt (pe_callB (call_lenK (K := K) rfl) (by rfl) (f_len T) bb_len (pa_cons (pv 2) pa_nil)) pe_int (nomark _))
        (pss_cons (ps_set (i := 7) sc__law_equals.nd rfl (.inl rfl) (pe_op op_cat (pe_slice sl_list (pv 2) (po_some pe_int) po_none) (pe_slice sl_list (pv 2) po_none (po_some pe_int))))
      (pss_one (ps_if (pt_not (pt_val (pe_d (ok__law_differ T) (hr.mono (by decide)) (g__law_differ T) passL (pa_cons (pv 4) (pa_cons (pe_mk' (ok_Costs___init__ T) (mkr_Costs T) (hr.mono (by decide)) (g_Costs T) passL (pa_cons (pe_mk' (ok_Words___init__ T) (mkr_Words T) (hr.mono (by decide)) (g_Words T) passL (pa_cons (pv 1) (pa_cons (pv 7) pa_nil))) (pa_cons (pv 3) pa_nil))) pa_nil)))))
        (pss_one (ps_ret pe_bl)) pss_nil))) pss_nil)
      (pss_cut (ps_if (pw_and (pt_cmpR op_gt (pe_callB (call_lenK (K := K) rfl) (by rfl) (f_len T) bb_len (pa_cons (pv 2) pa_nil)) pe_int (nomark _)) (pw_and1 (pt_not (pt_val (pe_d (ok__law_differ T) (hr.mono (by decide)) (g__law_differ T) passL (pa_cons (pv 4) (pa_cons (pe_mk' (ok_Costs___init__ T) (mkr_Costs T) (hr.mono (by decide)) (g_Costs T) passL (pa_cons (pe_mk' (ok_Words___init__ T) (mkr_Words T) (hr.mono (by decide)) (g_Words T) passL (pa_cons (pv 1) (pa_cons (pe_slice sl_list (pv 2) po_none (po_some (pe_un un_neg pe_int))) pa_nil))) (pa_cons (pe_slice sl_list (pv 3) po_none (po_some (pe_un un_neg pe_int))) pa_nil))) pa_nil))))))).pt
        (pss_one (ps_ret pe_bl)) pss_nil)
      (pss_cons (ps_for PassesOwn.never rfl (pi_list (pe_lst (pa_cons pe_non (pa_cons (pe_callTy call_tuple_of (by rfl) (f_tuple T) bb_tuple (pa_cons (pv 3) pa_nil)) (pa_cons (pe_fldK (K := K) rfl (pv 4) rfl) (pa_cons pe_int pa_nil)))))) (pg_name (i := 8) sc__law_equals.nd rfl (.inl rfl))
        (pss_one (ps_if (pt_not (pt_val (pe_d (ok__law_differ T) (hr.mono (by decide)) (g__law_differ T) passL (pa_cons (pv 4) (pa_cons (pv 8) pa_nil)))))
        (pss_one (ps_ret pe_bl)) pss_nil)))
      (pss_cons (ps_set (i := 9) sc__law_equals.nd rfl (.inl rfl) (pe_mk' (ok_Costs___init__ T) (mkr_Costs T) (hr.mono (by decide)) (g_Costs T) passL (pa_cons (pe_mk' (ok_Words___init__ T) (mkr_Words T) (hr.mono (by decide)) (g_Words T) passL (pa_cons (pv 1) (pa_cons (pe_callTy call_tuple_of (by rfl) (f_tuple T) bb_tuple (pa_cons (pv 2) pa_nil)) pa_nil))) (pa_cons (pe_callTy call_tuple_of (by rfl) (f_tuple T) bb_tuple (pa_cons (pv 3) pa_nil)) pa_nil))))
      (pss_one (ps_ret (pe_and (pe_cmpR op_isBl (pe_cmpR (op_ownEq (eqc_Costs T) (ok_Costs___eq__ T) (hr.mono (by decide))) (pv 4) (pv 9) (nomark _)) pe_bl (nomark _)) (pe_one (pe_cmpR op_isBl (pe_cmpR (op_ownNe (eqc_Costs T) (ok_Costs___eq__ T) (hr.mono (by decide))) (pv 4) (pv 9) (nomark _)) pe_bl (nomark _)))))))))))))), ?_⟩
    walk_at "cl"
    walk_at "y"
    refine v_lenL (sqL_of hcl) ?_
    walk_at "y"
    rw [List.length_map]
    refine draw_step hB (by omega) (by omega) fun at_ H1 hat hB1 hS1 => ?_
    have hac : at_ < cs.length := by omega
    have hc1 := getC hS1
    walk_at "y"
    refine ⟨cl, cs.map V.int, rfl, sqL_of hc1, fun u1 hu1 => ?_⟩
    rw [cut_take]
    have j1 := same_new (o := .lst ((cs.map V.int).take at_)) hu1
    walk_at "y"
    refine v_ixL (v := .int cs[at_]) (sqL_of (j1 _ _ hc1)) (atI_nat (by rw [List.getElem?_map, List.getElem?_eq_getElem hac]; rfl)) ?_
    walk_at "y"
    have hcb := hbd _ (List.getElem_mem hac)
    obtain ⟨nq1, nq2, nq3⟩ := mod_ne hcb
    generalize hcat : 1 + cs[at_] % 9 = cv at nq1 nq2 nq3
    refine ⟨small (by show 1 ≤ _; decide), fun u2 hu2 => ?_⟩
    have j2 := same_upd (o := .lst [.int cv]) j1 hu2
    walk_at "y"
    refine ⟨u1, u2, _, _, rfl, rfl, same_new hu2 _ _ upd_same, upd_same, small (by simp; omega), fun u3 hu3 => ?_⟩
    have j3 := same_upd (o := .lst ((cs.map V.int).take at_ ++ [.int cv])) j2 hu3
    walk_at "y"
    refine ⟨cl, cs.map V.int, rfl, sqL_of (j3 _ _ hc1), fun u4 hu4 => ?_⟩
    rw [show ((at_ : Int) + 1) = ((at_ + 1 : Nat) : Int) from rfl, cut_drop]
    have j4 := same_upd (o := .lst ((cs.map V.int).drop (at_ + 1))) j3 hu4
    walk_at "y"
    refine ⟨u3, u4, _, _, rfl, rfl, same_new hu4 _ _ upd_same, upd_same, small (by simp; omega), fun u5 hu5 => ?_⟩
    have j5 := same_upd (o := .lst ((cs.map V.int).take at_ ++ [.int cv] ++ (cs.map V.int).drop (at_ + 1))) j4 hu5
    have gU5 : upd _ u5 (.lst ((cs.map V.int).take at_ ++ [.int cv] ++ (cs.map V.int).drop (at_ + 1))) u5 = some (.lst ((cs.map V.int).take at_ ++ [.int cv] ++ (cs.map V.int).drop (at_ + 1))) := upd_same (H := upd (upd (upd (upd H1 u1 (.lst ((cs.map V.int).take at_))) u2 (.lst [.int cv])) u3 (.lst ((cs.map V.int).take at_ ++ [.int cv]))) u4 (.lst ((cs.map V.int).drop (at_ + 1))))
    generalize upd (upd (upd (upd (upd H1 u1 (.lst ((cs.map V.int).take at_))) u2 (.lst [.int cv])) u3 (.lst ((cs.map V.int).take at_ ++ [.int cv]))) u4 (.lst ((cs.map V.int).drop (at_ + 1)))) u5 (.lst ((cs.map V.int).take at_ ++ [.int cv] ++ (cs.map V.int).drop (at_ + 1))) = H2 at j5 gU5
    have hS2 := hS1.trans (hid_same j5)
    have hB2 := hB1.same j5
    have ech : (cs.map V.int).take at_ ++ [.int cv] ++ (cs.map V.int).drop (at_ + 1) = (cs.take at_ ++ [cv] ++ cs.drop (at_ + 1)).map V.int := by
      rw [List.map_append, List.map_append, List.map_take, List.map_drop]
      rfl
    rw [ech] at gU5
    have hch : (cs.take at_ ++ [cv] ++ cs.drop (at_ + 1)).length = cs.length := by simp; omega
    have hchb : ∀ c ∈ cs.take at_ ++ [cv] ++ cs.drop (at_ + 1), 1 ≤ c ∧ c ≤ 9 := by
      intro c hc
      rcases List.mem_append.mp hc with hc | hc
      · rcases List.mem_append.mp hc with hc | hc
        · exact hbd c (List.mem_of_mem_take hc)
        · rw [List.mem_singleton.mp hc]; exact ⟨nq2, nq3⟩
      · exact hbd c (List.mem_of_mem_drop hc)
    have hchn : ¬ (cs = cs.take at_ ++ [cv] ++ cs.drop (at_ + 1)) := by
      intro e
      have q := congrArg (fun l : List Int => l[at_]?) e
      rw [List.append_assoc] at q
      simp only [List.getElem?_eq_getElem hac, List.getElem?_append_right (show (cs.take at_).length ≤ at_ by simp; omega)] at q
      simp [Nat.min_eq_left (by omega : at_ ≤ cs.length)] at q
      exact nq1 q.symm
    generalize cs.take at_ ++ [cv] ++ cs.drop (at_ + 1) = ch at gU5 hch hchb hchn
    walk_at "y"
    intro x1 dx1 hx1 hdx1 hne1
    have m1 : Same H2 (upd (upd H2 dx1 (.own x1)) x1 (.ins (He.ga K "Words") dx1 [])) := same_upd (same_new hdx1) (by rw [upd_ne (Ne.symm hne1)]; exact hx1)
    refine ⟨x1, dx1, z, fl, ws, rfl, upd_same, .inl (sqL_of (m1 _ _ (getF hS2))), al, fu, fun G1 hW1 hS1 => ⟨rfl, ?_⟩⟩
    have s1_ := make_same hS1 hx1 hdx1 hne1
    walk_at "y"
    intro y1 dy1 hy1 hdy1 hney1
    have my1 : Same G1 (upd (upd G1 dy1 (.own y1)) y1 (.ins (He.ga K "Costs") dy1 [])) := same_upd (same_new hdy1) (by rw [upd_ne (Ne.symm hney1)]; exact hy1)
    refine ⟨y1, dy1, .ref x1, .ref u5, rfl, upd_same, .inr ⟨x1, z, ws, .list (ch.map .int), rfl, hW1.same my1, .lst (sqL_of (my1 _ _ (s1_ _ _ gU5))) (dpAll_ints ch), .inl ⟨ch, ⟨.inl rfl, by omega, hchb⟩, fun E1 hC1 hSy1 => ⟨rfl, ?_⟩⟩⟩⟩
    have t1 := make_same hSy1 hy1 hdy1 hney1
    walk_at "y"
    have hS3 := hS2.trans (hid_same (s1_.trans t1))
    have hB3 := hB2.same (s1_.trans t1)
    refine ⟨a, wa, .ref y1, z, ws, cs, rfl, getA hS3, .inl ⟨y1, x1, z, ws, ch, rfl, hC1, fun h => hchn h.2.2⟩, ?_⟩
    refine ⟨_, rfl, iteF_of rfl ?_⟩
    walk_at "y"
    refine v_cut (fun σ' H' => (∃ x7, σ' = [some (.ref b), some (.str z), some (.ref fl), some (.ref cl), some (.ref a), some (.int (at_ : Nat)), some (.ref u5), x7, none, none]) ∧ BagAt H' b l ∧ Same (PH.hid [b] H) (PH.hid [b] H')) ?_ ?_
    · walk_at "y"
      refine v_lenL (sqL_of (getF hS3)) ?_
      walk_at "y"
      rw [List.length_map]
      refine if_dec (fun c => ?_) (fun c => ?_)
      · walk_at "y"
        refine ⟨fl, ws.map V.str, rfl, sqL_of (getF hS3), fun v1 hv1 => ?_⟩
        rw [show cutV (ws.map V.str) (some 1) none = (ws.map V.str).drop 1 from cut_drop _ 1]
        have r1 := same_new (o := .lst ((ws.map V.str).drop 1)) hv1
        walk_at "y"
        refine ⟨fl, ws.map V.str, rfl, sqL_of (r1 _ _ (getF hS3)), fun v2 hv2 => ?_⟩
        rw [show cutV (ws.map V.str) none (some 1) = (ws.map V.str).take 1 from cut_take _ 1]
        have r2 := same_upd (o := .lst ((ws.map V.str).take 1)) r1 hv2
        walk_at "y"
        refine ⟨v1, v2, _, _, rfl, rfl, same_new hv2 _ _ upd_same, upd_same, small (by have := fu.few; simp; omega), fun v3 hv3 => ?_⟩
        have r3 := same_upd (o := .lst ((ws.map V.str).drop 1 ++ (ws.map V.str).take 1)) r2 hv3
        have gv3 : upd _ v3 (.lst ((ws.map V.str).drop 1 ++ (ws.map V.str).take 1)) v3 = some (.lst ((ws.map V.str).drop 1 ++ (ws.map V.str).take 1)) := upd_same (H := upd (upd E1 v1 (.lst ((ws.map V.str).drop 1))) v2 (.lst ((ws.map V.str).take 1)))
        generalize upd (upd (upd E1 v1 (.lst ((ws.map V.str).drop 1))) v2 (.lst ((ws.map V.str).take 1))) v3 (.lst ((ws.map V.str).drop 1 ++ (ws.map V.str).take 1)) = H4 at r3 gv3
        have etu : (ws.map V.str).drop 1 ++ (ws.map V.str).take 1 = (ws.drop 1 ++ ws.take 1).map V.str := by rw [List.map_append, List.map_drop, List.map_take]
        rw [etu] at gv3
        have pm : (ws.drop 1 ++ ws.take 1).Perm ws := by
          have q := List.perm_append_comm (l₁ := ws.drop 1) (l₂ := ws.take 1)
          rw [List.take_append_drop] at q
          exact q
        have fu2 : FurtherOk z 10 6 (ws.drop 1 ++ ws.take 1) := ⟨fun x hx => fu.ok x (pm.mem_iff.mp hx), pm.nodup_iff.mpr fu.nd, by rw [pm.length_eq]; exact fu.few⟩
        have ntu : ¬ (ws = ws.drop 1 ++ ws.take 1) := by
          intro e
          have nd := fu.nd
          match ws, c, e, nd with
          | x :: y :: r, _, e, nd =>
            simp at e
            have q := e.1
            rw [q] at nd
            simp at nd
        have ltu : (allW z (ws.drop 1 ++ ws.take 1)).length = (allW z ws).length := by
          unfold allW
          rw [List.length_append, pm.length_eq, ← List.length_append]
        generalize ws.drop 1 ++ ws.take 1 = wt at gv3 fu2 ntu ltu
        have hS4 := hS3.trans (hid_same r3)
        have hB4 := hB3.same r3
        walk_at "y"
        intro x2 dx2 hx2 hdx2 hne2
        have m2 : Same H4 (upd (upd H4 dx2 (.own x2)) x2 (.ins (He.ga K "Words") dx2 [])) := same_upd (same_new hdx2) (by rw [upd_ne (Ne.symm hne2)]; exact hx2)
        refine ⟨x2, dx2, z, v3, wt, rfl, upd_same, .inl (sqL_of (m2 _ _ gv3)), al, fu2, fun G2 hW2 hS2 => ⟨rfl, ?_⟩⟩
        have s2 := make_same hS2 hx2 hdx2 hne2
        walk_at "y"
        intro y2 dy2 hy2 hdy2 hney2
        have my2 : Same G2 (upd (upd G2 dy2 (.own y2)) y2 (.ins (He.ga K "Costs") dy2 [])) := same_upd (same_new hdy2) (by rw [upd_ne (Ne.symm hney2)]; exact hy2)
        refine ⟨y2, dy2, .ref x2, .ref cl, rfl, upd_same, .inr ⟨x2, z, wt, .list (cs.map .int), rfl, hW2.same my2, .lst (sqL_of (my2 _ _ (s2 _ _ (getC hS4)))) (dpAll_ints cs), .inl ⟨cs, ⟨.inl rfl, by omega, hbd⟩, fun E2 hC2 hSy2 => ⟨rfl, ?_⟩⟩⟩⟩
        have t2 := make_same hSy2 hy2 hdy2 hney2
        walk_at "y"
        have hS5 := hS4.trans (hid_same (s2.trans t2))
        have hB5 := hB4.same (s2.trans t2)
        refine ⟨a, wa, .ref y2, z, ws, cs, rfl, getA hS5, .inl ⟨y2, x2, z, wt, cs, rfl, hC2, fun h => ntu h.2.1⟩, ?_⟩
        refine ⟨_, rfl, iteF_of rfl ?_⟩
        walk_at "y"
        exact ⟨⟨_, rfl⟩, hB5, hS5⟩
      · walk_at "y"
        exact ⟨⟨_, rfl⟩, hB3, hS3⟩
    rintro σ' H6 ⟨⟨x7, rfl⟩, hB6, hS6⟩
    refine v_cut (fun σ' H' => σ' = [some (.ref b), some (.str z), some (.ref fl), some (.ref cl), some (.ref a), some (.int (at_ : Nat)), some (.ref u5), x7, none, none] ∧ BagAt H' b l ∧ Same (PH.hid [b] H) (PH.hid [b] H')) ?_ ?_
    · walk_at "y"
      refine v_lenL (sqL_of (getF hS6)) ?_
      walk_at "y"
      rw [List.length_map]
      refine if_dec (fun c => ?_) (fun c => ?_)
      · walk_at "y"
        refine ⟨fl, ws.map V.str, rfl, sqL_of (getF hS6), fun v1 hv1 => ?_⟩
        rw [show cutV (ws.map V.str) none (some (-1)) = (ws.map V.str).take ((ws.map V.str).length - 1) from cut_last' _]
        have r1 := same_new (o := .lst ((ws.map V.str).take ((ws.map V.str).length - 1))) hv1
        have gv1 : upd H6 v1 (.lst ((ws.map V.str).take ((ws.map V.str).length - 1))) v1 = some (.lst ((ws.take (ws.length - 1)).map V.str)) := by rw [upd_same, List.map_take, List.length_map]
        generalize upd H6 v1 (.lst ((ws.map V.str).take ((ws.map V.str).length - 1))) = H7 at r1 gv1
        have hS7 := hS6.trans (hid_same r1)
        have hB7 := hB6.same r1
        have fu3 : FurtherOk z 10 6 (ws.take (ws.length - 1)) := ⟨fun x hx => fu.ok x (List.mem_of_mem_take hx), List.Pairwise.sublist (List.take_sublist _ _) fu.nd, by rw [List.length_take]; have := fu.few; omega⟩
        have n3 : ¬ (ws = ws.take (ws.length - 1)) := by
          intro e
          have q := congrArg List.length e
          rw [List.length_take] at q
          omega
        have l3 : (allW z (ws.take (ws.length - 1))).length = (allW z ws).length - 1 := by
          unfold allW
          rw [List.length_append, List.length_append, List.length_take]
          omega
        generalize ws.take (ws.length - 1) = wt at gv1 fu3 n3 l3
        walk_at "y"
        intro x3 dx3 hx3 hdx3 hne3
        have m3 : Same H7 (upd (upd H7 dx3 (.own x3)) x3 (.ins (He.ga K "Words") dx3 [])) := same_upd (same_new hdx3) (by rw [upd_ne (Ne.symm hne3)]; exact hx3)
        refine ⟨x3, dx3, z, v1, wt, rfl, upd_same, .inl (sqL_of (m3 _ _ gv1)), al, fu3, fun G3 hW3 hS3 => ⟨rfl, ?_⟩⟩
        have s3 := make_same hS3 hx3 hdx3 hne3
        walk_at "y"
        refine ⟨cl, cs.map V.int, rfl, sqL_of (s3 _ _ (getC hS7)), fun v2 hv2 => ?_⟩
        rw [show cutV (cs.map V.int) none (some (-1)) = (cs.map V.int).take ((cs.map V.int).length - 1) from cut_last' _]
        have r2 := same_new (o := .lst ((cs.map V.int).take ((cs.map V.int).length - 1))) hv2
        have gv2 : upd G3 v2 (.lst ((cs.map V.int).take ((cs.map V.int).length - 1))) v2 = some (.lst ((cs.take (cs.length - 1)).map V.int)) := by rw [upd_same, List.map_take, List.length_map]
        generalize upd G3 v2 (.lst ((cs.map V.int).take ((cs.map V.int).length - 1))) = G3' at r2 gv2
        walk_at "y"
        intro y3 dy3 hy3 hdy3 hney3
        have my3 : Same G3' (upd (upd G3' dy3 (.own y3)) y3 (.ins (He.ga K "Costs") dy3 [])) := same_upd (same_new hdy3) (by rw [upd_ne (Ne.symm hney3)]; exact hy3)
        refine ⟨y3, dy3, .ref x3, .ref v2, rfl, upd_same, .inr ⟨x3, z, wt, .list ((cs.take (cs.length - 1)).map .int), rfl, (hW3.same r2).same my3, .lst (sqL_of (my3 _ _ gv2)) (dpAll_ints _), .inl ⟨cs.take (cs.length - 1), ⟨.inl rfl, by rw [List.length_take]; omega, fun c hc => hbd c (List.mem_of_mem_take hc)⟩, fun E3 hC3 hSy3 => ⟨rfl, ?_⟩⟩⟩⟩
        have t3 := make_same hSy3 hy3 hdy3 hney3
        walk_at "y"
        have hS8 := hS7.trans (hid_same ((s3.trans r2).trans t3))
        have hB8 := hB7.same ((s3.trans r2).trans t3)
        refine ⟨a, wa, .ref y3, z, ws, cs, rfl, getA hS8, .inl ⟨y3, x3, z, wt, _, rfl, hC3, fun h => n3 h.2.1⟩, ?_⟩
        refine ⟨_, rfl, iteF_of rfl ?_⟩
        walk_at "y"
        exact ⟨rfl, hB8, hS8⟩
      · walk_at "y"
        exact ⟨rfl, hB6, hS6⟩
    rintro σ' H7 ⟨rfl, hB7, hS7⟩
    walk_at "x"
    refine ⟨cl, cs.map V.int, rfl, .inl ⟨sqL_of (getC hS7), fun v1 hv1 => ?_⟩⟩
    have r1 := same_new (o := .tup (cs.map V.int)) hv1
    have gv1 : upd H7 v1 (.tup (cs.map V.int)) v1 = some (.tup (cs.map V.int)) := upd_same
    generalize upd H7 v1 (.tup (cs.map V.int)) = H8 at r1 gv1
    have hS8 := hS7.trans (hid_same r1)
    have hA8 := getA hS8
    have ⟨hwo8, _, _, dxa, cpa, pra, fsa, kva, a1, a2, a3, _⟩ := hA8
    walk_at "y"
    refine ⟨_, _, _, _, _, rfl, a1, (cls_Costs T), (no_Costs_words T), a2, ?_⟩
    walk_at "y"
    refine ⟨small (by show 4 ≤ _; decide), fun L hL => ?_⟩
    have r2 := same_new (o := .lst [.non, .ref v1, .ref wa, .int 1]) hL
    have gL : upd H8 L (.lst [.non, .ref v1, .ref wa, .int 1]) L = some (.lst [.non, .ref v1, .ref wa, .int 1]) := upd_same
    generalize upd H8 L (.lst [.non, .ref v1, .ref wa, .int 1]) = H9 at r2 gL
    have hS9 := hS8.trans (hid_same r2)
    have hB9 := hB7.same (r1.trans r2)
    have hty : ∀ x ∈ ([.non, .ref v1, .ref wa, .int 1] : List V), ∃ t, TyX K H9 x t ∧ PySem.W.kitOne K t (.ref (He.ga K "Costs")) = some false ∧ PySem.W.notFirst K (He.ga K "Costs") t = true := by
      intro x hx
      simp only [List.mem_cons, List.not_mem_nil, or_false] at hx
      rcases hx with rfl | rfl | rfl | rfl
      · exact ⟨_, .base .non, kit_NoneType_Costs T, nf_Costs_NoneType T⟩
      · exact ⟨_, ty_sqT (sqT_of (r2 _ _ gv1)), kit_tuple_Costs T, nf_Costs_tuple T⟩
      · exact ⟨_, (hwo8.same r2).ty T, kit_Words_Costs T, nf_Costs_Words T⟩
      · exact ⟨_, .base (.int _), kit_int_Costs T, nf_Costs_int T⟩
    refine ⟨L, rfl, ⟨_, sqL_of gL⟩, ?_⟩
    refine for_it (walk_list (xs := [.non, .ref v1, .ref wa, .int 1])) (fun i σ' H' => (∃ y8, σ' = [some (.ref b), some (.str z), some (.ref fl), some (.ref cl), some (.ref a), some (.int (at_ : Nat)), some (.ref u5), x7, y8, none]) ∧ H' = H9) ?_ ?_ ?_ ?_
    · exact ⟨⟨_, rfl⟩, rfl⟩
    · rintro i σ' H' _ ⟨_, rfl⟩
      exact sqL_of gL
    · rintro i x σ' H10 H11 hi ⟨⟨y8, rfl⟩, rfl⟩ ⟨rfl, hx⟩
      obtain ⟨t, ht, hk, hnf⟩ := hty x (List.mem_of_getElem? hx)
      walk_at "y"
      refine ⟨a, wa, x, z, ws, cs, rfl, getA hS9, .inr ⟨t, ht, hk, hnf⟩, ?_⟩
      refine ⟨_, rfl, iteF_of rfl ?_⟩
      walk_at "y"
      exact ⟨⟨_, rfl⟩, rfl⟩
    rintro σ' H10 ⟨⟨y8, rfl⟩, rfl⟩
    walk_at "y"
    refine ⟨fl, ws.map V.str, rfl, .inl ⟨sqL_of (getF hS9), fun v2 hv2 => ?_⟩⟩
    have r3 := same_new (o := .tup (ws.map V.str)) hv2
    have gv2 : upd H10 v2 (.tup (ws.map V.str)) v2 = some (.tup (ws.map V.str)) := upd_same
    generalize upd H10 v2 (.tup (ws.map V.str)) = H11 at r3 gv2
    have hS11 := hS9.trans (hid_same r3)
    have hB11 := hB9.same r3
    walk_at "y"
    intro x4 dx4 hx4 hdx4 hne4
    have m4 : Same H11 (upd (upd H11 dx4 (.own x4)) x4 (.ins (He.ga K "Words") dx4 [])) := same_upd (same_new hdx4) (by rw [upd_ne (Ne.symm hne4)]; exact hx4)
    refine ⟨x4, dx4, z, v2, ws, rfl, upd_same, .inr (sqT_of (m4 _ _ gv2)), al, fu, fun G4 hW4 hS4 => ⟨rfl, ?_⟩⟩
    have s4 := make_same hS4 hx4 hdx4 hne4
    walk_at "y"
    refine ⟨cl, cs.map V.int, rfl, .inl ⟨sqL_of (s4 _ _ (getC hS11)), fun v3 hv3 => ?_⟩⟩
    have r4 := same_new (o := .tup (cs.map V.int)) hv3
    have gv3 : upd G4 v3 (.tup (cs.map V.int)) v3 = some (.tup (cs.map V.int)) := upd_same
    generalize upd G4 v3 (.tup (cs.map V.int)) = G4' at r4 gv3
    walk_at "y"
    intro y4 dy4 hy4 hdy4 hney4
    have my4 : Same G4' (upd (upd G4' dy4 (.own y4)) y4 (.ins (He.ga K "Costs") dy4 [])) := same_upd (same_new hdy4) (by rw [upd_ne (Ne.symm hney4)]; exact hy4)
    refine ⟨y4, dy4, .ref x4, .ref v3, rfl, upd_same, .inr ⟨x4, z, ws, .tuple (cs.map .int), rfl, (hW4.same r4).same my4, .tup (sqT_of (my4 _ _ gv3)) (dpAll_ints _), .inl ⟨cs, ⟨.inr rfl, hcn, hbd⟩, fun E4 hC4 hSy4 => ⟨rfl, ?_⟩⟩⟩⟩
    have t4 := make_same hSy4 hy4 hdy4 hney4
    walk_at "y"
    have hS12 := hS11.trans (hid_same ((s4.trans r4).trans t4))
    have hB12 := hB11.same ((s4.trans r4).trans t4)
    have hA12 := getA hS12
    obtain ⟨dxb, fsb, b1, _⟩ := hA12.ins
    refine ⟨a, dxb, fsb, _, rfl, b1, hC4.ty T, nf_Costs_Costs T, ?_⟩
    refine ⟨a, wa, .ref y4, z, ws, cs, rfl, hA12, .inl ⟨y4, x4, z, ws, cs, rfl, hC4, ?_⟩⟩
    rw [decide_eq_true ⟨rfl, rfl, rfl⟩]
    refine ⟨_, rfl, ?_⟩
    walk_at "y"
    refine ⟨true, true, rfl, rfl, ?_⟩
    refine ⟨_, rfl, iteT_of (by decide) ?_⟩
    walk_at "y"
    refine ⟨a, dxb, fsb, _, rfl, b1, hC4.ty T, nf_Costs_Costs T, ?_⟩
    refine ⟨a, wa, .ref y4, z, ws, cs, rfl, hA12, .inl ⟨y4, x4, z, ws, cs, rfl, hC4, ?_⟩⟩
    rw [decide_eq_true ⟨rfl, rfl, rfl⟩]
    refine ⟨_, rfl, ?_⟩
    walk_at "y"
    exact ⟨false, false, rfl, rfl, k _ hB12 hS12⟩
end

end K76

namespace K76
open PySem PySem.Spec L2 PH
open C8 (tCut pss_cut)
section
variable {P : Program} {w : World} {K : PySem.W.Frag} {mg : Str → Option Value} {base : Heap}
def spLaw (K : PySem.W.Frag) : Sp := fun vs H Q _ => ∃ (p : Addr) (ns : List Int), vs = [.ref p] ∧ SqL K H p (ns.map V.int) ∧ ns.length ≤ 63 ∧ ∀ H', Q (.bl true) H'
theorem ok_law (T : Ev fa fx fn K mg base) {fd : FuncData} (F : FunD K "law" "law" (defArgs s_law) (defBody s_law) (defScope s_law) [] [] (He.ga K "law") fd) : FnOk P w K mg base L2.CX0 8 (He.ga K "law") fd ["script"] (spLaw K) := by
  refine fn_law0 F sc_law (fun vs H Q E h => ?_) (fun cdv A outer s H vs Q E hr h => ?_)
  · obtain ⟨p, ns, rfl, _⟩ := h
    rfl
  · obtain ⟨p, ns, rfl, hp, hl, k⟩ := h
    refine ⟨_, (PSs.nox (pss_cons (ps_set (i := 1) sc_law.nd rfl (.inr rfl) (pe_d (ok__law_bag T) (hr.mono (by decide)) (g__law_bag T) passL (pa_cons (pv 0) pa_nil)))
      (pss_cons (ps_set (i := 2) sc_law.nd rfl (.inl rfl) (pe_d (ok__law_letters T) (hr.mono (by decide)) (g__law_letters T) passL (pa_cons (pv 1) (pa_cons pe_int pa_nil))))
      (pss_cons (ps_set (i := 3) sc_law.nd rfl (.inl rfl) (pe_d (ok__law_further T) (hr.mono (by decide)) (g__law_further T) passL (pa_cons (pv 1) (pa_cons (pv 2) (pa_cons pe_int (pa_cons (pe_op op_add pe_int (pe_d (ok__law_draw T) (hr.mono (by decide)) (g__law_draw T) passL (pa_cons (pv 1) (pa_cons pe_int pa_nil)))) pa_nil))))))
      (pss_cons (ps_set (i := 4) sc_law.nd rfl (.inl rfl) (pe_op op_cat (pe_lc (own := [("sign", 5)]) rfl sc_law.nd (pi_str (pv 2)) (blkOk_by (own := [("sign", 5)]) (N := ["script", "bag", "letters", "further", "words", "sign", "costs", "word", "plain", "handed", "priced", "value"]) (sc := defScope s_law) (by decide +kernel)) (fun _ _ _ _ _ => (pg_name (i := 5) sc_law.nd rfl (.inl rfl))) (fun _ _ _ _ _ => pts_nil) (fun _ _ _ _ _ => (pv 5))) (pv 3)))
      (pss_cons (ps_setLc (i := 6) (own := [("word", 7)]) rfl sc_law.nd rfl rfl (sw_true rfl rfl rfl (by decide +kernel)) (pi_list (pv 4)) (blkOk_by (own := [("word", 7)]) (N := ["script", "bag", "letters", "further", "words", "sign", "costs", "word", "plain", "handed", "priced", "value"]) (sc := defScope s_law) (by decide +kernel)) (fun _ _ _ _ _ => (pg_name (i := 7) sc_law.nd rfl (.inl rfl))) (fun _ _ _ _ _ => pts_nil) (fun _ _ _ _ _ => (pe_op op_add pe_int (pe_d (ok__law_draw T) (hr.mono (by decide)) (g__law_draw T) passL (pa_cons (pv 1) (pa_cons pe_int pa_nil))))))
      (pss_cons (ps_set (i := 8) sc_law.nd rfl (.inl rfl) (pe_mk' (ok_Words___init__ T) (mkr_Words T) (hr.mono (by decide)) (g_Words T) passL (pa_cons (pv 2) (pa_cons (pv 3) pa_nil))))
      (pss_cons (ps_set (i := 9) sc_law.nd rfl (.inl rfl) (pe_callTy call_list_of (by rfl) (f_list T) bb_list (pa_cons (pv 6) pa_nil)))
      (pss_cons (ps_set (i := 10) sc_law.nd rfl (.inl rfl) (pe_mk' (ok_Costs___init__ T) (mkr_Costs T) (hr.mono (by decide)) (g_Costs T) passL (pa_cons (pv 8) (pa_cons (pv 9) pa_nil))))
      (pss_cons (ps_asg pe_int (pg_sub (pv 9) (pe_d (ok__law_draw T) (hr.mono (by decide)) (g__law_draw T) passL (pa_cons (pv 1) (pa_cons (pe_callB (call_lenK (K := K) rfl) (by rfl) (f_len T) bb_len (pa_cons (pv 9) pa_nil)) pa_nil))) set_list))
      (pss_cons (ps_expr (pe_bm PySem.F.plainAttrs_list PySem.F.slot_list_append PySem.F.type_list_append mt_append (pv 9) (pa_cons pe_int pa_nil)))
      (pss_cons (ps_if (pw_or (pt_not (pt_val (pe_d (ok__law_rows T) (hr.mono (by decide)) (g__law_rows T) passL (pa_cons (pv 1) (pa_cons (pv 4) (pa_cons (pv 6) (pa_cons (pv 10) pa_nil))))))) (pw_or1 (pt_not (pt_val (pe_d (ok__law_faults T) (hr.mono (by decide)) (g__law_faults T) passL (pa_cons (pv 1) (pa_cons (pv 8) (pa_cons (pv 6) (pa_cons (pv 10) pa_nil))))))))).pt
        (pss_one (ps_ret pe_bl)) pss_nil)
      (pss_cons (ps_if (pt_not (pt_val (pe_d (ok__law_equals T) (hr.mono (by decide)) (g__law_equals T) passL (pa_cons (pv 1) (pa_cons (pv 2) (pa_cons (pv 3) (pa_cons (pv 6) (pa_cons (pv 10) pa_nil))))))))
        (pss_one (ps_ret pe_bl)) pss_nil)
      (pss_cons (ps_if (pw_or (pt_not (pt_val (pe_callB (call_isiK' (K := K) rfl) (by rfl) (f_isinstance T) bb_isinstance (pa_cons (pe_fldK (K := K) rfl (pv 10) rfl) (pa_cons (pe_ty (f_tuple T) bb_tuple) pa_nil))))) (pw_or1 (pt_cmpR (op_neDK (K := K) rfl hr.units) (pe_fldK (K := K) rfl (pv 10) rfl) (pe_callTy call_tuple_of (by rfl) (f_tuple T) bb_tuple (pa_cons (pv 6) pa_nil)) (nomark _)))).pt
        (pss_one (ps_ret pe_bl)) pss_nil)
      (pss_cons (ps_for PassesOwn.never rfl (pi_tup (pe_fldK (K := K) rfl (pv 10) rfl)) (pg_name (i := 11) sc_law.nd rfl (.inl rfl))
        (pss_one (ps_if (pt_val (pe_callB (call_isiK' (K := K) rfl) (by rfl) (f_isinstance T) bb_isinstance (pa_cons (pv 11) (pa_cons (pe_ty (f_bool T) bb_bool) pa_nil))))
        (pss_one (ps_ret pe_bl)) pss_nil)))
      (pss_one (ps_ret (pe_and (pe_callB (call_isiK' (K := K) rfl) (by rfl) (f_isinstance T) bb_isinstance (pa_cons (pe_fldK (K := K) rfl (pv 10) rfl) (pa_cons (pe_cv (g_Words T)) pa_nil))) (pe_one (pe_cmpR op_isBl (pe_cmpR (op_ownEq (eqc_Words T) (ok_Words___eq__ T) (hr.mono (by decide))) (pe_fldK (K := K) rfl (pv 10) rfl) (pv 8) (nomark _)) pe_bl (nomark _))))))))))))))))))))), ?_⟩
    walk_at "cl"
    walk_at "y"
    refine ⟨p, ns, rfl, hp, hl, fun b l H1 hb hB1 hS1 => ?_⟩
    walk_at "y"
    refine ⟨b, l, 4, rfl, hB1, by decide, by decide, fun z H2 al hB2 hS2 => ?_⟩
    walk_at "y"
    refine draw_step hB2 (by decide) (by decide) fun m H3 hm hB3 hS3 => ?_
    walk_at "y"
    refine ⟨b, l, z, 10, 2 + m, by rw [show (2 + (m : Int)) = ((2 + m : Nat) : Int) by omega]; rfl, hB3, al, by decide, by omega, by omega, fun fl ws H4 hfl0 fu0 hfl hB4 hS4 => ?_⟩
    have fu : FurtherOk z 10 6 ws := ⟨fun x hx => ⟨(fu0.ok x hx).lo, by have := (fu0.ok x hx).hi; omega, (fu0.ok x hx).ov⟩, fu0.nd, fu0.few⟩
    obtain ⟨np1, np2⟩ := allW_pos al fu
    have nfb : fl ≠ b := by
      obtain ⟨_, _, _, _, e, _⟩ := hB3
      exact (ne_of_none e hfl0).symm
    walk_at "y"
    refine ⟨z, rfl, fun D hD => ?_⟩
    have ezl : z.cps.size = z.cps.toList.length := by simp
    refine lc_it (walk_str (z := z)) (fun j H' => Same H4 H' ∧ H' D = some (.lst (((z.cps.toList.map s1).take j).map V.str))) ?_ ?_ ?_ ?_
    · exact ⟨same_new hD, upd_same⟩
    · intros
      trivial
    · rintro j x H5 H6 hj ⟨h5, hd5⟩ ⟨rfl, c, hc, rfl⟩
      have hc : z.cps.toList[j]? = some c := by rw [Array.getElem?_toList]; exact hc
      walk_at "y"
      refine ⟨rfl, ?_⟩
      walk_at "y"
      have zh := al.hi
      refine ⟨_, hd5, smallL (by simp at zh ⊢; omega), same_mut h5 hD, ?_⟩
      rw [upd_same, List.take_add_one, List.getElem?_map, hc, List.map_append]
      rfl
    rintro H5 ⟨h5, hd5⟩
    have e5 : (z.cps.toList.map s1).take z.cps.size = z.cps.toList.map s1 := List.take_of_length_le (by simp)
    rw [e5] at hd5
    walk_at "y"
    have hfew := fu.few
    have zh := al.hi
    refine ⟨D, fl, _, _, rfl, rfl, hd5, h5 _ _ hfl, small (by simp at zh ⊢; omega), fun wl hwl0 => ?_⟩
    have eW : (z.cps.toList.map s1).map V.str ++ ws.map V.str = (allW z ws).map V.str := by
      unfold allW
      rw [List.map_append]
    rw [eW]
    have h6 := same_upd (o := .lst ((allW z ws).map V.str)) h5 hwl0
    have hwl6 : upd H5 wl (.lst ((allW z ws).map V.str)) wl = some (.lst ((allW z ws).map V.str)) := upd_same
    have nwb := ((hB4.same h5).ne hwl0).1
    generalize upd H5 wl (.lst ((allW z ws).map V.str)) = H6 at h6 hwl6
    have hB6 := hB4.same h6
    have hfl6 := h6 _ _ hfl
    walk_at "y"
    refine ⟨wl, rfl, ⟨_, sqL_of hwl6⟩, fun cl hcl0 => ?_⟩
    obtain ⟨ncb, ncl⟩ := hB6.ne hcl0
    have ncw : cl ≠ wl := (ne_of_none hwl6 hcl0).symm
    refine lc_it (walk_list (xs := (allW z ws).map V.str)) (fun j H' => ∃ cs : List Int, cs.length = j ∧ (∀ c ∈ cs, 1 ≤ c ∧ c ≤ 9) ∧ H' cl = some (.lst (cs.map V.int)) ∧ BagAt H' b l ∧ Same (PH.hid [b] H6) (PH.hid [b] H')) ?_ ?_ ?_ ?_
    · exact ⟨[], rfl, (fun c hc => by cases hc), upd_same, hB6.new hcl0, hsame_mut hsame_refl hcl0⟩
    · rintro j H' _ ⟨_, _, _, _, _, h⟩
      exact sqL_of (hid_get h hwl6 (by simpa using nwb))
    · rintro j x H7 H8 hj ⟨cs, hcl, hbd, hd7, hB7, hS7⟩ ⟨rfl, hx⟩
      have hj : j < (allW z ws).length := by simpa using hj
      walk_at "y"
      refine ⟨rfl, ?_⟩
      walk_at "y"
      refine draw_step hB7 (by decide) (by decide) fun q H9 hq hB9 hS9 => ?_
      walk_at "y"
      have hd9 := hid_get hS9 hd7 (by simpa using ncb)
      refine ⟨_, hd9, smallL (by simp; omega), cs ++ [1 + (q : Int)], by simp [hcl], fun c hc => ?_, by rw [upd_same, List.map_append]; rfl, hB9.mut ncb ncl, hsame_mut (hS7.trans hS9) hcl0⟩
      rcases List.mem_append.mp hc with hc | hc
      · exact hbd c hc
      · rw [List.mem_singleton.mp hc]
        omega
    rintro H7 ⟨cs, hcn, hbd, hcl7, hB7, hS7⟩
    rw [List.length_map] at hcn
    have hwl7 := hid_get hS7 hwl6 (by simpa using nwb)
    have hfl7 := hid_get hS7 hfl6 (by simpa using nfb)
    walk_at "y"
    intro x dx hx hdx hne
    have m1 : Same H7 (upd (upd H7 dx (.own x)) x (.ins (He.ga K "Words") dx [])) := same_upd (same_new hdx) (by rw [upd_ne (Ne.symm hne)]; exact hx)
    refine ⟨x, dx, z, fl, ws, rfl, upd_same, .inl (sqL_of (m1 _ _ hfl7)), al, fu, fun G1 hW1 hSw => ⟨rfl, ?_⟩⟩
    have s1' := make_same hSw hx hdx hne
    walk_at "y"
    refine ⟨cl, cs.map V.int, rfl, .inl (sqL_of (s1' _ _ hcl7)), fun hd hhd => ?_⟩
    have r1 := same_new (o := .lst (cs.map V.int)) hhd
    have ghd : upd G1 hd (.lst (cs.map V.int)) hd = some (.lst (cs.map V.int)) := upd_same
    obtain ⟨nhb, nhl⟩ := (hB7.same s1').ne hhd
    have nhw : hd ≠ wl := (ne_of_none (s1' _ _ hwl7) hhd).symm
    have nhc : hd ≠ cl := (ne_of_none (s1' _ _ hcl7) hhd).symm
    have nhf : hd ≠ fl := (ne_of_none (s1' _ _ hfl7) hhd).symm
    generalize upd G1 hd (.lst (cs.map V.int)) = G2 at r1 ghd
    walk_at "y"
    intro y dy hy hdy hney
    have m2 : Same G2 (upd (upd G2 dy (.own y)) y (.ins (He.ga K "Costs") dy [])) := same_upd (same_new hdy) (by rw [upd_ne (Ne.symm hney)]; exact hy)
    refine ⟨y, dy, .ref x, .ref hd, rfl, upd_same, .inr ⟨x, z, ws, .list (cs.map .int), rfl, hW1.same (r1.trans m2), .lst (sqL_of (m2 _ _ ghd)) (dpAll_ints cs), .inl ⟨cs, ⟨.inl rfl, hcn, hbd⟩, fun E1 hC1 hSy => ⟨rfl, ?_⟩⟩⟩⟩
    have s2 := make_same hSy hy hdy hney
    have hB8 := hB7.same (s1'.trans (r1.trans s2))
    have hhd8 := s2 _ _ ghd
    have hwl8 := (s1'.trans (r1.trans s2)) _ _ hwl7
    have hcl8 := (s1'.trans (r1.trans s2)) _ _ hcl7
    have hfl8 := (s1'.trans (r1.trans s2)) _ _ hfl7
    have hC8 : CostsAt K (PH.hid (hd :: [b]) E1) y x z ws cs := hC1.hid fun m hm => by
      rcases List.mem_cons.mp hm with rfl | hm
      · exact ⟨_, hhd8⟩
      · rw [List.mem_singleton.mp hm]
        obtain ⟨_, _, _, _, e, _⟩ := hB8
        exact ⟨_, e⟩
    walk_at "y"
    refine v_lenL (sqL_of hhd8) ?_
    walk_at "y"
    rw [List.length_map]
    refine draw_step hB8 (by omega) (by omega) fun q H9 hq hB9 hS9 => ?_
    have hhd9 := hid_get hS9 hhd8 (by simpa using nhb)
    have hwl9 := hid_get hS9 hwl8 (by simpa using nwb)
    have hcl9 := hid_get hS9 hcl8 (by simpa using ncb)
    have hfl9 := hid_get hS9 hfl8 (by simpa using nfb)
    refine v_setL hhd9 (j := q) (by rw [List.length_map]; exact ixN_nat' (by omega)) ?_
    have hB10 := hB9.mut (o := .lst ((cs.map V.int).set q (.int 10))) nhb nhl
    walk_at "y"
    refine ⟨ty_list (sqL_of upd_same), ?_⟩
    walk_at "y"
    refine v_append upd_same (smallL (by simp; omega)) ?_
    walk_at "y"
    have hB11 := hB10.mut (o := .lst ((cs.map V.int).set q (.int 10) ++ [.int 1])) nhb nhl
    have hC11 : CostsAt K (PH.hid (hd :: [b]) (upd (upd H9 hd (.lst ((cs.map V.int).set q (.int 10)))) hd (.lst ((cs.map V.int).set q (.int 10) ++ [.int 1])))) y x z ws cs := by
      rw [hid_in (by simp), hid_in (by simp)]
      exact hC8.same (hsame_more hS9)
    have hwl11 : upd (upd H9 hd (.lst ((cs.map V.int).set q (.int 10)))) hd (.lst ((cs.map V.int).set q (.int 10) ++ [.int 1])) wl = some (.lst ((allW z ws).map V.str)) := by rw [upd_ne (Ne.symm nhw), upd_ne (Ne.symm nhw)]; exact hwl9
    have hcl11 : upd (upd H9 hd (.lst ((cs.map V.int).set q (.int 10)))) hd (.lst ((cs.map V.int).set q (.int 10) ++ [.int 1])) cl = some (.lst (cs.map V.int)) := by rw [upd_ne (Ne.symm nhc), upd_ne (Ne.symm nhc)]; exact hcl9
    have hfl11 : upd (upd H9 hd (.lst ((cs.map V.int).set q (.int 10)))) hd (.lst ((cs.map V.int).set q (.int 10) ++ [.int 1])) fl = some (.lst (ws.map V.str)) := by rw [upd_ne (Ne.symm nhf), upd_ne (Ne.symm nhf)]; exact hfl9
    generalize upd (upd H9 hd (.lst ((cs.map V.int).set q (.int 10)))) hd (.lst ((cs.map V.int).set q (.int 10) ++ [.int 1])) = H11 at hB11 hC11 hwl11 hcl11 hfl11
    have hC11 : CostsAt K (PH.hid [b] H11) y x z ws cs := hC11.same hid_more
    refine ⟨b, l, wl, cl, y, x, z, ws, cs, rfl, hB11, nwb, ncb, hwl11, hcl11, hC11, fun H12 hB12 hS12 => ?_⟩
    refine ⟨_, rfl, iteF_of rfl ?_⟩
    walk_at "y"
    refine ⟨b, l, x, cl, y, z, ws, cs, rfl, hB12, ncb, hid_get hS12 hcl11 (by simpa using ncb), hC11.same hS12, fun H13 hB13 hS13 => ?_⟩
    refine ⟨_, rfl, iteF_of rfl ?_⟩
    have hS13 := hS12.trans hS13
    walk_at "y"
    refine ⟨b, l, fl, cl, y, x, z, ws, cs, rfl, hB13, nfb, ncb, hid_get hS13 hfl11 (by simpa using nfb), hid_get hS13 hcl11 (by simpa using ncb), hC11.same hS13, fun H14 hB14 hS14 => ?_⟩
    have hS14 := hS13.trans hS14
    refine ⟨_, rfl, iteF_of rfl ?_⟩
    walk_at "y"
    have hC14 := (hC11.same hS14).same hid_sub
    have ⟨hwo, _, _, dxa, cpa, pra, fsa, kva, a1, a2, a3, _, _, a6, _⟩ := hC14
    have hcp : SqT K H14 cpa (cs.map V.int) := sqT_same hid_sub a6
    have hcl14 := hid_get hS14 hcl11 (by simpa using ncb)
    refine ⟨_, _, _, _, _, rfl, a1, (cls_Costs T), (no_Costs_costs T), a3, ?_⟩
    walk_at "y"
    refine isi_tuple (.tup hcp (dpAll_ints cs)) ?_
    walk_at "y"
    refine iteF_of rfl ?_
    walk_at "y"
    refine ⟨_, _, _, _, _, rfl, a1, (cls_Costs T), (no_Costs_costs T), a3, ?_⟩
    walk_at "y"
    refine ⟨cl, cs.map V.int, rfl, .inl ⟨sqL_of hcl14, fun v3 hv3 => ?_⟩⟩
    have r3 := same_new (o := .tup (cs.map V.int)) hv3
    have gv3 : upd H14 v3 (.tup (cs.map V.int)) v3 = some (.tup (cs.map V.int)) := upd_same
    generalize upd H14 v3 (.tup (cs.map V.int)) = H15 at r3 gv3
    walk_at "y"
    refine ⟨_, _, .tup (sqT_same r3 hcp) (dpAll_ints cs), .tup (sqT_of gv3) (dpAll_ints cs), (shaped_ints cs).1, (shaped_ints cs).1, ?_⟩
    rw [PySem.SeqAt.eqv_refl _ (SeqAt.canLay_of_shaped (shaped_ints cs).1)]
    refine ⟨_, rfl, iteF_of rfl ?_⟩
    have a1' := r3 _ _ a1
    walk_at "x"
    refine ⟨_, _, _, _, _, rfl, a1', (cls_Costs T), (no_Costs_costs T), a3, ?_⟩
    refine ⟨cpa, rfl, ⟨_, sqT_same r3 hcp⟩, ?_⟩
    refine for_it (walk_tup (xs := cs.map V.int)) (fun i σ' H' => (∃ u, σ' = [some (.ref p), some (.ref b), some (.str z), some (.ref fl), some (.ref wl), none, some (.ref cl), none, some (.ref x), some (.ref hd), some (.ref y), u]) ∧ H' = H15) ?_ ?_ ?_ ?_
    · exact ⟨⟨_, rfl⟩, rfl⟩
    · rintro i σ' H' _ ⟨_, rfl⟩
      exact sqT_same r3 hcp
    · rintro i v σ' H16 H17 hi ⟨⟨u, rfl⟩, rfl⟩ ⟨rfl, hv⟩
      obtain ⟨c, _, rfl⟩ := List.mem_map.mp (List.mem_of_getElem? hv)
      walk_at "y"
      refine isi_bool (.int c) ?_
      walk_at "y"
      refine iteF_of rfl ?_
      walk_at "y"
      exact ⟨⟨_, rfl⟩, rfl⟩
    rintro σ' H16 ⟨⟨u, rfl⟩, rfl⟩
    walk_at "y"
    refine ⟨_, _, _, _, _, rfl, a1', (cls_Costs T), (no_Costs_words T), a2, ?_⟩
    walk_at "y"
    refine isi_own ((hwo.same r3).ty T) (kit_Words_Words T) ?_
    walk_at "y"
    refine ⟨_, _, _, _, _, rfl, a1', (cls_Costs T), (no_Costs_words T), a2, ?_⟩
    walk_at "y"
    have hwo16 := hwo.same r3
    have ⟨_, _, dxw, _, _, fsw, _, w1, _⟩ := hwo16
    refine ⟨x, dxw, fsw, _, rfl, w1, hwo16.ty T, nf_Words_Words T, ?_⟩
    refine ⟨x, .ref x, z, ws, rfl, hwo16, .inl ⟨x, z, ws, rfl, hwo16, ?_⟩⟩
    rw [decide_eq_true ⟨rfl, rfl⟩]
    refine ⟨_, rfl, ?_⟩
    walk_at "y"
    exact ⟨true, true, rfl, rfl, k _⟩
end

end K76

set_option Elab.async false
set_option linter.all false
set_option maxRecDepth 100000
set_option maxHeartbeats 0
namespace K76
open PySem PySem.Spec PyProof.Rows L2 PH
theorem run (w : World) : HandSHeadRun.RunEq R (PySem.W.view R.prog [lawPlace]) hk ob 8000 loose w := by
  intro os
  kernel_rfl
end K76

set_option maxHeartbeats 8000000
namespace K76
open PySem PySem.Spec PyProof.Rows L2 PH
theorem facts {P : Program} {w : World} {K : PySem.W.Frag} {h : Heap} {mg : Str → Option Value} {f : Addr} (X : K.In h) (G : h.Ns mainGlobals mg) (hfa : mg ("law" : Str) = some (.ref f)) (c : SaysX fa fx fn K) :
    ∃ fd : FuncData, (∀ (s : Shared) (v : Value), BindsTo s fd ⟨[v], []⟩ [("script", v)]) ∧ ∀ base : Heap, K.In base → base.Ns mainGlobals mg → FnOk P w K mg base CX0 8 f fd ["script"] (spLaw K) := by
  have T : Ev fa fx fn K mg h := ⟨X, G, c⟩
  obtain ⟨fd, F⟩ := d_law T
  have e := hfa.symm.trans (g_law T)
  cases e
  have b := FunD.bindsA (ps := ["script"]) F bo_law
  exact ⟨fd, fun s v => b s [v] rfl, fun base KB GB => ok_law ⟨KB, GB, c⟩ F⟩
end K76
open PySem PySem.W PySem.Calls PyProof.Rows
theorem PySem.Challenge.cw_piecehouse_k76_costs_of_rows_holds : PySem.Challenge.rw_piecehouse_k76_costs_of_rows.Holds := by
  w_on; o_law
  refine HandSHeadRun.head_any (r := OpenLaw.row K76.RWL) (q := view (OpenLaw.row K76.RWL).prog [K76.lawPlace]) (H := K76.hk) (ob := K76.ob) (M := 8000) (loose := K76.loose) (d := HandSHeadRun.topDef (OpenLaw.row K76.RWL).prog K76.lawPlace) (kwd := []) K76.ob_eq
    (by kernel_rfl) (fun s => by kernel_rfl) K76.run (by kernel_rfl) (by kernel_rfl) (by kernel_rfl) (by rfl) (by first | assumption | decide +kernel) (by decide +kernel) ⟨rfl, rfl, rfl, rfl, rfl, by decide +kernel⟩ ?hw ?hc
  case hw => w_witness2
  case hc =>
    refine L2.walk_ofE (l := K76.RWL) (n := 63) (k := 8) (x := "script") (CX := L2.CX0) rfl (by decide) (by kernel_rfl) ⟨rfl, by decide, by decide⟩ ?F (fun _ _ _ _ z => z)
    intro w mg fa h Y G hmg0
    obtain ⟨K, KX, c⟩ := Y
    have hmg : mg ("law" : PySem.Str) = some (.ref fa) := by
      have e : (HandSHeadRun.topDef (OpenLaw.row K76.RWL).prog K76.lawPlace).name = ("law" : PySem.Str) := by kernel_rfl
      rw [← e]
      exact hmg0
    obtain ⟨fd, hb, hF⟩ := K76.facts (P := (K76.RWL).prog) (w := w) KX G hmg c
    exact ⟨K, fd, K76.spLaw K, KX, hb, fun H a ns hl _ hS => ⟨a, ns, rfl, hS, hl, fun _ => rfl⟩, hF⟩
