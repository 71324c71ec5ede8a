import PyProof.Rows.All
import Wide.All
import OpenK.AllK
import Wide.FinOn
import KE.KStateDown
import HandS.ForMost
import HandS.ForExc
import HandS.Codes
import HandS.Conv
import HandS.IsInst
import HandS.DictComp
import HandS.ExcInit
import HandS.ExcField
import HandS.ExcIs
import HandS.TryMany
import HandS.HotCalls
import HandS.Wide
import HandS.Walk
import HandS.Defaults
import HandS.SetKeys
import HandS.Set
import HandS.Strs
import HandS.StrMore
import HandS.OwnEq
import HandS.Head0
import HandS.Head1
import HandS.Head2
import HandS.HeadEnd
import HandS.HeadHook1
import HandS.HeadHook2
import HandS.CallSlots
import KE.KExcIs
import PyProof.InstNe
import PyProof.TupleOfStr
import PyProof.ListStr
import PyProof.StrOps2
import KE.GoesEnum
import HandS.SetFor
import HandS.TupAny
import HandS.Style
import HandS.Head3
import HandS.RevRange
import HandS.Rev
import HandS.Deep
import HandS.WideBits
import KE.SortData
import KE.DataMinMax
import PyProof.Claim2Refuses
import HandS.Replace
import PyProof.StrLawsIn
import PySem.Challenge.RW_piecehouse_k80_whole_marked_texts
set_option Elab.async false
set_option linter.all false
set_option maxRecDepth 100000
set_option maxHeartbeats 4000000
/-! # The base: heaps with hidden (mutable) places, packaged defs -/
namespace PH
open PySem PySem.Spec PyProof.Rows L2

/-! ### heaps -/
theorem same_new {H : Hp} {p : Addr} {o : HO} (h : H p = none) : Same H (upd H p o) := fun a u e => by
  rw [upd_ne (ne_of_none e h)]
  exact e
theorem same_mut {H H' : Hp} {p : Addr} {o : HO} (e : Same H H') (h : H p = none) : Same H (upd H' p o) := fun a u ha => by
  rw [upd_ne (ne_of_none ha h)]
  exact e a u ha
theorem same_upd {H H' : Hp} {p : Addr} {o : HO} (e : Same H H') (h : H' p = none) : Same H (upd H' p o) := e.trans (same_new h)
theorem rd_same {H H' : Hp} {a : Addr} {u : HO} (e : Same H H') (h : Rd H a u) : Rd H' a u := by
  rcases h with h | ⟨o, h⟩
  · exact .inl (e a _ h)
  · exact .inr ⟨o, e a _ h⟩
theorem sqT_same {K : PySem.W.Frag} {H H' : Hp} {a : Addr} {xs : List V} (e : Same H H') (h : SqT K H a xs) : SqT K H' a xs := by
  rcases h with h | h
  · exact .inl (rd_same e h)
  · exact .inr h

/-- the heap without the places in M -/
def hid (M : List Addr) (H : Hp) : Hp := fun a => if a ∈ M then none else H a
theorem hid_nil {H : Hp} : hid [] H = H := by
  funext a
  simp [hid]
theorem hid_sub {M : List Addr} {H : Hp} : Same (hid M H) H := fun a o e => by
  unfold hid at e
  split at e
  · cases e
  · exact e
theorem hid_same {M : List Addr} {H H' : Hp} (e : Same H H') : Same (hid M H) (hid M H') := fun a o h => by
  unfold hid at h ⊢
  split at h
  · cases h
  · rename_i hn
    rw [if_neg hn]
    exact e a o h
theorem hid_at {M : List Addr} {H : Hp} {p : Addr} {o : HO} (h : H p = some o) (hp : p ∉ M) : hid M H p = some o := by
  unfold hid
  rw [if_neg hp]
  exact h
theorem hid_in {M : List Addr} {H : Hp} {p : Addr} {o : HO} (hp : p ∈ M) : hid M (upd H p o) = hid M H := by
  funext a
  unfold hid
  by_cases h : a ∈ M
  · rw [if_pos h, if_pos h]
  · rw [if_neg h, if_neg h, upd_ne (fun z : a = p => h (z ▸ hp))]
theorem hid_new {M : List Addr} {H : Hp} {p : Addr} {o : HO} (h : H p = none) : Same (hid M H) (hid (p :: M) (upd H p o)) := fun a u e => by
  unfold hid at e ⊢
  split at e
  · cases e
  · rename_i hn
    have ne := ne_of_none e h
    rw [if_neg (by simp [hn, ne]), upd_ne ne]
    exact e
theorem hid_more {M : List Addr} {H : Hp} {p : Addr} : Same (hid (p :: M) H) (hid M H) := fun a u e => by
  unfold hid at e ⊢
  split at e
  · cases e
  · rename_i hn
    rw [if_neg (fun z => hn (List.mem_cons_of_mem _ z))]
    exact e
theorem hid_none {M : List Addr} {H : Hp} {p : Addr} (h : p ∈ M) : hid M H p = none := by
  unfold hid
  rw [if_pos h]

/-! ### data -/
mutual
theorem dp_same {K : PySem.W.Frag} {H H' : Hp} (e : Same H H') : ∀ (d : PyData) (v : V), Dp K H v d → Dp K H' v d
  | .none, _, h => by cases h; exact .non
  | .bool b, _, h => by cases h; exact .bl b
  | .int i, _, h => by cases h; exact .int i
  | .str x, _, h => by cases h; exact .str x
  | .list ds, _, h => by
    cases h with
    | lst hs ha => exact .lst (Same.seq e hs) (dpAll_same e ds _ ha)
  | .tuple ds, _, h => by
    cases h with
    | tup hs ha => exact .tup (sqT_same e hs) (dpAll_same e ds _ ha)
  | .dict _, _, h => by cases h
theorem dpAll_same {K : PySem.W.Frag} {H H' : Hp} (e : Same H H') : ∀ (ds : List PyData) (vs : List V), DpAll K H vs ds → DpAll K H' vs ds
  | [], _, h => by cases h; exact .nil
  | d :: ds, _, h => by
    cases h with
    | cons h1 h2 => exact .cons (dp_same e d _ h1) (dpAll_same e ds _ h2)
end
theorem dpAll_ints {K : PySem.W.Frag} {H : Hp} : ∀ ns : List Int, DpAll K H (ns.map V.int) (ns.map PyData.int)
  | [] => .nil
  | n :: r => .cons (.int n) (dpAll_ints r)
theorem dpAll_strs {K : PySem.W.Frag} {H : Hp} : ∀ ns : List Str, DpAll K H (ns.map V.str) (ns.map PyData.str)
  | [] => .nil
  | n :: r => .cons (.str n) (dpAll_strs r)

/-! ### a def, packaged; what may leave it: L2.CX P w -/
structure Dn (P : Program) (w : World) (K : PySem.W.Frag) (mg : Str → Option Value) (base : Heap) (k : Nat) (f : Addr) (ps : List Str) (sp : Sp) : Prop where
  ex : ∃ fd, FnOk P w K mg base (L2.CX P w) k f fd ps sp ∧ Binds K fd ps []
  kp : PySem.W.keepIn K (.ref f) = true
theorem Dn.imp {P : Program} {w : World} {K : PySem.W.Frag} {mg : Str → Option Value} {base : Heap} {k : Nat} {f : Addr} {ps : List Str} {sp sp' : Sp} (F : Dn P w K mg base k f ps sp) (h : ∀ vs H Q E, sp' vs H Q E → sp vs H Q E) : Dn P w K mg base k f ps sp' := by
  obtain ⟨⟨fd, F1, F2⟩, kp⟩ := F
  exact ⟨⟨fd, F1.imp h, F2⟩, kp⟩
theorem Dn.mono {P : Program} {w : World} {K : PySem.W.Frag} {mg : Str → Option Value} {base : Heap} {k j : Nat} {f : Addr} {ps : List Str} {sp : Sp} (F : Dn P w K mg base k f ps sp) (h : k ≤ j) : Dn P w K mg base j f ps sp := by
  obtain ⟨⟨fd, F1, F2⟩, kp⟩ := F
  exact ⟨⟨fd, F1.mono h, F2⟩, kp⟩
/-- how a def without defaults binds -/
def BindOk (x qual : Str) (st : Stmt) (ps : List Str) : Prop :=
  ∀ (kV doc pm : Value) (an : Option Addr) (cdv ct : Value) (us : List Value), us.length = ps.length → bindArgs (PySem.W.fnOf x qual (defArgs st) (defBody st) (defScope st) .none kV doc pm an cdv ct) ⟨us, []⟩ = pure (ps.zip us)
section
variable {P : Program} {w : World} {K : PySem.W.Frag} {mg : Str → Option Value} {base : Heap}
/-- THE RULE for a def -/
theorem dn_of {x qual : Str} {st : Stmt} {f : Addr} {N ps : List Str} {k : Nat} {sp : Sp} (F : ∃ fd, FunD K x qual (defArgs st) (defBody st) (defScope st) [] [] f fd) (S : FnScope N ps (defScope st)) (b : BindOk x qual st ps)
    (len : ∀ vs H Q E, sp vs H Q E → vs.length = ps.length)
    (hbody : ∀ (cdv : Value) (A : Around) (outer : List Env) (s : Shared) (H : Hp) (vs : List V) (Q : VK) (E : XK), Room k (A.deeper (envOfC qual (defScope st) s.heap.objs.size f cdv)) → sp vs H Q E →
      ∃ t, PSs (cxOf (L2.CX P w) P w K mg base N qual (defScope st) f cdv A outer s H E) (defBody st) t ∧ t { nx := fun _ H' => Q .non H', rt := Q } (start N vs) H) : Dn P w K mg base (k + 1) f ps sp := by
  obtain ⟨fd, F⟩ := F
  exact ⟨⟨fd, F.ok S len hbody, F.bindsN b⟩, F.kp⟩
end
section
variable {X : Cx} {k : Nat} {f C : Addr} {ps : List Str} {sp : Sp} {E : XK} {x m : Str} {p pos apos : Pos} {e o : Expr} {es : List Expr} {ta : TE} {t : TA}
theorem pe_d (F : Dn X.prog X.w X.K X.mg X.base k f ps sp) (hr : Room k X.A) (hm : X.mg x = some (.ref f)) (hx : Passes (L2.CX X.prog X.w) X E) (ha : PA X (e :: es) t) (hg : Gl X x := by rfl)
    (hdb : (x == ("__debug__" : Str)) = false := by decide) (he : starEach (e :: es) X.env = (false, eval e X.env) :: starEach es X.env := by rfl) (hpl : (backTo pos (starEach es X.env)).any (·.1) = false := by rfl) :
    PE X (.Call (.Name x p) (e :: es) [] pos) (tCall sp [] E t) := by
  obtain ⟨⟨fd, F1, F2⟩, kp⟩ := F
  exact pe_call F1 hr hg hm kp F2 .nil hx ha hdb he hpl
theorem pe_d0 (F : Dn X.prog X.w X.K X.mg X.base k f ps sp) (hr : Room k X.A) (hm : X.mg x = some (.ref f)) (hx : Passes (L2.CX X.prog X.w) X E) (hg : Gl X x := by rfl)
    (hdb : (x == ("__debug__" : Str)) = false := by decide) : PE X (.Call (.Name x p) [] [] pos) (tCall sp [] E tNil) := by
  obtain ⟨⟨fd, F1, F2⟩, kp⟩ := F
  exact pe_call0 F1 hr hg hm kp F2 .nil hx hdb
theorem pe_m {pl : Sem Bool} (F : Dn X.prog X.w X.K X.mg X.base k f ps sp) (hr : Room k X.A) (c : Cls X.K C) (hm : Meth X.K C m f) (hx : Passes (L2.CX X.prog X.w) X E) (he : PE X o ta) (ha : PA X (e :: es) t)
    (hst : starEach (e :: es) X.env = (false, eval e X.env) :: starEach es X.env := by rfl) (hpl : (backTo pos (starEach es X.env)).any (·.1) = false := by rfl)
    (ht : eval (.Call (.Attribute o m apos) (e :: es) [] pos) X.env = (do
      let ov ← eval o X.env
      standAt apos.atName
      let (f, first) ← holding [ov] (getMethod ov m pl)
      callWith pos f first (backTo pos (starEach (e :: es) X.env)) (backToKw pos (keywordEach [] X.env))) := by rfl) :
    PE X (.Call (.Attribute o m apos) (e :: es) [] pos) (tMeth C m sp [] E ta t) := by
  obtain ⟨⟨fd, F1, F2⟩, kp⟩ := F
  exact pe_meth he c hm F1 hr F2 .nil hx ha hst hpl ht
theorem pe_m0 {pl : Sem Bool} (F : Dn X.prog X.w X.K X.mg X.base k f ps sp) (hr : Room k X.A) (c : Cls X.K C) (hm : Meth X.K C m f) (hx : Passes (L2.CX X.prog X.w) X E) (he : PE X o ta)
    (ht : eval (.Call (.Attribute o m apos) [] [] pos) X.env = (do
      let ov ← eval o X.env
      standAt apos.atName
      let (f, first) ← holding [ov] (getMethod ov m pl)
      callWith pos f first (backTo pos (starEach [] X.env)) (backToKw pos (keywordEach [] X.env))) := by rfl) :
    PE X (.Call (.Attribute o m apos) [] [] pos) (tMeth C m sp [] E ta tNil) := by
  obtain ⟨⟨fd, F1, F2⟩, kp⟩ := F
  exact pe_meth0 he c hm F1 hr F2 .nil hx ht
theorem pe_mk' (F : Dn X.prog X.w X.K X.mg X.base k f ps sp) (M : Mk X.K C f) (hr : Room (k + 1) X.A) (hm : X.mg x = some (.ref C)) (hx : Passes (L2.CX X.prog X.w) X E) (ha : PA X (e :: es) t) (hg : Gl X x := by rfl)
    (hdb : (x == ("__debug__" : Str)) = false := by decide) (he : starEach (e :: es) X.env = (false, eval e X.env) :: starEach es X.env := by rfl) (hpl : (backTo pos (starEach es X.env)).any (·.1) = false := by rfl) :
    PE X (.Call (.Name x p) (e :: es) [] pos) (tMake C sp [] E t) := by
  obtain ⟨⟨fd, F1, F2⟩, kp⟩ := F
  exact pe_make M F1 hr hg hm F2 .nil hx ha hdb he hpl
end
end PH

set_option Elab.async false
set_option linter.all false
set_option maxRecDepth 100000
set_option maxHeartbeats 4000000
/-! # The head's facts: exceptions, isinstance; the hook -/
namespace PH
open PySem PySem.Spec PyProof.Rows L2

/-- a class by its name: of the text | built in -/
inductive Cn where
  | own (x : Str)
  | blt (n : String)
def Cn.val (K : PySem.W.Frag) : Cn → Value
  | .own x => .ref (He.ga K x)
  | .blt n => .type n
/-- an own exception class over ValueError -/
def oexB (K : PySem.W.Frag) (C : Addr) : Bool := match K.lookup C with
  | some ⟨.type "type", _, .cls cd, sl⟩ => (match cd.mro, sl.toList with
    | .ref C' :: bm, [_, _, _, _, some (.builtin n), _] => C' == C && n == "ValueError.__new__" && !cd.hasDel && cd.hasDict && PySem.HandSPX.refsVE bm
    | _, _ => false)
  | _ => false
theorem oexB_ok {K : PySem.W.Frag} {C : Addr} (q : oexB K C = true) : ∃ nm q N bs bm sn sub ab col dd k0 k1 k2 k3 k5, K.lookup C = some (excClassObj nm q C N bs bm true sn sub ab col dd k0 k1 k2 k3 k5 "ValueError.__new__") ∧ PySem.HandSPX.refsVE bm = true := by
  unfold oexB at q
  split at q
  · rename_i dd cd sl ho
    split at q
    · rename_i C' bm k0 k1 k2 k3 n k5 hm hs
      simp only [Bool.and_eq_true, beq_iff_eq, Bool.not_eq_true'] at q
      obtain ⟨⟨⟨⟨rfl, rfl⟩, hdel⟩, hdict⟩, ht⟩ := q
      obtain ⟨nm, bs, mro, ns, qn, hd, sn, sub, ab, col, del⟩ := cd
      dsimp only at hm hdel hdict
      subst hm hdel hdict
      have hsl : sl = #[k0, k1, k2, k3, some (.builtin "ValueError.__new__"), k5] := by
        obtain ⟨l⟩ := sl
        simp only at hs
        rw [hs]
      subst hsl
      exact ⟨nm, qn, ns, bs, bm, sn, sub, ab, col, dd, k0, k1, k2, k3, k5, ho, ht⟩
    · cases q
  · cases q
def eqO' (a b : Option (Option Value)) : Bool := decide (a = b)
def xcB (K : PySem.W.Frag) (C : Addr) : Bool :=
  oexB K C && (He.eqO (PySem.W.findIn K (.ref C) "__setattr__") (some (some (.builtin "object.__setattr__"))) && (decide (PySem.W.subIn K (.ref C) (.type "BaseException") = some true) && (decide (PySem.W.typeIn K (.ref C) = some (.type "type")) &&
  (PySem.W.keepIn K (.ref C) && (He.eqO (PySem.W.findIn K (.ref C) "__init__") (some (some (.ref (He.ma K C "__init__")))) && (decide (PySem.W.typeIn K (.ref (He.ma K C "__init__")) = some (.type "function")) &&
  (He.eqO (PySem.W.findIn K (.ref C) "__getattribute__") (some (some (.builtin "BaseException.__getattribute__"))) && (He.eqO (PySem.W.findIn K (.ref C) "__getattr__") (some none) && (PySem.W.hasDictIn K C &&
  (He.eqO (PySem.W.findIn K (.ref C) "__class__") (some (some (.builtin "object.__class__"))) && (He.eqO (PySem.W.specialIn K (.builtin "object.__class__") "__get__") (some (some (.builtin "getset_descriptor.__get__"))) &&
  (decide (PySem.W.takesIn K (.builtin "object.__class__") = some true) && decide (PySem.W.mroIn K C (.type "object") = some true)))))))))))))
/-- an exception class of the text, with its own __init__ -/
structure Xc (K : PySem.W.Frag) (C : Addr) : Prop where
  oex : OexC K C
  iC : PySem.W.findIn K (.ref C) "__init__" = some (some (.ref (He.ma K C "__init__")))
  tI : PySem.W.typeIn K (.ref (He.ma K C "__init__")) = some (.type "function")
  xf : XfC K C
  ex : ExcC K C
theorem xcB_ok {K : PySem.W.Frag} {C : Addr} (h : xcB K C = true) : Xc K C := by
  obtain ⟨h1, h⟩ := He.ba h
  obtain ⟨h2, h⟩ := He.ba h
  obtain ⟨h3, h⟩ := He.ba h
  obtain ⟨h4, h⟩ := He.ba h
  obtain ⟨h5, h⟩ := He.ba h
  obtain ⟨h6, h⟩ := He.ba h
  obtain ⟨h7, h⟩ := He.ba h
  obtain ⟨h8, h⟩ := He.ba h
  obtain ⟨h9, h⟩ := He.ba h
  obtain ⟨h10, h⟩ := He.ba h
  obtain ⟨h11, h⟩ := He.ba h
  obtain ⟨h12, h⟩ := He.ba h
  obtain ⟨h13, h14⟩ := He.ba h
  exact ⟨⟨oexB_ok h1, He.eqO_ok h2, of_decide_eq_true h3, of_decide_eq_true h4, h5⟩, He.eqO_ok h6, of_decide_eq_true h7, ⟨He.eqO_ok h8, He.eqO_ok h9, of_decide_eq_true h3, h10⟩,
    ⟨He.eqO_ok h8, He.eqO_ok h9, of_decide_eq_true h3, h10, He.eqO_ok h11, He.eqO_ok h12, of_decide_eq_true h13, of_decide_eq_true h14⟩⟩
/-- what isinstance asks of an own class whose instances are judged -/
def icB (K : PySem.W.Frag) (C : Addr) : Bool :=
  He.eqO (PySem.W.findIn K (.ref C) "__class__") (some (some (.builtin "object.__class__"))) && (He.eqO (PySem.W.specialIn K (.builtin "object.__class__") "__get__") (some (some (.builtin "getset_descriptor.__get__"))) &&
  (decide (PySem.W.takesIn K (.builtin "object.__class__") = some true) && decide (PySem.W.mroIn K C (.type "object") = some true)))
structure Ic (K : PySem.W.Frag) (C : Addr) : Prop where
  ha : PySem.W.findIn K (.ref C) "__class__" = some (some (.builtin "object.__class__"))
  hn : PySem.W.specialIn K (.builtin "object.__class__") "__get__" = some (some (.builtin "getset_descriptor.__get__"))
  htk : PySem.W.takesIn K (.builtin "object.__class__") = some true
  hm : PySem.W.mroIn K C (.type "object") = some true
theorem icB_ok {K : PySem.W.Frag} {C : Addr} (h : icB K C = true) : Ic K C := by
  obtain ⟨h1, h⟩ := He.ba h
  obtain ⟨h2, h⟩ := He.ba h
  obtain ⟨h3, h4⟩ := He.ba h
  exact ⟨He.eqO_ok h1, He.eqO_ok h2, of_decide_eq_true h3, of_decide_eq_true h4⟩
/-- further facts -/
inductive Fx where
  | exc (x : Str)
  | kit (t c : Cn) (b : Bool)
  | ins (x : Str)
  | any (g : PySem.W.Frag → Bool)
def Fx.ok (K : PySem.W.Frag) : Fx → Bool
  | .exc x => xcB K (He.ga K x)
  | .kit t c b => decide (PySem.W.kitOne K (t.val K) (c.val K) = some b)
  | .ins x => icB K (He.ga K x)
  | .any g => g K
/-! ### the hook -/
def obsX (fa : List He.Fa) (fx : List Fx) (fn : List He.DefD) (K : PySem.W.Frag) : He.AlD := ((He.obsD fa fn K).1 && fx.all (fun f => f.ok K), (He.obsD fa fn K).2)
structure SaysX (fa : List He.Fa) (fx : List Fx) (fn : List He.DefD) (K : PySem.W.Frag) : Prop where
  says : He.SaysD fa fn K
  more : ∀ f ∈ fx, f.ok K = true
theorem saysX_of {fa : List He.Fa} {fx : List Fx} {fn : List He.DefD} {K : PySem.W.Frag} (h : obsX fa fx fn K = He.valD fn) : SaysX fa fx fn K := by
  have h1 : ((He.obsD fa fn K).1 && fx.all (fun f => f.ok K)) = true := congrArg (fun z : He.AlD => z.1) h
  have h2 : (obsX fa fx fn K).2 = (He.valD fn).2 := by rw [h]
  have h2 : (He.obsD fa fn K).2 = (He.valD fn).2 := h2
  obtain ⟨h3, h4⟩ := He.ba h1
  refine ⟨?_, fun f hf => List.all_eq_true.mp h4 f hf⟩
  show He.obsD fa fn K = He.valD fn
  have : He.obsD fa fn K = ((He.obsD fa fn K).1, (He.obsD fa fn K).2) := rfl
  rw [this, h3, h2] <;> rfl
def obsXG (n : Nat) (fa : List He.Fa) (fx : List Fx) (fn : List He.DefD) (g : Addr → Option Obj) : He.AlD := obsX fa fx fn (He.frG g (He.asD g n))
def hookX (n : Nat) (fa : List He.Fa) (fx : List Fx) (fn : List He.DefD) : PySem.W.Hook where
  α := He.AlD
  obs := fun s => obsXG n fa fx fn s.heap.get?
  val := fun _ => He.valD fn
  says := fun _ h => ∃ K : PySem.W.Frag, K.In h ∧ SaysX fa fx fn K
  of := fun _ _ e => ⟨_, He.frG_in, saysX_of e⟩
  keeps := fun _ _ _ ⟨K, hK, c⟩ k => ⟨K, PySem.W.Frag.In.keeps hK k, c⟩
theorem obsXG_eq {n : Nat} {fa : List He.Fa} {fx : List Fx} {fn : List He.DefD} {g : Addr → Option Obj} {s : Shared} (h : ∀ a, g a = s.heap.get? a) : obsXG n fa fx fn g = (hookX n fa fx fn).obs s := by
  have e : g = s.heap.get? := funext h
  rw [e] <;> rfl
section
variable {fa : List He.Fa} {fx : List Fx} {fn : List He.DefD} {K : PySem.W.Frag}
theorem SaysX.fact (c : SaysX fa fx fn K) (i : Nat) {f : He.Fa} (h : fa[i]? = some f := by rfl) : f.ok K = true := c.says.fact i h
theorem SaysX.xt (c : SaysX fa fx fn K) (i : Nat) {f : Fx} (h : fx[i]? = some f := by rfl) : f.ok K = true := c.more f (List.mem_of_getElem? h)
theorem SaysX.def_ (c : SaysX fa fx fn K) (i : Nat) {d : He.DefD} (h : fn[i]? = some d := by rfl) : ∃ fd, FunD K d.name d.qual d.params d.body d.scope (d.dvs K) (d.kws K) (He.fAd K d.at_) fd := c.says.def_ i h
end
/-- what the bodies lean on -/
structure Ev (fa : List He.Fa) (fx : List Fx) (fn : List He.DefD) (K : PySem.W.Frag) (mg : Str → Option Value) (base : Heap) : Prop where
  kin : K.In base
  ns : base.Ns mainGlobals mg
  says : SaysX fa fx fn K
section
variable {fa : List He.Fa} {fx : List Fx} {fn : List He.DefD} {K : PySem.W.Frag} {mg : Str → Option Value} {base : Heap}
theorem Ev.glo (T : Ev fa fx fn K mg base) (i : Nat) {x : Str} (h : fa[i]? = some (.glo x) := by rfl) : mg x = some (.ref (He.ga K x)) := He.glo_ok T.kin T.ns (T.says.fact i h)
theorem Ev.free (T : Ev fa fx fn K mg base) (i : Nat) {x : Str} (h : fa[i]? = some (.free x) := by rfl) : mg x = none := He.free_ok T.kin T.ns (T.says.fact i h)
theorem Ev.int (T : Ev fa fx fn K mg base) (i : Nat) {x : Str} {n : Int} (h : fa[i]? = some (.int x n) := by rfl) : ∃ t, mg x = some (.int n t) := He.int_ok T.kin T.ns (T.says.fact i h)
theorem Ev.cls (T : Ev fa fx fn K mg base) (i : Nat) {x : Str} (h : fa[i]? = some (.cls x) := by rfl) : Cls K (He.ga K x) := He.cls_ok (T.says.fact i h)
theorem Ev.mkr (T : Ev fa fx fn K mg base) (i : Nat) {x : Str} (h : fa[i]? = some (.mkr x) := by rfl) : Mk K (He.ga K x) (He.ma K (He.ga K x) "__init__") := He.mkr_ok (T.says.fact i h)
theorem Ev.noat (T : Ev fa fx fn K mg base) (i : Nat) {x f : Str} (h : fa[i]? = some (.noat x f) := by rfl) : NoAttr K (He.ga K x) f := He.noat_ok (T.says.fact i h)
theorem Ev.meth (T : Ev fa fx fn K mg base) (i : Nat) {x m : Str} (h : fa[i]? = some (.meth x m) := by rfl) : Meth K (He.ga K x) m (He.ma K (He.ga K x) m) := He.meth_ok (T.says.fact i h)
theorem Ev.exm (T : Ev fa fx fn K mg base) (i : Nat) {x y : Str} {b : Bool} (h : fa[i]? = some (.exm x y b) := by rfl) : PySem.W.exmOne K (.ref (He.ga K x)) (.ref (He.ga K y)) = some b := He.exm_ok (T.says.fact i h)
theorem Ev.exc (T : Ev fa fx fn K mg base) (i : Nat) {x : Str} (h : fx[i]? = some (.exc x) := by rfl) : Xc K (He.ga K x) := xcB_ok (T.says.xt i h)
theorem Ev.ins (T : Ev fa fx fn K mg base) (i : Nat) {x : Str} (h : fx[i]? = some (.ins x) := by rfl) : Ic K (He.ga K x) := icB_ok (T.says.xt i h)
theorem Ev.kit (T : Ev fa fx fn K mg base) (i : Nat) {t c : Cn} {b : Bool} (h : fx[i]? = some (.kit t c b) := by rfl) : PySem.W.kitOne K (t.val K) (c.val K) = some b := of_decide_eq_true (T.says.xt i h)
end
end PH

set_option Elab.async false
set_option linter.all false
set_option maxRecDepth 100000
set_option maxHeartbeats 4000000
/-! # Steps through a reading -/
namespace PH
open PySem PySem.Spec PyProof.Rows L2 C8
section
variable {σ : L2.St} {H : Hp} {Q : VK} {D : Ends} {i : Nat} {v x y z : V} {ta tb tc te : TE} {t u : TS} {tt uu : TT} {tl : TA} {r : R2} {K : PySem.W.Frag} {a C dx : Addr} {fs : List (Str × V)} {f : Str}
theorem v_var (h : σ[i]? = some (some v)) (q : Q v H) : tVar i σ H Q := ⟨v, h, q⟩
theorem v_c (q : Q v H) : tC v σ H Q := q
theorem v_op (q : ta σ H fun x H1 => tb σ H1 fun y H2 => r x y H2 Q) : tOp r ta tb σ H Q := q
theorem v_un {r : V → Hp → VK → Prop} (q : ta σ H fun x H1 => r x H1 Q) : tUn r ta σ H Q := q
theorem v_I0 {g : Int → Int → V} {i j : Int} (q : Q (g i j) H) : rI0 g (.int i) (.int j) H Q := ⟨i, j, rfl, rfl, q⟩
theorem v_I {Cc : Int → Int → Prop} {g : Int → Int → V} {i j : Int} (hc : Cc i j) (q : Q (g i j) H) : rI Cc g (.int i) (.int j) H Q := ⟨i, j, rfl, rfl, hc, q⟩
theorem v_U {g : Int → V} {i : Int} (q : Q (g i) H) : rU g (.int i) H Q := ⟨i, rfl, q⟩
theorem v_eq (h : scal x y = true) (q : Q (.bl (decide (x = y))) H) : rEq x y H Q := ⟨h, q⟩
theorem v_ne (h : scal x y = true) (q : Q (.bl (!decide (x = y))) H) : rNe x y H Q := ⟨h, q⟩
theorem v_test {Q : Bool → Hp → Prop} (q : te σ H fun x H' => ∃ k, x = .bl k ∧ Q k H') : tTest te σ H Q := q
theorem v_tB {Q : Bool → Hp → Prop} (q : te σ H fun x H' => ∃ k, x = .bl k ∧ Q k H') : tB te σ H Q := q
theorem v_bl {b : Bool} {Q : Bool → Prop} (q : Q b) : ∃ k, V.bl b = .bl k ∧ Q k := ⟨b, rfl, q⟩
theorem v_and {Q : Bool → Hp → Prop} (q : tt σ H fun c H1 => if c = true then uu σ H1 Q else Q false H1) : tAnd tt uu σ H Q := q
theorem v_or {Q : Bool → Hp → Prop} (q : tt σ H fun c H1 => if c = true then Q true H1 else uu σ H1 Q) : tOr tt uu σ H Q := q
theorem v_not {Q : Bool → Hp → Prop} (q : tt σ H fun c H1 => Q (!c) H1) : tNot tt σ H Q := q
theorem v_andV (q : ta σ H fun x H1 => ∃ c, x = .bl c ∧ if c = true then tb σ H1 Q else Q (.bl false) H1) : tAndV ta tb σ H Q := q
theorem v_orV (q : ta σ H fun x H1 => ∃ c, x = .bl c ∧ if c = true then Q (.bl true) H1 else tb σ H1 Q) : tOrV ta tb σ H Q := q
theorem v_notV (q : ta σ H fun x H1 => ∃ c, x = .bl c ∧ Q (.bl (!c)) H1) : tNotV ta σ H Q := q
theorem v_if (q : tt σ H fun c H1 => if c = true then ta σ H1 Q else tb σ H1 Q) : tIf tt ta tb σ H Q := q
theorem v_cons {Q : List V → Hp → Prop} (q : te σ H fun x H1 => tl σ H1 fun xs H2 => Q (x :: xs) H2) : tCons te tl σ H Q := q
theorem v_nil {Q : List V → Hp → Prop} (q : Q [] H) : tNil σ H Q := q
theorem v_cb {r : List V → Hp → VK → Prop} (q : tl σ H fun vs H1 => r vs H1 Q) : tCB r tl σ H Q := q
theorem v_call {sp : Sp} {E : XK} (q : tl σ H fun vs H1 => sp (vs ++ []) H1 Q E) : tCall sp [] E tl σ H Q := q
theorem v_fld (q : ta σ H fun x H1 => ∃ a C dx fs v, x = .ref a ∧ H1 a = some (.ins C dx fs) ∧ Cls K C ∧ NoAttr K C f ∧ fs.lookup f = some v ∧ Q v H1) : tFld K ta f σ H Q := q
theorem v_fld' (ho : H a = some (.ins C dx fs)) (hc : Cls K C) (hn : NoAttr K C f) (hl : fs.lookup f = some v) (q : Q v H) : ∃ a' C dx fs v, V.ref a = .ref a' ∧ H a' = some (.ins C dx fs) ∧ Cls K C ∧ NoAttr K C f ∧ fs.lookup f = some v ∧ Q v H :=
  ⟨a, C, dx, fs, v, rfl, ho, hc, hn, hl, q⟩
theorem v_lst (q : tl σ H fun xs H1 => xs.length ≤ sizeLine ∧ ∀ p, H1 p = none → Q (.ref p) (upd H1 p (.lst xs))) : tLst tl σ H Q := q
theorem v_tup (q : tl σ H fun xs H1 => xs.length ≤ sizeLine ∧ ∀ p, H1 p = none → Q (.ref p) (upd H1 p (.tup xs))) : tTup tl σ H Q := q
theorem v_seq (q : t { D with nx := u D } σ H) : tSeq t u D σ H := q
theorem v_next (q : D.nx σ H) : tNext D σ H := q
theorem v_asg {g : TG} (q : te σ H fun x H1 => g x σ H1 D.nx) : tAsg te g D σ H := q
theorem v_name {Q : L2.St → Hp → Prop} (q : Q (σ.set i (some v)) H) : gName i v σ H Q := q
theorem v_sub {to ti : TE} {s : TSet} {Q : L2.St → Hp → Prop} (q : to σ H fun o H1 => ti σ H1 fun i H2 => s o i v H2 fun H3 => Q σ H3) : gSub to ti s v σ H Q := q
theorem v_ret (q : te σ H D.rt) : tRet te D σ H := q
theorem v_retN (q : D.rt .non H) : tRetN D σ H := q
theorem v_drop (q : te σ H fun _ H1 => D.nx σ H1) : tDrop te D σ H := q
theorem v_ifS (q : tt σ H fun b H1 => if b = true then t D σ H1 else u D σ H1) : tIfS tt t u D σ H := q
theorem v_ixL {p : Addr} {xs : List V} {i : Int} (h : SqL K H p xs) (ha : atI xs i = some v) (q : Q v H) : rIxL K (.ref p) (.int i) H Q := ⟨p, xs, i, v, rfl, rfl, h, ha, q⟩
theorem v_ixT {p : Addr} {xs : List V} {i : Int} (h : SqT K H p xs) (ha : atI xs i = some v) (q : Q v H) : rIxT K (.ref p) (.int i) H Q := ⟨p, xs, i, v, rfl, rfl, h, ha, q⟩
theorem v_ixS {w : Str} {i : Int} {c : Nat} (h : w.length ≤ sizeLine) (ha : atI w.cps.toList i = some c) (q : Q (.str ⟨#[c]⟩) H) : rIxS (.str w) (.int i) H Q := ⟨w, i, c, rfl, rfl, h, ha, q⟩
theorem v_setL {p : Addr} {xs : List V} {k : Int} {j : Nat} {Q : Hp → Prop} (h : H p = some (.lst xs)) (hj : ixN xs.length k = some j) (q : Q (upd H p (.lst (xs.set j v)))) : rSetL (.ref p) (.int k) v H Q := ⟨p, xs, k, j, rfl, rfl, h, hj, q⟩
theorem v_cut (Mid : L2.St → Hp → Prop) (h1 : t { D with nx := Mid } σ H) (h2 : ∀ σ' H', Mid σ' H' → u D σ' H') : tCut t u D σ H := ⟨Mid, h1, h2⟩
end
section
variable {CX : CXT} {P : Program} {w : World} {K : PySem.W.Frag} {mg : Str → Option Value} {base : Heap} {N : List Str} {qual : Str} {scope : Scope} {f : Addr} {cd : Value} {A : Around} {outer : List Env} {s : Shared} {H : Hp} {E : XK}
theorem cx_K : (cxOf CX P w K mg base N qual scope f cd A outer s H E).K = K := rfl
theorem cx_w : (cxOf CX P w K mg base N qual scope f cd A outer s H E).w = w := rfl
theorem cx_P : (cxOf CX P w K mg base N qual scope f cd A outer s H E).prog = P := rfl
end
/-! ### numbers as truth -/
theorem if_dec_t {p : Prop} [Decidable p] {A B : Prop} (hp : p) (h : A) : if decide p = true then A else B := by
  rw [decide_eq_true hp]
  exact iteT h
theorem if_dec_f {p : Prop} [Decidable p] {A B : Prop} (hp : ¬ p) (h : B) : if decide p = true then A else B := by
  rw [decide_eq_false hp]
  exact iteF h
theorem if_dec {p : Prop} [Decidable p] {A B : Prop} (h1 : p → A) (h2 : ¬ p → B) : if decide p = true then A else B := by
  by_cases h : p
  · exact if_dec_t h (h1 h)
  · exact if_dec_f h (h2 h)
end PH

set_option Elab.async false
set_option linter.all false
set_option maxRecDepth 100000
set_option maxHeartbeats 4000000
/-! # Defs that are called anywhere (in an except suite too), exceptions, several clauses with names -/
namespace PH
open PySem PySem.Spec PyProof.Rows L2
open C8 (tCut pss_cut)

/-! ### a def that lets nothing out and needs no calm -/
structure RoomS (k : Nat) (A : Around) : Prop where
  dp : A.depth + 3 * k + 5 < recursionLimit
  un : A.units + 16 * k + 200 < cLine
theorem RoomS.of {k : Nat} {A : Around} (r : Room k A) : RoomS k A := ⟨r.dp, r.un⟩
theorem RoomS.mono {j k : Nat} {A : Around} (r : RoomS k A) (h : j ≤ k) : RoomS j A := ⟨by have := r.dp; omega, by have := r.un; omega⟩
theorem RoomS.units {k : Nat} {A : Around} (r : RoomS k A) : A.units + 64 < cLine := by have := r.un; omega
theorem RoomS.units1 {k : Nat} {A : Around} (r : RoomS k A) : A.units + 1 < cLine := by have := r.un; omega
theorem RoomS.mark {k : Nat} {A : Around} {v : Option Value} (r : RoomS k A) : RoomS k (A.mark v) := ⟨r.dp, r.un⟩
theorem RoomS.deeper {k : Nat} {A : Around} (r : RoomS (k + 1) A) (env : Env) : RoomS k (A.deeper env) :=
  ⟨by have := r.dp; show A.depth + 1 + 3 * k + 5 < _; omega, by have := r.un; show A.units + 3 + 16 * k + 200 < _; omega⟩
structure FnS (P : Program) (w : World) (K : PySem.W.Frag) (mg : Str → Option Value) (base : Heap) (k : Nat) (f : Addr) (fd : FuncData) (ps : List Str) (sp : Sp) : Prop where
  len : ∀ vs H Q E, sp vs H Q E → vs.length = ps.length
  run : ∀ (A : Around) (outer : List Env) (s : Shared) (H : Hp) (args : Args) (us : List Value) (vs : List V) (Q : VK) (E : XK), RoomS k A → Env0 P w K mg base A outer s H → BindsTo s fd args (ps.zip us) → Vals vs us → sp vs H Q E →
    codeAny (model P w) A (.call (.ref f) args) (CR CX0 outer P w H s Q E) s
abbrev cxS (P : Program) (w : World) (K : PySem.W.Frag) (mg : Str → Option Value) (base : Heap) (N : List Str) (qual : Str) (scope : Scope) (f : Addr) (cd : Value) (A : Around) (outer : List Env) (s : Shared) (H : Hp) (E : XK) : Cx :=
  { cxOf CX0 P w K mg base N qual scope f cd A outer s H E with calm := false }
theorem fn_ofS {P : Program} {w : World} {K : PySem.W.Frag} {mg : Str → Option Value} {base : Heap} {k : Nat} {f : Addr} {name qual : Str} {params : Arguments} {body : List Stmt} {scope : Scope} {dV kV doc pm cdv ct oc : Value} {an od : Option Addr}
    {osl : Array (Option Value)} {N ps : List Str} {sp : Sp} (lk : K.lookup f = some ⟨oc, od, .func (PySem.W.fnOf name qual params body scope dV kV doc pm an cdv ct), osl⟩) (hcd : PySem.W.codeIn K cdv qual = true) (S : FnScope N ps scope)
    (len : ∀ vs H Q E, sp vs H Q E → vs.length = ps.length)
    (hbody : ∀ (A : Around) (outer : List Env) (s : Shared) (H : Hp) (vs : List V) (Q : VK) (E : XK), RoomS k (A.deeper (envOfC qual scope s.heap.objs.size f cdv)) → sp vs H Q E →
      ∃ t, PSs (cxS P w K mg base N qual scope f cdv A outer s H E) body t ∧ t { nx := fun _ H' => Q .non H', rt := Q } (L2.start N vs) H) :
    FnS P w K mg base (k + 1) f (PySem.W.fnOf name qual params body scope dV kV doc pm an cdv ct) ps sp := by
  refine ⟨len, fun A outer s H args us vs Q E hr e0 hb r hsp => ?_⟩
  have hl := len _ _ _ _ hsp
  have KX : K.In s.heap := e0.mod.kin.keeps fun b o e => (e0.bs b o e).1
  have lim : s.heap.NoLimit := e0.mod.nolimit.keeps fun b o e => (e0.bs b o e).1
  have hkind : ∀ y ∈ ps.zip us, scope.names.lookup y.1 = some .local ∨ (scope.names.lookup y.1 = some .cell ∧ ((cellsFrom (s.heap.objs.size + 1) scope.names []).lookup y.1).isSome = true) := fun ⟨n, v⟩ hy => by
    rcases S.par n (List.of_mem_zip hy).1 with q | q
    · exact .inl q
    · exact .inr ⟨q, PySem.W.cellsFrom_some _ _ _ (.inl q)⟩
  have hdep : A.depth < recursionLimit := by have := hr.dp; omega
  refine codeAny_call_function hdep (KX _ _ lk) rfl S.co S.gen rfl (PySem.W.codeRec_of KX hcd) (hb _ _ _ _ ?_)
  refine wpAny_newFunctionEnv_cells S.kind hkind fun env he s1 x => ?_
  subst he
  refine ⟨lim.keeps x.toInCall.keep, codeAny_func ?_⟩
  obtain ⟨t, ht, hq⟩ := hbody A outer s H vs Q E (hr.deeper _) hsp
  have e0' : Env0 P w K mg base { A with handled := none } outer s H := ⟨e0.frames, e0.mod, e0.bs, e0.bsz, e0.funs, e0.frf, e0.hok, e0.bare⟩
  have I0 : Inv (cxOf CX0 P w K mg base N qual scope f cdv { A with handled := none } outer s H E) [] (L2.start N vs) H s1 := inv_start S rfl e0' hl r x
  have I : Inv (cxS P w K mg base N qual scope f cdv A outer s H E) [] (L2.start N vs) H s1 := by
    obtain ⟨ok, b1, b2, b3, b4, b5, b6, b7, b8, b9, b10⟩ := I0
    exact ⟨⟨ok.mod, ok.kind, ok.glob, ok.blt, ok.above, ok.inj, ok.has, ok.cab, (fun z => Bool.noConfusion (show false = true from z)), ok.frames, ok.stk, ok.exf, ok.bs, ok.bsz, ok.noex, ok.exfs, ok.funs, ok.frf⟩, b1, b2, b3, b4, b5, b6, b7, b8, b9, b10⟩
  refine wpAny_mono (ht.run [] s1 (L2.start N vs) H _ I hq) (fun fl s' hs => ?_) fun e s' hs => hs
  have fin : ∀ {σ' : L2.St} {H' : Hp} {v : V} {u : Value}, Inv (cxS P w K mg base N qual scope f cdv A outer s H E) [] σ' H' s' → RelV v u → Q v H' → CE outer P w H s Q u s' :=
    fun {σ' H' v u} J rv q => ⟨v, H', J.os, J.bare, J.base, J.hok, rv, q⟩
  cases fl with
  | ret u =>
    obtain ⟨v, σ', H', J, rv, q⟩ := hs
    exact fin J rv q
  | next =>
    obtain ⟨σ', H', J, q⟩ := hs
    exact fin (v := V.non) (u := Value.none) J rfl q
  | brk =>
    obtain ⟨_, _, _, q⟩ := hs
    exact False.elim q
  | cont =>
    obtain ⟨_, _, _, q⟩ := hs
    exact False.elim q
theorem FnS.fnOk {P : Program} {w : World} {K : PySem.W.Frag} {mg : Str → Option Value} {base : Heap} {k : Nat} {f : Addr} {fd : FuncData} {ps : List Str} {sp : Sp} (F : FnS P w K mg base k f fd ps sp) : FnOk P w K mg base (L2.CX P w) k f fd ps sp :=
  ⟨F.len, fun A outer s H args us vs Q E hr e0 hb hv hs => codeAny_mono (F.run A outer s H args us vs Q E (.of hr) e0 hb hv hs) fun r s' hq => by
    cases r with
    | error e => exact False.elim hq
    | ok fl => cases fl <;> exact hq⟩
/-- such a def, packaged -/
structure Ds (P : Program) (w : World) (K : PySem.W.Frag) (mg : Str → Option Value) (base : Heap) (k : Nat) (f : Addr) (ps : List Str) (sp : Sp) : Prop where
  ex : ∃ fd, FnS P w K mg base k f fd ps sp ∧ Binds K fd ps []
  kp : PySem.W.keepIn K (.ref f) = true
theorem Ds.dn {P : Program} {w : World} {K : PySem.W.Frag} {mg : Str → Option Value} {base : Heap} {k : Nat} {f : Addr} {ps : List Str} {sp : Sp} (F : Ds P w K mg base k f ps sp) : Dn P w K mg base k f ps sp := by
  obtain ⟨⟨fd, F1, F2⟩, kp⟩ := F
  exact ⟨⟨fd, F1.fnOk, F2⟩, kp⟩
section
variable {P : Program} {w : World} {K : PySem.W.Frag} {mg : Str → Option Value} {base : Heap}
theorem ds_of {x qual : Str} {st : Stmt} {f : Addr} {N ps : List Str} {k : Nat} {sp : Sp} (F : ∃ fd, FunD K x qual (defArgs st) (defBody st) (defScope st) [] [] f fd) (S : FnScope N ps (defScope st)) (b : BindOk x qual st ps)
    (len : ∀ vs H Q E, sp vs H Q E → vs.length = ps.length)
    (hbody : ∀ (cdv : Value) (A : Around) (outer : List Env) (s : Shared) (H : Hp) (vs : List V) (Q : VK) (E : XK), RoomS k (A.deeper (envOfC qual (defScope st) s.heap.objs.size f cdv)) → sp vs H Q E →
      ∃ t, PSs (cxS P w K mg base N qual (defScope st) f cdv A outer s H E) (defBody st) t ∧ t { nx := fun _ H' => Q .non H', rt := Q } (L2.start N vs) H) : Ds P w K mg base (k + 1) f ps sp := by
  obtain ⟨fd, F⟩ := F
  have B := F.bindsN b
  have kp := F.kp
  obtain ⟨oc, od, dV, kV, doc, pm, an, cdv, ct, osl, rfl, lk, hcd, _, _⟩ := F.ex
  exact ⟨⟨_, fn_ofS lk hcd S len fun A outer s H vs Q E hr hsp => hbody cdv A outer s H vs Q E hr hsp, B⟩, kp⟩
end
section
variable {X : Cx} {k : Nat} {f C : Addr} {ps : List Str} {sp : Sp} {E : XK} {x m : Str} {p pos apos : Pos} {e o : Expr} {es : List Expr} {ta : TE} {t : TA}
theorem pe_s (F : Ds X.prog X.w X.K X.mg X.base k f ps sp) (hr : RoomS k X.A) (hm : X.mg x = some (.ref f)) (ha : PA X (e :: es) t) (hg : Gl X x := by rfl)
    (hdb : (x == ("__debug__" : Str)) = false := by decide) (he : starEach (e :: es) X.env = (false, eval e X.env) :: starEach es X.env := by rfl) (hpl : (backTo pos (starEach es X.env)).any (·.1) = false := by rfl) :
    PE X (.Call (.Name x p) (e :: es) [] pos) (tCall sp [] E0 t) := by
  obtain ⟨⟨fd, F1, F2⟩, kp⟩ := F
  refine ⟨fun pins s σ H Q I h => ?_⟩
  refine wpAny_Call_Name_kw (ld_glob I hg hm ?_ hdb)
  refine PySem.W.callWith_K (h₀ := X.base) I.ok.mod.kin kp (thn (ha.run pos pins s σ H _ I h) fun us s1 ⟨vs, H1, I1, r, q⟩ => ⟨I1.kIn, ?_⟩) he hpl
  have q' : sp vs H1 Q E0 := by
    have q0 : sp (vs ++ []) H1 Q E0 := q
    rw [List.append_nil] at q0
    exact q0
  have hl : us.length = ps.length := by rw [← r.length]; exact F1.len _ _ _ _ q'
  have b := F2 s1 us I1.kIn (by rw [List.append_nil]; exact hl)
  rw [List.append_nil] at b
  refine wpAny_call (codeAny_mono (F1.run X.A X.stack s1 H1 ⟨us, []⟩ us vs Q E0 hr I1.env0 b r q') fun r s' hq => ?_)
  cases r with
  | error e => exact False.elim hq
  | ok fl =>
    cases fl with
    | ret u => exact I1.after hq
    | next => exact False.elim hq
    | brk => exact False.elim hq
    | cont => exact False.elim hq
end

/-! ### calls in a try's body: what is raised is wished for at the caller's slots -/
section
variable {X : Cx} {k : Nat} {f C : Addr} {ps : List Str} {sp : Sp} {W : WX} {x m : Str} {p pos apos : Pos} {e o : Expr} {es : List Expr} {ta : TE} {t : TA}
def tCallW (sp : Sp) (W : WX) (t : TA) : TE := fun σ H Q => t σ H fun vs H1 => sp vs H1 Q (fun cls d H' => W cls d σ H')
theorem pe_dW (F : Dn X.prog X.w X.K X.mg X.base k f ps sp) (hr : Room k X.A) (hm : X.mg x = some (.ref f)) (tk : Takes X W) (ha : PA X (e :: es) t) (hg : Gl X x := by rfl)
    (hdb : (x == ("__debug__" : Str)) = false := by decide) (he : starEach (e :: es) X.env = (false, eval e X.env) :: starEach es X.env := by rfl) (hpl : (backTo pos (starEach es X.env)).any (·.1) = false := by rfl) :
    PE X (.Call (.Name x p) (e :: es) [] pos) (tCallW sp W t) := by
  obtain ⟨⟨fd, F1, F2⟩, kp⟩ := F
  refine ⟨fun pins s σ H Q I h => ?_⟩
  refine wpAny_Call_Name_kw (ld_glob I hg hm ?_ hdb)
  refine PySem.W.callWith_K (h₀ := X.base) I.ok.mod.kin kp (thn (ha.run pos pins s σ H _ I h) fun us s1 ⟨vs, H1, I1, r, q⟩ => ⟨I1.kIn, ?_⟩) he hpl
  refine run_fnSD (E := fun σ cls d H' => W cls d σ H') (dvs := []) (σ := σ) F1 hr F2 .nil (passAt tk σ) I1 r ?_
  rw [List.append_nil]
  exact q
def tMethW (C : Addr) (m : Str) (sp : Sp) (W : WX) (ta : TE) (t : TA) : TE := fun σ H Q => ta σ H fun x H1 => ∃ a dx fs, x = .ref a ∧ H1 a = some (.ins C dx fs) ∧ fs.lookup m = none ∧ t σ H1 fun vs H2 => sp (x :: vs) H2 Q (fun cls d H' => W cls d σ H')
theorem pe_mW {pl : Sem Bool} (F : Dn X.prog X.w X.K X.mg X.base k f ps sp) (hr : Room k X.A) (c : Cls X.K C) (hm : Meth X.K C m f) (tk : Takes X W) (he : PE X o ta) (ha : PA X (e :: es) t)
    (hst : starEach (e :: es) X.env = (false, eval e X.env) :: starEach es X.env := by rfl) (hpl : (backTo pos (starEach es X.env)).any (·.1) = false := by rfl)
    (ht : eval (.Call (.Attribute o m apos) (e :: es) [] pos) X.env = (do
      let ov ← eval o X.env
      standAt apos.atName
      let (f, first) ← holding [ov] (getMethod ov m pl)
      callWith pos f first (backTo pos (starEach (e :: es) X.env)) (backToKw pos (keywordEach [] X.env))) := by rfl) :
    PE X (.Call (.Attribute o m apos) (e :: es) [] pos) (tMethW C m sp W ta t) := by
  obtain ⟨⟨fd, F1, F2⟩, kp⟩ := F
  refine ⟨fun pins s σ H Q I h => ?_⟩
  refine PySem.W.methodCall_KW (pl := pl) (thn (he.run pins s σ H _ I h) fun u s1 ⟨x, H1, I1, rx, a, dx, fs, ex, ea, l, q⟩ => ?_) ht
  subst ex
  obtain rfl : u = Value.ref a := rx
  refine getmeth_ok I1 ea c hm l ?_
  refine PySem.W.callWith_K (first := [.ref a]) (h₀ := X.base) I.ok.mod.kin hm.kp (thn (ha.run pos pins s1 σ H1 _ I1 q) fun us s2 ⟨vs, H2, I2, r, q2⟩ => ⟨I2.kIn, ?_⟩) hst hpl
  refine run_fnSD (E := fun σ cls d H' => W cls d σ H') (dvs := []) (σ := σ) (us := .ref a :: us) (vs := .ref a :: vs) F1 hr F2 .nil (passAt tk σ) I2 (.cons rfl r) ?_
  rw [List.append_nil]
  exact q2
def tMakeW (C : Addr) (sp : Sp) (W : WX) (t : TA) : TE := fun σ H Q => t σ H fun vs H1 => ∀ x dx, H1 x = none → H1 dx = none → dx ≠ x →
  sp (.ref x :: vs) (upd (upd H1 dx (.own x)) x (.ins C dx [])) (fun v H2 => v = .non ∧ Q (.ref x) H2) (fun cls d H' => W cls d σ H')
theorem pe_mkW (F : Dn X.prog X.w X.K X.mg X.base k f ps sp) (M : Mk X.K C f) (hr : Room (k + 1) X.A) (hm : X.mg x = some (.ref C)) (tk : Takes X W) (ha : PA X (e :: es) t) (hg : Gl X x := by rfl)
    (hdb : (x == ("__debug__" : Str)) = false := by decide) (he : starEach (e :: es) X.env = (false, eval e X.env) :: starEach es X.env := by rfl) (hpl : (backTo pos (starEach es X.env)).any (·.1) = false := by rfl) :
    PE X (.Call (.Name x p) (e :: es) [] pos) (tMakeW C sp W t) := by
  obtain ⟨⟨fd, F1, F2⟩, kp⟩ := F
  refine ⟨fun pins s σ H Q I h => ?_⟩
  refine wpAny_Call_Name_kw (ld_glob I hg hm ?_ hdb)
  refine PySem.W.callWith_K (h₀ := X.base) I.ok.mod.kin M.kp (thn (ha.run pos pins s σ H _ I h) fun us s1 ⟨vs, H1, I1, r, q⟩ => ⟨I1.kIn, ?_⟩) he hpl
  have J := I1
  have hq := q (s1.heap.objs.size + 1) s1.heap.objs.size (I1.hok.fresh (Nat.le_succ _)) (I1.hok.fresh (Nat.le_refl _)) (Nat.ne_of_lt (Nat.lt_succ_self _))
  have I2 := Inv.made (C := C) I1
  have r2 : Vals (V.ref (s1.heap.objs.size + 1) :: vs) (Value.ref (s1.heap.objs.size + 1) :: us) := .cons rfl r
  have hl : (Value.ref (s1.heap.objs.size + 1) :: us).length = ps.length := by
    have e := r2.length
    rw [F1.len _ _ _ _ hq] at e
    exact e.symm
  have b := F2 { s1 with heap := _ } (Value.ref (s1.heap.objs.size + 1) :: us) I2.kIn (by rw [List.append_nil]; exact hl)
  rw [List.append_nil] at b
  refine wpAny_call (make_map (f := f) I1.kIn M.makes M.init (beq_iff_eq.mp M.fn) (codeAny_mono (F1.run _ X.stack _ _ ⟨Value.ref (s1.heap.objs.size + 1) :: us, []⟩ (Value.ref (s1.heap.objs.size + 1) :: us) _ _ (fun cls d H' => W cls d σ H') (hr.make C us [])
    (I2.env0.make C us []) b r2 hq) fun r s' hq' => ?_))
  cases r with
  | error e => exact passAt tk σ pins _ _ e s' I2 hq'
  | ok fl =>
    cases fl with
    | ret u =>
      obtain ⟨v, H', I3, rv, ev, q3⟩ := I2.after hq'
      subst ev
      exact ⟨rv, ⟨V.ref (s1.heap.objs.size + 1), H', I3, rfl, q3⟩⟩
    | next => exact False.elim hq'
    | brk => exact False.elim hq'
    | cont => exact False.elim hq'
end

/-! ### exceptions with one, two fields -/
def spX1 (C : Addr) (f : Str) : Sp := fun vs H Q _ => ∃ (a : Addr) (v : V), vs = [.ref a, v] ∧ H a = some (exo a C none) ∧ ∀ dx, H dx = none → dx ≠ a → Q .non (upd (upd H dx (exd dx [(f, v)])) a (exo a C (some dx)))
def spX2 (C : Addr) (f g : Str) : Sp := fun vs H Q _ => ∃ (a : Addr) (v y : V), vs = [.ref a, v, y] ∧ H a = some (exo a C none) ∧
  ∀ dx, H dx = none → dx ≠ a → Q .non (upd (upd (upd H dx (exd dx [(f, v)])) a (exo a C (some dx))) dx (exd dx [(g, y), (f, v)]))
def tX1 (C : Addr) (f : Str) (ta : TE) : L2.St → Hp → XK → Prop := fun σ H Q => ta σ H fun v H1 => ∀ d, H1 d = none → Q (.ref C) (some d) (upd H1 d (.xd [(f, v)]))
def tX2 (C : Addr) (f g : Str) (ta tb : TE) : L2.St → Hp → XK → Prop := fun σ H Q => ta σ H fun v H1 => tb σ H1 fun y H2 => ∀ d, H2 d = none → Q (.ref C) (some d) (upd H2 d (.xd [(g, y), (f, v)]))
theorem x_heap {H : Hp} {a dx : Addr} {o o1 o2 u : HO} (ha : H a = none) (hd : dx ≠ a) : upd (del (upd (upd (upd H a o) dx o1) a o2) a) dx u = upd H dx u := by
  funext b
  by_cases h1 : b = dx
  · rw [h1, upd_same, upd_same]
  · rw [upd_ne h1, upd_ne h1]
    by_cases h2 : b = a
    · rw [h2, del_same, ha]
    · rw [del_ne h2, upd_ne h2, upd_ne h1, upd_ne h2]
theorem x_heap2 {H : Hp} {a dx : Addr} {o o1 o2 o3 u : HO} (ha : H a = none) (hd : dx ≠ a) : upd (del (upd (upd (upd (upd H a o) dx o1) a o2) dx o3) a) dx u = upd H dx u := by
  funext b
  by_cases h1 : b = dx
  · rw [h1, upd_same, upd_same]
  · rw [upd_ne h1, upd_ne h1]
    by_cases h2 : b = a
    · rw [h2, del_same, ha]
    · rw [del_ne h2, upd_ne h1, upd_ne h2, upd_ne h1, upd_ne h2]
/-- a reading, closed under weakening -/
def mTE (t : TE) : TE := fun σ H Q => ∃ Q0 : VK, t σ H Q0 ∧ ∀ v H', Q0 v H' → Q v H'
theorem pe_mono {X : Cx} {e : Expr} {t : TE} (h : PE X e t) : PE X e (mTE t) := ⟨fun pins s σ H Q I ⟨Q0, h0, hq⟩ => thn (h.run pins s σ H Q0 I h0) fun _ _ ⟨v, H', J, r, q⟩ => ⟨v, H', J, r, hq v H' q⟩⟩
section
variable {X : Cx} {C fI : Addr} {k : Nat} {ps : List Str} {x f g : Str} {e e2 : Expr} {ta tb : TE} {p pos : Pos}
theorem pmk_x1 (T : Xc X.K C) (F : Dn X.prog X.w X.K X.mg X.base k (He.ma X.K C "__init__") ps (spX1 C f)) (hr : Room (k + 1) X.A) (hm : X.mg x = some (.ref C)) (ha : PE X e ta) (hg : Gl X x := by rfl)
    (hdb : (x == ("__debug__" : Str)) = false := by decide) (he : starEach (e :: []) X.env = (false, eval e X.env) :: starEach [] X.env := by rfl) (hpl : (backTo pos (starEach [] X.env)).any (·.1) = false := by rfl)
    (pa : ∀ t, PE X e t → PA X [e] (tCons t tNil) := by intro t h; exact pa_cons h pa_nil) :
    PMk X (.Call (.Name x p) [e] [] pos) (tX1 C f ta) := by
  obtain ⟨⟨fd, F1, F2⟩, kp⟩ := F
  have q := pmk_oex (dvs := []) (ds := []) (x := x) (p := p) (pos := pos) T.oex T.iC T.tI F1 hr F2 .nil (passL) hg hm (pa _ (pe_mono ha)) hdb he hpl
  intro pins s σ H Q I h
  refine q pins s σ H Q I ?_
  refine ⟨_, h, fun v H1 h1 => ?_⟩
  refine ⟨(by show 1 ≤ 1000; decide), fun a na => ⟨a, v, rfl, upd_same, fun dx nd ne => ⟨rfl, dx, [(f, v)], upd_same, ?_, ?_, ?_⟩⟩⟩
  · rw [upd_ne ne, upd_same]
  · rw [upd_ne ne] at nd
    exact nd
  · rw [upd_ne ne] at nd
    rw [x_heap na ne]
    exact h1 dx nd
theorem pmk_x2 (T : Xc X.K C) (F : Dn X.prog X.w X.K X.mg X.base k (He.ma X.K C "__init__") ps (spX2 C f g)) (hr : Room (k + 1) X.A) (hm : X.mg x = some (.ref C)) (ha : PE X e ta) (hb : PE X e2 tb) (hg : Gl X x := by rfl)
    (hdb : (x == ("__debug__" : Str)) = false := by decide) (he : starEach (e :: [e2]) X.env = (false, eval e X.env) :: starEach [e2] X.env := by rfl) (hpl : (backTo pos (starEach [e2] X.env)).any (·.1) = false := by rfl)
    (pa : ∀ t u, PE X e t → PE X e2 u → PA X [e, e2] (tCons t (tCons u tNil)) := by intro t u h1 h2; exact pa_cons h1 (pa_cons h2 pa_nil)) :
    PMk X (.Call (.Name x p) [e, e2] [] pos) (tX2 C f g ta tb) := by
  obtain ⟨⟨fd, F1, F2⟩, kp⟩ := F
  have q := pmk_oex (dvs := []) (ds := []) (x := x) (p := p) (pos := pos) T.oex T.iC T.tI F1 hr F2 .nil (passL) hg hm (pa _ _ (pe_mono ha) (pe_mono hb)) hdb he hpl
  intro pins s σ H Q I h
  refine q pins s σ H Q I ?_
  refine ⟨_, h, fun v H1 h1 => ?_⟩
  refine ⟨_, h1, fun y H2 h2 => ?_⟩
  refine ⟨(by show 2 ≤ 1000; decide), fun a na => ⟨a, v, y, rfl, upd_same, fun dx nd ne => ⟨rfl, dx, [(g, y), (f, v)], ?_, upd_same, ?_, ?_⟩⟩⟩
  · rw [upd_ne (Ne.symm ne), upd_same]
  · rw [upd_ne ne] at nd
    exact nd
  · rw [upd_ne ne] at nd
    rw [x_heap2 na ne]
    exact h2 dx nd
end
end PH

set_option Elab.async false
set_option linter.all false
set_option maxRecDepth 100000
set_option maxHeartbeats 4000000
/-! # Several except clauses with names; isinstance of a caught error; small rules -/
namespace PH
open PySem PySem.Spec PyProof.Rows L2
open C8 (tCut pss_cut)

/-! ### try: .. except A as e: .. except B as e: .. -/
abbrev Clause := Value × Nat × (Addr → Value → Option Addr → TS)
def wManyA (K : PySem.W.Frag) (Wout : WX) (D : Ends) : List Clause → WX
  | [] => Wout
  | (c, i, ts) :: r => fun cls d σ H => ∃ b, PySem.W.exmOne K cls c = some b ∧
      (b = true → ∀ a, H a = none → ts a cls d { nx := fun σ' H' => D.nx (σ'.set i none) H', rt := D.rt, bk := fun σ' H' => D.bk (σ'.set i none) H', ct := fun σ' H' => D.ct (σ'.set i none) H' } (σ.set i (some (.ref a))) H) ∧
      (b = false → wManyA K Wout D r cls d σ H)
inductive HdsA (X : Cx) : List ExceptHandler → List Clause → Prop
  | nil : HdsA X [] []
  | cons {x n : Str} {c : Value} {i : Nat} {ts : Addr → Value → Option Addr → TS} {b₀ : Stmt} {suite : List Stmt} {np pos' : Pos} {hds : List ExceptHandler} {l : List Clause} (hc : Names X x c) (hi : X.N[i]? = some n) (hln : X.env.kindOf n = some .local)
      (hsu : ∀ (a : Addr) (oe : Obj) (cls : Value) (d : Option Addr) (pn : List (Addr × Obj)), Zc cls d oe → (∃ vs, oe.data = .fields vs) → PSs (X.suite a ((a, oe) :: pn)) (b₀ :: suite) (ts a cls d)) (r : HdsA X hds l) :
      HdsA X (.ExceptHandler (some (.Name x np)) (some n) (b₀ :: suite) pos' :: hds) ((c, i, ts) :: l)
section
variable {X : Cx} {body : List Stmt} {h₀ : ExceptHandler} {hds : List ExceptHandler} {l : List Clause} {pos : Pos} {tb : WX → TS} {Wout : WX}
theorem ps_try_A (hs : X.stack = X.env :: X.outer) (hf : X.env.frame = some X.env.locals) (hN : X.N.Nodup) (tk : Takes X Wout)
    (hb : ∀ (W : WX) (pn : List (Addr × Obj)) (xe : Value → Shared → Prop), Takes (X.tr pn xe) W → PassesOwn (model X.prog X.w) X.A X.env xe → PSs (X.tr pn xe) body (tb W))
    (hh : HdsA X (h₀ :: hds) l) : PS X (.Try body (h₀ :: hds) [] [] pos) (fun D σ H => tb (wManyA X.K Wout D l) D σ H) := by
  refine ⟨fun pins s σ H D I h => ?_⟩
  have ok := I.ok
  have hfr : X.A.frames = some (X.env :: X.outer) := by rw [ok.frames, hs]
  refine wpAny_Try_except ?_
  refine wpAny_mono ((hb (wManyA X.K Wout D l) (X.pn ++ pins) (fun e s₁ => wpAny (model X.prog X.w) X.A (noteFrame e X.env) (fun _ s₂ => wpAny (model X.prog X.w) X.A (setFlight e none) (fun _ s₃ =>
    wpAny (model X.prog X.w) X.A (handleBy e X.env (h₀ :: hds)) (SP X pins D) X.xe s₃) X.xe s₂) X.xe s₁) (fun u s' xx => ?_) PassesOwn.looking).run [] s σ H D (I.toTry _) h) (fun f s1 hsp => ?_) (fun e s1 he => he)
  · -- the catch
    obtain ⟨a, B, sI, pins', σ', H', cls, d, rfl, J', nb, up, sky, na, os, ag, w⟩ := xx
    have J : Inv X pins σ' H' sI := J'.ofTry ok
    have sky' : Sky B (X.env :: X.outer) a (Zc cls d) X.env.locals s'.heap := by rw [← hs]; exact sky
    show wpAny (model X.prog X.w) X.A (noteFrame (.ref a) X.env) _ _ _
    refine Sky.land Zc.steady hfr hf sky' fun h3 fl3 up3 => ?_
    have J3 : Inv X pins σ' H' { s' with heap := h3 } := J.landed nb fl3.1 (up.trans up3) os ag
    obtain ⟨oe3, vs3, he3, hz3, hd3⟩ := fl3.there
    have notFr : ∀ {h : Heap} {o : Obj} {vs : Array Value}, h.FunFrames B (X.env :: X.outer) → h.get? a = some o → o.data = .fields vs → a ∉ frs (X.env :: X.outer) := fun {h o vs} ff e dd hm => by
      obtain ⟨_, o', e', hnf⟩ := ff.mem hm
      rw [e] at e'; cases e'
      exact hnf _ dd
    have nfr := notFr fl3.2.2.1 he3 hd3
    have nL : a ≠ X.env.locals := fun z => nfr (List.mem_filterMap.mpr ⟨X.env, List.mem_cons_self, by rw [hf, z]⟩)
    have nF : a ∉ X.fs := fun hm => by
      obtain ⟨e, he, q⟩ := List.mem_filterMap.mp hm
      exact nfr (List.mem_filterMap.mpr ⟨e, List.mem_cons_of_mem _ he, q⟩)
    have S3 := J3.suite he3 hd3 na nL nF
    have go : ∀ {hds' : List ExceptHandler} {l' : List Clause}, HdsA X hds' l' → wManyA X.K Wout D l' cls d σ' H' →
        wpAny (model X.prog X.w) X.A (handleBy (.ref a) X.env hds') (SP X pins D) X.xe { s' with heap := h3 } := by
      intro hds' l' hk
      induction hk with
      | nil =>
        intro w
        refine wpAny_handleBy_nil ?_
        obtain ⟨k1, k2, k3, oe, vs, T, oT, ts', he, hz, hd, h1, hr⟩ := id fl3
        unfold PySem.passOn
        refine wpAny_bind (wpAny_field he hd h1 ?_)
        rw [if_neg (show ¬ ((Value.ref T == Value.none) = true) from by simp)]
        have fin : wpAny (model X.prog X.w) X.A (setFlight (.ref a) X.env.frame) (fun _ s4 => wpAny (model X.prog X.w) X.A (throw (.ref a) : Sem Flow) (SP X pins D) X.xe s4) X.xe { s' with heap := h3 } := by
          rw [hf]
          refine HandSPX.setFlight_upZ fl3 fun h4 hh4 up4 => wpAny_throw (tk _ _ ?_)
          exact ⟨a, B, sI, pins, σ', H', cls, d, rfl, J, nb, (up.trans up3).trans up4, .inr (.inr (by rw [hs]; exact hh4)), na, os, ag, w⟩
        first
          | exact wpAny_bind (wpAny_pure (wpAny_bind fin))
          | exact wpAny_bind fin
      | @cons x n c i ts b₀ suite np pos' hds2 l2 hc hi hln hsu r ih =>
        intro w
        have hloc : Loc X.env.scope n := .inl hln
        obtain ⟨b, hb1, hyes, hno⟩ := w
        refine wpAny_handleBy_cons (codeAny_handlers_test ?_) (by intro q; cases q)
        have LT : PySem.W.Looks (model X.prog X.w) h3 (typeOf (.ref a)) cls := fun A Q E s k q => wpAny_typeOf_ref (k _ _ he3) (by rw [hz3.1]; exact q)
        have LM := PySem.W.exm_one (M := model X.prog X.w) (J3.kIn) LT hb1
        have test : ∀ {Q : Value → Shared → Prop} {E : Value → Shared → Prop}, Q c { s' with heap := h3 } → wpAny (model X.prog X.w) (X.A.mark (some (.ref a))) (eval (.Name x np) X.env) Q E { s' with heap := h3 } := fun {Q E} q => by
          obtain ⟨hg, hdbg, hm | ⟨hm, hv, hnn⟩⟩ := hc
          · exact ld_glob (X := X.suite a ((a, oe3) :: (X.pn ++ pins))) S3 hg hm q hdbg
          · exact ld_blt (X := X.suite a ((a, oe3) :: (X.pn ++ pins))) S3 hg hm hv q hnn hdbg
        refine test (LM.here ?_)
        cases b with
        | true =>
          refine codeAny_handlers_suite_as ?_
          refine HandSPX.lands_againZ fl3 fun h4 fl4 up4 => ?_
          have J4 : Inv X pins σ' H' { s' with heap := h4 } := J.landed nb fl4.1 ((up.trans up3).trans up4) os ag
          obtain ⟨oe4, vs4, he4, hz4, hd4⟩ := fl4.there
          have S4 := J4.suite he4 hd4 na nL nF
          refine store_ok (X := X.suite a ((a, oe4) :: (X.pn ++ pins))) (v := .ref a) S4 hN hi hloc rfl (fun s5 S5 => ?_) (.inr hln)
          refine wpAny_mono ((hsu a oe4 cls d (X.pn ++ pins) hz4 ⟨_, hd4⟩).run [] s5 _ H' _ S5 (hyes rfl a na)) (fun f s6 hsp => ?_) (fun _ _ z => False.elim z)
          have end_ : ∀ {σ6 : L2.St} {H6 : Hp} {Q : Shared → Prop}, Inv (X.suite a ((a, oe4) :: (X.pn ++ pins))) [] σ6 H6 s6 → (∀ s7, Inv X pins (σ6.set i none) H6 s7 → Q s7) →
              wpAny (model X.prog X.w) X.A (do bindName X.env n .none; unbindBehindTheSuite X.env n pos') (fun _ s7 => Q s7) X.xe s6 := fun {σ6 H6 Q} S6 hq => gone_ok (S6.unsuite ok) hN hi hln hq
          cases f with
          | next =>
            obtain ⟨σ6, H6, S6, q6⟩ := hsp
            exact end_ S6 fun s7 J7 => ⟨_, _, J7, q6⟩
          | brk =>
            obtain ⟨σ6, H6, S6, q6⟩ := hsp
            exact end_ S6 fun s7 J7 => ⟨_, _, J7, q6⟩
          | cont =>
            obtain ⟨σ6, H6, S6, q6⟩ := hsp
            exact end_ S6 fun s7 J7 => ⟨_, _, J7, q6⟩
          | ret u =>
            obtain ⟨v6, σ6, H6, S6, r6, q6⟩ := hsp
            exact end_ S6 fun s7 J7 => ⟨_, _, _, J7, r6, q6⟩
        | false =>
          show wpAny _ X.A (handleBy (.ref a) X.env hds2) _ _ _
          exact ih (hno rfl)
    exact go hh w
  · cases f with
    | next =>
      obtain ⟨σ', H', J', q⟩ := hsp
      exact wpAny_execs_nil ⟨σ', H', J'.ofTry ok, q⟩
    | brk =>
      obtain ⟨σ', H', J', q⟩ := hsp
      exact ⟨σ', H', J'.ofTry ok, q⟩
    | cont =>
      obtain ⟨σ', H', J', q⟩ := hsp
      exact ⟨σ', H', J'.ofTry ok, q⟩
    | ret u =>
      obtain ⟨v, σ', H', J', r, q⟩ := hsp
      exact ⟨v, σ', H', J'.ofTry ok, r, q⟩
end

/-! ### isinstance(e, C), e a caught error with a dict of its own -/
def rIsX (K : PySem.W.Frag) (a : Addr) (cls : Value) (d : Option Addr) : List V → Hp → VK → Prop := fun xs H Q => ∃ (c : V) (cv : Value) (D dd : Addr) (fs : List (Str × V)) (b : Bool),
  xs = [.ref a, c] ∧ ClsV c cv ∧ cls = .ref D ∧ d = some dd ∧ ExcC K D ∧ H dd = some (.xd fs) ∧ PySem.W.kitOne K (.ref D) cv = some b ∧ Q (.bl b) H
theorem call_isX {X : Cx} {a : Addr} {cls : Value} {d : Option Addr} {oe : Obj} {pn : List (Addr × Obj)} (hz : Zc cls d oe) (hf : ∃ vs, oe.data = .fields vs) : CallR (X.suite a ((a, oe) :: pn)) (.builtin "isinstance") (rIsX X.K a cls d) := by
  intro pins s σ H xs us Q I r h
  obtain ⟨c, cv, D, dd, fs, b, rfl, hcv, rfl, rfl, C, hdd, e, q⟩ := h
  cases r with
  | cons rx rr =>
    cases rr with
    | cons rt rr =>
      cases rr
      cases rx
      have ec := hcv.eq rt
      subst ec
      obtain ⟨hget, _⟩ := I.pin (a, oe) (List.mem_append.mpr (.inl List.mem_cons_self))
      obtain ⟨vs, hv⟩ := hf
      have hx : ObjOk X.prog X.w H s.heap dd (.xd fs) := I.hok dd _ hdd
      obtain ⟨mA, hns, _⟩ := hx
      obtain ⟨od, ho, _⟩ := lookIn_ns hns
      have J : PySem.W.InstAt s.heap a oe D (some od) := ⟨hget, hz.1, by unfold PySem.W.notCls; rw [hv] <;> rfl, by rw [hz.2]; exact ho⟩
      have hcl : (PySem.W.clsIn X.K D).isSome = true := by
        obtain ⟨cd, hc, _⟩ := PySem.W.any_some C.hd
        rw [hc] <;> rfl
      exact PySem.W.kia_one (PySem.W.kitx_exc hcl C.hg C.hk C.hs C.ha C.hn C.ht C.hm) I.kIn J e (fun z => nomatch z) fun tk => ⟨.bl b, H, I.kept (t' := tk) fun _ _ z => z, rfl, q⟩

/-! ### a module's constant -/
theorem pe_gi {X : Cx} {x : Str} {n : Int} {pos : Pos} (h : ∃ t, X.mg x = some (.int n t)) (hg : Gl X x := by rfl) (hd : (x == ("__debug__" : Str)) = false := by decide) : PE X (.Name x pos) (tC (.int n)) := by
  obtain ⟨t, hm⟩ := h
  exact pe_glob hg hm ⟨t, rfl⟩ hd
/-- a class as a value -/
theorem pe_cv {X : Cx} {x : Str} {C : Addr} {pos : Pos} (h : X.mg x = some (.ref C)) (hg : Gl X x := by rfl) (hd : (x == ("__debug__" : Str)) = false := by decide) : PE X (.Name x pos) (tC (.ref C)) := pe_glob hg h rfl hd
theorem pe_ty {X : Cx} {x : Str} {n : String} {pos : Pos} (h : X.mg x = none) (hv : bootBuiltins x = some (.type n)) (hg : Gl X x := by rfl) (hn : x ≠ "__name__" := by decide) (hd : (x == ("__debug__" : Str)) = false := by decide) : PE X (.Name x pos) (tC (.ty n)) := pe_bltn hg h hv rfl hn hd
theorem bb_int : bootBuiltins "int" = some (.type "int") := by decide +kernel
theorem bb_bool : bootBuiltins "bool" = some (.type "bool") := by decide +kernel
theorem bb_str : bootBuiltins "str" = some (.type "str") := by decide +kernel
theorem bb_tuple : bootBuiltins "tuple" = some (.type "tuple") := by decide +kernel
theorem bb_list : bootBuiltins "list" = some (.type "list") := by decide +kernel
theorem bb_dict : bootBuiltins "dict" = some (.type "dict") := by decide +kernel
theorem bb_set : bootBuiltins "set" = some (.type "set") := by decide +kernel
theorem bb_range : bootBuiltins "range" = some (.type "range") := by decide +kernel
theorem bb_enumerate : bootBuiltins "enumerate" = some (.type "enumerate") := by decide +kernel
theorem bb_reversed : bootBuiltins "reversed" = some (.type "reversed") := by decide +kernel
theorem bb_len : bootBuiltins "len" = some (.builtin "len") := by decide +kernel
theorem bb_isinstance : bootBuiltins "isinstance" = some (.builtin "isinstance") := by decide +kernel
theorem bb_sorted : bootBuiltins "sorted" = some (.builtin "sorted") := by decide +kernel
theorem bb_sum : bootBuiltins "sum" = some (.builtin "sum") := by decide +kernel
theorem bb_max : bootBuiltins "max" = some (.builtin "max") := by decide +kernel
theorem bb_min : bootBuiltins "min" = some (.builtin "min") := by decide +kernel
theorem bb_abs : bootBuiltins "abs" = some (.builtin "abs") := by decide +kernel
end PH

set_option Elab.async false
set_option linter.all false
set_option maxRecDepth 100000
set_option maxHeartbeats 4000000
/-! # == and != by an own __eq__ -/
namespace PySem.W
open PySem PySem.Calls PyProof.Rows
section
variable {prog : Program} {w : World} {A : Around} {E : Value → Shared → Prop} {s : Shared} {K : Frag} {x C f : Addr} {ox : Obj} {od : Option Obj} {b tb : Value}
theorem rich_by {op : CmpOp} {Q : Value → Shared → Prop} (hu : A.units < cLine) (X : K.In s.heap) (I : InstAt s.heap x ox C od) (hb : Looks (model prog w) s.heap (typeOf b) tb) (hn : notFirst K C tb = true)
    (one : wpAny (model prog w) A (tryCompare (.ref x) (cmpInfo op).2.1 b) (fun r s' => ∃ v, r = some v ∧ Q v s') E s) : wpAny (model prog w) A (richCompare op (.ref x) b) Q E s := by
  unfold richCompare
  simp only [oneThing_ref]
  refine wpAny_holding (wpAny_bind (wpAny_cRoomFor hu ?_))
  refine wpAny_bind (I.type.here (wpAny_bind (hb.here ?_)))
  split
  · rename_i q
    have e : subIn K tb (.ref C) = some false := by
      rcases Bool.or_eq_true_iff.mp hn with e | e
      · rw [beq_iff_eq.mp e] at q; simp at q
      · exact beq_iff_eq.mp e
    refine wpAny_bind ((looks_subIn X e).here ?_)
    simp only [Bool.false_eq_true, if_false]
    refine wpAny_bind (wpAny_mono one (fun r s' z => ?_) fun _ _ e => e)
    obtain ⟨v, rfl, hq⟩ := z
    exact wpAny_pure hq
  · refine wpAny_bind (wpAny_pure ?_)
    simp only [Bool.false_eq_true, if_false]
    refine wpAny_bind (wpAny_mono one (fun r s' z => ?_) fun _ _ e => e)
    obtain ⟨v, rfl, hq⟩ := z
    exact wpAny_pure hq
theorem ifBound_slot {M : Model} {name : Str} {T id : String} {args : List Value} {Q : Option Value → Shared → Prop} (X : K.In s.heap) (I : InstAt s.heap x ox C od) (hs : findIn K (.ref C) name = some (some (.builtin id))) (S : Slot T name id)
    (h : wpAny M A (call (.builtin id) (.ref x :: args)) (fun v => Q (some v)) E s) : wpAny M A (callSpecialIfBound? (.ref x) name args) Q E s := by
  simp only [callSpecialIfBound?, bindSpecialIfBound?]
  refine wpAny_holding (wpAny_bind (wpAny_bind (wpAny_bind (I.type.here ((looks_findIn X hs).here ?_)))))
  simp only [S.bind]
  refine wpAny_bind (wpAny_askSetting (wpAny_ite ?_))
  have fin : wpAny M A (call (.builtin id) ([.ref x] ++ args) >>= fun v => pure (some v)) Q E s := wpAny_bind (wpAny_mono h (fun v s' h' => wpAny_pure h') fun _ _ h' => h')
  split
  · exact wpAny_bind (wpAny_pure (wpAny_pure fin))
  · exact wpAny_tryCatch (wpAny_bind (wpAny_pure (wpAny_pure fin)))
open Builtin in
theorem objNe_K {Q : Fin → Shared → Prop} (hu : A.units < cLine) (X : K.In s.heap) (I : InstAt s.heap x ox C od) (hs : findIn K (.ref C) "__eq__" = some (some (.ref f))) (hf : isFn K (.ref f) = true)
    (hcall : wpAny (model prog w) A (call (.ref f) [.ref x, b]) (fun v s' => ∃ c, v = .bool c ∧ Q (.done (.ret (.bool (!c)))) s') E s) :
    wpAny (model prog w) A (Builtin.«object.__ne__» ⟨[.ref x, b], []⟩) Q E s := by
  obtain ⟨hp, g, d, t, os⟩ := s
  unfold Builtin.«object.__ne__»
  repeat (first
    | with_reducible refine wpAny_cRoomFor hu ?_
    | (refine wpAny_bind (m := callSpecialIfBound? (.ref x) (Str.ofString "__eq__") [b])
        (ifBound_K X I hs hf (wpAny_mono hcall (fun r s' hr => by
          obtain ⟨c, rfl, hq⟩ := hr
          repeat (first | exact hq | exact wpAny_pure hq | exact wpAny_truthy_bool hq | (refine wpAny_bind (m := truthy (.bool _)) (wpAny_truthy_bool ?_)) | wp_step)) fun _ _ e => e)))
    | wp_step)
theorem tryNe_K {Q : Option Value → Shared → Prop} (hu : A.units + 1 < cLine) (X : K.In s.heap) (I : InstAt s.heap x ox C od) (hne : findIn K (.ref C) "__ne__" = some (some (.builtin "object.__ne__"))) (hm : mroIn K C (.type "object") = some true)
    (hs : findIn K (.ref C) "__eq__" = some (some (.ref f))) (hf : isFn K (.ref f) = true)
    (hcall : wpAny (model prog w) A.in1 (call (.ref f) [.ref x, b]) (fun v s' => ∃ c, v = .bool c ∧ Q (some (.bool (!c))) s') E s) :
    wpAny (model prog w) A (tryCompare (.ref x) "__ne__" b) Q E s := by
  have hi : Looks (model prog w) s.heap (isInstance (.ref x) (.type "object")) true := I.type.andThen (looks_mroIn X hm)
  simp only [tryCompare]
  refine wpAny_bind (ifBound_slot X I hne PySem.F.cmp_object.ne (wpAny_call (codeAny_call_builtin PySem.F.cmp_object.ne.plain PySem.F.cmpEntry_ne
    (PySem.W.check_slot PySem.F.cmpKind_ne PySem.F.cmpSplit_ne hi (PySem.F.cmpArgs_ne _ _)
      (objNe_K (A := A.in1) (by show A.units + 1 < cLine; exact hu) X I hs hf (wpAny_mono hcall (fun v s' hv => ?_) fun _ _ e => e))))))
  obtain ⟨c, rfl, hq⟩ := hv
  first | exact ⟨c, rfl, wpAny_pure hq⟩ | exact ⟨c, rfl, wpAny_pure (wpAny_pure hq)⟩ | exact ⟨c, rfl, hq⟩
end
end PySem.W
namespace PH
open PySem PySem.Spec PyProof.Rows L2
open C8 (tCut pss_cut)
/-- a class with an own __eq__ -/
structure Eqc (K : PySem.W.Frag) (C g : Addr) : Prop where
  eq : PySem.W.findIn K (.ref C) "__eq__" = some (some (.ref g))
  fn : PySem.W.isFn K (.ref g) = true
  ne : PySem.W.findIn K (.ref C) "__ne__" = some (some (.builtin "object.__ne__"))
  ob : PySem.W.mroIn K C (.type "object") = some true
def eqcB (K : PySem.W.Frag) (C : Addr) : Bool := He.eqO (PySem.W.findIn K (.ref C) "__eq__") (some (some (.ref (He.ma K C "__eq__")))) && (PySem.W.isFn K (.ref (He.ma K C "__eq__")) &&
  (He.eqO (PySem.W.findIn K (.ref C) "__ne__") (some (some (.builtin "object.__ne__"))) && decide (PySem.W.mroIn K C (.type "object") = some true)))
theorem eqcB_ok {K : PySem.W.Frag} {C : Addr} (h : eqcB K C = true) : Eqc K C (He.ma K C "__eq__") := by
  obtain ⟨h1, h⟩ := He.ba h
  obtain ⟨h2, h⟩ := He.ba h
  obtain ⟨h3, h4⟩ := He.ba h
  exact ⟨He.eqO_ok h1, h2, He.eqO_ok h3, of_decide_eq_true h4⟩
section
variable {X : Cx} {k : Nat} {C g : Addr} {ps : List Str} {sp : Sp}
def rOwnEq (K : PySem.W.Frag) (C : Addr) (sp : Sp) : R2 := fun x y H Q => ∃ a dx fs t, x = .ref a ∧ H a = some (.ins C dx fs) ∧ TyX K H y t ∧ PySem.W.notFirst K C t = true ∧ sp [x, y] H (fun z H' => ∃ b, z = .bl b ∧ Q (.bl b) H') E0
def rOwnNe (K : PySem.W.Frag) (C : Addr) (sp : Sp) : R2 := fun x y H Q => ∃ a dx fs t, x = .ref a ∧ H a = some (.ins C dx fs) ∧ TyX K H y t ∧ PySem.W.notFirst K C t = true ∧ sp [x, y] H (fun z H' => ∃ b, z = .bl b ∧ Q (.bl (!b)) H') E0
theorem run_dn {A : Around} {pins : List (Addr × Obj)} {σ : L2.St} {H : Hp} {s : Shared} {Q : VK} {us : List Value} {vs : List V} (F : Dn X.prog X.w X.K X.mg X.base k g ps sp) (hr : Room k A) (hA : A.frames = X.A.frames) (I : Inv X pins σ H s) (r : Vals vs us)
    (h : sp vs H Q E0) {Q' : Value → Shared → Prop} {E : Value → Shared → Prop} (hq : ∀ u s', EP X pins σ Q u s' → Q' u s') : wpAny (model X.prog X.w) A (call (.ref g) us) Q' E s := by
  obtain ⟨⟨fd, F1, F2⟩, kp⟩ := F
  have hl : us.length = ps.length := by rw [← r.length]; exact F1.len _ _ _ _ h
  have b := F2 s us I.kIn (by rw [List.append_nil]; exact hl)
  rw [List.append_nil] at b
  have e0 : Env0 X.prog X.w X.K X.mg X.base A X.stack s H := by
    have e := I.env0
    exact ⟨by rw [hA]; exact e.frames, e.mod, e.bs, e.bsz, e.funs, e.frf, e.hok, e.bare⟩
  refine wpAny_call (codeAny_mono (F1.run A X.stack s H ⟨us, []⟩ us vs Q E0 hr e0 b r h) fun r s' hq' => ?_)
  cases r with
  | error e =>
    obtain ⟨_, _, _, _, _, _, _, _, _, _, _, _, z⟩ := hq'
    exact z.elim
  | ok fl =>
    cases fl with
    | ret u => exact hq u s' (I.after hq')
    | next => exact False.elim hq'
    | brk => exact False.elim hq'
    | cont => exact False.elim hq'
theorem op_ownEq (e : Eqc X.K C g) (F : Dn X.prog X.w X.K X.mg X.base k g ps sp) (hr : Room k X.A) : OpR X (compareOp .Eq) (rOwnEq X.K C sp) := by
  intro pins s σ H x y v u Q I rx ry h
  obtain ⟨a, dx, fs, t, rfl, ha, ty, hn, q⟩ := h
  cases (show v = Value.ref a from rx)
  obtain ⟨mA, J, _⟩ := ins_get I.hok ha
  obtain ⟨od, J, _⟩ := J.look
  obtain ⟨P, kit, hP, _⟩ := kit_of I ry ty
  have hty : PySem.W.Looks (model X.prog X.w) s.heap (typeOf u) t := kit.ty _ _ I.kIn hP
  show wpAny (model X.prog X.w) X.A (richCompare .Eq (.ref a) u) (EP X pins σ Q) X.xe s
  refine PySem.W.rich_by (op := .Eq) hr.units0 I.kIn J hty hn ?_
  show wpAny (model X.prog X.w) X.A (tryCompare (.ref a) "__eq__" u) _ X.xe s
  unfold tryCompare
  refine wpAny_bind (PySem.W.ifBound_K I.kIn J e.eq e.fn ?_)
  refine run_dn F hr rfl I (vs := [.ref a, y]) (.cons rfl (.cons ry .nil)) q fun z s' ⟨zv, H', I', rz, b, ez, qz⟩ => ?_
  subst ez
  cases rz
  exact wpAny_pure ⟨_, rfl, ⟨.bl b, H', I', rfl, qz⟩⟩
theorem op_ownNe (e : Eqc X.K C g) (F : Dn X.prog X.w X.K X.mg X.base k g ps sp) (hr : Room (k + 1) X.A) : OpR X (compareOp .NotEq) (rOwnNe X.K C sp) := by
  intro pins s σ H x y v u Q I rx ry h
  obtain ⟨a, dx, fs, t, rfl, ha, ty, hn, q⟩ := h
  cases (show v = Value.ref a from rx)
  obtain ⟨mA, J, _⟩ := ins_get I.hok ha
  obtain ⟨od, J, _⟩ := J.look
  obtain ⟨P, kit, hP, _⟩ := kit_of I ry ty
  have hty : PySem.W.Looks (model X.prog X.w) s.heap (typeOf u) t := kit.ty _ _ I.kIn hP
  show wpAny (model X.prog X.w) X.A (richCompare .NotEq (.ref a) u) (EP X pins σ Q) X.xe s
  refine PySem.W.rich_by (op := .NotEq) hr.units0 I.kIn J hty hn ?_
  refine PySem.W.tryNe_K (by have := hr.units; omega) I.kIn J e.ne e.ob e.eq e.fn ?_
  refine run_dn F hr.in1 rfl I (vs := [.ref a, y]) (.cons rfl (.cons ry .nil)) q fun z s' ⟨zv, H', I', rz, b, ez, qz⟩ => ?_
  subst ez
  cases rz
  exact ⟨b, rfl, _, rfl, ⟨.bl (!b), H', I', rfl, qz⟩⟩
end
end PH

set_option Elab.async false
set_option linter.all false
set_option maxRecDepth 100000
set_option maxHeartbeats 4000000
/-! # tuple(text), list(text), text * n, enumerate over a tuple and a text, dict comprehensions over any walk -/
namespace PH
open PySem PySem.Spec PyProof.Rows L2
open AutoSeq1 (wpAny_loadPart')
/-- a text's signs -/
def sg (z : Str) : List V := z.cps.toList.map fun c => V.str ⟨#[c]⟩
theorem sg_length {z : Str} : (sg z).length = z.length := by
  unfold sg
  rw [List.length_map, Array.length_toList] <;> rfl
theorem vals_signs {z : Str} {acc : Array Value} (h : ItemsOf (SignAt z) acc z.cps.size) : Vals (sg z) acc.toList := by
  obtain ⟨h1, h2⟩ := h
  have go : ∀ (cs : List Nat) (us : List Value), cs.length = us.length → (∀ (j : Nat) (v : Value), us[j]? = some v → ∃ c u, cs[j]? = some c ∧ v = .str ⟨#[c]⟩ u) → Vals (cs.map fun c => V.str ⟨#[c]⟩) us := by
    intro cs
    induction cs with
    | nil =>
      intro us hl _
      cases us with
      | nil => exact .nil
      | cons _ _ => simp at hl
    | cons c cs ih =>
      intro us hl hu
      cases us with
      | nil => simp at hl
      | cons u us =>
        obtain ⟨c', t, e, ev⟩ := hu 0 u rfl
        have e : c = c' := by simpa using e
        subst e
        exact .cons ⟨t, ev⟩ (ih us (by simpa using hl) fun j v hv => hu (j + 1) v (by simpa using hv))
  refine go _ _ (by rw [Array.length_toList, Array.length_toList, h1]) fun j v hv => ?_
  obtain ⟨c, u, e, ev⟩ := h2 j v (by rw [← Array.getElem?_toList]; exact hv)
  exact ⟨c, u, by rw [Array.getElem?_toList]; exact e, ev⟩
section
variable {X : Cx}
def rTupS : List V → Hp → VK → Prop := fun xs H Q => ∃ z : Str, xs = [.str z] ∧ z.length ≤ sizeLine ∧ ∀ p, H p = none → Q (.ref p) (upd H p (.tup (sg z)))
theorem cr_tuple_str (hc : X.calm = true) : CallR X (.type "tuple") rTupS := by
  intro pins s σ H xs us Q I r h
  obtain ⟨z, rfl, hz, q⟩ := h
  obtain ⟨u, rfl, t, rfl⟩ := vals1 r
  refine PySem.call_tuple_str (I.ok.hd hc) z t (fun h' tk acc kp hacc => ?_) hz
  have I1 : Inv X pins σ H { s with heap := h', toks := tk } := I.kept (t' := tk) kp
  have I2 : Inv X pins σ (upd H h'.objs.size (.tup (sg z))) { s with heap := h'.push { cls := .type "tuple", data := .seq acc }, toks := tk } :=
    I1.laid (t' := tk) (fun b o e => Heap.get?_push_of_some _ e) (Nat.le_refl _) (show ObjOk X.prog X.w _ _ _ (.tup (sg z)) from ⟨by rw [sg_length]; exact hz, acc.toList, vals_signs hacc, by simpa using IsTup.new _ _⟩)
  exact ⟨.ref h'.objs.size, _, I2, rfl, q _ (I1.hok.fresh (Nat.le_refl _))⟩
def rLstS : List V → Hp → VK → Prop := fun xs H Q => ∃ z : Str, xs = [.str z] ∧ z.length ≤ sizeLine ∧ ∀ p, H p = none → Q (.ref p) (upd H p (.lst (sg z)))
theorem cr_list_str (hc : X.calm = true) : CallR X (.type "list") rLstS := by
  intro pins s σ H xs us Q I r h
  obtain ⟨z, rfl, hz, q⟩ := h
  obtain ⟨u, rfl, t, rfl⟩ := vals1 r
  refine PySem.call_list_str (I.ok.hd hc) z t (fun h' tk acc c' kp e hacc => ?_) hz
  exact ⟨.ref s.heap.objs.size, _, I.laid (t' := tk) kp (Nat.le_refl _) (show ObjOk X.prog X.w _ h' _ (.lst (sg z)) from ⟨by rw [sg_length]; exact hz, acc.toList, c', vals_signs hacc, by simpa using e⟩), rfl, q _ (I.hok.fresh (Nat.le_refl _))⟩
/-- a text seven times -/
def rep7 (z : Str) : Str := ⟨(List.replicate 7 z.cps).foldl (· ++ ·) #[]⟩
theorem rep7_length {z : Str} : (rep7 z).length = 7 * z.length := by
  show ((List.replicate 7 z.cps).foldl (· ++ ·) #[]).size = 7 * z.cps.size
  simp [List.replicate, List.foldl]
  omega
def rMul7 : R2 := fun x y H Q => ∃ z : Str, x = .str z ∧ y = .int 7 ∧ 0 < z.length ∧ z.length < 10000 ∧ Q (.str (rep7 z)) H
theorem op_mul_str : OpR X (binaryOp .Mult) rMul7 := by
  intro pins s σ H x y v u Q I rx ry h
  obtain ⟨z, rfl, rfl, h3, h4, q⟩ := h
  obtain ⟨t, rfl⟩ := rx
  obtain ⟨t2, rfl⟩ := ry
  have e2 : ((7 : Int) == 1 || z.length == 0) = false := by
    have b : (z.length == 0) = false := beq_eq_false_iff_ne.mpr (by omega)
    rw [b] <;> rfl
  have hl : ¬ (z.length * (7 : Int).toNat > sizeLine) := by
    show ¬ (z.length * 7 > sizeLine)
    rw [sizeLine_eq]
    omega
  have hn : (rep7 z).length ≤ sizeLine := by
    rw [rep7_length, sizeLine_eq]
    omega
  refine PySem.P.mul_str (by decide) (fun _ _ => ?_) (fun _ _ => decide_eq_false hl) ?_
  · have e : ((2 ^ 63 - 1 : Int) / 7) = 1317624576693539401 := by decide
    rw [e]
    omega
  · rw [if_neg (by decide), if_neg (by rw [e2]; decide)]
    exact ⟨hn, ⟨.str (rep7 z), H, I.tok _, ⟨_, rfl⟩, q⟩⟩
end

/-! ### enumerate over a tuple, a text -/
def ItG (n : Nat) (G : Hp → Prop) (V0 : Nat → V → Prop) : It :=
  ⟨fun i H => G H ∧ i < n, fun i H v H' => ∃ T x, v = .ref T ∧ H T = none ∧ H' = upd H T (.tup [.int (i : Nat), x]) ∧ V0 i x, fun i H => G H ∧ i = n⟩
def IteT (K : PySem.W.Frag) (a : Addr) (xs : List V) : It := ItG xs.length (fun H => SqT K H a xs) (fun i x => xs[i]? = some x)
def IteS (z : Str) : It := ItG z.cps.size (fun _ => True) (fun i x => ∃ c, z.cps[i]? = some c ∧ x = .str ⟨#[c]⟩)
theorem turn_enumG {P : Program} {w : World} {K : PySem.W.Frag} {elts : List Expr} {kk : Nat} {tpos : Pos} {n : Nat} {G : Hp → Prop} {V0 : Nat → V → Prop} (e it : Addr) (fp0 : List Addr) (St0 : Nat → Heap → Prop) (hne : e ≠ it)
    (ob : ∀ i h, St0 i h → ∃ o, h.get? it = some o ∧ ∀ v, o.data ≠ .cell v) (kp : ∀ i h h', St0 i h → (∀ o, h.get? it = some o → h'.get? it = some o) → St0 i h')
    (dr : ∀ (X : Cx) (pins : List (Addr × Obj)) (s : Shared) (σ : L2.St) (H : Hp), X.prog = P → X.w = w → X.K = K → X.calm = true → Inv X pins σ H s → H e = none → H it = none → (∃ i, St0 i s.heap) → G H →
      ∃ (fp : List Addr) (Pv : Nat → Value → Prop) (St : Nat → Heap → Prop), Draws P w X.A.in1 it fp n Pv St ∧ e ∉ fp ∧ (∀ i u, Pv i u → ∃ x, RelV x u ∧ V0 i x) ∧ (∀ i, St0 i s.heap → St i s.heap) ∧ (∀ i h, St i h → St0 i h)) :
    Turn P w K (.Tuple elts kk tpos) (ItG n G V0) [e, it] e (fun i h => (∃ old, IsEnum h e it ((i : Nat) : Int) old) ∧ St0 i h) where
  mem := by simp
  obj := fun i h st b hb => by
    obtain ⟨⟨old, he⟩, hi⟩ := st
    have e' : b = e ∨ b = it := by simpa using hb
    rcases e' with z | z
    · rw [z]; exact ⟨_, he, fun v q => nomatch q⟩
    · rw [z]; exact ob i h hi
  keep := fun i h h' st k => let ⟨⟨old, he⟩, hi⟩ := st; ⟨⟨old, k e (by simp) _ he⟩, kp i h h' hi fun o q => k it (by simp) o q⟩
  item := by
    intro X hP hw hK hc i pins s σ H E I hf st hg
    have n1 : H e = none := (hf e (by simp)).1
    have n2 : H it = none := (hf it (by simp)).1
    obtain ⟨hG, hlt⟩ := hg
    obtain ⟨fp, Pv, St, D, hef, hv, hs, hs'⟩ := dr X pins s σ H hP hw hK hc I n1 n2 ⟨i, st.2⟩ hG
    subst hP hw hK
    obtain ⟨⟨old, he⟩, hi⟩ := st
    have hel : e < s.heap.objs.size := Heap.lt_size he
    have hil : it < s.heap.objs.size := by obtain ⟨_, q, _⟩ := ob i _ hi; exact Heap.lt_size q
    refine wpAny_pyNext_enum_itemD D he (hs i hi) hlt hne hef fun u h' tk hP ho hst hT hsz hk => ?_
    obtain ⟨x, ru, hx⟩ := hv i u hP
    refine ⟨_, rfl, wpAny_letOwnedTupleGo_enum (s := { s with heap := h', toks := tk + 1 }) ho fun h'' he' sb => ?_⟩
    have hT2 : h''.get? s.heap.objs.size = some { cls := .type "tuple", data := .seq #[.int i tk, u] } := (sb.2 _ (Nat.ne_of_gt hel)).trans hT
    have new : ObjOk X.prog X.w (upd H s.heap.objs.size (.tup [.int (i : Nat), x])) h'' s.heap.objs.size (.tup [.int (i : Nat), x]) :=
      ⟨by show 2 ≤ sizeLine; decide, [.int i tk, u], .cons ⟨_, rfl⟩ (.cons ru .nil), ⟨_, hT2, rfl, _, rfl⟩⟩
    have I1 : Inv X pins σ (upd H s.heap.objs.size (.tup [.int (i : Nat), x])) { s with heap := h'', toks := tk + 1 } :=
      I.turnedNew (ch := [e, it]) (fun b ob hb q => (sb.2 b (fun z => hb (by simp [z]))).trans (hk b ob (fun z => hb (by simp [z])) (fun z => hb (by simp [z])) q)) hf (Nat.le_refl _) new
    refine ⟨.ref s.heap.objs.size, _, I1, rfl, ⟨_, x, rfl, I.hok.fresh (Nat.le_refl _), rfl, hx⟩, ⟨⟨u, ?_⟩, kp _ h' _ (hs' _ _ hst) fun o q => (sb.2 it (Ne.symm hne)).trans q⟩, fun b hb => ?_⟩
    · have e1 : ((i + 1 : Nat) : Int) = (i : Int) + 1 := by omega
      rw [e1]; exact he'
    · have hb' : b < s.heap.objs.size := by
        have e' : b = e ∨ b = it := by simpa using hb
        rcases e' with z | z
        · rw [z]; exact hel
        · rw [z]; exact hil
      rw [upd_ne (Nat.ne_of_lt hb')]
      exact (hf b hb).1
  done := by
    intro X hP hw hK hc i pins s σ H E I hf st hg
    have n1 : H e = none := (hf e (by simp)).1
    have n2 : H it = none := (hf it (by simp)).1
    obtain ⟨hG, hle⟩ := hg
    obtain ⟨fp, Pv, St, D, hef, hv, hs, hs'⟩ := dr X pins s σ H hP hw hK hc I n1 n2 ⟨i, st.2⟩ hG
    subst hP hw hK
    obtain ⟨⟨old, he⟩, hi⟩ := st
    obtain ⟨f0, f1, f2, f3, f4, f5⟩ := hf it (by simp)
    subst hle
    exact wpAny_pyNext_enum_endD D he (hs _ hi) fun h' eb => ⟨rfl, I.turned (t' := s.toks) (fun b o hb q => eb b o hb q) f0 f1 f3 f4 f5⟩
  self := fun A i s Q E st h => let ⟨⟨_, he⟩, _⟩ := st; wpAny_pyIter_enum he h

theorem turn_enumT {P : Program} {w : World} {K : PySem.W.Frag} {elts : List Expr} {kk : Nat} {tpos : Pos} {a : Addr} {xs : List V} (e it : Addr) (hne : e ≠ it) :
    Turn P w K (.Tuple elts kk tpos) (IteT K a xs) [e, it] e (fun i h => (∃ old, IsEnum h e it ((i : Nat) : Int) old) ∧ (h.IsTupleIter it a i ∧ a ≠ e ∧ a ≠ it)) := by
  refine turn_enumG e it [it, a] (fun i h => h.IsTupleIter it a i ∧ a ≠ e ∧ a ≠ it) hne ?_ ?_ ?_
  · rintro i h ⟨⟨o, ho, hc, hd⟩, _⟩
    exact ⟨o, ho, fun v q => by rw [hd] at q; cases q⟩
  · rintro i h h' ⟨⟨o, ho, hc, hd⟩, r⟩ k
    exact ⟨⟨o, k o ho, hc, hd⟩, r⟩
  · rintro X pins s σ H hP hw hK hc I n1 n2 ⟨_, _, c⟩ hG
    subst hP hw hK
    obtain ⟨its, rv, p, hz⟩ := I.tuple hG
    refine ⟨[it, a], _, _, by have D := Draws.tuple (prog := X.prog) (w := X.w) (A := X.A.in1) (I.ok.hd hc) it a c.2 its.toArray; rw [List.size_toArray, ← rv.length] at D; exact D, ?_, ?_, ?_, ?_⟩
    · simp only [List.mem_cons, List.not_mem_nil, or_false, not_or]
      exact ⟨hne, Ne.symm c.1⟩
    · intro i u hu
      have hu : its[i]? = some u := by simpa using hu
      have hlt : i < xs.length := by rw [rv.length]; exact (List.getElem?_eq_some_iff.mp hu).1
      have hx : xs[i]? = some xs[i] := List.getElem?_eq_getElem hlt
      obtain ⟨u', hu', r⟩ := rv.get hx
      rw [hu] at hu'
      cases hu'
      exact ⟨_, r, hx⟩
    · exact fun i h => ⟨h.1, p⟩
    · exact fun i h st => ⟨st.1, c⟩
theorem turn_enumS {P : Program} {w : World} {K : PySem.W.Frag} {elts : List Expr} {kk : Nat} {tpos : Pos} {z : Str} {t : Tok} (e it : Addr) (hne : e ≠ it) :
    Turn P w K (.Tuple elts kk tpos) (IteS z) [e, it] e (fun i h => (∃ old, IsEnum h e it ((i : Nat) : Int) old) ∧ h.IsStrIter it (strIterType z) z t i) := by
  refine turn_enumG e it [it] (fun i h => h.IsStrIter it (strIterType z) z t i) hne ?_ ?_ ?_
  · rintro i h ⟨o, ho, hc, hd⟩
    exact ⟨o, ho, fun v q => by rw [hd] at q; cases q⟩
  · rintro i h h' ⟨o, ho, hc, hd⟩ k
    exact ⟨o, k o ho, hc, hd⟩
  · rintro X pins s σ H hP hw hK hc I n1 n2 _ hG
    subst hP hw hK
    refine ⟨[it], _, _, Draws.text (prog := X.prog) (w := X.w) (A := X.A.in1) (I.ok.hd hc) it z t, ?_, ?_, ?_, ?_⟩
    · simp only [List.mem_cons, List.not_mem_nil, or_false]
      exact hne
    · rintro i u ⟨c, u', hc', rfl⟩
      exact ⟨.str ⟨#[c]⟩, ⟨_, rfl⟩, c, hc', rfl⟩
    · exact fun i h => h
    · exact fun i h st => st
def iEnumT (K : PySem.W.Frag) (ta : TA) : TI := fun σ H R => ta σ H fun vs H1 => ∃ a xs, vs = [.ref a] ∧ SqT K H1 a xs ∧ R (IteT K a xs) H1
def iEnumS (ta : TA) : TI := fun σ H R => ta σ H fun vs H1 => ∃ z, vs = [.str z] ∧ R (IteS z) H1
theorem pi_enumS {X : Cx} {e : Expr} {ta : TA} {p pos tpos : Pos} {elts : List Expr} {kk : Nat} (hg : Gl X "enumerate") (hm : X.mg "enumerate" = none) (ha : PA X [e] ta) (hs : starEach [e] X.env = [(false, eval e X.env)] := by rfl) :
    PI X (.Tuple elts kk tpos) (.Call (.Name "enumerate" p) [e] [] pos) (iEnumS ta) := by
  refine ⟨fun pins s σ H R I h => ?_⟩
  refine Call_ (ld_blt I hg hm boot_enumerate (PyProof.Rows.callWith_type1 (thn (ha.run pos pins s σ H _ I h) fun us s1 ⟨vs, H1, I1, r1, q1⟩ => ?_) hs rfl))
  obtain ⟨z, ex, q⟩ := q1
  subst ex
  obtain ⟨u, rfl, t, rfl⟩ := vals1 r1
  refine call_enumerate_str fun h' he hit hsz hk => wpAny_pyIter_enum he ?_
  have I2 : Inv X pins σ H1 { s1 with heap := h' } := I1.kept (t' := s1.toks) hk
  refine ⟨s1.heap.objs.size + 1, [s1.heap.objs.size + 1, s1.heap.objs.size], _, _, H1, rfl, I2, turn_enumS (s1.heap.objs.size + 1) s1.heap.objs.size (Nat.succ_ne_self _), ⟨⟨.none, he⟩, hit⟩, fun b hb => ?_, q⟩
  have e' : b = s1.heap.objs.size + 1 ∨ b = s1.heap.objs.size := by simpa using hb
  have hle : s1.heap.objs.size ≤ b := by
    rcases e' with z | z
    · rw [z]; exact Nat.le_add_right _ _
    · rw [z]; exact Nat.le_refl _
  exact I1.fpOk hle (I1.hok.fresh hle)
theorem meets_enumT (l : Addr) (items : Array Value) :
    Meets (Builtin.«enumerate.__new__» ⟨[.type "enumerate", .ref l], []⟩) (fun _ R s => s.heap.IsTuple l items ∧
      R (.ok (.ret (.ref (s.heap.push { cls := .type "tuple_iterator", data := .fields #[.ref l, .int 0 0] }).objs.size)))
        { s with heap := (s.heap.push { cls := .type "tuple_iterator", data := .fields #[.ref l, .int 0 0] }).push { cls := .type "enumerate", data := .fields #[.none, .bool false, .ref s.heap.objs.size, rawInt 0, .none, .none] } }) :=
  .of_wp fun prog w A R s h => by
    obtain ⟨hp, g, d, tk, os⟩ := s; obtain ⟨hl, h⟩ := h
    have hsub := sub_enumerate
    have q1 : ∀ {A' : Around} {E : Value → Shared → Prop} {Q : Value → Shared → Prop}, Q (.ref hp.objs.size) ⟨hp.push { cls := .type "tuple_iterator", data := .fields #[.ref l, .int 0 0] }, g, d, tk, os⟩ → wpAny (model prog w) A' (pyIter (.ref l)) Q E ⟨hp, g, d, tk, os⟩ :=
      fun q => wpAny_pyIter_tuple hl q
    wp_walk using q1
    refine wpAny_stack_any fun st => wpAny_pure ?_
    split
    · rename_i c _ _ _ _ _
      cases (c == Value.type "enumerate")
      · wp_walk using q1
        exact ⟨_, rfl, h⟩
      · wp_walk using q1
        exact ⟨_, rfl, h⟩
    · wp_walk using q1
      exact ⟨_, rfl, h⟩
theorem call_enumT {prog : Program} {w : World} {A : Around} {E : Value → Shared → Prop} {s : Shared} {l : Addr} {items : Array Value} {Q : Value → Shared → Prop} (hL : s.heap.IsTuple l items)
    (h : ∀ h', IsEnum h' (s.heap.objs.size + 1) s.heap.objs.size 0 .none → h'.IsTupleIter s.heap.objs.size l 0 → h'.objs.size = s.heap.objs.size + 2 →
      (∀ b o, s.heap.get? b = some o → h'.get? b = some o) → Q (.ref (s.heap.objs.size + 1)) { s with heap := h' }) :
    wpAny (model prog w) A (call (.type "enumerate") [.ref l]) Q E s := by
  refine callType_new PySem.F.called_enumerate (by decide) (PySem.F.typeCall_enumerate_1 _) (PySem.F.newCall_enumerate_1 _) (fun obj => PySem.F.args_object_init_2 obj _) PySem.F.entry_enumerate_new
    (meets_enumT l items) ⟨hL, ?_⟩
  have hz : (s.heap.push { cls := .type "tuple_iterator", data := .fields #[.ref l, .int 0 0] }).objs.size = s.heap.objs.size + 1 := Heap.size_push ..
  show _ ∧ _
  rw [hz]
  have he : IsEnum ((s.heap.push { cls := .type "tuple_iterator", data := .fields #[.ref l, .int 0 0] }).push
      { cls := .type "enumerate", data := .fields #[.none, .bool false, .ref s.heap.objs.size, rawInt 0, .none, .none] }) (s.heap.objs.size + 1) s.heap.objs.size 0 .none := by
    have := Heap.get?_push_size (s.heap.push { cls := .type "tuple_iterator", data := .fields #[.ref l, .int 0 0] })
      (o := { cls := .type "enumerate", data := .fields #[.none, .bool false, .ref s.heap.objs.size, rawInt 0, .none, .none] }) rfl
    rw [hz] at this; exact this
  refine ⟨⟨_, he, rfl⟩, h _ he ⟨_, Heap.get?_push_of_some _ (Heap.get?_push_size _ rfl), rfl, rfl⟩ (by rw [Heap.size_push, hz]) fun b o y => Heap.get?_push_of_some _ (Heap.get?_push_of_some _ y)⟩
theorem pi_enumT {X : Cx} {e : Expr} {ta : TA} {p pos tpos : Pos} {elts : List Expr} {kk : Nat} (hg : Gl X "enumerate") (hm : X.mg "enumerate" = none) (ha : PA X [e] ta) (hs : starEach [e] X.env = [(false, eval e X.env)] := by rfl) :
    PI X (.Tuple elts kk tpos) (.Call (.Name "enumerate" p) [e] [] pos) (iEnumT X.K ta) := by
  refine ⟨fun pins s σ H R I h => ?_⟩
  refine Call_ (ld_blt I hg hm boot_enumerate (PyProof.Rows.callWith_type1 (thn (ha.run pos pins s σ H _ I h) fun us s1 ⟨vs, H1, I1, r1, q1⟩ => ?_) hs rfl))
  obtain ⟨a, xs, ex, hq, q⟩ := q1
  subst ex
  obtain ⟨u, rfl, rx⟩ := vals1 r1
  cases rx
  obtain ⟨its, rv, p', hz⟩ := I1.tuple hq
  have hal : a < s1.heap.objs.size := by obtain ⟨o, ho, _⟩ := id p'; exact Heap.lt_size ho
  refine call_enumT p' fun h' he hit hsz hk => wpAny_pyIter_enum he ?_
  have I2 : Inv X pins σ H1 { s1 with heap := h' } := I1.kept (t' := s1.toks) hk
  refine ⟨s1.heap.objs.size + 1, [s1.heap.objs.size + 1, s1.heap.objs.size], _, _, H1, rfl, I2, turn_enumT (s1.heap.objs.size + 1) s1.heap.objs.size (Nat.succ_ne_self _), ⟨⟨.none, he⟩, hit, Nat.ne_of_lt (Nat.lt_succ_of_lt hal), Nat.ne_of_lt hal⟩, fun b hb => ?_, q⟩
  have e' : b = s1.heap.objs.size + 1 ∨ b = s1.heap.objs.size := by simpa using hb
  have hle : s1.heap.objs.size ≤ b := by
    rcases e' with z | z
    · rw [z]; exact Nat.le_add_right _ _
    · rw [z]; exact Nat.le_refl _
  exact I1.fpOk hle (I1.hok.fresh hle)
def YPr (n : Nat) (V0 : Nat → V → Prop) : Nat → Hp → V → Hp → Prop := fun i H v H' => ∃ T x, v = .ref T ∧ H T = none ∧ H' = upd H T (.tup [.int (i : Nat), x]) ∧ V0 i x
theorem walk_enumG {n : Nat} {G : Hp → Prop} {V0 : Nat → V → Prop} : Walk (ItG n G V0) n G (YPr n V0) := ⟨fun i _ hi q => ⟨q, hi⟩, fun _ q => ⟨q, rfl⟩, fun _ _ _ _ _ _ y => y⟩
/-- a dict comprehension over any walk -/
theorem dc_it {J : It} {n : Nat} {G : Hp → Prop} {Y : Nat → Hp → V → Hp → Prop} (wk : Walk J n G Y) {g : TG} {tt : TT} {tk tv : TE} {vs : List Nat} {σ : L2.St} {H1 : Hp} {D : Addr} {Qd : Hp → Prop} (Pv : Nat → Hp → Prop) (h0 : Pv 0 (upd H1 D (.dK []))) (hl : ∀ i H, i ≤ n → Pv i H → G H)
    (hs : ∀ i x H H', i < n → Pv i H → Y i H x H' → g x (wipe σ vs) H' fun σ2 H2 => wipe σ2 vs = wipe σ vs ∧ tt σ2 H2 fun b H3 =>
      if b = true then tk σ2 H3 fun y H4 => tv σ2 H4 fun z H5 => ∃ kvs k, y = kV k ∧ H5 D = some (.dK kvs) ∧ kvs.length < sizeLine ∧ Pv (i + 1) (upd H5 D (.dK (putK kvs k z))) else Pv (i + 1) H3) (hd : ∀ H, Pv n H → Qd H) :
    ∃ W : Nat → Nat → Hp → Prop, (∃ m, W 0 m (upd H1 D (.dK []))) ∧ ∀ i m H, W i m H →
      (J.stop i H ∧ Qd H) ∨ (J.go i H ∧ ∃ Nx : Hp → Prop, (∀ H', Nx H' → ∃ m', m' < m ∧ W (i + 1) m' H') ∧ ∀ x H', J.yld i H x H' → g x (wipe σ vs) H' fun σ2 H2 => wipe σ2 vs = wipe σ vs ∧ tt σ2 H2 fun b H3 =>
        if b = true then tk σ2 H3 fun y H4 => tv σ2 H4 fun z H5 => ∃ kvs k, y = kV k ∧ H5 D = some (.dK kvs) ∧ kvs.length < sizeLine ∧ Nx (upd H5 D (.dK (putK kvs k z))) else Nx H3) := by
  refine ⟨fun i m H => m = n - i ∧ i ≤ n ∧ Pv i H, ⟨n, by simp, Nat.zero_le _, h0⟩, ?_⟩
  rintro i m H ⟨rfl, hi, p⟩
  have q := hl i H hi p
  by_cases hlt : i < n
  · exact .inr ⟨wk.goes i H hlt q, Pv (i + 1), fun H' p' => ⟨n - (i + 1), by omega, rfl, hlt, p'⟩, fun x H' y => hs i x H H' hlt p (wk.yields i H x H' hlt q y)⟩
  · have e : i = n := by omega
    subst e
    exact .inl ⟨wk.stops H q, hd H p⟩
end PH

set_option Elab.async false
set_option linter.all false
set_option maxRecDepth 100000
set_option maxHeartbeats 4000000
/-! # set(list of texts), sorted(set of texts): the library's roads for ints, turned to texts -/
namespace PH
open PySem PySem.Spec PyProof.Rows L2
def keyT (e : Int × Value) : Str := match e.2 with | .str k _ => k | _ => Str.empty
def GoodT (w : World) (e : Int × Value) : Prop := ∃ k tk, e.2 = Value.str k tk ∧ e.1 = hashStr w k

/-- the set of ints at a: S its members, n their number; its table rises and can be walked -/
def SetT7 (w : World) (h : Heap) (a : Addr) (S : Str → Bool) (n : Nat) : Prop :=
  ∃ o es ep t, h.get? a = some o ∧ o.ExactSet ∧ o.data = .set es ep t ∧ (∀ e ∈ es.toList, GoodT w e) ∧ (es.toList.map keyT).Nodup ∧ (∀ k, S k = true ↔ k ∈ es.toList.map keyT) ∧
    es.size < scanBound ∧ t.fits es.size = true ∧ es.size = n ∧ Ris t.place.toList ∧ (w.params.followText "set-order" = true ∨ t.led = true)

section
variable {P : Program} {w : World} {h h' : Heap} {a : Addr} {S : Str → Bool} {n : Nat}

theorem SetT7.at (R : SetT7 w h a S n) (k : ∀ o, h.get? a = some o → h'.get? a = some o) : SetT7 w h' a S n := by
  obtain ⟨o, es, ep, t, ho, r⟩ := R
  exact ⟨o, es, ep, t, k o ho, r⟩
theorem SetT7.lt (R : SetT7 w h a S n) : a < h.objs.size := by
  obtain ⟨o, es, ep, t, ho, r⟩ := R
  exact Heap.lt_size ho
theorem SetT7.congr {S' : Str → Bool} (R : SetT7 w h a S n) (e : ∀ k, S' k = S k) : SetT7 w h a S' n := by
  have q : S' = S := funext e
  rw [q]; exact R
theorem goodT_elems {l : List (Int × Value)} (g : ∀ e ∈ l, GoodT w e) : ElemsOf (PySem.strKind P w) l := fun e he => by
  obtain ⟨k, tk, h1, h2⟩ := g e he
  exact ⟨⟨k, by rw [h1]; exact PySem.strKind_is P w k tk, h2⟩, by rw [h1] <;> rfl⟩
theorem goodT_is {e : Int × Value} (g : GoodT w e) (k : Str) : (PySem.strKind P w).is k e.2 = true ↔ keyT e = k := by
  obtain ⟨k0, tk, h1, _⟩ := g
  unfold keyT
  rw [h1]
  show ((k0 == k) = true) ↔ k0 = k
  exact beq_iff_eq
theorem goodT_mem {l : List (Int × Value)} (g : ∀ e ∈ l, GoodT w e) (k : Str) : k ∈ l.map keyT ↔ ∃ e ∈ l, (PySem.strKind P w).is k e.2 = true := by
  rw [List.mem_map]
  constructor
  · rintro ⟨e, he, q⟩
    exact ⟨e, he, (goodT_is (g e he) k).2 q⟩
  · rintro ⟨e, he, q⟩
    exact ⟨e, he, (goodT_is (g e he) k).1 q⟩
theorem SetT7.setOf (R : SetT7 w h a S n) : h.SetOf (PySem.strKind P w) a S n := by
  obtain ⟨o, es, ep, t, ho, hx, hd, g, nd, hm, hb, hf, hn, _⟩ := R
  exact ⟨o, es, ep, t, ho, hx, hd, goodT_elems g, fun k => (hm k).trans (goodT_mem g k), hb, hf, hn⟩
end

section
variable {P : Program} {w : World} {A : Around} {E : Value → Shared → Prop} {s : Shared} {a : Addr} {S : Str → Bool} {n : Nat}

/-! ### add -/
theorem setT7_add_tail {g : Bool → Sem Unit} (hg : ∀ (b : Bool) (s₁ : Shared) (Q' : Unit → Shared → Prop), Q' () s₁ → wpAny (model P w) A (g b) Q' E s₁)
    {o : Obj} {es : Array (Int × Value)} {ep : Nat} {t : SetTable} (ho : s.heap.get? a = some o) (hex : o.ExactSet) (hd : o.data = .set es ep t)
    {es1 : Array (Int × Value)} {t2 : SetTable} {S' : Str → Bool} (g1 : ∀ e ∈ es1.toList, GoodT w e) (nd1 : (es1.toList.map keyT).Nodup) (m1 : ∀ k, S' k = true ↔ k ∈ es1.toList.map keyT)
    (hb1 : es1.size < scanBound) (hf2 : t2.fits es1.size = true) (hr : Ris t2.place.toList) (hl : w.params.followText "set-order" = true ∨ t2.led = true) {wasDummy : Bool} {R : Option Bool → Shared → Prop}
    (hR : ∀ h', Heap.SameBut a s.heap h' → SetT7 w h' a S' es1.size → R (some true) { s with heap := h' }) :
    wpAny (model P w) A (do
        storeSet a es1 t2
        if (!wasDummy && t2.tooFull) = true then do
            g (relayAll t2 es1 (SetTable.grown es1.size)).2.2
            storeSet a (relayAll t2 es1 (SetTable.grown es1.size)).1 (relayAll t2 es1 (SetTable.grown es1.size)).2.1
            pure (some true)
          else pure (some true)) R E s := by
  refine wpAny_bind (wpAny_storeSet_of ho hd ?_ (fits_of_scanBound hb1))
  have ho1 := store_at (es' := es1) (t' := t2) ho hd
  have sb1 := Heap.SameBut.update s.heap a (Obj.putSet es1 t2)
  split
  · have pm := relayAll_perm t2 es1 (SetTable.grown es1.size)
    have hf3 := relayAll_fits t2 es1 (SetTable.grown es1.size)
    have hr3 := relayAll_ris t2 es1 (SetTable.grown es1.size)
    have hl3 := relayAll_led t2 es1 (SetTable.grown es1.size)
    generalize relayAll t2 es1 (SetTable.grown es1.size) = Z at pm hf3 hr3 hl3 ⊢
    obtain ⟨es2, t3, gave⟩ := Z
    dsimp only at pm hf3 hr3 hl3 ⊢
    have hsz : es2.size = es1.size := by rw [← Array.length_toList, pm.length_eq, Array.length_toList]
    have hb2 : es2.size < scanBound := by rw [hsz]; exact hb1
    refine wpAny_bind (hg _ _ _ ?_)
    refine wpAny_bind (wpAny_storeSet_of ho1 rfl ?_ (fits_of_scanBound hb2))
    have ho2 := store_at (es' := es2) (t' := t3) ho1 rfl
    refine wpAny_pure (hR _ (sb1.trans (Heap.SameBut.update _ a _)) ?_)
    exact ⟨_, es2, _, t3, ho2, hex, rfl, fun e he => g1 e (pm.mem_iff.mp he), (pm.map keyT).nodup_iff.mpr nd1, fun k => (m1 k).trans (pm.map keyT).mem_iff.symm, hb2, hf3, hsz, hr3,
      hl.imp id fun z => by rw [hl3]; exact z⟩
  · exact wpAny_pure (hR _ sb1 ⟨_, es1, _, t2, ho1, hex, rfl, g1, nd1, m1, hb1, hf2, rfl, hr, hl⟩)

theorem setT7_add_hashed {k : Str} {tk : Tok} {Q : Bool → Shared → Prop} (R : SetT7 w s.heap a S n) (room : n + 1 < scanBound)
    (hQ : ∀ h', Heap.SameBut a s.heap h' → SetT7 w h' a (fun j => S j || decide (j = k)) (if S k = true then n else n + 1) → Q (!S k) { s with heap := h' }) :
    wpAny (model P w) A (setAddHashed a (.str k tk) ((PySem.strKind P w).hash k)) Q E s := by
  obtain ⟨o, es, ep, t, ho, hex, hd, g, nd, hm, hb, hf, hn, hr, hl⟩ := R
  have hkey : (PySem.strKind P w).is k (.str k tk) = true := PySem.strKind_is P w k tk
  have hsc : (Value.str k tk).scannable = true := rfl
  have hel : ElemsOf (PySem.strKind P w) es.toList := goodT_elems g
  unfold setAddHashed setAddHashedIn
  refine wpAny_holding (wpAny_bind (wpAny_setState_of ho hd hf ?_))
  dsimp only
  rw [byScan_of hsc hb hel]
  simp only [↓reduceIte]
  unfold setAddByScan
  refine wpAny_bind ?_
  refine wpAny_bind (wpAny_rule ?_)
  refine wpAny_bind (wpAny_setScan_of hkey ho hd hf hel ?_)
  cases hfi : List.findIdx? (fun e => (PySem.strKind P w).is k e.2) es.toList with
  | some j =>
    dsimp only
    obtain ⟨hj, pj, _⟩ := List.findIdx?_eq_some_iff_getElem.mp hfi
    have hSk : S k = true := (hm k).2 ((goodT_mem (P := P) (w := w) g k).2 ⟨es.toList[j], List.getElem_mem hj, pj⟩)
    refine wpAny_pure (wpAny_pure ?_)
    have q := hQ s.heap (Heap.SameBut.refl a s.heap) ⟨o, es, ep, t, ho, hex, hd, g, nd, fun i => by
      rw [Bool.or_eq_true, decide_eq_true_eq, ← hm i]
      exact ⟨fun z => z.elim id (fun e => e ▸ hSk), .inl⟩, hb, hf, by rw [if_pos hSk]; exact hn, hr, hl⟩
    rw [hSk] at q
    exact q
  | none =>
    dsimp only
    have hnk : k ∉ es.toList.map keyT := fun z => by
      obtain ⟨e, he, q⟩ := (goodT_mem (P := P) (w := w) g k).1 z
      have c := List.findIdx?_eq_none_iff.mp hfi e he
      rw [q] at c
      cases c
    have hSk : S k = false := by
      cases q : S k with
      | false => rfl
      | true => exact absurd ((hm k).1 q) hnk
    have hgw : ∀ (b : Bool) {s₁ : Shared} {Q' : Unit → Shared → Prop}, Q' () s₁ → wpAny (model P w) A (match b with | true => rule "set.scan.the-table-gave-way" | false => pure ()) Q' E s₁ :=
      fun b s₁ Q' q => by cases b <;> first | exact wpAny_pure q | exact wpAny_rule q
    have pm := layNew_perm t es ((PySem.strKind P w).hash k) (.str k tk)
    have hf1 := layNew_fits t es ((PySem.strKind P w).hash k) (.str k tk)
    have hr1 := layNew_ris t es ((PySem.strKind P w).hash k) (.str k tk) hr
    have hl1 := layNew_led t es ((PySem.strKind P w).hash k) (.str k tk)
    generalize layNew t es ((PySem.strKind P w).hash k) (.str k tk) = Z at pm hf1 hr1 hl1 ⊢
    obtain ⟨es1, t1, wasDummy, gave⟩ := Z
    dsimp only at pm hf1 hr1 hl1 ⊢
    rw [Array.toList_push] at pm
    have pc : es1.toList.Perm (((PySem.strKind P w).hash k, Value.str k tk) :: es.toList) := pm.trans (List.perm_append_singleton _ _)
    have pk : (es1.toList.map keyT).Perm (k :: es.toList.map keyT) := pc.map keyT
    have g1 : ∀ e ∈ es1.toList, GoodT w e := fun e he => by
      rcases List.mem_cons.mp (pc.mem_iff.mp he) with z | z
      · rw [z]; exact ⟨k, tk, rfl, rfl⟩
      · exact g e z
    have nd1 : (es1.toList.map keyT).Nodup := pk.nodup_iff.mpr (List.nodup_cons.mpr ⟨hnk, nd⟩)
    have m1 : ∀ i, (S i || decide (i = k)) = true ↔ i ∈ es1.toList.map keyT := fun i => by
      rw [Bool.or_eq_true, decide_eq_true_eq, hm i, pk.mem_iff, List.mem_cons]
      exact Or.comm
    have hsz : es1.size = n + 1 := by rw [← Array.length_toList, pc.length_eq, List.length_cons, Array.length_toList, hn]
    have hb1 : es1.size < scanBound := by rw [hsz]; exact room
    have hled : w.params.followText "set-order" = true ∨ t1.led = true := hl.imp id fun z => by rw [hl1]; exact z
    have fin : ∀ h', Heap.SameBut a s.heap h' → SetT7 w h' a (fun j => S j || decide (j = k)) es1.size → Q true { s with heap := h' } := fun h' sb r => by
      have q := hQ h' sb
      rw [hSk] at q
      rw [hsz] at r
      exact q r
    refine wpAny_bind (hgw _ ?_)
    split
    · refine wpAny_bind ?_
      rw [hashByValue_scannable 8 hsc]
      refine wpAny_pure ?_
      refine setT7_add_tail ?_ ho hex hd g1 nd1 m1 hb1 ?_ ?_ ?_ ?_
      · intro b s₁ Q' q; cases b <;> first | exact wpAny_pure q | exact wpAny_rule q
      · first | (split <;> first | exact hf1 | exact SetTable.fits_plain_off hf1) | exact hf1
      · first | (split <;> exact hr1) | exact hr1
      · first | (split <;> exact hled) | exact hled
      · intro h' sb r; dsimp only; exact wpAny_pure (fin h' sb r)
    · refine wpAny_bind (wpAny_pure ?_)
      simp only [↓reduceIte]
      refine setT7_add_tail ?_ ho hex hd g1 nd1 m1 hb1 hf1 hr1 hled ?_
      · intro b s₁ Q' q; cases b <;> first | exact wpAny_pure q | exact wpAny_rule q
      · intro h' sb r; dsimp only; exact wpAny_pure (fin h' sb r)

end
theorem setT7_new_at {w : World} {h : Heap} {a : Addr} {ns : List Str} (ho : h.get? a = some { cls := .type "set", dict := none, data := .set #[] 0 (.fresh 0 0 (!w.params.followText "set-order")) }) : SetT7 w h a (fun j => decide (j ∈ ns.take 0)) 0 :=
  ⟨_, #[], 0, _, ho, ⟨rfl, rfl, rfl⟩, rfl, (fun e he => by simp at he), (by simp), (fun k => by simp), (by decide), (by rfl), rfl, List.Pairwise.nil, by
    show _ ∨ (!w.params.followText "set-order") = true
    cases w.params.followText "set-order"
    · exact .inr rfl
    · exact .inl rfl⟩
section
variable {P : Program} {w : World} {A : Around} {E : Value → Shared → Prop} {s : Shared}
theorem set_update_strs7 {I : Addr} {fp wr : List Addr} {G : Array GenState → Array GenState → Prop} {n : Nat} {Pv : Nat → Value → Prop} {St : Nat → Shared → Prop} {R : Result → Shared → Prop}
    (W : WalksS P w A.in1 I fp wr G n Pv St) (S : Addr) (hSf : S ∉ fp) (ns : List Str) (hn : n = ns.length) (hb : ns.length + 1 < scanBound) (hval : ∀ i v, Pv i v → ∃ k t, ns[i]? = some k ∧ v = .str k t) :
    ∀ (k i : Nat) (s : Shared), n - i = k → i ≤ n → St i s → (∃ c, c ≤ i ∧ SetT7 w s.heap S (fun j => decide (j ∈ ns.take i)) c) →
      (∀ s' c, Moved (S :: wr) G s s' → c ≤ n → SetT7 w s'.heap S (fun j => decide (j ∈ ns)) c → R (.ok (.ret .none)) s') →
      codeAny (model P w) A (.builtin "set.update.loop" ⟨[.ref S, .ref I], []⟩) R s := by
  have hSw : S ∉ wr := fun h => hSf (W.sub _ h)
  have hsub : ∀ b ∈ wr, b ∈ S :: wr := fun b hb => List.mem_cons_of_mem _ hb
  intro k
  induction k with
  | zero =>
    intro i s hk' hi hst ⟨c, hc, hS⟩ hR
    have hin : i = n := by omega
    subst hin
    refine codeAny_builtin F.entry_set_update_loop ?_
    rw [Around.under_plainId F.plain_set_update_loop _]
    show wpAny _ A.in1 (pyNext (.ref I) >>= _) _ _ s
    refine wpAny_bind (W.done s _ _ hst fun s' hm => ?_)
    show wpAny _ A.in1 (ret Value.none) _ _ s'
    have e : ns.take i = ns := List.take_of_length_le (by omega)
    rw [e] at hS
    exact wpAny_pure (hR s' c (hm.mono hsub) hc (hS.at fun o e => hm.heap S o hSw e))
  | succ k ih =>
    intro i s hk' hi hst ⟨c, hc, hS⟩ hR
    have hlt : i < n := by omega
    refine codeAny_builtin F.entry_set_update_loop ?_
    rw [Around.under_plainId F.plain_set_update_loop _]
    show wpAny _ A.in1 (pyNext (.ref I) >>= _) _ _ s
    refine wpAny_bind (W.item i s _ _ hlt hst fun v s' hP hst' hm => ?_)
    obtain ⟨z, t, hz, rfl⟩ := hval i v hP
    have hS' : SetT7 w s'.heap S (fun j => decide (j ∈ ns.take i)) c := hS.at fun o e => hm.heap S o hSw e
    show wpAny _ A.in1 (holding [Value.str z t] (setAdd S (.str z t)) >>= _) _ _ s'
    refine wpAny_bind (wpAny_holding ?_)
    unfold setAdd
    refine wpAny_holding ?_
    refine wpAny_bind ((PySem.strKind P w).pyHash (k := z) (PySem.strKind_is _ _ _ _) ?_)
    refine setT7_add_hashed (s := { s' with toks := s'.toks + 1 }) hS' (by omega) fun h' hsb hS2 => ?_
    have hS3 : SetT7 w h' S (fun j => decide (j ∈ ns.take (i + 1))) (if decide (z ∈ ns.take i) = true then c else c + 1) := hS2.congr fun j => by
      rw [List.take_add_one, hz]
      simp [List.mem_append]
    have hc3 : (if decide (z ∈ ns.take i) = true then c else c + 1) ≤ i + 1 := by
      split <;> omega
    refine wpAny_pure ⟨plainId_quiet F.plain_set_update_loop _, ih (i + 1) _ (by omega) hlt (W.frame _ s' _ _ hst' (Nat.le_succ _) fun b hb o e => ?_) ⟨_, hc3, hS3⟩ fun s'' c2 hm'' hc'' hS'' => ?_⟩
    · rw [hsb.2 b (fun h : b = S => hSf (by rw [← h]; exact hb))]; exact e
    · refine hR s'' c2 (Moved.trans W.gtrans ((hm.mono hsub).then_heap (Nat.le_succ _) fun b o hb e => ?_) hm'') hc'' hS''
      rw [hsb.2 b (fun h : b = S => hb (by rw [h]; exact List.mem_cons_self))]; exact e

end
section
variable {P : Program} {w : World} {A : Around} {E : Value → Shared → Prop} {s : Shared}
set_option maxRecDepth 100000 in
set_option maxHeartbeats 3200000 in
theorem call_set_lstT {l : Addr} {items : Array Value} (ns : List Str) {Q : Value → Shared → Prop} (hh : A.handled = none) (hl : s.heap.IsList l items) (hit : StrsAre items.toList ns) (hb : ns.length + 1 < scanBound)
    (h : ∀ (h' : Heap) (tk c : Nat), SetT7 w h' s.heap.objs.size (fun j => decide (j ∈ ns)) c → c ≤ ns.length → (∀ b o, s.heap.get? b = some o → h'.get? b = some o) → Q (.ref s.heap.objs.size) { s with heap := h', toks := tk }) :
    wpAny (model P w) A (call (.type "set") [.ref l]) Q E s := by
  have hisz : items.size = ns.length := by
    have q := StrsAre.len_eq hit
    rw [Array.length_toList] at q
    exact q
  obtain ⟨c, tl, hmro⟩ := F.called_set.mro
  have hmade := F.called_set.made
  have hsub := F.called_set.sub
  refine wpAny_call (codeAny_of_tree ?_)
  show wpAny _ _ (callAny (.type "set") _) _ _ _
  refine wpAny_pure ⟨Code.quiet_builtin _ (by decide +kernel), codeAny_builtin F.entry_type_call ?_⟩
  rw [Around.under_plain (weight_type_call_type "set" [.ref l] []) rfl]
  have h1 := F.called_set.notType
  have h2 := F.called_set.canCreate
  have hct := F.typeCall_set_1 (.ref l)
  repeat (any_goals (first | assumption | wp_step))

  refine codeAny_mono (code_set_led1 (.ref l) (E := E) (Q₁ := fun obj s₁ => obj = .ref s.heap.objs.size ∧ s₁ = { s with heap := s.heap.push { cls := .type "set", dict := none, data := .set #[] 0 (.fresh 0 0 (!w.params.followText "set-order")) } }) ⟨rfl, rfl⟩) fun r s₁ hr => ?_
  cases r with
  | error e => exact hr
  | ok fl =>
    cases fl with
    | ret obj =>
      obtain ⟨rfl, rfl⟩ := hr
      have hS : (s.heap.push { cls := .type "set", dict := none, data := .set #[] 0 (.fresh 0 0 (!w.params.followText "set-order")) }).get? s.heap.objs.size = some { cls := .type "set", dict := none, data := .set #[] 0 (.fresh 0 0 (!w.params.followText "set-order")) } := Heap.get?_push_size _ rfl
      have hT : Shared.TypeIs { s with heap := s.heap.push { cls := .type "set", dict := none, data := .set #[] 0 (.fresh 0 0 (!w.params.followText "set-order")) } } (.ref s.heap.objs.size) "set" := ⟨_, hS, rfl⟩
      have hli := F.called_set.init.lookup
      have hbi := F.called_set.init.bind (.ref s.heap.objs.size)
      repeat (any_goals (first | assumption | wp_step))

      refine codeAny_mono (codeAny_call_builtin (R := wants (fun r s₂ => r = .none ∧ ∃ h' tk c, s₂ = { s with heap := h', toks := tk } ∧ SetT7 w h' s.heap.objs.size (fun j => decide (j ∈ ns)) c ∧ c ≤ ns.length ∧
          (∀ b o, s.heap.get? b = some o → h'.get? b = some o)) E) F.called_set.init.plain F.entry_set_init (check_set_init_1 hT ?_)) fun r₂ s₂ hr₂ => ?_
      · obtain ⟨ol, hol, hcl, nl, hdl⟩ := hl
        obtain ⟨ocls, odict, odata, oslots⟩ := ol
        simp only at hcl hdl
        subst hcl; subst hdl
        have hol' : (s.heap.push { cls := .type "set", dict := none, data := .set #[] 0 (.fresh 0 0 (!w.params.followText "set-order")) }).get? l = some { cls := .type "list", dict := odict, data := .seq items nl, slots := oslots } := Heap.get?_push_of_some _ hol
        have hsls := F.sub_list_set
        have hslf := F.sub_list_frozenset
        have hne : (Value.type "list" == Value.type "dict") = false := by decide
        have hl1 : (s.heap.push { cls := .type "set", dict := none, data := .set #[] 0 (.fresh 0 0 (!w.params.followText "set-order")) }).IsList l items := ⟨_, hol', rfl, nl, rfl⟩
        unfold Builtin.«set.__init__» noKeywords Builtin.Frozenset.updateFrom
        generalize hPI : pyIter = PI
        wp_walk
        subst hPI

        refine wpAny_pyIter_list hl1 ?_
        refine wpAny_bind (wpAny_runValue ?_)
        have hlS : l < s.heap.objs.size := Heap.lt_size hol
        have hh3 : A.in1.in1.in1.handled = none := by simp [hh]
        have hz1 : (s.heap.push { cls := .type "set", dict := none, data := .set #[] 0 (.fresh 0 0 (!w.params.followText "set-order")) }).objs.size = s.heap.objs.size + 1 := Heap.size_push ..
        have hneI : l ≠ (s.heap.push { cls := .type "set", dict := none, data := .set #[] 0 (.fresh 0 0 (!w.params.followText "set-order")) }).objs.size := by
          rw [Heap.size_push]; exact Nat.ne_of_lt (Nat.lt_succ_of_lt hlS)
        have hSf : s.heap.objs.size ∉ [(s.heap.push { cls := .type "set", dict := none, data := .set #[] 0 (.fresh 0 0 (!w.params.followText "set-order")) }).objs.size, l] := by
          rw [Heap.size_push]; simp only [List.mem_cons, List.mem_singleton, List.not_mem_nil, or_false, not_or]
          exact ⟨Nat.ne_of_lt (Nat.lt_succ_self _), Nat.ne_of_gt hlS⟩
        have hval : ∀ (i : Nat) (v : Value), items[i]? = some v → ∃ k t, ns[i]? = some k ∧ v = .str k t := fun i v hv => by
          have hi : i < ns.length := by rw [← hisz]; exact (Array.getElem?_eq_some_iff.mp hv).1
          obtain ⟨t, e⟩ := SS.strs_at hit i v (by rw [Array.getElem?_toList]; exact hv)
          refine ⟨ns[i], t, List.getElem?_eq_getElem hi, ?_⟩
          rw [e, List.getD_eq_getElem?_getD, List.getElem?_eq_getElem hi] <;> rfl
        refine set_update_strs7 ((Walks.list hh3 _ l hneI items).toS) s.heap.objs.size
          hSf ns hisz hb hval (items.size - 0) 0 _ (by omega) (Nat.zero_le _)
          ⟨⟨_, Heap.get?_push_size _ rfl, rfl, rfl⟩, (hl1.push _)⟩ ?hS0 ?hR
        case hS0 =>
          have hget : ((s.heap.push { cls := .type "set", dict := none, data := .set #[] 0 (.fresh 0 0 (!w.params.followText "set-order")) }).push { cls := .type "list_iterator", data := .fields #[.ref l, .int 0 0] }).get? s.heap.objs.size
              = some { cls := .type "set", dict := none, data := .set #[] 0 (.fresh 0 0 (!w.params.followText "set-order")) } := Heap.get?_push_of_some _ hS
          exact ⟨0, Nat.le_refl 0, setT7_new_at hget⟩
        case hR =>
          intro s' c' hm hc' hS'
          obtain ⟨h', g2, d', tk', os'⟩ := s'
          have eg : g2 = s.gens := hm.gens
          have ed : d' = s.drawn := hm.drawn
          have eo : os' = s.os := hm.os
          subst eg; subst ed; subst eo
          show wpAny _ _ _ _ _ _
          refine wpAny_pure ?_
          show wpAny _ _ (ret Value.none) _ _ _
          rw [hisz] at hc'
          refine wpAny_pure ⟨rfl, h', tk', c', rfl, hS', hc', fun b o e => ?_⟩
          have hb0 : b < s.heap.objs.size := Heap.lt_size e
          have hb1 : b ≠ s.heap.objs.size := Nat.ne_of_lt hb0
          have hb2 : b ≠ (s.heap.push { cls := .type "set", dict := none, data := .set #[] 0 (.fresh 0 0 (!w.params.followText "set-order")) }).objs.size := by
            rw [Heap.size_push]; exact Nat.ne_of_lt (Nat.lt_succ_of_lt hb0)
          exact hm.heap b o (by simp only [List.mem_cons, List.mem_singleton, List.not_mem_nil, or_false, not_or]; exact ⟨hb1, hb2⟩) (Heap.get?_push_of_some _ (Heap.get?_push_of_some _ e))

      · cases r₂ with
        | error e => exact hr₂
        | ok fl₂ =>
          cases fl₂ with
          | ret r =>
            obtain ⟨rfl, h', tk, c', rfl, hS', hc', hk'⟩ := hr₂
            repeat (any_goals (first | assumption | wp_step))
            exact h _ _ _ hS' hc' hk'
          | _ => exact hr₂.elim
    | _ => exact hr.elim

end

section
variable {P : Program} {w : World} {A : Around} {E : Value → Shared → Prop} {s : Shared} {a : Addr}
theorem sorted_setT7 {S : Str → Bool} {n : Nat} {Q : Value → Shared → Prop} (R : SetT7 w s.heap a S n) (hh : A.handled = none) (h64 : n < 64)
    (hQ : ∀ s' p (out : Array Value) (c : Nat) (ns : List Str), (∀ b o, s.heap.get? b = some o → s'.heap.get? b = some o) → s'.gens = s.gens → s'.os = s.os → s.heap.objs.size ≤ p →
      s'.heap.get? p = some (seqObj "list" out c) → StrsAre out.toList ns → sortedS ns = true → ns.Nodup → (∀ k, k ∈ ns ↔ S k = true) → ns.length = n → Q (.ref p) s') :
    wpAny (model P w) A (call (.builtin "sorted") [.ref a]) Q E s := by
  obtain ⟨o, es, ep, t, ho, hex, hd, g, nd, hm, hb, hf, hn, hr, hl⟩ := R
  refine Calls.call_function_entry kind_sorted plain_sorted entry_sorted (args_sorted1 _) ?_
  unfold Builtin.«sorted»
  refine wpAny_bind (m := checkCount "sorted" 1 1 _) (wpAny_pure ?_)
  refine wpAny_bind (collect_set (A := A.in1) hh ⟨o, ho, hex.1, hd⟩ hf hb hr hl fun s1 vs k1 hz g1 o1 pm => ?_)
  have hvl : vs.length = n := by rw [pm.length_eq, List.length_map, Array.length_toList]; exact hn
  have hv : ∀ v ∈ vs, ∃ k tk, v = Value.str k tk := fun v hv => by
    obtain ⟨e, he, q⟩ := List.mem_map.mp (pm.mem_iff.mp hv)
    obtain ⟨k, tk, h1, _⟩ := g e he
    exact ⟨k, tk, by rw [← q]; exact h1⟩
  have go : ∀ (l : List Value), (∀ v ∈ l, ∃ k tk, v = Value.str k tk) → StrsAre l (l.map fun v => keyT (0, v)) := by
    intro l
    induction l with
    | nil => intro _; exact .nil
    | cons v l ih =>
      intro h
      obtain ⟨k, tk, rfl⟩ := h v List.mem_cons_self
      exact .cons k tk (ih fun u hu => h u (List.mem_cons_of_mem _ hu))
  have hI : StrsAre vs (vs.map fun v => keyT (0, v)) := go vs hv
  have pk : (vs.map fun v => keyT (0, v)).Perm (es.toList.map keyT) := by
    have q := pm.map fun v => keyT (0, v)
    rw [List.map_map] at q
    exact q
  refine wpAny_bind (wpAny_newList ?_ (by rw [hvl, sizeLine_eq]; omega))
  have hoL : (s1.heap.push (seqObj "list" vs.toArray 0)).get? s1.heap.objs.size = some (seqObj "list" vs.toArray 0) := Heap.get?_push_size _ rfl
  refine wpAny_bind (wpAny_holding (wpAny_call_entry slot_list_sort ⟨_, hoL, rfl⟩ entry_list_sort (list_sort_treeK PyProof.Rows.strKind_oneLt hoL hI.keysOf (fun v₁ v₂ rest e => keyKind_strs (by rw [← e]; exact hI)) (by rw [hvl]; exact h64) fun st' a1 a2 => ⟨_, rfl, ?_⟩) (args_list_sort _)))
  obtain ⟨ns', b1, b2, b3⟩ := sorted_out_str hI a1 a2
  obtain ⟨c, hc⟩ := sortedHeap_at (vs := vs) (out := (arrOf st').map (·.2)) hoL
  have pn : ns'.Perm (es.toList.map keyT) := b2.trans pk
  refine wpAny_pure ⟨_, rfl, hQ _ s1.heap.objs.size _ c ns' (fun b u e => ?_) g1 o1 hz hc b1 b3 (pn.nodup_iff.mpr nd) (fun k => by rw [pn.mem_iff, ← hm k]) ?_⟩
  · have q := k1 b u e
    have hlt := Heap.lt_size q
    show (sortedHeap (s1.heap.push (seqObj "list" vs.toArray 0)) s1.heap.objs.size vs _).get? b = some u
    rw [sortedHeap_old (Nat.ne_of_lt hlt) (by rw [size_push']; exact Nat.lt_succ_of_lt hlt)]
    exact Heap.get?_push_of_some _ q
  · rw [pn.length_eq, List.length_map, Array.length_toList]; exact hn
end
/-- the set of texts at a -/
def SetTO7 (w : World) (a : Addr) (S : Str → Bool) (n : Nat) : HO := .ext fun h => SetT7 w h a S n
section
variable {X : Cx}
theorem setTO7_new {w : World} {P : Program} {H : Hp} {h : Heap} {a : Addr} {S : Str → Bool} {n : Nat} (R : SetT7 w h a S n) : ObjOk P w H h a (SetTO7 w a S n) := by
  have ⟨o, _, _, _, ho, _⟩ := R
  exact ⟨R, ⟨o, ho⟩, fun h1 h2 p k => SetT7.at p k⟩
def rSetStrs (K : PySem.W.Frag) (w : World) : List V → Hp → VK → Prop := fun xs H Q => ∃ (l : Addr) (ns : List Str), xs = [V.ref l] ∧ SqL K H l (ns.map V.str) ∧ ns.length < 64 ∧
  ∀ a c, H a = none → c ≤ ns.length → Q (.ref a) (upd H a (SetTO7 w a (fun j => decide (j ∈ ns)) c))
theorem cr_set_strs (hc : X.calm = true) : CallR X (.type "set") (rSetStrs X.K X.w) := by
  intro pins s σ H xs us Q I r h
  obtain ⟨l, ns, rfl, hl, hf, q⟩ := h
  rw [Vals.ref1 r]
  obtain ⟨its, rv, pl, hz⟩ := I.list hl
  have hn : H s.heap.objs.size = none := I.hok.fresh (Nat.le_refl _)
  refine call_set_lstT (P := X.prog) (w := X.w) ns (I.ok.hd hc) pl.isList (by simpa using strsAre_of rv) (by unfold scanBound; omega) fun h' tk c R hc k => ?_
  exact ⟨.ref s.heap.objs.size, upd H s.heap.objs.size (SetTO7 X.w s.heap.objs.size (fun j => decide (j ∈ ns)) c), I.laid (t' := tk) k (Nat.le_refl _) (setTO7_new R), rfl, q _ c hn hc⟩
def rSortedStrs (w : World) : List V → Hp → VK → Prop := fun vs H Q => ∃ (a : Addr) (S : Str → Bool) (n : Nat), vs = [V.ref a] ∧ H a = some (SetTO7 w a S n) ∧ n < 64 ∧
  ∀ (ns : List Str) (p : Addr), sortedS ns = true → ns.Nodup → (∀ k, k ∈ ns ↔ S k = true) → ns.length = n → H p = none → Q (.ref p) (upd H p (.lst (ns.map V.str)))
theorem cr_sorted_strs (hc : X.calm = true) : CallR X (.builtin "sorted") (rSortedStrs X.w) := by
  intro pins s σ H vs us Q I r h
  obtain ⟨a, S, n, rfl, ha, h64, q⟩ := h
  have R : SetT7 X.w s.heap a S n := (I.hok a _ ha).1
  rw [Vals.ref1 r]
  refine sorted_setT7 R (I.ok.hd hc) h64 fun s' p out c ns k g o hp hg hi hs hnd hm hl => ?_
  have hlen : (ns.map V.str).length ≤ sizeLine := by rw [List.length_map, hl, sizeLine_eq]; omega
  have hn : H p = none := I.hok.fresh hp
  have J : Inv X pins σ (upd H p (.lst (ns.map V.str))) { s with heap := s'.heap, gens := s'.gens, drawn := s'.drawn, toks := s'.toks } :=
    I.call (ch := []) (Un.laid k hp hn) (I.hok.laid k hp ⟨hlen, out.toList, c, vals_of_strs hi, hg⟩) (by rw [g]; exact I.bare) (fun _ z => nomatch z)
  have e : s' = { s with heap := s'.heap, gens := s'.gens, drawn := s'.drawn, toks := s'.toks } := by
    cases s'
    cases s
    cases o
    rfl
  rw [e]
  exact ⟨.ref p, _, J, rfl, q ns p hs hnd hm hl hn⟩
end
end PH

set_option Elab.async false
set_option linter.all false
set_option maxRecDepth 100000
set_option maxHeartbeats 4000000
/-! # A tuple of texts that the module holds -/
namespace PH
open PySem PySem.Spec PyProof.Rows L2
def strsB : List Str → List Value → Bool
  | [], [] => true
  | x :: xs, .str y _ :: vs => decide (y = x) && strsB xs vs
  | _, _ => false
theorem strsB_ok : ∀ {xs : List Str} {vs : List Value}, strsB xs vs = true → Vals (xs.map V.str) vs
  | [], [], _ => .nil
  | x :: xs, .str y t :: vs, h => by
    obtain ⟨h1, h2⟩ := He.ba h
    obtain rfl := of_decide_eq_true h1
    exact .cons ⟨t, rfl⟩ (strsB_ok h2)
def tupB (K : PySem.W.Frag) (a : Addr) (xs : List Str) : Bool := match K.lookup a with
  | some o => decide (o.cls = .type "tuple") && (match o.data with
    | .seq its _ => decide (its.size ≤ 1000) && strsB xs its.toList
    | _ => false)
  | none => false
theorem tupB_ok {K : PySem.W.Frag} {a : Addr} {xs : List Str} (h : tupB K a xs = true) (H : Hp) : SqT K H a (xs.map V.str) := by
  unfold tupB at h
  cases e : K.lookup a with
  | none =>
    rw [e] at h
    cases h
  | some o =>
    rw [e] at h
    obtain ⟨h1, h2⟩ := He.ba h
    have h1 := of_decide_eq_true h1
    obtain ⟨oc, od, da, osl⟩ := o
    cases da with
    | seq its n =>
      obtain ⟨h3, h4⟩ := He.ba h2
      have h3 := of_decide_eq_true h3
      exact .inr ⟨_, its, n, e, h1, rfl, by rw [sizeLine_eq]; omega, strsB_ok h4⟩
    | _ => cases h2
end PH

set_option Elab.async false
set_option linter.all false
set_option maxRecDepth 100000
set_option maxHeartbeats 4000000
/-! # Data: types, isinstance, equality -/
namespace PH
open PySem PySem.Spec PyProof.Rows L2
section
variable {K : PySem.W.Frag} {H : Hp} {v : V} {d : PyData} {a : Addr} {xs : List V} {Q : VK}
theorem ty_sqT (h : SqT K H a xs) : TyX K H (.ref a) (.type "tuple") := by
  rcases h with (h | ⟨o, h⟩) | ⟨o, its, n, h, c, _⟩
  · exact .base (.tup h)
  · exact .fTuple h
  · exact .kTuple h c
theorem ty_sqL (h : SqL K H a xs) : TyX K H (.ref a) (.type "list") := by
  rcases h with (h | ⟨o, h⟩) | ⟨o, its, n, h, c, _⟩
  · exact .base (.lst h)
  · exact .base (.frz h)
  · exact .kList h c
def dNm : PyData → String
  | .none => "NoneType"
  | .bool _ => "bool"
  | .int _ => "int"
  | .str _ => "str"
  | .list _ => "list"
  | .tuple _ => "tuple"
  | .dict _ => "dict"
theorem ty_dp (h : Dp K H v d) : TyX K H v (.type (dNm d)) := by
  cases h with
  | non => exact .base .non
  | bl b => exact .base (.bl b)
  | int i => exact .base (.int i)
  | str x => exact .base (.str x)
  | lst hs _ => exact ty_sqL hs
  | tup hs _ => exact ty_sqT hs
def dIs (n : String) (d : PyData) : Bool := dNm d == n || (n == "int" && dNm d == "bool")
theorem isi_int (h : Dp K H v d) (q : Q (.bl (dIs "int" d)) H) : rIsi K [v, .ty "int"] H Q := by
  refine ⟨v, .ty "int", .type (dNm d), .type "int", dIs "int" d, rfl, .ty _, ty_dp h, ?_, q⟩
  cases h <;> rfl
theorem isi_bool (h : Dp K H v d) (q : Q (.bl (dIs "bool" d)) H) : rIsi K [v, .ty "bool"] H Q := by
  refine ⟨v, .ty "bool", .type (dNm d), .type "bool", dIs "bool" d, rfl, .ty _, ty_dp h, ?_, q⟩
  cases h <;> rfl
theorem isi_str (h : Dp K H v d) (q : Q (.bl (dIs "str" d)) H) : rIsi K [v, .ty "str"] H Q := by
  refine ⟨v, .ty "str", .type (dNm d), .type "str", dIs "str" d, rfl, .ty _, ty_dp h, ?_, q⟩
  cases h <;> rfl
theorem isi_tuple (h : Dp K H v d) (q : Q (.bl (dIs "tuple" d)) H) : rIsi K [v, .ty "tuple"] H Q := by
  refine ⟨v, .ty "tuple", .type (dNm d), .type "tuple", dIs "tuple" d, rfl, .ty _, ty_dp h, ?_, q⟩
  cases h <;> rfl
theorem isi_list (h : Dp K H v d) (q : Q (.bl (dIs "list" d)) H) : rIsi K [v, .ty "list"] H Q := by
  refine ⟨v, .ty "list", .type (dNm d), .type "list", dIs "list" d, rfl, .ty _, ty_dp h, ?_, q⟩
  cases h <;> rfl
def dSeq (d : PyData) : Bool := dIs "tuple" d || dIs "list" d
theorem isi_seq {p : Addr} (h : Dp K H v d) (ht : H p = some (.tup [.ty "tuple", .ty "list"])) (q : Q (.bl (dSeq d)) H) : rIsiT K [v, .ref p] H Q := by
  refine ⟨v, p, [.ty "tuple", .ty "list"], .type (dNm d), [.type "tuple", .type "list"], dSeq d, rfl, ht, .cons (.ty _) (.cons (.ty _) .nil), ty_dp h, ?_, q⟩
  cases h <;> rfl
theorem isi_own {C : Addr} {t : Value} {b : Bool} (ty : TyX K H v t) (k : PySem.W.kitOne K t (.ref C) = some b) (q : Q (.bl b) H) : rIsi K [v, .ref C] H Q :=
  ⟨v, .ref C, t, .ref C, b, rfl, .own C, ty, k, q⟩
/-- an instance's type -/
theorem ty_ins {C : Addr} {dx : Addr} {fs : List (Str × V)} (h : H a = some (.ins C dx fs)) (c : Cls K C) (i : Ic K C) : TyX K H (.ref a) (.ref C) := .base (.ins h c i.ha i.hn i.htk i.hm)
theorem dpAll_length : ∀ {vs : List V} {ds : List PyData}, DpAll K H vs ds → vs.length = ds.length
  | _, _, .nil => rfl
  | _, _, .cons _ h => by
    have := dpAll_length h
    simp [this]
theorem dpAll_get : ∀ {vs : List V} {ds : List PyData} {i : Nat} {x : V}, DpAll K H vs ds → vs[i]? = some x → ∃ e, ds[i]? = some e ∧ Dp K H x e
  | _, _, _, _, .nil, h => by simp at h
  | _, _, 0, _, .cons h1 _, h => by
    simp at h
    subst h
    exact ⟨_, rfl, h1⟩
  | _, _, i + 1, _, .cons _ h2, h => dpAll_get (i := i) h2 (by simpa using h)
end
/-! ### plain texts -/
theorem strOk_of {z : Str} (h1 : ∀ c ∈ z.cps.toList, c ≤ 126) : PyData.strOk z = true := by
  unfold PyData.strOk
  rw [Array.all_eq_true_iff_forall_mem]
  intro c hc
  have := h1 c (by simpa using hc)
  exact decide_eq_true (by omega)
end PH

set_option Elab.async false
set_option linter.all false
set_option maxRecDepth 100000
set_option maxHeartbeats 4000000
/-! # More steps through a reading -/
namespace PH
open PySem PySem.Spec PyProof.Rows L2 C8
section
variable {σ : L2.St} {H : Hp} {Q : VK} {D : Ends} {i j : Nat} {v x y z : V} {ta tb tc te to ti tl' tk tv : TE} {t u : TS} {tt uu : TT} {tl : TA} {K : PySem.W.Frag} {a C dx p : Addr} {fs : List (Str × V)} {f m : Str} {R : It → Hp → Prop} {wi : TI} {g : TG} {vs : List Nat} {xs : List V}
theorem v_lc (q : wi σ H fun J H1 => ∀ D, H1 D = none → ∃ W : Nat → Nat → Hp → Prop, (∃ m, W 0 m (upd H1 D (.lst []))) ∧ ∀ i m H, W i m H →
  (J.stop i H ∧ Q (.ref D) H) ∨ (J.go i H ∧ ∃ Nx : Hp → Prop, (∀ H', Nx H' → ∃ m', m' < m ∧ W (i + 1) m' H') ∧ ∀ x H', J.yld i H x H' → g x (wipe σ vs) H' fun σ2 H2 => wipe σ2 vs = wipe σ vs ∧ tt σ2 H2 fun b H3 =>
    if b = true then te σ2 H3 fun y H4 => ∃ acc, H4 D = some (.lst acc) ∧ acc.length < sizeLine ∧ Nx (upd H4 D (.lst (acc ++ [y]))) else Nx H3)) : tLc wi g tt te vs σ H Q := q
theorem v_dc (q : wi σ H fun J H1 => ∀ D, H1 D = none → ∃ W : Nat → Nat → Hp → Prop, (∃ m, W 0 m (upd H1 D (.dK []))) ∧ ∀ i m H, W i m H →
  (J.stop i H ∧ Q (.ref D) H) ∨ (J.go i H ∧ ∃ Nx : Hp → Prop, (∀ H', Nx H' → ∃ m', m' < m ∧ W (i + 1) m' H') ∧ ∀ x H', J.yld i H x H' → g x (wipe σ vs) H' fun σ2 H2 => wipe σ2 vs = wipe σ vs ∧ tt σ2 H2 fun b H3 =>
    if b = true then tk σ2 H3 fun y H4 => tv σ2 H4 fun z H5 => ∃ kvs k, y = kV k ∧ H5 D = some (.dK kvs) ∧ kvs.length < sizeLine ∧ Nx (upd H5 D (.dK (putK kvs k z))) else Nx H3)) : tDc wi g tt tk tv vs σ H Q := q
theorem v_for (q : wi σ H fun J H1 => ∃ W : Nat → Nat → L2.St → Hp → Prop, (∃ m, W 0 m σ H1) ∧ ∀ i m σ H, W i m σ H →
  (J.stop i H ∧ D.nx σ H) ∨ (J.go i H ∧ ∃ N : L2.St → Hp → Prop, (∀ σ' H', N σ' H' → ∃ m', m' < m ∧ W (i + 1) m' σ' H') ∧ ∀ x H', J.yld i H x H' → g x σ H' fun σ2 H2 => t { D with nx := N, ct := N, bk := D.nx } σ2 H2)) : tFor wi g t D σ H := q
theorem v_iList (q : te σ H fun x H1 => ∃ a, x = .ref a ∧ (∃ xs, SqL K H1 a xs) ∧ R (Itl K a) H1) : iList K te σ H R := q
theorem v_iTup (q : te σ H fun x H1 => ∃ a, x = .ref a ∧ (∃ xs, SqT K H1 a xs) ∧ R (Itt K a) H1) : iTup K te σ H R := q
theorem v_iStr (q : te σ H fun v H1 => ∃ x, v = .str x ∧ R (Its x) H1) : iStr te σ H R := q
theorem v_iRng1 (q : tl σ H fun vs H1 => ∃ j : Int, vs = [.int j] ∧ -(2 ^ 62) ≤ j ∧ j < 2 ^ 62 ∧ R (Itr 0 j.toNat) H1) : iRng1 tl σ H R := q
theorem v_iRng2 (q : tl σ H fun vs H1 => ∃ i j : Int, vs = [.int i, .int j] ∧ (-(2 ^ 62) ≤ i ∧ i < 2 ^ 62 ∧ -(2 ^ 62) ≤ j ∧ j < 2 ^ 62) ∧ R (Itr i (j - i).toNat) H1) : iRng2 tl σ H R := q
theorem v_iEnumS (q : tl σ H fun vs H1 => ∃ z, vs = [.str z] ∧ R (IteS z) H1) : iEnumS tl σ H R := q
theorem v_iEnumT (q : tl σ H fun vs H1 => ∃ a xs, vs = [.ref a] ∧ SqT K H1 a xs ∧ R (IteT K a xs) H1) : iEnumT K tl σ H R := q
theorem v_iEnum (q : tl σ H fun vs H1 => ∃ a xs, vs = [.ref a] ∧ SqL K H1 a xs ∧ R (Ite K a) H1) : iEnum K tl σ H R := q
theorem v_sl {r : V → Option Int → Option Int → Hp → VK → Prop} {tl th : TO} (q : te σ H fun x H1 => tl σ H1 fun l H2 => th σ H2 fun u H3 => r x l u H3 Q) : L2.tSl r te tl th σ H Q := q
theorem v_noPart {Q : Option Int → Hp → Prop} (q : Q none H) : tNoPart σ H Q := q
theorem v_part {Q : Option Int → Hp → Prop} (q : te σ H fun x H1 => ∃ i, x = .int i ∧ Q (some i) H1) : tPart te σ H Q := q
theorem v_part1 {i : Int} {Q : Int → Prop} (q : Q i) : ∃ i', V.int i = .int i' ∧ Q i' := ⟨i, rfl, q⟩
theorem v_yes {Q : Bool → Hp → Prop} (q : Q true H) : tYes σ H Q := q
theorem v_yif {A B : Prop} (q : A) : if true = true then A else B := iteT q
theorem v_nif {A B : Prop} (q : B) : if false = true then A else B := iteF q
theorem v_gtup {n : Nat} {t : TGs} {Q : L2.St → Hp → Prop} (h : SqT K H a xs) (hl : xs.length = n) (q : t xs σ H Q) : gTup K n t (.ref a) σ H Q := ⟨a, xs, rfl, h, hl, q⟩
theorem v_gcons {t : TG} {u : TGs} {r : List V} {Q : L2.St → Hp → Prop} (q : t v σ H fun σ' H' => u r σ' H' Q) : gCons t u (v :: r) σ H Q := ⟨v, r, rfl, q⟩
theorem v_gnil {Q : L2.St → Hp → Prop} (q : Q σ H) : gNil [] σ H Q := ⟨rfl, q⟩
theorem v_chain {r r' : R2} (q : ta σ H fun x H1 => tb σ H1 fun y H2 => r x y H2 fun z H3 => ∃ k, z = .bl k ∧ (if k = true then tc σ H3 fun w' H4 => r' y w' H4 Q else Q (.bl false) H3)) : tChain r r' ta tb tc σ H Q := q
theorem v_meth {sp : Sp} {E : XK} (q : ta σ H fun x H1 => ∃ a dx fs, x = .ref a ∧ H1 a = some (.ins C dx fs) ∧ fs.lookup m = none ∧ tl σ H1 fun vs H2 => sp (x :: (vs ++ [])) H2 Q E) : tMeth C m sp [] E ta tl σ H Q := q
theorem v_meth' {QQ : V → Hp → Prop} (h : H a = some (.ins C dx fs)) (hm : fs.lookup m = none) (q : QQ (.ref a) H) : ∃ a' dx fs, V.ref a = .ref a' ∧ H a' = some (.ins C dx fs) ∧ fs.lookup m = none ∧ QQ (.ref a) H := ⟨a, dx, fs, rfl, h, hm, q⟩
theorem v_make {sp : Sp} {E : XK} (q : tl σ H fun vs H1 => ∀ x dx, H1 x = none → H1 dx = none → dx ≠ x → sp (.ref x :: (vs ++ [])) (upd (upd H1 dx (.own x)) x (.ins C dx [])) (fun v H2 => v = .non ∧ Q (.ref x) H2) E) : tMake C sp [] E tl σ H Q := q
theorem v_xf {cls : Value} {d : Option Addr} (q : te σ H fun x H1 => x = .ref a ∧ cls = .ref C ∧ ∃ (dd : Addr) (fs : List (Str × V)) (v : V), d = some dd ∧ H1 dd = some (.xd fs) ∧ fs.lookup f = some v ∧ Q v H1) : tXf a cls d C f te σ H Q := q
theorem v_dget {td ty : TE} (q : td σ H fun x H1 => ty σ H1 fun y H2 => ∃ a v, x = .ref a ∧ DGet H2 a y (some v) ∧ Q v H2) : tDGet td ty σ H Q := q
theorem v_din {td ty : TE} (q : ty σ H fun y H1 => td σ H1 fun x H2 => ∃ a o, x = .ref a ∧ DGet H2 a y o ∧ Q (.bl o.isSome) H2) : tDIn ty td σ H Q := q
theorem v_sfld (q : tv σ H fun y H1 => ta σ H1 fun x H2 => ∃ a C dx fs, x = .ref a ∧ H2 a = some (.ins C dx fs) ∧ Cls K C ∧ NoAttr K C f ∧ fs.length < 1000 ∧ D.nx σ (upd H2 a (.ins C dx (putF f y fs)))) : sFld K ta tv f D σ H := q
theorem v_sfld' (h : H a = some (.ins C dx fs)) (c : Cls K C) (n : NoAttr K C f) (hl : fs.length < 1000) (q : D.nx σ (upd H a (.ins C dx (putF f y fs)))) : ∃ a' C dx fs, V.ref a = .ref a' ∧ H a' = some (.ins C dx fs) ∧ Cls K C ∧ NoAttr K C f ∧ fs.length < 1000 ∧ D.nx σ (upd H a' (.ins C dx (putF f y fs))) :=
  ⟨a, C, dx, fs, rfl, h, c, n, hl, q⟩
theorem v_bm {T : String} {r : V → List V → Hp → VK → Prop} (q : to σ H fun x H1 => tyV K T x H1 ∧ tl σ H1 fun xs H2 => r x xs H2 Q) : tBM K T r to tl σ H Q := q
theorem v_bm0 {T : String} {r : V → List V → Hp → VK → Prop} (q : to σ H fun x H1 => tyV K T x H1 ∧ r x [] H1 Q) : tBM0 K T r to σ H Q := q
theorem v_m1 {r : V → List V → Hp → VK → Prop} (q : to σ H fun x H1 => (∃ a, x = .str a) ∧ te σ H1 fun y H2 => r x [y] H2 Q) : tM1 r to te σ H Q := q
theorem v_aug {ip : TIp} (h : σ[i]? = some (some x)) (q : te σ H fun y H1 => ip x y H1 fun z H2 => D.nx (σ.set i (some z)) H2) : tAug i te ip D σ H := ⟨x, h, q⟩
theorem v_callW {sp : Sp} {W : WX} (q : tl σ H fun vs H1 => sp vs H1 Q (fun cls d H' => W cls d σ H')) : tCallW sp W tl σ H Q := q
theorem v_methW {sp : Sp} {W : WX} (q : ta σ H fun x H1 => ∃ a dx fs, x = .ref a ∧ H1 a = some (.ins C dx fs) ∧ fs.lookup m = none ∧ tl σ H1 fun vs H2 => sp (x :: vs) H2 Q (fun cls d H' => W cls d σ H')) : tMethW C m sp W ta tl σ H Q := q
theorem v_makeW {sp : Sp} {W : WX} (q : tl σ H fun vs H1 => ∀ x dx, H1 x = none → H1 dx = none → dx ≠ x → sp (.ref x :: vs) (upd (upd H1 dx (.own x)) x (.ins C dx [])) (fun v H2 => v = .non ∧ Q (.ref x) H2) (fun cls d H' => W cls d σ H')) : tMakeW C sp W tl σ H Q := q
theorem v_x1 {Q : XK} (q : ta σ H fun v H1 => ∀ d, H1 d = none → Q (.ref C) (some d) (upd H1 d (.xd [(f, v)]))) : tX1 C f ta σ H Q := q
/-! ### lists, lengths -/
theorem sqL_of (h : H a = some (.lst xs)) : SqL K H a xs := .inl (.inl h)
theorem sqT_of (h : H a = some (.tup xs)) : SqT K H a xs := .inl (.inl h)
theorem v_lenL {Q : VK} (h : SqL K H a xs) (q : Q (.int (xs.length : Nat)) H) : rLen K [V.ref a] H Q := ⟨_, xs.length, rfl, .inl ⟨xs, h, rfl⟩, q⟩
theorem v_lenT {Q : VK} (h : SqT K H a xs) (q : Q (.int (xs.length : Nat)) H) : rLen K [V.ref a] H Q := ⟨_, xs.length, rfl, .inr ⟨xs, h, rfl⟩, q⟩
theorem v_lenS {s : Str} {Q : VK} (h : s.length ≤ sizeLine) (q : Q (.int (s.length : Nat)) H) : rLen K [V.str s] H Q := ⟨_, s.length, rfl, ⟨h, rfl⟩, q⟩
theorem small {n : Nat} (h : n ≤ 16000000) : n ≤ sizeLine := by rw [sizeLine_eq]; omega
theorem smallL {n : Nat} (h : n < 16000000) : n < sizeLine := by rw [sizeLine_eq]; omega
end
/-! ### loops over lists -/
/-- a new list by a comprehension, item by item: item i becomes f i -/
theorem upd_none {H : Hp} {p q : Addr} {o : HO} (h : H p = none) (hq : H q = some o) : p ≠ q := fun e => by rw [e, hq] at h; cases h
theorem none_same {H H' : Hp} {b : Addr} (e : Same H H') (h : H' b = none) : H b = none := by
  cases q : H b with
  | none => rfl
  | some o => rw [e b o q] at h; cases h
theorem rd_mut {H : Hp} {a p : Addr} {u o : HO} (h : Rd H a u) (ne : a ≠ p) : Rd (upd H p o) a u := by
  rcases h with h | ⟨ob, h⟩
  · exact .inl (by rw [upd_ne ne]; exact h)
  · exact .inr ⟨ob, by rw [upd_ne ne]; exact h⟩
theorem sqL_mut {K : PySem.W.Frag} {H : Hp} {a p : Addr} {o : HO} {xs : List V} (h : SqL K H a xs) (ne : a ≠ p) : SqL K (upd H p o) a xs := by
  rcases h with h | h
  · exact .inl (rd_mut h ne)
  · exact .inr h
theorem sqT_mut {K : PySem.W.Frag} {H : Hp} {a p : Addr} {o : HO} {xs : List V} (h : SqT K H a xs) (ne : a ≠ p) : SqT K (upd H p o) a xs := by
  rcases h with h | h
  · exact .inl (rd_mut h ne)
  · exact .inr h
theorem sqL_same {K : PySem.W.Frag} {H H' : Hp} {a : Addr} {xs : List V} (e : Same H H') (h : SqL K H a xs) : SqL K H' a xs := Same.seq e h
/-! ### slices -/
theorem cut_take (xs : List V) (k : Nat) : cutV xs none (some (k : Int)) = xs.take k := by
  unfold cutV
  rw [HT.sIx_none, HT.sIx_nat, List.drop_zero, Nat.sub_zero]
  by_cases h : k ≤ xs.length
  · rw [Nat.min_eq_left h]
  · rw [Nat.min_eq_right (by omega), List.take_length, List.take_of_length_le (by omega)]
theorem cut_drop (xs : List V) (k : Nat) : cutV xs (some (k : Int)) none = xs.drop k := by
  unfold cutV
  rw [HT.sIx_none, HT.sIx_nat]
  by_cases h : k ≤ xs.length
  · rw [Nat.min_eq_left h, List.take_of_length_le (by rw [List.length_drop]; omega)]
  · rw [Nat.min_eq_right (by omega), List.drop_length, List.drop_of_length_le (by omega)]
    simp
theorem cut_last (xs : List V) : cutV xs none (some (-1)) = xs.dropLast := by
  unfold cutV
  have e : HT.sIx xs.length xs.length (some (-1)) = xs.length - 1 := by
    show (if (-1 : Int) < 0 then ((-1 : Int) + (xs.length : Int)).toNat else min (-1 : Int).toNat xs.length) = xs.length - 1
    rw [if_pos (by decide)]
    omega
  rw [HT.sIx_none, e, List.drop_zero, Nat.sub_zero, List.dropLast_eq_take]
theorem cutS_take (z : Str) (k : Nat) : (cutS z none (some (k : Int))).cps.toList = z.cps.toList.take k := by
  unfold cutS
  show ((z.cps.toList.drop (HT.sIx z.length 0 none)).take (HT.sIx z.length z.length (some (k : Int)) - HT.sIx z.length 0 none)).toArray.toList = _
  rw [HT.sIx_none, HT.sIx_nat, List.drop_zero, Nat.sub_zero, List.toList_toArray]
  have e : z.length = z.cps.toList.length := by rw [Array.length_toList] <;> rfl
  by_cases h : k ≤ z.length
  · rw [Nat.min_eq_left h]
  · rw [Nat.min_eq_right (by omega), e, List.take_length, List.take_of_length_le (by omega)]
section
variable {Q : VK} {H : Hp}
theorem v_eqI {i j : Int} (q : Q (.bl (decide (i = j))) H) : rEq (.int i) (.int j) H Q := by
  refine v_eq rfl ?_
  have e : decide (V.int i = V.int j) = decide (i = j) := by
    congr 1
    exact propext ⟨fun h => by injection h, fun h => by rw [h]⟩
  rw [e]
  exact q
theorem v_neI {i j : Int} (q : Q (.bl (!decide (i = j))) H) : rNe (.int i) (.int j) H Q := by
  refine v_ne rfl ?_
  have e : decide (V.int i = V.int j) = decide (i = j) := by
    congr 1
    exact propext ⟨fun h => by injection h, fun h => by rw [h]⟩
  rw [e]
  exact q
theorem v_eqS {i j : Str} (q : Q (.bl (decide (i = j))) H) : rEq (.str i) (.str j) H Q := by
  refine v_eq rfl ?_
  have e : decide (V.str i = V.str j) = decide (i = j) := by
    congr 1
    exact propext ⟨fun h => by injection h, fun h => by rw [h]⟩
  rw [e]
  exact q
theorem v_neS {i j : Str} (q : Q (.bl (!decide (i = j))) H) : rNe (.str i) (.str j) H Q := by
  refine v_ne rfl ?_
  have e : decide (V.str i = V.str j) = decide (i = j) := by
    congr 1
    exact propext ⟨fun h => by injection h, fun h => by rw [h]⟩
  rw [e]
  exact q
theorem v_eqB {i j : Bool} (q : Q (.bl (decide (i = j))) H) : rEq (.bl i) (.bl j) H Q := by
  refine v_eq rfl ?_
  have e : decide (V.bl i = V.bl j) = decide (i = j) := by
    congr 1
    exact propext ⟨fun h => by injection h, fun h => by rw [h]⟩
  rw [e]
  exact q
theorem v_neB {i j : Bool} (q : Q (.bl (!decide (i = j))) H) : rNe (.bl i) (.bl j) H Q := by
  refine v_ne rfl ?_
  have e : decide (V.bl i = V.bl j) = decide (i = j) := by
    congr 1
    exact propext ⟨fun h => by injection h, fun h => by rw [h]⟩
  rw [e]
  exact q
end
end PH

set_option Elab.async false
set_option linter.all false
set_option maxRecDepth 100000
set_option maxHeartbeats 4000000
/-! # Texts of the laws: alphabets, words -/
namespace PH
open PySem PySem.Spec PyProof.Rows L2 TL
def s1 (c : Nat) : Str := ⟨#[c]⟩
/-- an alphabet of the laws -/
structure AlphaOk (z : Str) (n : Nat) : Prop where
  lo : 1 ≤ z.cps.toList.length
  hi : z.cps.toList.length ≤ n
  sg : ∀ c ∈ z.cps.toList, 32 ≤ c ∧ c ≤ 126
  up : z.cps.toList.Pairwise (· < ·)
theorem tl_len {z : Str} : z.length = z.cps.toList.length := by rw [Array.length_toList] <;> rfl
theorem joinL_nil : ∀ ls : List (List Nat), joinL [] ls = ls.flatten
  | [] => rfl
  | [a] => by simp [joinL]
  | a :: b :: r => by
    have ih := joinL_nil (b :: r)
    simp only [joinL, ih, List.flatten_cons, List.append_nil]
    try simp
theorem join_cps (ys : List Str) : (Txt.join (Str.ofString "") ys).cps.toList = (ys.map fun z => z.cps.toList).flatten := by
  rw [join_eq]
  have e := tl_join (Str.ofString "") ys
  have e2 : tl (Str.ofString "") = [] := rfl
  rw [e2, joinL_nil] at e
  exact e
theorem join_signs (cs : List Nat) : (Txt.join (Str.ofString "") (cs.map s1)).cps.toList = cs := by
  rw [join_cps]
  induction cs with
  | nil => rfl
  | cons c r ih =>
    rw [List.map_cons, List.map_cons, List.flatten_cons, ih]
    rfl
theorem s1_lt {a b : Nat} : ltCps (s1 a).cps.toList (s1 b).cps.toList = decide (a < b) := by
  rw [ltCps_eq]
  show decide ([a] < [b]) = decide (a < b)
  congr 1
  exact propext (by simp [List.cons_lt_cons_iff])
theorem rising_signs : ∀ (cs : List Nat) (p : Nat), risingS (s1 p) (cs.map s1) = true → ((p :: cs).map s1).Nodup → (p :: cs).Pairwise (· < ·)
  | [], p, _, _ => by simp
  | c :: r, p, h, hn => by
    have h : (!ltCps (s1 c).cps.toList (s1 p).cps.toList && risingS (s1 c) (r.map s1)) = true := h
    rw [Bool.and_eq_true, s1_lt, Bool.not_eq_true', decide_eq_false_iff_not] at h
    have hn2 : ((c :: r).map s1).Nodup := (List.nodup_cons.mp (by simpa using hn)).2
    have ih := rising_signs r c h.2 hn2
    have ne : p ≠ c := fun e => by
      subst e
      simp at hn
    have lt : p < c := by omega
    refine List.pairwise_cons.mpr ⟨fun x hx => ?_, ih⟩
    rcases List.mem_cons.mp hx with e | hx
    · rw [e]; exact lt
    · exact Nat.lt_trans lt ((List.pairwise_cons.mp ih).1 x hx)
theorem sorted_signs {ys : List Str} {S : List Nat} (hs : sortedS ys = true) (hn : ys.Nodup) (hy : ∀ y ∈ ys, ∃ c ∈ S, y = s1 c) : ∃ cs : List Nat, ys = cs.map s1 ∧ cs.Pairwise (· < ·) ∧ ∀ c ∈ cs, c ∈ S := by
  have go : ∀ l : List Str, (∀ y ∈ l, ∃ c ∈ S, y = s1 c) → ∃ cs : List Nat, l = cs.map s1 ∧ ∀ c ∈ cs, c ∈ S := by
    intro l
    induction l with
    | nil => exact fun _ => ⟨[], rfl, fun c hc => by cases hc⟩
    | cons y r ih =>
      intro h
      obtain ⟨c, hc, e⟩ := h y List.mem_cons_self
      obtain ⟨cs, e2, h2⟩ := ih fun z hz => h z (List.mem_cons_of_mem _ hz)
      refine ⟨c :: cs, by rw [e, e2] <;> rfl, fun x hx => ?_⟩
      rcases List.mem_cons.mp hx with e | hx
      · rw [e]; exact hc
      · exact h2 x hx
  obtain ⟨cs, rfl, hm⟩ := go ys hy
  refine ⟨cs, rfl, ?_, hm⟩
  cases cs with
  | nil => exact List.Pairwise.nil
  | cons c r => exact rising_signs r c hs hn
/-- a word over z -/
structure WordOk (z : Str) (n : Nat) (x : Str) : Prop where
  lo : 2 ≤ x.cps.toList.length
  hi : x.cps.toList.length ≤ n
  ov : ∀ c ∈ x.cps.toList, c ∈ z.cps.toList
structure FurtherOk (z : Str) (m n : Nat) (ws : List Str) : Prop where
  ok : ∀ x ∈ ws, WordOk z n x
  nd : ws.Nodup
  few : ws.length ≤ m
end PH

set_option Elab.async false
set_option linter.all false
set_option maxRecDepth 100000
set_option maxHeartbeats 4000000
/-! # The bag of the laws -/
namespace PH
open PySem PySem.Spec PyProof.Rows L2
structure BagAt (H : Hp) (b l : Addr) : Prop where
  ex : ∃ (cells : List Int) (i r m : Int), H b = some (.lst [.ref l, .int i, .int r, .int m]) ∧ H l = some (.lst (cells.map V.int)) ∧ l ≠ b ∧ 0 ≤ i ∧ 0 ≤ r ∧ r < 10 ^ 60 ∧ 0 ≤ m ∧ m < 2305843009213693951
theorem BagAt.same {H H' : Hp} {b l : Addr} (e : Same H H') (h : BagAt H b l) : BagAt H' b l := by
  obtain ⟨cells, i, r, m, h1, h2, h3⟩ := h
  exact ⟨cells, i, r, m, e _ _ h1, e _ _ h2, h3⟩
theorem BagAt.new {H : Hp} {b l p : Addr} {o : HO} (h : BagAt H b l) (hp : H p = none) : BagAt (upd H p o) b l := h.same (same_new hp)
theorem BagAt.mut {H : Hp} {b l p : Addr} {o : HO} (h : BagAt H b l) (h1 : p ≠ b) (h2 : p ≠ l) : BagAt (upd H p o) b l := by
  obtain ⟨cells, i, r, m, e1, e2, h3⟩ := h
  exact ⟨cells, i, r, m, by rw [upd_ne (Ne.symm h1)]; exact e1, by rw [upd_ne (Ne.symm h2)]; exact e2, h3⟩
theorem BagAt.ne {H : Hp} {b l p : Addr} (h : BagAt H b l) (hp : H p = none) : p ≠ b ∧ p ≠ l := by
  obtain ⟨cells, i, r, m, e1, e2, h3⟩ := h
  constructor
  · intro e
    rw [← e, hp] at e1
    cases e1
  · intro e
    rw [← e, hp] at e2
    cases e2
theorem hid_get {M : List Addr} {H H' : Hp} {p : Addr} {o : HO} (e : Same (hid M H) (hid M H')) (h : H p = some o) (hp : p ∉ M) : H' p = some o := hid_sub p o (e p o (hid_at h hp))
theorem hsame_mut {M : List Addr} {H H' : Hp} {p : Addr} {o : HO} (e : Same (hid M H) (hid M H')) (h : H p = none) : Same (hid M H) (hid M (upd H' p o)) := fun a u ha => by
  have q := e a u ha
  have ne : a ≠ p := fun z => by
    have := hid_sub a u ha
    rw [z, h] at this
    cases this
  unfold hid at q ⊢
  split at q
  · cases q
  · rename_i hn
    rw [if_neg hn, upd_ne ne]
    exact q
theorem hsame_new {M : List Addr} {H H' : Hp} {p : Addr} {o : HO} (e : Same (hid M H) (hid M H')) (h : H' p = none) : Same (hid M H) (hid M (upd H' p o)) := e.trans (hid_same (same_new h))
theorem hsame_of {M : List Addr} {H H' : Hp} (e : Same H H') : Same (hid M H) (hid M H') := hid_same e
theorem hnone {M : List Addr} {H H' : Hp} {p : Addr} (e : Same (hid M H) (hid M H')) (h : H' p = none) (hp : p ∉ M) : H p = none := by
  cases q : H p with
  | none => rfl
  | some o => rw [hid_get e q hp] at h; cases h
theorem hsame_refl {M : List Addr} {H : Hp} : Same (hid M H) (hid M H) := Same.refl _
def spDraw : Sp := fun vs H Q _ => ∃ (b l : Addr) (many : Int), vs = [.ref b, .int many] ∧ BagAt H b l ∧ 0 < many ∧ many < 1073741824 ∧
  ∀ (n : Nat) (H' : Hp), (n : Int) < many → BagAt H' b l → Same (hid [b] H) (hid [b] H') → Q (.int (n : Nat)) H'
theorem draw_step {H : Hp} {b l : Addr} {n : Int} {Q : VK} {E : XK} (hB : BagAt H b l) (h0 : 0 < n) (h1 : n < 1073741824) (k : ∀ (x : Nat) (H' : Hp), (x : Int) < n → BagAt H' b l → Same (hid [b] H) (hid [b] H') → Q (.int (x : Nat)) H') : spDraw ([.ref b, .int n] ++ []) H Q E := ⟨b, l, n, rfl, hB, h0, h1, k⟩
end PH

set_option Elab.async false
set_option linter.all false
set_option maxRecDepth 100000
set_option maxHeartbeats 4000000
/-! # Rules with K told (they stand within comprehensions) -/
namespace PH
open PySem PySem.Spec PyProof.Rows L2
section
variable {X : Cx} {K : PySem.W.Frag}
theorem call_lenK (h : X.K = K) : CallR X (.builtin "len") (rLen K) := by subst h; exact call_len
theorem ix_listK (h : X.K = K) : IxR X (rIxL K) := by subst h; exact ix_list
theorem ix_tupK (h : X.K = K) : IxR X (rIxT K) := by subst h; exact ix_tup
theorem op_eqDK (h : X.K = K) (hu : X.A.units + 64 < cLine) : OpR X (compareOp .Eq) (rEqD K) := by subst h; exact op_eqD hu
theorem op_neDK (h : X.K = K) (hu : X.A.units + 64 < cLine) : OpR X (compareOp .NotEq) (rNeD K) := by subst h; exact op_neD hu
theorem op_in_seqK (h : X.K = K) : OpR X (compareOp .In) (rIn K false) := by subst h; exact op_in_seq
theorem op_notIn_seqK (h : X.K = K) : OpR X (compareOp .NotIn) (rIn K true) := by subst h; exact op_notIn_seq
theorem call_isiK' (h : X.K = K) : CallR X (.builtin "isinstance") (rIsi K) := by subst h; exact call_isi
theorem call_isiTK (h : X.K = K) : CallR X (.builtin "isinstance") (rIsiT K) := by subst h; exact call_isiT
theorem pe_fldK {e : Expr} {ta : TE} {f : Str} {pos : Pos} (h : X.K = K) (he : PE X e ta) (hb : attributeBase e f X.env (eval e X.env) = eval e X.env) : PE X (.Attribute e f pos) (tFld K ta f) := by subst h; exact pe_fld he hb
end
section
variable {K : PySem.W.Frag} {H : Hp} {Q : VK} {p : Addr} {x : Str} {ws : List Str} {xs : List V}
theorem inV_str : ∀ ws : List Str, inV (.str x) (ws.map V.str) = decide (x ∈ ws)
  | [] => rfl
  | y :: r => by
    have ih := inV_str r
    unfold inV at ih ⊢
    rw [List.map_cons, List.any_cons, ih]
    show ((y == x) || decide (x ∈ r)) = decide (x ∈ y :: r)
    by_cases e : y = x
    · subst e
      simp
    · have e' : ¬ x = y := fun h => e h.symm
      have b : (y == x) = false := beq_eq_false_iff_ne.mpr e
      rw [b]
      simp [e']
theorem v_in (h : SqL K H p (ws.map V.str) ∨ SqT K H p (ws.map V.str)) (q : Q (.bl (decide (x ∈ ws))) H) : rIn K false (.str x) (.ref p) H Q :=
  ⟨p, ws.map V.str, rfl, h, rfl, flat_strs ws, by rw [inV_str]; exact q⟩
theorem v_notIn (h : SqL K H p (ws.map V.str) ∨ SqT K H p (ws.map V.str)) (q : Q (.bl (!decide (x ∈ ws))) H) : rIn K true (.str x) (.ref p) H Q :=
  ⟨p, ws.map V.str, rfl, h, rfl, flat_strs ws, by rw [inV_str]; exact q⟩
theorem ty_list (h : SqL K H p xs) : tyV K "list" (.ref p) H := .inl ⟨rfl, xs, h⟩
theorem v_append {l : Addr} {y : V} (h : H l = some (.lst xs)) (hz : xs.length < sizeLine) (q : Q .non (upd H l (.lst (xs ++ [y])))) : rAppend (.ref l) [y] H Q := ⟨l, xs, y, rfl, rfl, h, hz, q⟩
theorem if_bnot {p : Prop} [Decidable p] {A B : Prop} (h1 : ¬ p → A) (h2 : p → B) : if (!decide p) = true then A else B := by
  by_cases h : p
  · rw [decide_eq_true h]
    exact iteF (h2 h)
  · rw [decide_eq_false h]
    exact iteT (h1 h)
theorem if_b {c : Bool} {A B : Prop} (h1 : c = true → A) (h2 : c = false → B) : if c = true then A else B := by
  cases c with
  | true => exact iteT (h1 rfl)
  | false => exact iteF (h2 rfl)
end
/-- a walk of the one or the other kind -/
theorem pi_or {X : Cx} {tg it : Expr} {w1 w2 : TI} (h1 : PI X tg it w1) (h2 : PI X tg it w2) : PI X tg it (fun σ H R => w1 σ H R ∨ w2 σ H R) := ⟨fun pins s σ H R I h => by
  rcases h with h | h
  · exact h1.run pins s σ H R I h
  · exact h2.run pins s σ H R I h⟩
/-- between, of a datum -/
def dBet (a b : Int) : PyData → Bool
  | .int i => decide (a ≤ i ∧ i ≤ b)
  | _ => false
theorem iteF_of {c : Bool} {A B : Prop} (h : c = false) (q : B) : if c = true then A else B := by
  subst h
  exact iteF q
theorem iteT_of {c : Bool} {A B : Prop} (h : c = true) (q : A) : if c = true then A else B := by
  subst h
  exact iteT q
theorem if_nd_f {p : Prop} [Decidable p] {A B : Prop} (h : p) (q : B) : if (!decide p) = true then A else B := by
  rw [decide_eq_true h]
  exact iteF q
theorem if_nd_t {p : Prop} [Decidable p] {A B : Prop} (h : ¬ p) (q : A) : if (!decide p) = true then A else B := by
  rw [decide_eq_false h]
  exact iteT q
theorem if_nn_t {p : Prop} [Decidable p] {A B : Prop} (h : p) (q : A) : if (!!decide p) = true then A else B := by
  rw [decide_eq_true h]
  exact iteT q
theorem sign_nlt {a b : Nat} (h : b ≤ a) : decide ((⟨#[a]⟩ : Str).cps.toList < (⟨#[b]⟩ : Str).cps.toList) = false := by
  refine decide_eq_false ?_
  show ¬ ([a] < [b])
  simp [List.cons_lt_cons_iff]
  exact h
theorem sign_lt {a b : Nat} (h : a < b) : decide ((⟨#[a]⟩ : Str).cps.toList < (⟨#[b]⟩ : Str).cps.toList) = true := by
  refine decide_eq_true ?_
  show [a] < [b]
  simp [List.cons_lt_cons_iff]
  exact h
/-- two names at once -/
theorem pg_two {X : Cx} {K : PySem.W.Frag} {i j : Nat} {x y : Str} {px py pos : Pos} {k : Nat} (hK : X.K = K) (hc : X.calm = true) (hN : X.N.Nodup) (hi : X.N[i]? = some x) (hj : X.N[j]? = some y) (hx : Loc X.env.scope x) (hy : Loc X.env.scope y)
    (hf : X.fn x = true ∨ X.env.scope.names.lookup x = some .local := by first | exact .inl rfl | exact .inr rfl | assumption) (hg : X.fn y = true ∨ X.env.scope.names.lookup y = some .local := by first | exact .inl rfl | exact .inr rfl | assumption) :
    PG X (.Tuple [.Name x px, .Name y py] k pos) (gTup K 2 (gCons (gName i) (gCons (gName j) gNil))) := by
  subst hK
  exact pg_tup hc (pgs_cons (pg_name hN hi hx hf) (pgs_cons (pg_name hN hj hy hg) pgs_nil))
end PH

set_option Elab.async false
set_option linter.all false
set_option maxRecDepth 100000
set_option maxHeartbeats 4000000
/-! # Loops over a list or a tuple -/
namespace PH
open PySem PySem.Spec PyProof.Rows L2
section
variable {K : PySem.W.Frag} {a : Addr} {xs : List V} {σ : L2.St} {H : Hp} {g : TG} {tb : TS} {D : Ends} {ta : TA} {te : TE}
theorem walk_enumT : Walk (IteT K a xs) xs.length (fun H => SqT K H a xs) (YPair (fun i => some (.int (i : Nat))) (fun i => xs[i]?)) :=
  walk_enumG.mono (fun _ h => h) fun i H x H' _ _ ⟨T, y, h1, h2, h3, h4⟩ => ⟨T, .int (i : Nat), y, h1, h2, h3, rfl, h4⟩
theorem for_enumA {H0 : Hp} (h : SqL K H0 a xs ∨ SqT K H0 a xs) (hv : ∀ Q : List V → Hp → Prop, Q [.ref a] H → ta σ H Q) (Pv : Nat → L2.St → Hp → Prop) (h0 : Pv 0 σ H) (hk : ∀ i σ' H', i ≤ xs.length → Pv i σ' H' → Same H0 H')
    (hs : ∀ i x σ' H1 T, i < xs.length → Pv i σ' H1 → xs[i]? = some x → H1 T = none → g (.ref T) σ' (upd H1 T (.tup [.int (i : Nat), x])) fun σ2 H2 => tb { D with nx := Pv (i + 1), ct := Pv (i + 1), bk := D.nx } σ2 H2) (hd : ∀ σ' H', Pv xs.length σ' H' → D.nx σ' H') :
    tFor (fun σ H R => iEnum K ta σ H R ∨ iEnumT K ta σ H R) g tb D σ H := by
  rcases h with h | h
  · refine .inl (hv _ ⟨a, xs, rfl, sqL_same (hk 0 σ H (Nat.zero_le _) h0) h, ?_⟩)
    refine for_it walk_enum Pv h0 (fun i σ' H' hi p => sqL_same (hk i σ' H' hi p) h) (fun i x σ' H1 H2 hi p y => ?_) hd
    obtain ⟨T, u, v, rfl, hT, rfl, e1, e2⟩ := y
    cases e1
    exact hs i v σ' H1 T hi p e2 hT
  · refine .inr (hv _ ⟨a, xs, rfl, sqT_same (hk 0 σ H (Nat.zero_le _) h0) h, ?_⟩)
    refine for_it walk_enumT Pv h0 (fun i σ' H' hi p => sqT_same (hk i σ' H' hi p) h) (fun i x σ' H1 H2 hi p y => ?_) hd
    obtain ⟨T, u, v, rfl, hT, rfl, e1, e2⟩ := y
    cases e1
    exact hs i v σ' H1 T hi p e2 hT
theorem for_seq {H0 : Hp} (h : SqL K H0 a xs ∨ SqT K H0 a xs) (hv : ∀ Q : VK, Q (.ref a) H → te σ H Q) (Pv : Nat → L2.St → Hp → Prop) (h0 : Pv 0 σ H) (hk : ∀ i σ' H', i ≤ xs.length → Pv i σ' H' → Same H0 H')
    (hs : ∀ i x σ' H1, i < xs.length → Pv i σ' H1 → xs[i]? = some x → g x σ' H1 fun σ2 H2 => tb { D with nx := Pv (i + 1), ct := Pv (i + 1), bk := D.nx } σ2 H2) (hd : ∀ σ' H', Pv xs.length σ' H' → D.nx σ' H') :
    tFor (fun σ H R => iList K te σ H R ∨ iTup K te σ H R) g tb D σ H := by
  rcases h with h | h
  · refine .inl (hv _ ⟨a, rfl, ⟨xs, sqL_same (hk 0 σ H (Nat.zero_le _) h0) h⟩, ?_⟩)
    refine for_it walk_list Pv h0 (fun i σ' H' hi p => sqL_same (hk i σ' H' hi p) h) (fun i x σ' H1 H2 hi p y => ?_) hd
    obtain ⟨rfl, hx⟩ := y
    exact hs i x σ' H2 hi p hx
  · refine .inr (hv _ ⟨a, rfl, ⟨xs, sqT_same (hk 0 σ H (Nat.zero_le _) h0) h⟩, ?_⟩)
    refine for_it walk_tup Pv h0 (fun i σ' H' hi p => sqT_same (hk i σ' H' hi p) h) (fun i x σ' H1 H2 hi p y => ?_) hd
    obtain ⟨rfl, hx⟩ := y
    exact hs i x σ' H2 hi p hx
theorem dpAll_of_strs {ws : List Str} : DpAll K H (ws.map V.str) (ws.map PyData.str) := dpAll_strs ws
theorem dp_seq_strs {ws : List Str} (h : SqL K H a (ws.map V.str) ∨ SqT K H a (ws.map V.str)) : ∃ d, Dp K H (.ref a) d ∧ dSeq d = true := by
  rcases h with h | h
  · exact ⟨_, .lst h (dpAll_strs ws), rfl⟩
  · exact ⟨_, .tup h (dpAll_strs ws), rfl⟩
end
/-- a field -/
abbrev lk (fs : List (Str × V)) (f : Str) : Option V := fs.lookup f
theorem putF_len (f : Str) (v : V) : ∀ fs : List (Str × V), (putF f v fs).length ≤ fs.length + 1
  | [] => Nat.le_refl _
  | (g, x) :: r => by
    have ih := putF_len f v r
    unfold putF
    split
    · simp
    · simp only [List.length_cons]
      omega
theorem lk_same {f : Str} {v : V} {fs : List (Str × V)} : lk (putF f v fs) f = some v := by
  unfold lk
  rw [lookup_putF, if_pos rfl]
theorem lk_ne {f g : Str} {v : V} {fs : List (Str × V)} (h : (g == f) = false) : lk (putF f v fs) g = lk fs g := by
  unfold lk
  rw [lookup_putF, if_neg (fun e => by rw [e] at h; simp at h)]
section
variable {K : PySem.W.Frag} {H : Hp} {a p C dx : Addr} {fs : List (Str × V)} {xs : List V} {M : List Addr}
theorem sqL_hid (h : SqL K H p xs) (ha : ∀ a ∈ M, ∃ C dx fs, H a = some (.ins C dx fs)) : SqL K (hid M H) p xs := by
  rcases h with h | h
  · left
    rcases h with h | ⟨o, h⟩
    · refine .inl (hid_at h fun hm => ?_)
      obtain ⟨C, dx, fs, e⟩ := ha p hm
      rw [h] at e
      cases e
    · refine .inr ⟨o, hid_at h fun hm => ?_⟩
      obtain ⟨C, dx, fs, e⟩ := ha p hm
      rw [h] at e
      cases e
  · exact .inr h
theorem sqT_hid (h : SqT K H p xs) (ha : ∀ a ∈ M, ∃ C dx fs, H a = some (.ins C dx fs)) : SqT K (hid M H) p xs := by
  rcases h with h | h
  · left
    rcases h with h | ⟨o, h⟩
    · refine .inl (hid_at h fun hm => ?_)
      obtain ⟨C, dx, fs, e⟩ := ha p hm
      rw [h] at e
      cases e
    · refine .inr ⟨o, hid_at h fun hm => ?_⟩
      obtain ⟨C, dx, fs, e⟩ := ha p hm
      rw [h] at e
      cases e
  · exact .inr h
theorem one_ins (h : H a = some (.ins C dx fs)) : ∀ b ∈ [a], ∃ C dx fs, H b = some (.ins C dx fs) := fun b hb => by
  rw [List.mem_singleton.mp hb]
  exact ⟨C, dx, fs, h⟩
theorem hid_put {H' : Hp} {o : HO} (e : Same (hid [a] H) (hid [a] H')) : Same (hid [a] H) (hid [a] (upd H' a o)) := by
  rw [hid_in (by simp)]
  exact e
end
mutual
theorem dp_hid {K : PySem.W.Frag} {H : Hp} {M : List Addr} (ha : ∀ a ∈ M, ∃ C dx fs, H a = some (.ins C dx fs)) : ∀ (d : PyData) (v : V), Dp K H v d → Dp K (hid M H) v d
  | .none, _, h => by cases h; exact .non
  | .bool b, _, h => by cases h; exact .bl b
  | .int i, _, h => by cases h; exact .int i
  | .str x, _, h => by cases h; exact .str x
  | .list ds, _, h => by
    cases h with
    | lst hs hd => exact .lst (sqL_hid hs ha) (dpAll_hid ha ds _ hd)
  | .tuple ds, _, h => by
    cases h with
    | tup hs hd => exact .tup (sqT_hid hs ha) (dpAll_hid ha ds _ hd)
  | .dict _, _, h => by cases h
theorem dpAll_hid {K : PySem.W.Frag} {H : Hp} {M : List Addr} (ha : ∀ a ∈ M, ∃ C dx fs, H a = some (.ins C dx fs)) : ∀ (ds : List PyData) (vs : List V), DpAll K H vs ds → DpAll K (hid M H) vs ds
  | [], _, h => by cases h; exact .nil
  | d :: ds, _, h => by
    cases h with
    | cons h1 h2 => exact .cons (dp_hid ha d _ h1) (dpAll_hid ha ds _ h2)
end
/-- a new instance: behind its __init__ all else is as it was -/
theorem make_same {H H' : Hp} {x dx : Addr} {o o' : HO} (h : Same (hid [x] (upd (upd H dx o) x o')) (hid [x] H')) (h1 : H x = none) (h2 : H dx = none) (h3 : dx ≠ x) : Same H H' := fun p u e => by
  have n1 : p ≠ x := ne_of_none e h1
  have n2 : p ≠ dx := ne_of_none e h2
  refine hid_get h (o := u) ?_ (by simpa using n1)
  rw [upd_ne n1, upd_ne n2]
  exact e
theorem isSome_step {v : V} {o : Option V} {y u : Str} {l : List Str} (h : o.isSome = decide (y ∈ l)) : (if (Sum.inr y : Key) = .inr u then some v else o).isSome = decide (y ∈ l ++ (some u).toList) := by
  by_cases e : y = u
  · subst e
    rw [if_pos rfl]
    simp
  · rw [if_neg (fun h => e (by injection h)), h]
    simp [e]
theorem RoomS.hu {k : Nat} {A : Around} (r : RoomS k A) : A.units + 1 < cLine := r.units1
theorem eqvAll_ints : ∀ a b : List Int, PyData.eqvAll (a.map PyData.int) (b.map PyData.int) = decide (a = b)
  | [], [] => rfl
  | [], _ :: _ => rfl
  | _ :: _, [] => rfl
  | x :: a, y :: b => by
    show ((x == y) && PyData.eqvAll (a.map PyData.int) (b.map PyData.int)) = decide (x :: a = y :: b)
    rw [eqvAll_ints a b]
    by_cases e : x = y
    · subst e
      simp
    · have q : (x == y) = false := beq_eq_false_iff_ne.mpr e
      rw [q]
      simp [e]
theorem shaped_ints (ns : List Int) : SeqAt.shaped (.tuple (ns.map PyData.int)) = true ∧ SeqAt.shaped (.list (ns.map PyData.int)) = true := by
  have h1 : ∀ l : List Int, PyData.canLayAll0 (l.map PyData.int) = true := by
    intro l
    induction l with
    | nil => rfl
    | cons x r ih =>
      show (true && PyData.canLayAll0 (r.map PyData.int)) = true
      rw [ih]
      rfl
  have h2 : ∀ l : List Int, PyData.depthAll (l.map PyData.int) = 0 := by
    intro l
    induction l with
    | nil => rfl
    | cons x r ih =>
      show max 0 (PyData.depthAll (r.map PyData.int)) = 0
      rw [ih]
      rfl
  constructor
  · show (PyData.canLayAll0 (ns.map PyData.int) && decide (PyData.depthAll (ns.map PyData.int) + 1 ≤ 64)) = true
    rw [h1 ns, h2]
    rfl
  · show (PyData.canLayAll0 (ns.map PyData.int) && decide (PyData.depthAll (ns.map PyData.int) + 1 ≤ 64)) = true
    rw [h1 ns, h2]
    rfl
theorem eqvAll_strs : ∀ a b : List Str, PyData.eqvAll (a.map PyData.str) (b.map PyData.str) = decide (a = b)
  | [], [] => rfl
  | [], _ :: _ => rfl
  | _ :: _, [] => rfl
  | x :: a, y :: b => by
    show ((x == y) && PyData.eqvAll (a.map PyData.str) (b.map PyData.str)) = decide (x :: a = y :: b)
    rw [eqvAll_strs a b]
    by_cases e : x = y
    · subst e
      simp
    · have q : (x == y) = false := beq_eq_false_iff_ne.mpr e
      rw [q]
      simp [e]
theorem shaped_strs {ws : List Str} (h : ∀ x ∈ ws, ∀ c ∈ x.cps.toList, c ≤ 126) : SeqAt.shaped (.tuple (ws.map PyData.str)) = true ∧ SeqAt.shaped (.list (ws.map PyData.str)) = true := by
  have h1 : ∀ l : List Str, (∀ x ∈ l, ∀ c ∈ x.cps.toList, c ≤ 126) → PyData.canLayAll0 (l.map PyData.str) = true := by
    intro l
    induction l with
    | nil => exact fun _ => rfl
    | cons x r ih =>
      intro h
      show (PyData.strOk x && PyData.canLayAll0 (r.map PyData.str)) = true
      rw [strOk_of (h x List.mem_cons_self), ih fun y hy => h y (List.mem_cons_of_mem _ hy)]
      rfl
  have h2 : ∀ l : List Str, PyData.depthAll (l.map PyData.str) = 0 := by
    intro l
    induction l with
    | nil => rfl
    | cons x r ih =>
      show max 0 (PyData.depthAll (r.map PyData.str)) = 0
      rw [ih]
      rfl
  constructor
  · show (PyData.canLayAll0 (ws.map PyData.str) && decide (PyData.depthAll (ws.map PyData.str) + 1 ≤ 64)) = true
    rw [h1 ws h, h2]
    rfl
  · show (PyData.canLayAll0 (ws.map PyData.str) && decide (PyData.depthAll (ws.map PyData.str) + 1 ≤ 64)) = true
    rw [h1 ws h, h2]
    rfl
theorem AlphaOk.le {z : Str} {n : Nat} (h : AlphaOk z n) : ∀ c ∈ z.cps.toList, c ≤ 126 := fun c hc => (h.sg c hc).2
theorem FurtherOk.le {z : Str} {k m n : Nat} {ws : List Str} (h : FurtherOk z m n ws) (hz : AlphaOk z k) : ∀ x ∈ ws, ∀ c ∈ x.cps.toList, c ≤ 126 := fun x hx c hc => hz.le c ((h.ok x hx).ov c hc)
theorem dp_seq_of {K : PySem.W.Frag} {H : Hp} {v : V} {d : PyData} (h : Dp K H v d) (hs : dSeq d = true) : ∃ (p : Addr) (xs : List V) (ds : List PyData), v = .ref p ∧ ((d = .list ds ∧ SqL K H p xs) ∨ (d = .tuple ds ∧ SqT K H p xs)) ∧ DpAll K H xs ds := by
  cases h with
  | non => cases hs
  | bl _ => cases hs
  | int _ => cases hs
  | str _ => cases hs
  | lst h1 h2 => exact ⟨_, _, _, rfl, .inl ⟨rfl, h1⟩, h2⟩
  | tup h1 h2 => exact ⟨_, _, _, rfl, .inr ⟨rfl, h1⟩, h2⟩
theorem v_lenA {K : PySem.W.Frag} {H : Hp} {a : Addr} {xs : List V} {Q : VK} (h : SqL K H a xs ∨ SqT K H a xs) (q : Q (.int (xs.length : Nat)) H) : rLen K [V.ref a] H Q := by
  rcases h with h | h
  · exact v_lenL h q
  · exact v_lenT h q
theorem dpAll_ints_inv {K : PySem.W.Frag} {H : Hp} : ∀ {cs : List Int} {xs : List V}, DpAll K H xs (cs.map PyData.int) → xs = cs.map V.int
  | [], _, .nil => rfl
  | c :: cs, _, .cons h1 h2 => by
    cases h1
    rw [dpAll_ints_inv h2] <;> rfl
theorem dpAll_strs_inv {K : PySem.W.Frag} {H : Hp} : ∀ {cs : List Str} {xs : List V}, DpAll K H xs (cs.map PyData.str) → xs = cs.map V.str
  | [], _, .nil => rfl
  | c :: cs, _, .cons h1 h2 => by
    cases h1
    rw [dpAll_strs_inv h2] <;> rfl
theorem ty_same {K : PySem.W.Frag} {H H' : Hp} {v : V} {t : Value} (e : Same H H') (h : TyX K H v t) : TyX K H' v t := by
  cases h with
  | base b =>
    cases b with
    | non => exact .base .non
    | bl x => exact .base (.bl x)
    | int i => exact .base (.int i)
    | str x => exact .base (.str x)
    | flt x => exact .base (.flt x)
    | lst h => exact .base (.lst (e _ _ h))
    | frz h => exact .base (.frz (e _ _ h))
    | tup h => exact .base (.tup (e _ _ h))
    | dK h => exact .base (.dK (e _ _ h))
    | dT h => exact .base (.dT (e _ _ h))
    | ins h c ha hn htk hm => exact .base (.ins (e _ _ h) c ha hn htk hm)
  | byt b => exact .byt b
  | set h => exact .set (e _ _ h)
  | kList h c => exact .kList h c
  | kTuple h c => exact .kTuple h c
  | kDict h c => exact .kDict h c
  | fTuple h => exact .fTuple (e _ _ h)
  | fDict h => exact .fDict (e _ _ h)
theorem isx_own {K : PySem.W.Frag} {H : Hp} {a D C dd : Addr} {fs : List (Str × V)} {b : Bool} {Q : VK} (hdd : H dd = some (.xd fs)) (x : Xc K D) (k : PySem.W.kitOne K (.ref D) (.ref C) = some b) (q : Q (.bl b) H) : rIsX K a (.ref D) (some dd) [.ref a, .ref C] H Q :=
  ⟨.ref C, .ref C, D, dd, fs, b, rfl, .own C, rfl, rfl, x.ex, hdd, k, q⟩
end PH
theorem L2.Room.hu {k : Nat} {A : PySem.Around} (r : L2.Room k A) : A.units + 1 < PySem.cLine := by
  have := r.units
  omega

set_option Elab.async false
set_option linter.all false
set_option maxRecDepth 100000
set_option maxHeartbeats 4000000
/-! # Data that are shaped; words and no words -/
namespace PH
open PySem PySem.Spec PyProof.Rows L2
/-- shaped, with room -/
def Tame (k : Nat) (d : PyData) : Prop := PyData.canLay0 d = true ∧ PyData.depth d ≤ k
theorem tame_all : ∀ {k : Nat} {ds : List PyData}, (∀ e ∈ ds, Tame k e) → PyData.canLayAll0 ds = true ∧ PyData.depthAll ds ≤ k
  | _, [], _ => ⟨rfl, Nat.zero_le _⟩
  | k, d :: r, h => by
    obtain ⟨h1, h2⟩ := h d List.mem_cons_self
    obtain ⟨h3, h4⟩ := tame_all (ds := r) fun e he => h e (List.mem_cons_of_mem _ he)
    constructor
    · show (PyData.canLay0 d && PyData.canLayAll0 r) = true
      rw [h1, h3]
      rfl
    · show max (PyData.depth d) (PyData.depthAll r) ≤ k
      omega
theorem tame_tuple {k : Nat} {ds : List PyData} (h : ∀ e ∈ ds, Tame k e) : Tame (k + 1) (.tuple ds) := by
  obtain ⟨h1, h2⟩ := tame_all h
  exact ⟨h1, Nat.succ_le_succ h2⟩
theorem tame_list {k : Nat} {ds : List PyData} (h : ∀ e ∈ ds, Tame k e) : Tame (k + 1) (.list ds) := by
  obtain ⟨h1, h2⟩ := tame_all h
  exact ⟨h1, Nat.succ_le_succ h2⟩
theorem Tame.mono {j k : Nat} {d : PyData} (h : Tame j d) (hk : j ≤ k) : Tame k d := ⟨h.1, Nat.le_trans h.2 hk⟩
theorem Tame.shaped {k : Nat} {d : PyData} (h : Tame k d) (hk : k ≤ 64) : SeqAt.shaped d = true := by
  unfold SeqAt.shaped
  rw [h.1, decide_eq_true (Nat.le_trans h.2 hk)]
  rfl
theorem tame_int {k : Nat} (i : Int) : Tame k (.int i) := ⟨rfl, Nat.zero_le _⟩
theorem tame_bool {k : Nat} (i : Bool) : Tame k (.bool i) := ⟨rfl, Nat.zero_le _⟩
theorem tame_none {k : Nat} : Tame k .none := ⟨rfl, Nat.zero_le _⟩
theorem tame_str {k : Nat} {x : Str} (h : ∀ c ∈ x.cps.toList, c ≤ 126) : Tame k (.str x) := ⟨strOk_of h, Nat.zero_le _⟩
theorem dpAll_append {K : PySem.W.Frag} {H : Hp} : ∀ {xs ys : List V} {ds es : List PyData}, DpAll K H xs ds → DpAll K H ys es → DpAll K H (xs ++ ys) (ds ++ es)
  | _, _, _, _, .nil, h => h
  | _, _, _, _, .cons h1 h2, h => .cons h1 (dpAll_append h2 h)
theorem dpAll_take {K : PySem.W.Frag} {H : Hp} : ∀ {xs : List V} {ds : List PyData} (n : Nat), DpAll K H xs ds → DpAll K H (xs.take n) (ds.take n)
  | _, _, 0, _ => by
    rw [List.take_zero, List.take_zero]
    exact .nil
  | _, _, n + 1, .nil => .nil
  | _, _, n + 1, .cons h1 h2 => .cons h1 (dpAll_take n h2)
theorem dpAll_drop {K : PySem.W.Frag} {H : Hp} : ∀ {xs : List V} {ds : List PyData} (n : Nat), DpAll K H xs ds → DpAll K H (xs.drop n) (ds.drop n)
  | _, _, 0, h => h
  | _, _, n + 1, .nil => .nil
  | _, _, n + 1, .cons h1 h2 => dpAll_drop n h2
theorem app_cps {x y : Str} : (x ++ y).cps.toList = x.cps.toList ++ y.cps.toList := by
  show (x.cps ++ y.cps).toList = _
  simp
theorem rep7_mem {z : Str} {c : Nat} (h : c ∈ (rep7 z).cps.toList) : c ∈ z.cps.toList := by
  have h : c ∈ ((List.replicate 7 z.cps).foldl (· ++ ·) #[]).toList := h
  simp [List.replicate, List.foldl] at h
  simpa using h
theorem dpAll_set {K : PySem.W.Frag} {H : Hp} {x : V} {d : PyData} (hx : Dp K H x d) : ∀ {xs : List V} {ds : List PyData} (n : Nat), DpAll K H xs ds → DpAll K H (xs.set n x) (ds.set n d)
  | _, _, _, .nil => .nil
  | _, _, 0, .cons _ h2 => .cons hx h2
  | _, _, n + 1, .cons h1 h2 => .cons h1 (dpAll_set hx n h2)
theorem cut_last' (xs : List V) : cutV xs none (some (-1)) = xs.take (xs.length - 1) := by rw [cut_last, List.dropLast_eq_take]
theorem tame_ints {k : Nat} (cs : List Int) : ∀ e ∈ cs.map PyData.int, Tame k e := fun e he => by
  obtain ⟨c, _, rfl⟩ := List.mem_map.mp he
  exact tame_int c
theorem ixN_nat' {n j : Nat} (hj : j < n) : ixN n (j : Int) = some j := by
  unfold ixN
  rw [if_pos (by omega), if_pos (by omega)]
  simp
theorem hsame_more {p : Addr} {M : List Addr} {H H' : Hp} (e : Same (hid M H) (hid M H')) : Same (hid (p :: M) H) (hid (p :: M) H') := fun a u h => by
  have q := e a u (hid_more a u h)
  have n : a ∉ p :: M := fun hm => by rw [hid_none hm] at h; cases h
  exact hid_at (hid_sub a u q) n
end PH

set_option Elab.async false
set_option linter.all false
set_option maxRecDepth 100000
set_option maxHeartbeats 4000000
/-! # The law's own def -/
namespace PH
open PySem PySem.Spec PyProof.Rows L2
theorem fn_law0 {P : Program} {w : World} {K : PySem.W.Frag} {mg : Str → Option Value} {base : Heap} {x qual : Str} {st : Stmt} {f : Addr} {fd : FuncData} {N ps : List Str} {k : Nat} {sp : Sp} (F : FunD K x qual (defArgs st) (defBody st) (defScope st) [] [] f fd) (S : FnScope N ps (defScope st))
    (len : ∀ vs H Q E, sp vs H Q E → vs.length = ps.length)
    (hbody : ∀ (cdv : Value) (A : Around) (outer : List Env) (s : Shared) (H : Hp) (vs : List V) (Q : VK) (E : XK), Room k (A.deeper (envOfC qual (defScope st) s.heap.objs.size f cdv)) → sp vs H Q E →
      ∃ t, PSs (cxOf L2.CX0 P w K mg base N qual (defScope st) f cdv A outer s H E) (defBody st) t ∧ t { nx := fun _ H' => Q .non H', rt := Q } (start N vs) H) : FnOk P w K mg base L2.CX0 (k + 1) f fd ps sp := F.ok S len hbody
end PH

set_option Elab.async false
set_option linter.all false
/-! # Rows of words with a text; the row of fewest words (plain law, no program in sight) -/
namespace PL
abbrev T := List Nat
/-- row is a row of words of W with the text t -/
def Row (W : T → Prop) (t : T) (row : List T) : Prop := row.flatten = t ∧ ∀ w ∈ row, W w
/-- rows of as many words: the first unlike word is the longer one -/
def beatsL : List T → List T → Bool
  | a :: r, b :: o => if a = b then beatsL r o else decide (b.length < a.length)
  | _, _ => true
def beats (r o : List T) : Bool := if r.length = o.length then beatsL r o else decide (r.length < o.length)
def IsBest (W : T → Prop) (t : T) (r : List T) : Prop := Row W t r ∧ ∀ o, Row W t o → beats r o = true
def IsCnt (W : T → Prop) (t : T) (c : Nat) : Prop := (∃ r, Row W t r ∧ r.length = c) ∧ ∀ o, Row W t o → c ≤ o.length
section
variable {W : T → Prop} {t : T}
theorem row_nil : Row W [] [] := ⟨rfl, fun w h => by cases h⟩
theorem row_cons {w : T} {r : List T} {u : T} (hw : W w) (h : Row W u r) : Row W (w ++ u) (w :: r) := by
  refine ⟨by rw [List.flatten_cons, h.1], fun x hx => ?_⟩
  rcases List.mem_cons.mp hx with e | hx
  · rw [e]; exact hw
  · exact h.2 x hx
theorem row_inv {w : T} {r : List T} (h : Row W t (w :: r)) : W w ∧ t = w ++ r.flatten ∧ Row W (t.drop w.length) r := by
  obtain ⟨h1, h2⟩ := h
  rw [List.flatten_cons] at h1
  refine ⟨h2 w List.mem_cons_self, h1.symm, ?_, fun x hx => h2 x (List.mem_cons_of_mem _ hx)⟩
  rw [← h1, List.drop_left]
theorem row_step {s : Nat} {r : List T} (hs : s ≤ t.length) (hw : W (t.take s)) (h : Row W (t.drop s) r) : Row W t (t.take s :: r) := by
  have q := row_cons hw h
  rw [List.take_append_drop] at q
  exact q
theorem row_of_nil (hne : ∀ w, W w → w ≠ []) {r : List T} (h : Row W [] r) : r = [] := by
  cases r with
  | nil => rfl
  | cons w r =>
    obtain ⟨hw, e, _⟩ := row_inv h
    have : w = [] := by
      cases w with
      | nil => rfl
      | cons a b => simp at e
    exact absurd this (hne w hw)
theorem beatsL_refl : ∀ r : List T, beatsL r r = true
  | [] => rfl
  | a :: r => by
    show (if a = a then beatsL r r else _) = true
    rw [if_pos rfl]
    exact beatsL_refl r
theorem beats_refl (r : List T) : beats r r = true := by
  unfold beats
  rw [if_pos rfl]
  exact beatsL_refl r
/-- first words of rows with the same text are the same if they are as long -/
theorem head_eq {w v : T} {r o : List T} (h1 : Row W t (w :: r)) (h2 : Row W t (v :: o)) (h : w.length = v.length) : w = v := by
  obtain ⟨_, e1, _⟩ := row_inv h1
  obtain ⟨_, e2, _⟩ := row_inv h2
  have a : w = t.take w.length := by rw [e1, List.take_left]
  have b : v = t.take v.length := by rw [e2, List.take_left]
  rw [a, b, h]
theorem beatsL_total : ∀ {r o : List T} {t : T}, Row W t r → Row W t o → beatsL r o = false → beatsL o r = true
  | [], _, _, _, _, h => by cases h
  | _ :: _, [], _, _, _, h => by cases h
  | a :: r, b :: o, t, h1, h2, h => by
    have h : (if a = b then beatsL r o else decide (b.length < a.length)) = false := h
    show (if b = a then beatsL o r else decide (a.length < b.length)) = true
    by_cases e : a = b
    · subst e
      rw [if_pos rfl] at h ⊢
      obtain ⟨_, _, q1⟩ := row_inv h1
      obtain ⟨_, _, q2⟩ := row_inv h2
      exact beatsL_total q1 q2 h
    · rw [if_neg e] at h
      rw [if_neg (fun h => e h.symm)]
      have h := of_decide_eq_false h
      have ne : a.length ≠ b.length := fun q => e (head_eq h1 h2 q)
      exact decide_eq_true (by omega)
theorem beats_total {r o : List T} (h1 : Row W t r) (h2 : Row W t o) (h : beats r o = false) : beats o r = true := by
  unfold beats at h ⊢
  by_cases e : r.length = o.length
  · rw [if_pos e] at h
    rw [if_pos e.symm]
    exact beatsL_total h1 h2 h
  · rw [if_neg e] at h
    rw [if_neg (fun q => e q.symm)]
    have h := of_decide_eq_false h
    exact decide_eq_true (by omega)
theorem beatsL_trans : ∀ {a b c : List T} {t : T}, Row W t a → Row W t b → Row W t c → a.length = b.length → b.length = c.length → beatsL a b = true → beatsL b c = true → beatsL a c = true
  | [], _, _, _, _, _, _, _, _, _, _ => by rfl
  | _ :: _, [], _, _, _, _, _, h, _, _, _ => by cases h
  | _ :: _, _ :: _, [], _, _, _, _, _, h, _, _ => by cases h
  | a :: r, b :: o, c :: p, t, h1, h2, h3, l1, l2, q1, q2 => by
    have q1 : (if a = b then beatsL r o else decide (b.length < a.length)) = true := q1
    have q2 : (if b = c then beatsL o p else decide (c.length < b.length)) = true := q2
    show (if a = c then beatsL r p else decide (c.length < a.length)) = true
    by_cases e1 : a = b
    · subst e1
      rw [if_pos rfl] at q1
      by_cases e2 : a = c
      · subst e2
        rw [if_pos rfl] at q2 ⊢
        obtain ⟨_, _, r1⟩ := row_inv h1
        obtain ⟨_, _, r2⟩ := row_inv h2
        obtain ⟨_, _, r3⟩ := row_inv h3
        exact beatsL_trans r1 r2 r3 (by simpa using l1) (by simpa using l2) q1 q2
      · rw [if_neg e2] at q2 ⊢
        exact q2
    · rw [if_neg e1] at q1
      have q1 := of_decide_eq_true q1
      by_cases e2 : b = c
      · subst e2
        rw [if_neg e1]
        exact decide_eq_true q1
      · rw [if_neg e2] at q2
        have q2 := of_decide_eq_true q2
        rw [if_neg (fun e => by rw [e] at q1; omega)]
        exact decide_eq_true (by omega)
theorem beats_trans {a b c : List T} (h1 : Row W t a) (h2 : Row W t b) (h3 : Row W t c) (q1 : beats a b = true) (q2 : beats b c = true) : beats a c = true := by
  unfold beats at q1 q2 ⊢
  by_cases e1 : a.length = b.length
  · rw [if_pos e1] at q1
    by_cases e2 : b.length = c.length
    · rw [if_pos e2] at q2
      rw [if_pos (e1.trans e2)]
      exact beatsL_trans h1 h2 h3 e1 e2 q1 q2
    · rw [if_neg e2] at q2
      have q2 := of_decide_eq_true q2
      rw [if_neg (by omega)]
      exact decide_eq_true (by omega)
  · rw [if_neg e1] at q1
    have q1 := of_decide_eq_true q1
    by_cases e2 : b.length = c.length
    · rw [if_neg (by omega)]
      exact decide_eq_true (by omega)
    · rw [if_neg e2] at q2
      have q2 := of_decide_eq_true q2
      rw [if_neg (by omega)]
      exact decide_eq_true (by omega)
theorem beatsL_anti : ∀ {a b : List T}, a.length = b.length → beatsL a b = true → beatsL b a = true → a = b
  | [], [], _, _, _ => rfl
  | [], _ :: _, h, _, _ => by cases h
  | _ :: _, [], h, _, _ => by cases h
  | a :: r, b :: o, l, q1, q2 => by
    have q1 : (if a = b then beatsL r o else decide (b.length < a.length)) = true := q1
    have q2 : (if b = a then beatsL o r else decide (a.length < b.length)) = true := q2
    by_cases e : a = b
    · subst e
      rw [if_pos rfl] at q1 q2
      rw [beatsL_anti (by simpa using l) q1 q2]
    · rw [if_neg e] at q1
      rw [if_neg (fun h => e h.symm)] at q2
      have q1 := of_decide_eq_true q1
      have q2 := of_decide_eq_true q2
      omega
theorem best_unique {a b : List T} (h1 : IsBest W t a) (h2 : IsBest W t b) : a = b := by
  have q1 := h1.2 b h2.1
  have q2 := h2.2 a h1.1
  unfold beats at q1 q2
  by_cases e : a.length = b.length
  · rw [if_pos e] at q1
    rw [if_pos e.symm] at q2
    exact beatsL_anti e q1 q2
  · rw [if_neg e] at q1
    rw [if_neg (fun h => e h.symm)] at q2
    have q1 := of_decide_eq_true q1
    have q2 := of_decide_eq_true q2
    omega
theorem best_cnt {r : List T} (h : IsBest W t r) : IsCnt W t r.length := by
  refine ⟨⟨r, h.1, rfl⟩, fun o ho => ?_⟩
  have q := h.2 o ho
  unfold beats at q
  by_cases e : r.length = o.length
  · omega
  · rw [if_neg e] at q
    have q := of_decide_eq_true q
    omega
theorem cnt_unique {a b : Nat} (h1 : IsCnt W t a) (h2 : IsCnt W t b) : a = b := by
  obtain ⟨⟨r, hr, e1⟩, q1⟩ := h1
  obtain ⟨⟨o, ho, e2⟩, q2⟩ := h2
  have := q1 o ho
  have := q2 r hr
  omega
theorem cnt_nil : IsCnt W [] 0 := ⟨⟨[], row_nil, rfl⟩, fun _ _ => Nat.zero_le _⟩
theorem best_nil (hne : ∀ w, W w → w ≠ []) : IsBest W [] [] := ⟨row_nil, fun o ho => by rw [row_of_nil hne ho]; rfl⟩
/-- a word at the beginning, by its length -/
def Pre (W : T → Prop) (t : T) (s : Nat) : Prop := s ≤ t.length ∧ W (t.take s)
theorem pre_of {w : T} {r : List T} (h : Row W t (w :: r)) : Pre W t w.length ∧ w = t.take w.length := by
  obtain ⟨hw, e, _⟩ := row_inv h
  have a : w = t.take w.length := by rw [e, List.take_left]
  refine ⟨⟨?_, by rw [← a]; exact hw⟩, a⟩
  rw [e, List.length_append]
  omega
/-- counting: one more than the least over the words at the beginning -/
theorem cnt_step (hne : ∀ w, W w → w ≠ []) {m : Nat} (ht : t ≠ []) (h1 : ∃ s c, Pre W t s ∧ IsCnt W (t.drop s) c ∧ c = m) (h2 : ∀ s c, Pre W t s → IsCnt W (t.drop s) c → m ≤ c) (hall : ∀ s, Pre W t s → ∃ c, IsCnt W (t.drop s) c) : IsCnt W t (1 + m) := by
  obtain ⟨s, c, hs, ⟨⟨r, hr, e⟩, hc⟩, rfl⟩ := h1
  refine ⟨⟨t.take s :: r, row_step hs.1 hs.2 hr, by rw [List.length_cons, e, Nat.add_comm]⟩, fun o ho => ?_⟩
  cases o with
  | nil =>
    exact absurd ho.1.symm ht
  | cons w o =>
    obtain ⟨hp, ew⟩ := pre_of ho
    obtain ⟨_, _, ho'⟩ := row_inv ho
    obtain ⟨c', hc'⟩ := hall _ hp
    have q1 := h2 _ _ hp hc'
    have q2 := hc'.2 o ho'
    rw [List.length_cons]
    omega
/-- the longest word at the beginning behind which the fewest words stand begins the best row -/
theorem best_step {s c : Nat} {r : List T} (hc : IsCnt W t (c + 1)) (hs : Pre W t s) (hcs : IsCnt W (t.drop s) c) (hmax : ∀ s', Pre W t s' → IsCnt W (t.drop s') c → s' ≤ s) (hr : IsBest W (t.drop s) r) : IsBest W t (t.take s :: r) := by
  have hrow := row_step hs.1 hs.2 hr.1
  have hlen : r.length = c := cnt_unique (best_cnt hr) hcs
  refine ⟨hrow, fun o ho => ?_⟩
  have hmin := hc.2 o ho
  unfold beats
  by_cases e : (t.take s :: r).length = o.length
  · rw [if_pos e]
    cases o with
    | nil => cases e
    | cons w o =>
      obtain ⟨hp, ew⟩ := pre_of ho
      obtain ⟨_, _, ho'⟩ := row_inv ho
      show (if t.take s = w then beatsL r o else decide (w.length < (t.take s).length)) = true
      have le : r.length = o.length := by simpa using e
      by_cases ew2 : t.take s = w
      · rw [if_pos ew2]
        have hsw : w.length = s := by
          rw [← ew2, List.length_take]
          exact Nat.min_eq_left hs.1
        rw [hsw] at ho'
        have q := hr.2 o ho'
        unfold beats at q
        rw [if_pos le] at q
        exact q
      · rw [if_neg ew2]
        have hcw : IsCnt W (t.drop w.length) c := by
          refine ⟨⟨o, ho', by omega⟩, fun p hp2 => ?_⟩
          have q := hc.2 _ (row_step hp.1 hp.2 hp2)
          rw [List.length_cons] at q
          omega
        have q := hmax _ hp hcw
        have ne : w.length ≠ s := fun h => ew2 (by rw [ew, h])
        rw [List.length_take, Nat.min_eq_left hs.1]
        exact decide_eq_true (by omega)
  · rw [if_neg e]
    rw [List.length_cons] at e ⊢
    exact decide_eq_true (by omega)
/-- candidates word by word: r beats all rows that begin with a seen word and go on at best -/
theorem best_of {r : List T} (ht : t ≠ []) (hr : Row W t r) (g : Nat → List T) (hg : ∀ s, Pre W t s → IsBest W (t.drop s) (g s)) (hb : ∀ s, Pre W t s → beats r (t.take s :: g s) = true) : IsBest W t r := by
  refine ⟨hr, fun o ho => ?_⟩
  cases o with
  | nil =>
    exact absurd ho.1.symm ht
  | cons w o =>
    obtain ⟨hp, ew⟩ := pre_of ho
    obtain ⟨_, _, ho'⟩ := row_inv ho
    have q1 := hb _ hp
    have q2 := (hg _ hp).2 o ho'
    rw [← ew] at q1
    have hrow : Row W t (w :: g w.length) := by
      have q := row_step hp.1 hp.2 (hg _ hp).1
      rw [← ew] at q
      exact q
    refine beats_trans hr hrow ho q1 ?_
    unfold beats at q2 ⊢
    by_cases e : (g w.length).length = o.length
    · rw [if_pos e] at q2
      rw [if_pos (by rw [List.length_cons, List.length_cons, e])]
      show (if w = w then beatsL (g w.length) o else _) = true
      rw [if_pos rfl]
      exact q2
    · rw [if_neg e] at q2
      have q2 := of_decide_eq_true q2
      rw [if_neg (by rw [List.length_cons, List.length_cons]; omega)]
      exact decide_eq_true (by rw [List.length_cons, List.length_cons]; omega)
end
end PL

set_option Elab.async false
set_option linter.all false
/-! # Longest words from both ends -/
namespace PL
def MaxPre (W : T → Prop) (t : T) (s : Nat) : Prop := Pre W t s ∧ ∀ s', Pre W t s' → s' ≤ s
inductive Ahead (W : T → Prop) : T → Nat → Prop
  | nil : Ahead W [] 0
  | step {t : T} {s n : Nat} : t ≠ [] → MaxPre W t s → Ahead W (t.drop s) n → Ahead W t (n + 1)
theorem ahead_unique {W : T → Prop} : ∀ {t : T} {a b : Nat}, Ahead W t a → Ahead W t b → a = b := by
  intro t a b h
  induction h generalizing b with
  | nil =>
    intro h2
    cases h2 with
    | nil => rfl
    | step h _ _ => exact absurd rfl h
  | @step t s n hne hm ha ih =>
    intro h2
    cases h2 with
    | nil => exact absurd rfl hne
    | @step _ s' n' _ hm' ha' =>
      have e : s = s' := Nat.le_antisymm (hm'.2 s hm.1) (hm.2 s' hm'.1)
      subst e
      rw [ih ha']
def Suf (W : T → Prop) (t : T) (s : Nat) : Prop := s ≤ t.length ∧ W (t.drop (t.length - s))
def MaxSuf (W : T → Prop) (t : T) (s : Nat) : Prop := Suf W t s ∧ ∀ s', Suf W t s' → s' ≤ s
inductive Behind (W : T → Prop) : T → Nat → Prop
  | nil : Behind W [] 0
  | step {t : T} {s n : Nat} : t ≠ [] → MaxSuf W t s → Behind W (t.take (t.length - s)) n → Behind W t (n + 1)
theorem behind_unique {W : T → Prop} : ∀ {t : T} {a b : Nat}, Behind W t a → Behind W t b → a = b := by
  intro t a b h
  induction h generalizing b with
  | nil =>
    intro h2
    cases h2 with
    | nil => rfl
    | step h _ _ => exact absurd rfl h
  | @step t s n hne hm ha ih =>
    intro h2
    cases h2 with
    | nil => exact absurd rfl hne
    | @step _ s' n' _ hm' ha' =>
      have e : s = s' := Nat.le_antisymm (hm'.2 s hm.1) (hm.2 s' hm'.1)
      subst e
      rw [ih ha']
/-- rows grown at the end and at the beginning -/
theorem row_snoc {W : T → Prop} {u w : T} {r : List T} (h : Row W u r) (hw : W w) : Row W (u ++ w) (r ++ [w]) := by
  refine ⟨by rw [List.flatten_append, h.1]; simp, fun x hx => ?_⟩
  rcases List.mem_append.mp hx with hx | hx
  · exact h.2 x hx
  · rw [List.mem_singleton.mp hx]; exact hw
theorem take_grow (t : T) (a s : Nat) : t.take a ++ (t.drop a).take s = t.take (a + s) := by
  rw [List.take_add]
theorem drop_grow (t : T) (a s : Nat) (h : s ≤ a) : (t.drop (a - s)).take s ++ t.drop a = t.drop (a - s) := by
  have e := List.take_append_drop s (t.drop (a - s))
  rw [List.drop_drop, show a - s + s = a by omega] at e
  exact e
end PL

set_option Elab.async false
set_option linter.all false
/-! # All rows of a text, the best of the rests: step by step -/
namespace PL
theorem nodup_lt : ∀ (n : Nat) (l : List Nat), l.Nodup → (∀ x ∈ l, x < n) → l.length ≤ n
  | 0, l, _, h => by
    cases l with
    | nil => exact Nat.le_refl _
    | cons x r => exact absurd (h x List.mem_cons_self) (by omega)
  | n + 1, l, hn, h => by
    by_cases hm : n ∈ l
    · have q := nodup_lt n (l.erase n) (hn.erase n) (fun x hx => by
        have q1 := (hn.mem_erase_iff).1 hx
        have q2 := h x q1.2
        have q3 := q1.1
        omega)
      rw [List.length_erase_of_mem hm] at q
      omega
    · exact Nat.le_trans (nodup_lt n l hn fun x hx => by
        have q := h x hx
        have ne : x ≠ n := fun e => hm (e ▸ hx)
        omega) (by omega)
/-- w begins u -/
def pre (u w : T) : Bool := decide (w.length ≤ u.length ∧ u.take w.length = w)
theorem pre_iff {u w : T} : pre u w = true ↔ w.length ≤ u.length ∧ u.take w.length = w := by
  unfold pre
  exact decide_eq_true_iff
theorem pre_few {u : T} {ws : List T} (hn : ws.Nodup) (hl : ∀ w ∈ ws, w.length ≤ 6) : (ws.filter (pre u)).length ≤ 7 := by
  have h := nodup_lt 7 ((ws.filter (pre u)).map List.length) ?_ ?_
  · rw [List.length_map] at h
    exact h
  · show List.Pairwise _ _
    rw [List.pairwise_map]
    refine (List.Pairwise.filter _ hn).imp_of_mem fun {a b} ha hb hne e => hne ?_
    have qa := (pre_iff.1 (List.mem_filter.mp ha).2).2
    have qb := (pre_iff.1 (List.mem_filter.mp hb).2).2
    rw [← qa, ← qb, e]
  · intro x hx
    obtain ⟨w, hw, rfl⟩ := List.mem_map.mp hx
    have := hl w (List.mem_filter.mp hw).1
    omega
theorem pre_take {u : T} {ws : List T} {i : Nat} : ((ws.take i).filter (pre u)).length ≤ (ws.filter (pre u)).length :=
  ((List.take_sublist i ws).filter _).length_le
section
variable {W : T → Prop} {u : T} {wl : List T}
theorem pre_Pre (hW : ∀ w, W w ↔ w ∈ wl) {w : T} (hw : w ∈ wl) (hp : pre u w = true) : Pre W u w.length ∧ u.take w.length = w := by
  obtain ⟨h1, h2⟩ := pre_iff.1 hp
  exact ⟨⟨h1, by rw [h2]; exact (hW w).2 hw⟩, h2⟩
theorem Pre_pre (hW : ∀ w, W w ↔ w ∈ wl) {s : Nat} (h : Pre W u s) : u.take s ∈ wl ∧ pre u (u.take s) = true ∧ (u.take s).length = s := by
  have e : (u.take s).length = s := by
    rw [List.length_take]
    exact Nat.min_eq_left h.1
  refine ⟨(hW _).1 h.2, pre_iff.2 ⟨by rw [e]; exact h.1, by rw [e]⟩, e⟩
theorem all_step (hW : ∀ w, W w ↔ w ∈ wl) (hu : u ≠ []) {R : List (List T)} (h : ∀ r, r ∈ R ↔ ∃ w ∈ wl, pre u w = true ∧ ∃ o, r = w :: o ∧ Row W (u.drop w.length) o) (r : List T) : r ∈ R ↔ Row W u r := by
  rw [h]
  constructor
  · rintro ⟨w, hw, hp, o, rfl, ho⟩
    obtain ⟨h1, h2⟩ := pre_Pre hW hw hp
    have q := row_step h1.1 h1.2 ho
    rw [h2] at q
    exact q
  · intro hr
    cases r with
    | nil => exact absurd hr.1.symm hu
    | cons w o =>
      obtain ⟨hw, _, ho⟩ := row_inv hr
      obtain ⟨hp, e⟩ := pre_of hr
      exact ⟨w, (hW w).1 hw, pre_iff.2 ⟨hp.1, e.symm⟩, o, rfl, ho⟩
/-- the best of the rests, word by word -/
theorem rest_best (hW : ∀ w, W w ↔ w ∈ wl) (hu : u ≠ []) {g : Nat → List T} (hg : ∀ s, Pre W u s → IsBest W (u.drop s) (g s)) {r : List T} (hr : ∃ w ∈ wl, pre u w = true ∧ r = w :: g w.length) (hb : ∀ w ∈ wl, pre u w = true → beats r (w :: g w.length) = true) : IsBest W u r := by
  refine best_of hu ?_ g hg fun s hs => ?_
  · obtain ⟨w, hw, hp, rfl⟩ := hr
    obtain ⟨h1, h2⟩ := pre_Pre hW hw hp
    have q := row_step h1.1 h1.2 (hg _ h1).1
    rw [h2] at q
    exact q
  · obtain ⟨h1, h2, h3⟩ := Pre_pre hW hs
    have q := hb _ h1 h2
    rw [h3] at q
    exact q
end
theorem row_len {W : T → Prop} (hne : ∀ w, W w → w ≠ []) : ∀ {r : List T} {t : T}, Row W t r → r.length ≤ t.length
  | [], t, _ => Nat.zero_le _
  | w :: r, t, h => by
    obtain ⟨hw, e, h2⟩ := row_inv h
    have q := row_len hne h2
    have p := (pre_of h).1.1
    have w1 : 1 ≤ w.length := by
      cases w with
      | nil => exact absurd rfl (hne _ hw)
      | cons a b => simp
    rw [List.length_drop] at q
    rw [List.length_cons]
    omega
theorem row_mem {W : T → Prop} {r : List T} {t : T} (h : Row W t r) : ∀ w ∈ r, W w := h.2
end PL

set_option Elab.async false
set_option linter.all false
/-! # All rows as a list, their weights -/
namespace PL
section
variable (wl : List T) (pr : T → Nat)
def Rf : Nat → T → List (List T)
  | 0, _ => [[]]
  | n + 1, u => if u = [] then [[]] else (wl.filter (pre u)).flatMap fun w => (Rf n (u.drop w.length)).map (w :: ·)
/-- all rows of words with the text u, in the order of the words -/
def Rs (u : T) : List (List T) := Rf wl u.length u
/-- the sum of f over the words that begin u -/
def sw (u : T) (f : T → Nat) : Nat := ((wl.filter (pre u)).map f).sum
def Sf : Nat → T → Nat
  | 0, _ => 1
  | n + 1, u => if u = [] then 1 else sw wl u fun w => Sf n (u.drop w.length) * 2 ^ (9 * w.length - pr w)
/-- the weight of u, times 2 ^ (9 |u|) -/
def Sw (u : T) : Nat := Sf wl pr u.length u
def cost (r : List T) : Nat := (r.map pr).sum
end
theorem flat_congr {α β : Type} {l : List α} {f g : α → List β} (h : ∀ a ∈ l, f a = g a) : l.flatMap f = l.flatMap g := by
  induction l with
  | nil => rfl
  | cons a l ih =>
    rw [List.flatMap_cons, List.flatMap_cons, h a List.mem_cons_self, ih fun b hb => h b (List.mem_cons_of_mem _ hb)]
theorem sum_congr {α : Type} {l : List α} {f g : α → Nat} (h : ∀ a ∈ l, f a = g a) : (l.map f).sum = (l.map g).sum := by
  rw [List.map_congr_left h]
theorem sum_flat {α β : Type} {l : List α} {g : α → List β} {f : β → Nat} : ((l.flatMap g).map f).sum = (l.map fun w => ((g w).map f).sum).sum := by
  induction l with
  | nil => rfl
  | cons a l ih => rw [List.flatMap_cons, List.map_append, List.sum_append, ih, List.map_cons, List.sum_cons]
theorem sum_mul {α : Type} {l : List α} {f : α → Nat} {c : Nat} : (l.map f).sum * c = (l.map fun a => f a * c).sum := by
  induction l with
  | nil => exact Nat.zero_mul _
  | cons a l ih => rw [List.map_cons, List.sum_cons, Nat.add_mul, ih, List.map_cons, List.sum_cons]
theorem sum_filter {α : Type} {l : List α} {p : α → Bool} {f : α → Nat} : ((l.filter p).map f).sum = (l.map fun a => if p a = true then f a else 0).sum := by
  induction l with
  | nil => rfl
  | cons a l ih =>
    rw [List.map_cons, List.sum_cons, ← ih, List.filter_cons]
    by_cases h : p a = true
    · rw [if_pos h, if_pos h, List.map_cons, List.sum_cons]
    · rw [if_neg h, if_neg h, Nat.zero_add]
theorem sum_le {α : Type} {l : List α} {f : α → Nat} {b : Nat} (h : ∀ a ∈ l, f a ≤ b) : (l.map f).sum ≤ l.length * b := by
  induction l with
  | nil => exact Nat.zero_le _
  | cons a l ih =>
    rw [List.map_cons, List.sum_cons, List.length_cons, Nat.add_mul, Nat.one_mul]
    have := h a List.mem_cons_self
    have := ih fun b hb => h b (List.mem_cons_of_mem _ hb)
    omega
theorem le_sum {α : Type} {l : List α} {f : α → Nat} {a : α} (h : a ∈ l) : f a ≤ (l.map f).sum := by
  induction l with
  | nil => cases h
  | cons b l ih =>
    rw [List.map_cons, List.sum_cons]
    rcases List.mem_cons.mp h with rfl | h
    · omega
    · have := ih h
      omega
section
variable {wl : List T} {pr : T → Nat}
theorem pre_le {u w : T} (h : pre u w = true) : w.length ≤ u.length := (pre_iff.1 h).1
theorem mem_pre {u w : T} (h : w ∈ wl.filter (pre u)) : w ∈ wl ∧ pre u w = true := List.mem_filter.mp h
theorem Rf_eq (hne : ∀ w ∈ wl, 1 ≤ w.length) : ∀ (n m : Nat) (u : T), u.length ≤ n → u.length ≤ m → Rf wl n u = Rf wl m u
  | 0, m, u, h, _ => by
    obtain rfl := List.eq_nil_of_length_eq_zero (Nat.le_zero.mp h)
    cases m with
    | zero => rfl
    | succ m =>
      show _ = if ([] : T) = [] then [[]] else _
      rw [if_pos rfl]
      rfl
  | n + 1, 0, u, _, h => by
    obtain rfl := List.eq_nil_of_length_eq_zero (Nat.le_zero.mp h)
    show (if ([] : T) = [] then [[]] else _) = _
    rw [if_pos rfl]
    rfl
  | n + 1, m + 1, u, h1, h2 => by
    show (if u = [] then [[]] else _) = if u = [] then [[]] else _
    by_cases e : u = []
    · rw [if_pos e, if_pos e]
    · rw [if_neg e, if_neg e]
      refine flat_congr fun w hw => ?_
      have q := mem_pre hw
      have q1 := hne w q.1
      have q2 := pre_le q.2
      rw [Rf_eq hne n m _ (by rw [List.length_drop]; omega) (by rw [List.length_drop]; omega)]
theorem Rs_nil : Rs wl [] = [[]] := rfl
theorem Rs_eq (hne : ∀ w ∈ wl, 1 ≤ w.length) {u : T} (hu : u ≠ []) : Rs wl u = (wl.filter (pre u)).flatMap fun w => (Rs wl (u.drop w.length)).map (w :: ·) := by
  have h0 : u.length ≠ 0 := fun e => hu (List.eq_nil_of_length_eq_zero e)
  obtain ⟨n, hn⟩ : ∃ n, u.length = n + 1 := ⟨u.length - 1, by omega⟩
  unfold Rs
  rw [hn]
  show (if u = [] then [[]] else _) = _
  rw [if_neg hu]
  refine flat_congr fun w hw => ?_
  have q := mem_pre hw
  have q1 := hne w q.1
  have q2 := pre_le q.2
  rw [Rf_eq hne n (u.drop w.length).length _ (by rw [List.length_drop]; omega) (Nat.le_refl _)]
theorem Sf_eq (hne : ∀ w ∈ wl, 1 ≤ w.length) : ∀ (n m : Nat) (u : T), u.length ≤ n → u.length ≤ m → Sf wl pr n u = Sf wl pr m u
  | 0, m, u, h, _ => by
    obtain rfl := List.eq_nil_of_length_eq_zero (Nat.le_zero.mp h)
    cases m with
    | zero => rfl
    | succ m =>
      show _ = if ([] : T) = [] then 1 else _
      rw [if_pos rfl]
      rfl
  | n + 1, 0, u, _, h => by
    obtain rfl := List.eq_nil_of_length_eq_zero (Nat.le_zero.mp h)
    show (if ([] : T) = [] then 1 else _) = _
    rw [if_pos rfl]
    rfl
  | n + 1, m + 1, u, h1, h2 => by
    show (if u = [] then 1 else _) = if u = [] then 1 else _
    by_cases e : u = []
    · rw [if_pos e, if_pos e]
    · rw [if_neg e, if_neg e]
      refine sum_congr fun w hw => ?_
      have q := mem_pre hw
      have q1 := hne w q.1
      have q2 := pre_le q.2
      rw [Sf_eq hne n m _ (by rw [List.length_drop]; omega) (by rw [List.length_drop]; omega)]
theorem Sw_nil : Sw wl pr [] = 1 := rfl
theorem Sw_eq (hne : ∀ w ∈ wl, 1 ≤ w.length) {u : T} (hu : u ≠ []) : Sw wl pr u = sw wl u fun w => Sw wl pr (u.drop w.length) * 2 ^ (9 * w.length - pr w) := by
  have h0 : u.length ≠ 0 := fun e => hu (List.eq_nil_of_length_eq_zero e)
  obtain ⟨n, hn⟩ : ∃ n, u.length = n + 1 := ⟨u.length - 1, by omega⟩
  unfold Sw
  rw [hn]
  show (if u = [] then 1 else _) = _
  rw [if_neg hu]
  refine sum_congr fun w hw => ?_
  have q := mem_pre hw
  have q1 := hne w q.1
  have q2 := pre_le q.2
  rw [Sf_eq hne n (u.drop w.length).length _ (by rw [List.length_drop]; omega) (Nat.le_refl _)]
theorem Rs_mem {W : T → Prop} (hW : ∀ w, W w ↔ w ∈ wl) (hne : ∀ w ∈ wl, 1 ≤ w.length) : ∀ (n : Nat) (u : T), u.length ≤ n → ∀ r, r ∈ Rs wl u ↔ Row W u r := by
  intro n
  induction n with
  | zero =>
    intro u h r
    obtain rfl := List.eq_nil_of_length_eq_zero (Nat.le_zero.mp h)
    rw [Rs_nil, List.mem_singleton]
    constructor
    · rintro rfl
      exact row_nil
    · exact row_of_nil fun w hw e => by
        have := hne w ((hW w).1 hw)
        rw [e] at this
        cases this
  | succ n ih =>
    intro u h r
    by_cases hu : u = []
    · subst hu
      rw [Rs_nil, List.mem_singleton]
      constructor
      · rintro rfl
        exact row_nil
      · exact row_of_nil fun w hw e => by
          have := hne w ((hW w).1 hw)
          rw [e] at this
          cases this
    · refine all_step hW hu (fun r => ?_) r
      rw [Rs_eq hne hu, List.mem_flatMap]
      constructor
      · rintro ⟨w, hw, h2⟩
        have q := mem_pre hw
        obtain ⟨o, ho, rfl⟩ := List.mem_map.mp h2
        have q1 := hne w q.1
        exact ⟨w, q.1, q.2, o, rfl, (ih _ (by rw [List.length_drop]; omega) o).1 ho⟩
      · rintro ⟨w, hw, hp, o, rfl, ho⟩
        have q1 := hne w hw
        exact ⟨w, List.mem_filter.mpr ⟨hw, hp⟩, List.mem_map.mpr ⟨o, (ih _ (by rw [List.length_drop]; omega) o).2 ho, rfl⟩⟩
theorem Rs_len (hne : ∀ w ∈ wl, 1 ≤ w.length) (hn : wl.Nodup) (h6 : ∀ w ∈ wl, w.length ≤ 6) : ∀ (n : Nat) (u : T), u.length ≤ n → (Rs wl u).length ≤ 7 ^ u.length := by
  intro n
  induction n with
  | zero =>
    intro u h
    obtain rfl := List.eq_nil_of_length_eq_zero (Nat.le_zero.mp h)
    exact Nat.le_refl _
  | succ n ih =>
    intro u h
    by_cases hu : u = []
    · subst hu
      exact Nat.le_refl _
    · rw [Rs_eq hne hu, List.length_flatMap]
      have h7 := pre_few (u := u) hn h6
      have hu0 : 1 ≤ u.length := by
        rcases Nat.eq_zero_or_pos u.length with e | e
        · exact absurd (List.eq_nil_of_length_eq_zero e) hu
        · exact e
      have : (((wl.filter (pre u)).map fun w => ((Rs wl (u.drop w.length)).map (w :: ·)).length)).sum ≤ (wl.filter (pre u)).length * 7 ^ (u.length - 1) := by
        refine sum_le fun w hw => ?_
        have q := mem_pre hw
        have q1 := hne w q.1
        have q2 := pre_le q.2
        rw [List.length_map]
        refine Nat.le_trans (ih _ (by rw [List.length_drop]; omega)) (Nat.pow_le_pow_right (by decide) ?_)
        rw [List.length_drop]
        omega
      refine Nat.le_trans this ?_
      have e : 7 ^ u.length = 7 * 7 ^ (u.length - 1) := by
        rw [show u.length = u.length - 1 + 1 by omega, Nat.pow_succ, Nat.mul_comm, Nat.add_sub_cancel]
      rw [e]
      exact Nat.mul_le_mul_right _ h7
theorem cost_le (h9 : ∀ w ∈ wl, pr w ≤ 9) (hne : ∀ w ∈ wl, 1 ≤ w.length) : ∀ {r : List T} {u : T}, Row (· ∈ wl) u r → cost pr r ≤ 9 * u.length
  | [], u, _ => Nat.zero_le _
  | w :: r, u, h => by
    obtain ⟨hw, e, h2⟩ := row_inv h
    have q := cost_le h9 hne h2
    have p := (pre_of h).1.1
    have q1 := h9 w hw
    have q2 := hne w hw
    rw [List.length_drop] at q
    unfold cost at q ⊢
    rw [List.map_cons, List.sum_cons]
    omega
theorem sum_Rs (hne : ∀ w ∈ wl, 1 ≤ w.length) {u : T} (hu : u ≠ []) (f : List T → Nat) : ((Rs wl u).map f).sum = sw wl u fun w => ((Rs wl (u.drop w.length)).map fun o => f (w :: o)).sum := by
  rw [Rs_eq hne hu, sum_flat]
  unfold sw
  refine sum_congr fun w hw => ?_
  rw [List.map_map]
  rfl
theorem step_sum (h9 : ∀ w ∈ wl, pr w ≤ 9) (hne : ∀ w ∈ wl, 1 ≤ w.length) {u w : T} (hw : w ∈ wl) (hp : pre u w = true) (g : List T → Bool) :
    ((Rs wl (u.drop w.length)).map fun o => if g o = true then 2 ^ (9 * u.length - cost pr (w :: o)) else 0).sum = ((Rs wl (u.drop w.length)).map fun o => if g o = true then 2 ^ (9 * (u.drop w.length).length - cost pr o) else 0).sum * 2 ^ (9 * w.length - pr w) := by
  rw [sum_mul]
  refine sum_congr fun o ho => ?_
  have hr := (Rs_mem (W := (· ∈ wl)) (fun _ => Iff.rfl) hne _ _ (Nat.le_refl _) o).1 ho
  have hc := cost_le h9 hne hr
  by_cases h : g o = true
  · rw [if_pos h, if_pos h, ← Nat.pow_add]
    congr 1
    have q1 := h9 w hw
    have q2 := hne w hw
    have q3 := pre_le hp
    rw [List.length_drop] at hc ⊢
    have e : cost pr (w :: o) = pr w + cost pr o := by
      unfold cost
      rw [List.map_cons, List.sum_cons]
    rw [e]
    omega
  · rw [if_neg h, if_neg h, Nat.zero_mul]
theorem S_sum (h9 : ∀ w ∈ wl, pr w ≤ 9) (hne : ∀ w ∈ wl, 1 ≤ w.length) : ∀ (n : Nat) (u : T), u.length ≤ n → ((Rs wl u).map fun r => if true = true then 2 ^ (9 * u.length - cost pr r) else 0).sum = Sw wl pr u := by
  intro n
  induction n with
  | zero =>
    intro u h
    obtain rfl := List.eq_nil_of_length_eq_zero (Nat.le_zero.mp h)
    rfl
  | succ n ih =>
    intro u h
    by_cases hu : u = []
    · subst hu
      rfl
    · rw [sum_Rs hne hu, Sw_eq hne hu]
      unfold sw
      refine sum_congr fun w hw => ?_
      have q := mem_pre hw
      have q1 := hne w q.1
      rw [step_sum h9 hne q.1 q.2 (fun _ => true), ih _ (by rw [List.length_drop]; omega)]
/-- is a row cut at p, a letters stand ahead of it -/
def cutFrom : Nat → List T → Nat → Bool
  | _, [], _ => false
  | a, w :: r, p => decide (a + w.length = p) || cutFrom (a + w.length) r p
theorem cutFrom_past : ∀ {r : List T} {a p : Nat}, (∀ w ∈ r, 1 ≤ w.length) → p ≤ a → cutFrom a r p = false
  | [], _, _, _, _ => rfl
  | w :: r, a, p, hn, h => by
    have q := hn w List.mem_cons_self
    show (decide (a + w.length = p) || cutFrom (a + w.length) r p) = false
    rw [decide_eq_false (by omega), cutFrom_past (fun x hx => hn x (List.mem_cons_of_mem _ hx)) (by omega)]
    rfl
theorem cutFrom_shift : ∀ {r : List T} {a b p : Nat}, cutFrom (a + b) r (p + b) = cutFrom a r p
  | [], _, _, _ => rfl
  | w :: r, a, b, p => by
    show (decide (a + b + w.length = p + b) || cutFrom (a + b + w.length) r (p + b)) = (decide (a + w.length = p) || cutFrom (a + w.length) r p)
    rw [show a + b + w.length = a + w.length + b by omega, cutFrom_shift]
    congr 1
    exact decide_eq_decide.2 (by omega)
theorem take_pre {u w : T} {p : Nat} (h : pre (u.take p) w = true) : pre u w = true ∧ w.length ≤ p := by
  obtain ⟨h1, h2⟩ := pre_iff.1 h
  rw [List.length_take] at h1
  rw [List.take_take, Nat.min_eq_left (by omega)] at h2
  exact ⟨pre_iff.2 ⟨by omega, h2⟩, by omega⟩
theorem pre_takeP {u w : T} {p : Nat} (h : pre u w = true) (hp : w.length ≤ p) : pre (u.take p) w = true := by
  obtain ⟨h1, h2⟩ := pre_iff.1 h
  refine pre_iff.2 ⟨by rw [List.length_take]; omega, ?_⟩
  rw [List.take_take, Nat.min_eq_left hp]
  exact h2
theorem C_sum (h9 : ∀ w ∈ wl, pr w ≤ 9) (hne : ∀ w ∈ wl, 1 ≤ w.length) : ∀ (n : Nat) (u : T) (p : Nat), u.length ≤ n → 0 < p → p < u.length → ((Rs wl u).map fun r => if cutFrom 0 r p = true then 2 ^ (9 * u.length - cost pr r) else 0).sum = Sw wl pr (u.take p) * Sw wl pr (u.drop p) := by
  intro n
  induction n with
  | zero =>
    intro u p h h1 h2
    omega
  | succ n ih =>
    intro u p h h1 h2
    have hu : u ≠ [] := fun e => by
      rw [e] at h2
      cases h2
    have ht : u.take p ≠ [] := fun e => by
      have := congrArg List.length e
      rw [List.length_take, List.length_nil] at this
      omega
    rw [sum_Rs hne hu, Sw_eq hne ht]
    unfold sw
    rw [sum_filter, sum_filter, sum_mul]
    refine sum_congr fun w hw => ?_
    have q1 := hne w hw
    by_cases hp : pre u w = true
    · have hpl := pre_le hp
      rw [if_pos hp]
      have e0 : ∀ o : List T, cutFrom 0 (w :: o) p = (decide (w.length = p) || cutFrom w.length o p) := fun o => by
        show (decide (0 + w.length = p) || cutFrom (0 + w.length) o p) = _
        rw [Nat.zero_add]
      rw [step_sum h9 hne hw hp (fun o => cutFrom 0 (w :: o) p)]
      rcases Nat.lt_trichotomy w.length p with hl | hl | hl
      · rw [if_pos (pre_takeP hp (by omega))]
        have e1 : ((Rs wl (u.drop w.length)).map fun o => if cutFrom 0 (w :: o) p = true then 2 ^ (9 * (u.drop w.length).length - cost pr o) else 0).sum = ((Rs wl (u.drop w.length)).map fun o => if cutFrom 0 o (p - w.length) = true then 2 ^ (9 * (u.drop w.length).length - cost pr o) else 0).sum := by
          refine sum_congr fun o _ => ?_
          have e2 : cutFrom 0 (w :: o) p = cutFrom 0 o (p - w.length) := by
            rw [e0, decide_eq_false (by omega), Bool.false_or, ← cutFrom_shift (a := 0) (b := w.length), Nat.zero_add, Nat.sub_add_cancel (by omega)]
          rw [e2]
        rw [e1, ih _ _ (by rw [List.length_drop]; omega) (by omega) (by rw [List.length_drop]; omega)]
        have e3 : (u.drop w.length).take (p - w.length) = (u.take p).drop w.length := by
          rw [List.drop_take]
        rw [e3, List.drop_drop, show w.length + (p - w.length) = p by omega, Nat.mul_right_comm]
      · rw [if_pos (pre_takeP hp (by omega))]
        have e1 : ((Rs wl (u.drop w.length)).map fun o => if cutFrom 0 (w :: o) p = true then 2 ^ (9 * (u.drop w.length).length - cost pr o) else 0).sum = Sw wl pr (u.drop w.length) := by
          rw [← S_sum h9 hne _ _ (Nat.le_refl _)]
          refine sum_congr fun o _ => ?_
          rw [e0, decide_eq_true hl, Bool.true_or]
        rw [e1, ← hl]
        have e2 : (u.take w.length).drop w.length = [] := by
          rw [List.drop_take, Nat.sub_self, List.take_zero]
        rw [e2, Sw_nil, Nat.one_mul, Nat.mul_comm]
      · rw [if_neg (fun e => by have := (take_pre e).2; omega), Nat.zero_mul]
        have e1 : ((Rs wl (u.drop w.length)).map fun o => if cutFrom 0 (w :: o) p = true then 2 ^ (9 * (u.drop w.length).length - cost pr o) else 0).sum = ((Rs wl (u.drop w.length)).map fun _ => 0 * 0).sum := by
          refine sum_congr fun o ho => ?_
          have hr := (Rs_mem (W := (· ∈ wl)) (fun _ => Iff.rfl) hne _ _ (Nat.le_refl _) o).1 ho
          rw [e0, decide_eq_false (by omega), cutFrom_past (fun x hx => hne x (hr.2 x hx)) (by omega)]
          rfl
        rw [e1]
        have : ((Rs wl (u.drop w.length)).map fun _ => 0 * 0).sum ≤ _ := sum_le (b := 0) fun _ _ => Nat.le_refl _
        have e2 : ((Rs wl (u.drop w.length)).map fun _ => 0 * 0).sum = 0 := by omega
        rw [e2, Nat.zero_mul]
    · rw [if_neg hp, if_neg (fun e => hp (take_pre e).1), Nat.zero_mul]
/-- by the lengths of the words that begin u -/
theorem S_lens (hne : ∀ w ∈ wl, 1 ≤ w.length) (hn : wl.Nodup) {u : T} (hu : u ≠ []) {ss : List Nat} (hs : ss.Nodup) (hm : ∀ s, s ∈ ss ↔ Pre (· ∈ wl) u s) : (ss.map fun s => Sw wl pr (u.drop s) * 2 ^ (9 * s - pr (u.take s))).sum = Sw wl pr u := by
  have hp : ((wl.filter (pre u)).map List.length).Perm ss := by
    refine (List.perm_ext_iff_of_nodup ?_ hs).2 fun s => ?_
    · show List.Pairwise _ _
      rw [List.pairwise_map]
      refine (List.Pairwise.filter _ hn).imp_of_mem fun {a b} ha hb h e => h ?_
      have qa := (pre_iff.1 (List.mem_filter.mp ha).2).2
      have qb := (pre_iff.1 (List.mem_filter.mp hb).2).2
      rw [← qa, ← qb, e]
    · rw [hm, List.mem_map]
      constructor
      · rintro ⟨w, hw, rfl⟩
        have q := mem_pre hw
        exact (pre_Pre (W := (· ∈ wl)) (fun _ => Iff.rfl) q.1 q.2).1
      · intro h
        obtain ⟨h1, h2, h3⟩ := Pre_pre (W := (· ∈ wl)) (fun _ => Iff.rfl) h
        exact ⟨_, List.mem_filter.mpr ⟨h1, h2⟩, h3⟩
  rw [← (hp.map _).sum_nat, List.map_map, Sw_eq hne hu]
  unfold sw
  refine sum_congr fun w hw => ?_
  have q := (pre_iff.1 (mem_pre hw).2).2
  show Sw wl pr (u.drop w.length) * 2 ^ (9 * w.length - pr (u.take w.length)) = _
  rw [q]
theorem S_bound (hne : ∀ w ∈ wl, 1 ≤ w.length) (hn : wl.Nodup) (h6 : ∀ w ∈ wl, w.length ≤ 6) : ∀ (n : Nat) (u : T), u.length ≤ n → Sw wl pr u ≤ 2 ^ (12 * u.length) := by
  intro n
  induction n with
  | zero =>
    intro u h
    obtain rfl := List.eq_nil_of_length_eq_zero (Nat.le_zero.mp h)
    exact Nat.le_refl _
  | succ n ih =>
    intro u h
    by_cases hu : u = []
    · subst hu
      exact Nat.le_refl _
    · rw [Sw_eq hne hu]
      have h7 := pre_few (u := u) hn h6
      have hu0 : 1 ≤ u.length := by
        rcases Nat.eq_zero_or_pos u.length with e | e
        · exact absurd (List.eq_nil_of_length_eq_zero e) hu
        · exact e
      have : sw wl u (fun w => Sw wl pr (u.drop w.length) * 2 ^ (9 * w.length - pr w)) ≤ (wl.filter (pre u)).length * 2 ^ (12 * u.length - 3) := by
        refine sum_le fun w hw => ?_
        have q := mem_pre hw
        have q1 := hne w q.1
        have q2 := pre_le q.2
        have q3 := ih (u.drop w.length) (by rw [List.length_drop]; omega)
        refine Nat.le_trans (Nat.mul_le_mul_right _ q3) ?_
        rw [← Nat.pow_add]
        refine Nat.pow_le_pow_right (by decide) ?_
        rw [List.length_drop]
        omega
      refine Nat.le_trans this ?_
      have e : 2 ^ (12 * u.length) = 8 * 2 ^ (12 * u.length - 3) := by
        have : 12 * u.length = 3 + (12 * u.length - 3) := by omega
        rw [show (8 : Nat) = 2 ^ 3 from rfl, ← Nat.pow_add, ← this]
      rw [e]
      exact Nat.mul_le_mul_right _ (by omega)
theorem S_pos (hne : ∀ w ∈ wl, 1 ≤ w.length) : ∀ (n : Nat) (u : T), u.length ≤ n → (∀ c ∈ u, [c] ∈ wl) → 1 ≤ Sw wl pr u := by
  intro n
  induction n with
  | zero =>
    intro u h _
    obtain rfl := List.eq_nil_of_length_eq_zero (Nat.le_zero.mp h)
    exact Nat.le_refl _
  | succ n ih =>
    intro u h hc
    cases u with
    | nil => exact Nat.le_refl _
    | cons c u =>
      rw [Sw_eq hne (by simp)]
      have hm : [c] ∈ wl.filter (pre (c :: u)) := List.mem_filter.mpr ⟨hc c List.mem_cons_self, pre_iff.2 ⟨by simp, rfl⟩⟩
      refine Nat.le_trans ?_ (le_sum hm)
      have q := ih u (by simpa using h) fun d hd => hc d (List.mem_cons_of_mem _ hd)
      have : 1 ≤ 2 ^ (9 * [c].length - pr [c]) := Nat.one_le_two_pow
      exact Nat.mul_le_mul q this
end
/-! ### prices -/
def prc : List T → List Nat → T → Nat
  | w :: ws, c :: cs, u => if w = u then c else prc ws cs u
  | _, _, _ => 0
theorem prc_at : ∀ {wl : List T} {cs : List Nat} {i : Nat} {w : T} {c : Nat}, wl.Nodup → wl[i]? = some w → cs[i]? = some c → prc wl cs w = c
  | [], _, _, _, _, _, h, _ => by cases h
  | _ :: _, [], _, _, _, _, _, h => by cases h
  | v :: wl, d :: cs, 0, w, c, _, h1, h2 => by
    cases h1
    cases h2
    show (if v = v then d else _) = d
    rw [if_pos rfl]
  | v :: wl, d :: cs, i + 1, w, c, hn, h1, h2 => by
    have h1 : wl[i]? = some w := h1
    have ne : v ≠ w := fun e => by
      subst e
      exact (List.nodup_cons.mp hn).1 (List.mem_of_getElem? h1)
    show (if v = w then d else prc wl cs w) = c
    rw [if_neg ne]
    exact prc_at (List.nodup_cons.mp hn).2 h1 h2
theorem prc_le : ∀ {wl : List T} {cs : List Nat} {b : Nat} (w : T), (∀ c ∈ cs, c ≤ b) → prc wl cs w ≤ b
  | [], _, _, _, _ => Nat.zero_le _
  | _ :: _, [], _, _, _ => Nat.zero_le _
  | v :: wl, d :: cs, b, w, h => by
    show (if v = w then d else prc wl cs w) ≤ b
    by_cases e : v = w
    · rw [if_pos e]
      exact h d List.mem_cons_self
    · rw [if_neg e]
      exact prc_le w fun c hc => h c (List.mem_cons_of_mem _ hc)
end PL

set_option Elab.async false
set_option linter.all false
/-! # Shares in lowest terms; Euclid's rounds -/
namespace PL
theorem frac3 (a b : Nat) : (3 * a) / Nat.gcd (3 * a) (3 * b) = a / Nat.gcd a b ∧ (3 * b) / Nat.gcd (3 * a) (3 * b) = b / Nat.gcd a b := by
  rw [Nat.gcd_mul_left, Nat.mul_div_mul_left _ _ (by decide), Nat.mul_div_mul_left _ _ (by decide)]
  exact ⟨rfl, rfl⟩
theorem frac_ne {a b : Nat} (hb : 0 < b) : ¬ ((a + 1) / Nat.gcd (a + 1) b = a / Nat.gcd a b ∧ b / Nat.gcd (a + 1) b = b / Nat.gcd a b) := by
  rintro ⟨h1, h2⟩
  have d1 := Nat.gcd_dvd_right (a + 1) b
  have d2 := Nat.gcd_dvd_right a b
  have e1 := Nat.mul_div_cancel' d1
  have e2 := Nat.mul_div_cancel' d2
  have hq : 0 < b / Nat.gcd a b := by
    rcases Nat.eq_zero_or_pos (b / Nat.gcd a b) with e | e
    · rw [e, Nat.mul_zero] at e2
      omega
    · exact e
  rw [h2] at e1
  have e : Nat.gcd (a + 1) b = Nat.gcd a b := Nat.eq_of_mul_eq_mul_right hq (e1.trans e2.symm)
  have f1 := Nat.mul_div_cancel' (Nat.gcd_dvd_left (a + 1) b)
  have f2 := Nat.mul_div_cancel' (Nat.gcd_dvd_left a b)
  rw [h1, e, f2] at f1
  omega
theorem gcd_pos {a b : Nat} (hb : 0 < b) : 0 < Nat.gcd a b := Nat.gcd_pos_of_pos_right _ hb
theorem cast_div (a b : Nat) : (a : Int) / (b : Int) = ((a / b : Nat) : Int) := (Int.natCast_ediv a b).symm
theorem cast_mod (a b : Nat) : (a : Int) % (b : Int) = ((a % b : Nat) : Int) := (Int.natCast_emod a b).symm
theorem two_mod {g s : Nat} (hs : 0 < s) (h : s ≤ g) : 2 * (g % s) < g := by
  have h1 := Nat.mod_lt g hs
  have h2 := Nat.div_add_mod g s
  have h3 : 1 ≤ g / s := (Nat.one_le_div_iff hs).2 h
  have h4 : s * 1 ≤ s * (g / s) := Nat.mul_le_mul_left s h3
  omega
theorem sum_cast (l : List Nat) : (l.map fun (c : Nat) => (c : Int)).sum = ((l.sum : Nat) : Int) := by
  induction l with
  | nil => rfl
  | cons a l ih =>
    rw [List.map_cons, List.sum_cons, List.sum_cons, ih, Int.natCast_add]
end PL

set_option Elab.async false
set_option linter.all false
set_option maxRecDepth 100000
set_option maxHeartbeats 4000000
/-! # Texts by their code points; the lengths of the words at a place -/
namespace PH
open PySem PySem.Spec PyProof.Rows L2 PL
def mkS (u : List Nat) : Str := ⟨u.toArray⟩
theorem mkS_cps {u : List Nat} : (mkS u).cps.toList = u := by
  show u.toArray.toList = u
  simp
theorem mkS_of (x : Str) : mkS x.cps.toList = x := by
  obtain ⟨a⟩ := x
  show (⟨a.toList.toArray⟩ : Str) = ⟨a⟩
  simp
theorem cutS_mid (t : Str) (i j : Nat) (h : j ≤ t.cps.toList.length) : cutS t (some (i : Int)) (some (j : Int)) = mkS ((t.cps.toList.drop i).take (j - i)) := by
  unfold cutS mkS
  rw [HT.sIx_nat, HT.sIx_nat]
  have e : t.length = t.cps.toList.length := tl_len
  rw [e, Nat.min_eq_left h]
  by_cases hi : i ≤ t.cps.toList.length
  · rw [Nat.min_eq_left hi]
  · rw [Nat.min_eq_right (by omega), List.drop_length, List.drop_of_length_le (by omega), List.take_nil, List.take_nil]
/-- the numbers from m down to m - i + 1 that p takes -/
def downs (m : Nat) (p : Nat → Bool) (i : Nat) : List Nat := ((List.range i).map fun k => m - k).filter p
theorem downs_zero {m : Nat} {p : Nat → Bool} : downs m p 0 = [] := rfl
theorem downs_succ {m i : Nat} {p : Nat → Bool} : downs m p (i + 1) = downs m p i ++ (if p (m - i) = true then [m - i] else []) := by
  unfold downs
  rw [List.range_succ, List.map_append, List.filter_append]
  congr 1
  show List.filter p [m - i] = _
  by_cases h : p (m - i) = true
  · rw [if_pos h, List.filter_cons, if_pos h]
    rfl
  · rw [if_neg h, List.filter_cons, if_neg h]
    rfl
theorem downs_mem {m : Nat} {p : Nat → Bool} {s : Nat} : s ∈ downs m p m ↔ (1 ≤ s ∧ s ≤ m) ∧ p s = true := by
  unfold downs
  rw [List.mem_filter, List.mem_map]
  constructor
  · rintro ⟨⟨k, hk, rfl⟩, h⟩
    rw [List.mem_range] at hk
    exact ⟨by omega, h⟩
  · rintro ⟨⟨h1, h2⟩, h⟩
    exact ⟨⟨m - s, by rw [List.mem_range]; omega, by omega⟩, h⟩
theorem downs_down {m : Nat} {p : Nat → Bool} : (downs m p m).Pairwise (· > ·) := by
  unfold downs
  refine List.Pairwise.filter _ ?_
  rw [List.pairwise_map]
  refine (List.pairwise_lt_range).imp_of_mem fun {a b} ha hb h => ?_
  rw [List.mem_range] at ha hb
  omega
theorem downs_len {m i : Nat} {p : Nat → Bool} : (downs m p i).length ≤ i := by
  unfold downs
  refine Nat.le_trans (List.length_filter_le _ _) ?_
  simp
theorem v_iRng3 {σ : L2.St} {H : Hp} {ta : TA} {R : It → Hp → Prop} (q : ta σ H fun vs H1 => ∃ (i j c : Int) (n : Nat), vs = [.int i, .int j, .int c] ∧ RgC i j c n ∧ R (Itc i c n) H1) : iRng3 ta σ H R := q
theorem rg_down {m : Nat} (hm : m ≤ 100000) : RgC (m : Int) 0 (-1) m := by
  have h := RgC.neg (i := (m : Int)) (j := 0) (by omega) (by omega) (by omega) (by omega)
  have e : ((m : Int) - 0).toNat = m := by omega
  rw [e] at h
  exact h
theorem whl_by {c : TT} {tb : TS} {D : Ends} {σ : L2.St} {H : Hp} (Pv : Nat → L2.St → Hp → Prop) (h0 : ∃ m, Pv m σ H)
    (hs : ∀ m σ H, Pv m σ H → c σ H fun b H1 => if b = true then ∃ N : L2.St → Hp → Prop, (∀ σ' H', N σ' H' → ∃ m', m' < m ∧ Pv m' σ' H') ∧ tb { D with nx := N, ct := N, bk := D.nx } σ H1 else D.nx σ H1) : tWhile c tb D σ H :=
  ⟨Pv, h0, hs⟩
theorem go_on {tb : TS} {D : Ends} {σ : L2.St} {H : Hp} {m : Nat} {Pv : Nat → L2.St → Hp → Prop} (q : tb { D with nx := fun σ' H' => ∃ m', m' < m ∧ Pv m' σ' H', ct := fun σ' H' => ∃ m', m' < m ∧ Pv m' σ' H', bk := D.nx } σ H) :
    ∃ N : L2.St → Hp → Prop, (∀ σ' H', N σ' H' → ∃ m', m' < m ∧ Pv m' σ' H') ∧ tb { D with nx := N, ct := N, bk := D.nx } σ H := ⟨_, fun _ _ h => h, q⟩
theorem v_tupRev {K : PySem.W.Frag} {σ : L2.St} {H : Hp} {te : TE} {Q : VK} (q : te σ H fun v H1 => ∃ (a : Addr) (xs : List V), v = .ref a ∧ SqL K H1 a xs ∧ ∀ q, H1 q = none → Q (.ref q) (upd H1 q (.tup xs.reverse))) : RT.tTupRev K te σ H Q := q
theorem v_revR1 {σ : L2.St} {H : Hp} {ta : TE} {R : It → Hp → Prop} (q : ta σ H fun x H1 => ∃ n : Int, x = .int n ∧ (-(2 ^ 62) ≤ (0 : Int) ∧ (0 : Int) < 2 ^ 62 ∧ -(2 ^ 62) ≤ n ∧ n < 2 ^ 62 ∧ R (Itc (0 + (((n - 0).toNat : Nat) : Int) - 1) (-1) (n - 0).toNat) H1)) : iRevR (tRg1 ta) σ H R := q
end PH

set_option Elab.async false
set_option linter.all false
set_option maxRecDepth 100000
set_option maxHeartbeats 4000000
/-! # Two names at once; list.index within comprehensions -/
namespace PH
open PySem PySem.Spec PyProof.Rows L2 C8
theorem v_par {i j : Nat} {ta : TA} {D : Ends} {σ : L2.St} {H : Hp} (q : ta σ H fun vs H1 => ∃ v w, vs = [v, w] ∧ D.nx ((σ.set i (some v)).set j (some w)) H1) : tPar i j ta D σ H := q
theorem v_par2 {v w : V} {Q : V → V → Prop} (q : Q v w) : ∃ v' w', [v, w] = [v', w'] ∧ Q v' w' := ⟨v, w, rfl, q⟩
theorem mt_indexK {X : Cx} {K : PySem.W.Frag} (h : X.K = K) : MtR X "list.index" (rIndex K) := by subst h; exact mt_index
theorem v_index {K : PySem.W.Frag} {H : Hp} {a : Addr} {ws : List Str} {x : Str} {j : Nat} {Q : VK} (h : SqL K H a (ws.map V.str)) (hj : ws[j]? = some x) (hn : ∀ m y, m < j → ws[m]? = some y → y ≠ x) (q : Q (.int (j : Nat)) H) : rIndex K (.ref a) [.str x] H Q := by
  refine ⟨a, ws.map V.str, .str x, j, .str x, rfl, rfl, h, rfl, flat_strs ws, by rw [List.getElem?_map, hj]; rfl, ?_, fun m z hm hz => ?_, q⟩
  · show (x == x) = true
    exact beq_self_eq_true x
  · rw [List.getElem?_map] at hz
    cases hw : ws[m]? with
    | none => rw [hw] at hz; cases hz
    | some y =>
      rw [hw] at hz
      cases hz
      show (y == x) = false
      exact beq_eq_false_iff_ne.mpr (hn m y hm hw)
section
variable {X : Cx} {K : PySem.W.Frag} {o e : Expr} {es : List Expr} {to : TE} {t : TA} {T id : String} {name : Str} {r : V → List V → Hp → VK → Prop} {apos cpos : Pos}
theorem pe_bmK (hK : X.K = K) (pa : PlainAttrs T) (slot : Slot T name id) (hty : typeOf (.builtin id) = pure (.type "method_descriptor")) (hm : MtR X id r) (ho : PE X o to) (ha : PA X (e :: es) t)
    (hbase : attributeBase o name X.env (eval o X.env) = eval o X.env := by rfl)
    (hfew : ((backTo cpos (starEach (e :: es) X.env)).all (fun x => !x.1) && (backToKw cpos (keywordEach [] X.env)).all (fun x => x.1.isSome)
      && decide ((e :: es).length + ([] : List Keyword).length + (if ([] : List Keyword).isEmpty then 0 else 1) < 30)) = true := by rfl)
    (hline : (apos.endLine == cpos.line) = true := by rfl) (hs : starEach (e :: es) X.env = (false, eval e X.env) :: starEach es X.env := by rfl) (hplain : (backTo cpos (starEach es X.env)).any (·.1) = false := by rfl) :
    PE X (.Call (.Attribute o name apos) (e :: es) [] cpos) (tBM K T r to t) := by
  subst hK
  exact pe_bm pa slot hty hm ho ha hbase hfew hline hs hplain
end
end PH

set_option Elab.async false
set_option linter.all false
set_option maxRecDepth 100000
set_option maxHeartbeats 4000000
/-! # The run of the top, looked at in parts (each part is a computation of its own) -/
namespace PH
open PySem PySem.Spec PyProof.Rows L2 PySem.W HandSHeadRun
/-- the objects at the addresses as -/
def Kof (as : List Addr) (s : SharedT) : PySem.W.Frag := He.frG (getT s) as
def hookL (as : List Addr) (fa : List He.Fa) (fx : List Fx) (fn : List He.DefD) : PySem.W.Hook where
  α := He.AlD
  obs := fun s => obsX fa fx fn (He.frG s.heap.get? as)
  val := fun _ => He.valD fn
  says := fun _ h => ∃ K : PySem.W.Frag, K.In h ∧ SaysX fa fx fn K
  of := fun _ _ e => ⟨_, He.frG_in, saysX_of e⟩
  keeps := fun _ _ _ ⟨K, hK, c⟩ k => ⟨K, PySem.W.Frag.In.keeps hK k, c⟩
theorem obsL_eq {as : List Addr} {fa : List He.Fa} {fx : List Fx} {fn : List He.DefD} (s : SharedT) : obsX fa fx fn (Kof as s) = (hookL as fa fx fn).obs s.abs := by
  have e : getT s = s.abs.heap.get? := funext (getT_eq s)
  unfold Kof
  rw [e] <;> rfl
def chk (as : List Addr) (fa : List He.Fa) (fx : List Fx) (s : SharedT) : Bool := (fa.all fun f => f.ok (Kof as s)) && fx.all fun f => f.ok (Kof as s)
def fns (as : List Addr) (fn : List He.DefD) (s : SharedT) : He.AlD := (fn.all fun d => d.ok (Kof as s), fn.map fun d => He.fnW (Kof as s) d.at_)
theorem chk_app {as : List Addr} {fa fb : List He.Fa} {fx fy : List Fx} {s : SharedT} : chk as (fa ++ fb) (fx ++ fy) s = (chk as fa fx s && chk as fb fy s) := by
  unfold chk
  rw [List.all_append, List.all_append]
  cases (fa.all fun f => f.ok (Kof as s)) <;> cases (fb.all fun f => f.ok (Kof as s)) <;> cases (fx.all fun f => f.ok (Kof as s)) <;> cases (fy.all fun f => f.ok (Kof as s)) <;> rfl
theorem ck_join {E : Option SharedT} {as : List Addr} {fa fb : List He.Fa} {fx fy : List Fx} (h1 : E.map (chk as fa fx) = some true) (h2 : E.map (chk as fb fy) = some true) : E.map (chk as (fa ++ fb) (fx ++ fy)) = some true := by
  cases E with
  | none => cases h1
  | some s =>
    have h1 : chk as fa fx s = true := Option.some.inj h1
    have h2 : chk as fb fy s = true := Option.some.inj h2
    show some (chk as (fa ++ fb) (fx ++ fy) s) = some true
    rw [chk_app, h1, h2]
    rfl
theorem run_of {E : Option SharedT} {as : List Addr} {fa : List He.Fa} {fx : List Fx} {fn : List He.DefD} {A : Type} {L : SharedT → Bool × A} {g : A} (h1 : E.map L = some (true, g)) (h2 : E.map (chk as fa fx) = some true) (h3 : E.map (fns as fn) = some (He.valD fn)) :
    E.map (fun s => ((L s).1, (L s).2, obsX fa fx fn (Kof as s))) = some (true, g, He.valD fn) := by
  cases E with
  | none => cases h1
  | some s =>
    have h1 : L s = (true, g) := Option.some.inj h1
    have h2 : ((fa.all fun f => f.ok (Kof as s)) && fx.all fun f => f.ok (Kof as s)) = true := Option.some.inj h2
    have h3 : fns as fn s = He.valD fn := Option.some.inj h3
    obtain ⟨ha, hb⟩ := He.ba h2
    have h4 : (fn.all fun d => d.ok (Kof as s)) = true := congrArg (fun z : He.AlD => z.1) h3
    have h5 : (fn.map fun d => He.fnW (Kof as s) d.at_) = fn.map He.DefD.val := congrArg (fun z : He.AlD => z.2) h3
    show some ((L s).1, (L s).2, obsX fa fx fn (Kof as s)) = _
    rw [h1]
    have e : obsX fa fx fn (Kof as s) = He.valD fn := by
      show ((((fa.all fun f => f.ok (Kof as s)) && fn.all fun d => d.ok (Kof as s)) && fx.all fun f => f.ok (Kof as s)), fn.map fun d => He.fnW (Kof as s) d.at_) = (true, fn.map He.DefD.val)
      rw [ha, hb, h4, h5]
      rfl
    rw [e]
end PH

set_option Elab.async false
set_option linter.all false
set_option maxRecDepth 100000
set_option maxHeartbeats 4000000
/-! # sorted of lists of tuples (data of any depth, any length) -/
namespace PH
open PySem PySem.Spec PyProof.Rows L2 PySem.W
section
variable {K : PySem.W.Frag} {H : Hp}
theorem dpAll_pairs : ∀ l : List (V × PyData), (∀ b ∈ l, Dp K H b.1 b.2) → DpAll K H (l.map Prod.fst) (l.map Prod.snd)
  | [], _ => .nil
  | b :: l, h => .cons (h b List.mem_cons_self) (dpAll_pairs l fun c hc => h c (List.mem_cons_of_mem _ hc))
theorem dpAll_zip : ∀ {xs : List V} {ds : List PyData}, DpAll K H xs ds → (xs.zip ds).map Prod.fst = xs ∧ (xs.zip ds).map Prod.snd = ds ∧ ∀ b ∈ xs.zip ds, Dp K H b.1 b.2
  | _, _, .nil => ⟨rfl, rfl, fun b hb => by cases hb⟩
  | _, _, .cons h1 h2 => by
    obtain ⟨e1, e2, e3⟩ := dpAll_zip h2
    refine ⟨?_, ?_, fun b hb => ?_⟩
    · rw [List.zip_cons_cons, List.map_cons, e1]
    · rw [List.zip_cons_cons, List.map_cons, e2]
    · rcases List.mem_cons.mp hb with rfl | hb
      · exact h1
      · exact e3 b hb
end
/-- sorted(xs): xs are tuples that compare -/
def rSortD (K : PySem.W.Frag) : List V → Hp → VK → Prop := fun vs H Q => ∃ (a : Addr) (xs : List V) (ds : List PyData) (H0 : Hp), vs = [V.ref a] ∧ SqL K H a xs ∧ Same H0 H ∧ DpAll K H0 xs ds ∧ AllAlike ds ∧ Sortable ds ∧ (∀ d ∈ ds, d.depth ≤ 60) ∧
  ∀ ys p, DpAll K H0 ys (ds.mergeSort (dataLe false id)) → H p = none → Q (.ref p) (upd H p (.lst ys))
theorem each_rel {K : PySem.W.Frag} {H : Hp} {X : Cx} {pins : List (Addr × Obj)} {σ : L2.St} {s : Shared} (I : Inv X pins σ H s) : ∀ {xs : List V} {ds : List PyData} {us : List Value}, DpAll X.K H xs ds → Vals xs us →
    EachIs (fun u (b : V × PyData) => RelV b.1 u) us (xs.zip ds) ∧ EachIs (fun u (b : V × PyData) => ∃ as, Reads s.heap u b.2 as) us (xs.zip ds)
  | _, _, _, .nil, .nil => ⟨.nil, .nil⟩
  | _, _, _, .cons h1 h2, .cons r1 r2 => by
    obtain ⟨e1, e2⟩ := each_rel (K := K) I h2 r2
    exact ⟨.cons r1 e1, .cons (Dp.reads I _ _ _ h1 r1) e2⟩
theorem vals_each : ∀ {us : List Value} {bs : List (V × PyData)}, EachIs (fun u (b : V × PyData) => RelV b.1 u) us bs → Vals (bs.map Prod.fst) us
  | _, _, .nil => .nil
  | _, _, .cons h1 h2 => .cons h1 (vals_each h2)
theorem cr_sortedD {X : Cx} {K : PySem.W.Frag} (hK : X.K = K) (hu : X.A.units + 64 < cLine) : CallR X (.builtin "sorted") (rSortD K) := by
  subst hK
  intro pins s σ H vs us Q I r h
  obtain ⟨a, xs, ds, H0, rfl, hs, hS0, hd, hal, hk, hdep, q⟩ := h
  obtain ⟨its, rv, hl, hz⟩ := I.list hs
  rw [Vals.ref1 r]
  obtain ⟨z1, z2, z3⟩ := dpAll_zip hd
  obtain ⟨e1, e2⟩ := each_rel (K := X.K) I (dpAll_same hS0 _ _ hd) rv
  have hlen : (xs.zip ds).length = xs.length := by
    have := congrArg List.length z1
    rw [List.length_map] at this
    exact this
  refine sorted_data (enc := fun b : V × PyData => b.2) (R := fun u (b : V × PyData) => RelV b.1 u) hl.isList e1 e2 (by rw [show (xs.zip ds).map (fun b : V × PyData => b.2) = ds from z2]; exact hal) (by rw [show (xs.zip ds).map (fun b : V × PyData => b.2) = ds from z2]; exact hk) (by rw [hlen]; exact hz) (fun b hb => ?_) fun out ho he => ?_
  · have := hdep b.2 (by rw [← z2]; exact List.mem_map.mpr ⟨b, hb, rfl⟩)
    show X.A.units + 2 + b.2.depth < cLine
    omega
  · have hnew : H (s.heap.objs.size + 1) = none := I.hok.fresh (Nat.le_succ _)
    have em : ((xs.zip ds).mergeSort (dataLe false fun b : V × PyData => b.2)).map Prod.snd = ds.mergeSort (dataLe false id) := by
      have q := sort_maps (r := dataLe false fun b : V × PyData => b.2) (s := dataLe false id) (f := Prod.snd) (l := xs.zip ds) fun a _ b _ => rfl
      rw [q, z2]
    have hda : DpAll X.K H0 (((xs.zip ds).mergeSort (dataLe false fun b : V × PyData => b.2)).map Prod.fst) (ds.mergeSort (dataLe false id)) := by
      rw [← em]
      exact dpAll_pairs _ fun b hb => z3 b ((List.mergeSort_perm _ _).mem_iff.mp hb)
    refine ⟨.ref (s.heap.objs.size + 1), upd H (s.heap.objs.size + 1) (.lst _), I.laid (t' := s.toks) (fun b o e => sortedAll_old e) (Nat.le_succ _) ⟨?_, out, _, vals_each he, (sortedAll_at s.heap its out.toArray).choose_spec⟩, rfl, q _ _ hda hnew⟩
    rw [List.length_map, List.length_mergeSort, hlen]
    exact hz
/-- three names at once -/
theorem pg_three {X : Cx} {K : PySem.W.Frag} {i j l : Nat} {x y z : Str} {px py pz pos : Pos} {k : Nat} (hK : X.K = K) (hc : X.calm = true) (hN : X.N.Nodup) (hi : X.N[i]? = some x) (hj : X.N[j]? = some y) (hl : X.N[l]? = some z) (hx : Loc X.env.scope x) (hy : Loc X.env.scope y) (hz : Loc X.env.scope z)
    (hf : X.fn x = true ∨ X.env.scope.names.lookup x = some .local := by first | exact .inl rfl | exact .inr rfl | assumption) (hg : X.fn y = true ∨ X.env.scope.names.lookup y = some .local := by first | exact .inl rfl | exact .inr rfl | assumption)
    (hh : X.fn z = true ∨ X.env.scope.names.lookup z = some .local := by first | exact .inl rfl | exact .inr rfl | assumption) :
    PG X (.Tuple [.Name x px, .Name y py, .Name z pz] k pos) (gTup K 3 (gCons (gName i) (gCons (gName j) (gCons (gName l) gNil)))) := by
  subst hK
  exact pg_tup hc (pgs_cons (pg_name hN hi hx hf) (pgs_cons (pg_name hN hj hy hg) (pgs_cons (pg_name hN hl hz hh) pgs_nil)))
end PH

set_option Elab.async false
set_option linter.all false
set_option maxRecDepth 100000
set_option maxHeartbeats 4000000
/-! # Rows by cost, then by shape: the first ones of all (plain; the order is that of the data) -/
namespace PL
open PySem PySem.SeqAt PySem.W
/-- the order of keys -/
def shape (r : List T) : List Int := r.map fun w => -(w.length : Int)
def klt (pr : T → Nat) (a b : List T) : Bool := if cost pr a = cost pr b then decide (shape a < shape b) else decide (cost pr a < cost pr b)
def kle (pr : T → Nat) (a b : List T) : Bool := !klt pr b a
def encS (pr : T → Nat) (r : List T) : PyData := .tuple [.int (cost pr r : Nat), .tuple ((shape r).map .int)]
theorem eqv_ints (xs ys : List Int) : PyData.eqv (.tuple (xs.map .int)) (.tuple (ys.map .int)) = decide (xs = ys) := PH.eqvAll_ints xs ys
theorem eqv_int (a b : Int) : PyData.eqv (.int a) (.int b) = decide (a = b) := by
  have q := PH.eqvAll_ints [a] [b]
  have e : PyData.eqvAll ([a].map .int) ([b].map .int) = (PyData.eqv (.int a) (.int b) && PyData.eqvAll [] []) := eqv_all_cons _ _ _ _
  rw [e] at q
  have e2 : PyData.eqvAll [] [] = true := by rfl
  rw [e2, Bool.and_true] at q
  rw [q]
  exact decide_eq_decide.2 (by simp)
theorem rowLt_nil : rowLt [] [] = false := PyProof.Rows.lex_irrefl _
theorem rowLt_cons {x y : PyData} (h : alike x y = true) (xs ys : List PyData) : rowLt (x :: xs) (y :: ys) = if PyData.eqv x y = true then rowLt xs ys else dataLt x y := dataLt_cons h xs ys
theorem dlt_tup (xs ys : List PyData) : dataLt (.tuple xs) (.tuple ys) = rowLt xs ys := dataLt_tuple xs ys
theorem alike_tup (xs ys : List Int) : alike (.tuple (xs.map .int)) (.tuple (ys.map .int)) = true := by
  rw [alike]
  exact alike_ints xs ys
theorem dlt_key (a b : Int) (xs ys : List Int) (r1 r2 : List PyData) : rowLt (.int a :: .tuple (xs.map .int) :: r1) (.int b :: .tuple (ys.map .int) :: r2) =
    if a = b then (if xs = ys then rowLt r1 r2 else decide (xs < ys)) else decide (a < b) := by
  rw [rowLt_cons rfl, rowLt_cons (alike_tup xs ys), eqv_int, eqv_ints, dataLt_int, dlt_tup, dataLt_ints]
  by_cases h1 : a = b
  · rw [if_pos (decide_eq_true h1), if_pos h1]
    by_cases h2 : xs = ys
    · rw [if_pos (decide_eq_true h2), if_pos h2]
    · rw [if_neg (by rw [decide_eq_false h2]; decide), if_neg h2]
  · rw [if_neg (by rw [decide_eq_false h1]; decide), if_neg h1]
theorem dlt_encS (pr : T → Nat) (a b : List T) : dataLt (encS pr a) (encS pr b) = klt pr a b := by
  unfold encS klt
  rw [dlt_tup, dlt_key, rowLt_nil]
  by_cases h1 : cost pr a = cost pr b
  · rw [if_pos (by omega), if_pos h1]
    by_cases h2 : shape a = shape b
    · rw [if_pos h2, h2]
      exact (decide_eq_false (List.lt_irrefl _)).symm
    · rw [if_neg h2]
  · rw [if_neg (by omega), if_neg h1]
    exact decide_eq_decide.2 (by omega)
theorem le_encS (pr : T → Nat) : dataLe false (encS pr) = kle pr := by
  funext a b
  rw [dataLe_eq]
  show (!dataLt (encS pr b) (encS pr a)) = _
  rw [dlt_encS]
  rfl
theorem kle_tot (pr : T → Nat) : TotalLe (kle pr) := by
  rw [← le_encS]
  exact sortLe_total _ _ _
theorem klt_iff {pr : T → Nat} {a b : List T} : klt pr a b = true ↔ cost pr a < cost pr b ∨ (cost pr a = cost pr b ∧ shape a < shape b) := by
  unfold klt
  by_cases h1 : cost pr a = cost pr b
  · rw [if_pos h1, decide_eq_true_iff]
    constructor
    · exact fun h => .inr ⟨h1, h⟩
    · rintro (h | h)
      · omega
      · exact h.2
  · rw [if_neg h1, decide_eq_true_iff]
    constructor
    · exact .inl
    · rintro (h | h)
      · exact h
      · exact absurd h.1 h1
theorem kle_iff {pr : T → Nat} {a b : List T} : kle pr a b = true ↔ cost pr a < cost pr b ∨ (cost pr a = cost pr b ∧ ¬ shape b < shape a) := by
  unfold kle
  rw [Bool.not_eq_true', ← Bool.not_eq_true, klt_iff]
  by_cases hC : shape b < shape a
  · simp only [hC, and_true, not_true_eq_false, and_false, or_false]
    omega
  · simp only [hC, and_false, not_false_eq_true, and_true, or_false]
    omega
theorem cost_cons {pr : T → Nat} {w : T} {r : List T} : cost pr (w :: r) = pr w + cost pr r := by
  unfold cost
  rw [List.map_cons, List.sum_cons]
theorem shape_cons {w : T} {a b : List T} : shape (w :: a) < shape (w :: b) ↔ shape a < shape b := by
  unfold shape
  rw [List.map_cons, List.map_cons, List.cons_lt_cons_iff]
  constructor
  · rintro (h | h)
    · omega
    · exact h.2
  · exact fun h => .inr ⟨rfl, h⟩
theorem kle_cons {pr : T → Nat} {w : T} {a b : List T} (h : kle pr a b = true) : kle pr (w :: a) (w :: b) = true := by
  rw [kle_iff] at h ⊢
  rw [cost_cons, cost_cons, shape_cons]
  rcases h with h | h
  · exact .inl (by omega)
  · exact .inr ⟨by omega, h.2⟩
theorem rows_of_shape {W : T → Prop} : ∀ {a b : List T} {t : T}, Row W t a → Row W t b → shape a = shape b → a = b
  | [], [], _, _, _, _ => rfl
  | [], _ :: _, _, _, _, h => by cases h
  | _ :: _, [], _, _, _, h => by cases h
  | x :: a, y :: b, t, h1, h2, h => by
    have h : (-(x.length : Int)) :: shape a = (-(y.length : Int)) :: shape b := h
    injection h with e1 e2
    have e := head_eq h1 h2 (by omega)
    subst e
    obtain ⟨_, _, q1⟩ := row_inv h1
    obtain ⟨_, _, q2⟩ := row_inv h2
    rw [rows_of_shape q1 q2 e2]
theorem kle_anti {W : T → Prop} {pr : T → Nat} {t : T} {a b : List T} (ha : Row W t a) (hb : Row W t b) (h1 : kle pr a b = true) (h2 : kle pr b a = true) : a = b := by
  rw [kle_iff] at h1 h2
  refine rows_of_shape ha hb (List.le_antisymm (List.not_lt.mp ?_) (List.not_lt.mp ?_))
  · rcases h1 with h1 | h1
    · omega
    · exact h1.2
  · rcases h2 with h2 | h2
    · omega
    · exact h2.2
/-! ### sorted lists -/
section
variable {α : Type} [DecidableEq α] {le : α → α → Bool}
theorem sub_le : ∀ (l m : List α), l.Nodup → (∀ x ∈ l, x ∈ m) → l.length ≤ m.length
  | [], _, _, _ => Nat.zero_le _
  | x :: l, m, hn, h => by
    have hx := h x List.mem_cons_self
    obtain ⟨h1, h2⟩ := List.nodup_cons.mp hn
    have q := sub_le l (m.erase x) h2 fun y hy => by
      have ne : y ≠ x := fun e => h1 (e ▸ hy)
      exact (List.mem_erase_of_ne ne).2 (h y (List.mem_cons_of_mem _ hy))
    rw [List.length_erase_of_mem hx] at q
    have : 0 < m.length := List.length_pos_of_mem hx
    rw [List.length_cons]
    omega
theorem sorted_unique : ∀ {l m : List α}, l.Perm m → l.Pairwise (fun a b => le a b = true) → m.Pairwise (fun a b => le a b = true) → (∀ a ∈ l, ∀ b ∈ l, le a b = true → le b a = true → a = b) → l = m
  | [], m, h, _, _, _ => (List.Perm.eq_nil h.symm).symm
  | x :: l, [], h, _, _, _ => absurd h.length_eq (by simp)
  | x :: l, y :: m, h, hl, hm, anti => by
    have hxm := h.mem_iff.mp (List.mem_cons_self (a := x) (l := l))
    have hyl := h.mem_iff.mpr (List.mem_cons_self (a := y) (l := m))
    have e : x = y := by
      rcases List.mem_cons.mp hxm with e | hx
      · exact e
      · rcases List.mem_cons.mp hyl with e | hy
        · exact e.symm
        · exact anti x List.mem_cons_self y (List.mem_cons_of_mem _ hy) ((List.pairwise_cons.mp hl).1 y hy) ((List.pairwise_cons.mp hm).1 x hx)
    subst e
    rw [sorted_unique (h.cons_inv) (List.pairwise_cons.mp hl).2 (List.pairwise_cons.mp hm).2 fun a ha b hb => anti a (List.mem_cons_of_mem _ ha) b (List.mem_cons_of_mem _ hb)]
theorem top_take (tot : TotalLe le) {L L' : List α} (nd : L.Nodup) (nd' : L'.Nodup) (sub : ∀ x ∈ L', x ∈ L) (anti : ∀ a ∈ L, ∀ b ∈ L, le a b = true → le b a = true → a = b) (m : Nat) (h : ∀ x ∈ (L.mergeSort le).take m, x ∈ L') : (L'.mergeSort le).take m = (L.mergeSort le).take m := by
  have pS := List.mergeSort_perm L le
  have pT := List.mergeSort_perm L' le
  have sS := sort_pairwise tot L
  have sT := sort_pairwise tot L'
  generalize L.mergeSort le = S at h pS sS ⊢
  generalize L'.mergeSort le = R at pT sT ⊢
  have nS : S.Nodup := nd.perm pS.symm
  have nT : R.Nodup := nd'.perm pT.symm
  have e : R = S.filter fun x => decide (x ∈ L') := by
    refine (sorted_unique (le := le) ?_ (sS.filter _) sT ?_).symm
    · refine (List.perm_ext_iff_of_nodup (nS.filter _) nT).2 fun x => ?_
      rw [List.mem_filter, decide_eq_true_iff, pT.mem_iff]
      constructor
      · exact fun h => h.2
      · exact fun h => ⟨pS.mem_iff.mpr (sub x h), h⟩
    · intro a ha b hb
      exact anti a (pS.mem_iff.mp (List.mem_filter.mp ha).1) b (pS.mem_iff.mp (List.mem_filter.mp hb).1)
  have e2 : S.filter (fun x => decide (x ∈ L')) = S.take m ++ (S.drop m).filter fun x => decide (x ∈ L') := by
    have q : S.filter (fun x => decide (x ∈ L')) = (S.take m ++ S.drop m).filter fun x => decide (x ∈ L') := by rw [List.take_append_drop]
    rw [q, List.filter_append, List.filter_eq_self.mpr fun x hx => decide_eq_true (h x hx)]
  rw [e, e2]
  by_cases hm : m ≤ S.length
  · rw [List.take_append_of_le_length (by rw [List.length_take]; omega), List.take_take, Nat.min_self]
  · rw [List.drop_of_length_le (by omega), List.filter_nil, List.append_nil, List.take_take, Nat.min_self]
theorem sort_perm (tot : TotalLe le) {L L' : List α} (h : L.Perm L') (anti : ∀ a ∈ L, ∀ b ∈ L, le a b = true → le b a = true → a = b) : L.mergeSort le = L'.mergeSort le := by
  refine sorted_unique (le := le) ?_ (sort_pairwise tot L) (sort_pairwise tot L') ?_
  · exact (List.mergeSort_perm L le).trans (h.trans (List.mergeSort_perm L' le).symm)
  · intro a ha b hb
    exact anti a ((List.mergeSort_perm L le).mem_iff.mp ha) b ((List.mergeSort_perm L le).mem_iff.mp hb)
end
/-! ### all rows in order -/
section
variable {wl : List T} {pr : T → Nat}
def SL (wl : List T) (pr : T → Nat) (u : T) : List (List T) := (Rs wl u).mergeSort (kle pr)
theorem SL_mem {u : T} {r : List T} : r ∈ SL wl pr u ↔ r ∈ Rs wl u := (List.mergeSort_perm _ _).mem_iff
theorem Rs_row (hne : ∀ w ∈ wl, 1 ≤ w.length) {u : T} {r : List T} : r ∈ Rs wl u ↔ Row (· ∈ wl) u r := Rs_mem (W := (· ∈ wl)) (fun _ => Iff.rfl) hne _ _ (Nat.le_refl _) r
theorem nodup_flat : ∀ {l : List T} {f : T → List (List T)}, l.Nodup → (∀ w ∈ l, (f w).Nodup) → ((l.flatMap fun w => (f w).map (w :: ·))).Nodup
  | [], _, _, _ => List.nodup_nil
  | w :: l, f, hn, hf => by
    obtain ⟨h1, h2⟩ := List.nodup_cons.mp hn
    rw [List.flatMap_cons, List.nodup_append]
    refine ⟨?_, nodup_flat h2 fun v hv => hf v (List.mem_cons_of_mem _ hv), fun a ha b hb => ?_⟩
    · show List.Pairwise _ _
      rw [List.pairwise_map]
      exact (hf w List.mem_cons_self).imp fun h e => h (List.cons.inj e).2
    · obtain ⟨o, _, rfl⟩ := List.mem_map.mp ha
      obtain ⟨v, hv, hb2⟩ := List.mem_flatMap.mp hb
      obtain ⟨o2, _, rfl⟩ := List.mem_map.mp hb2
      intro e
      rw [(List.cons.inj e).1] at h1
      exact h1 hv
theorem Rs_nodup (hne : ∀ w ∈ wl, 1 ≤ w.length) (hn : wl.Nodup) : ∀ (n : Nat) (u : T), u.length ≤ n → (Rs wl u).Nodup := by
  intro n
  induction n with
  | zero =>
    intro u h
    obtain rfl := List.eq_nil_of_length_eq_zero (Nat.le_zero.mp h)
    rw [Rs_nil]
    simp
  | succ n ih =>
    intro u h
    by_cases hu : u = []
    · subst hu
      rw [Rs_nil]
      simp
    · rw [Rs_eq hne hu]
      refine nodup_flat (hn.filter _) fun w hw => ih _ ?_
      have q1 := hne w (mem_pre hw).1
      rw [List.length_drop]
      omega
theorem anti_Rs (hne : ∀ w ∈ wl, 1 ≤ w.length) {u : T} : ∀ a ∈ Rs wl u, ∀ b ∈ Rs wl u, kle pr a b = true → kle pr b a = true → a = b := fun a ha b hb h1 h2 =>
  kle_anti ((Rs_row hne).1 ha) ((Rs_row hne).1 hb) h1 h2
/-- the candidates: the first m of what follows each word -/
def cand (wl : List T) (pr : T → Nat) (m : Nat) (u : T) : List (List T) := (wl.filter (pre u)).flatMap fun w => ((SL wl pr (u.drop w.length)).take m).map (w :: ·)
theorem cand_mem {m : Nat} {u : T} {x : List T} : x ∈ cand wl pr m u ↔ ∃ w o, x = w :: o ∧ w ∈ wl ∧ pre u w = true ∧ o ∈ (SL wl pr (u.drop w.length)).take m := by
  unfold cand
  rw [List.mem_flatMap]
  constructor
  · rintro ⟨w, hw, hx⟩
    obtain ⟨o, ho, rfl⟩ := List.mem_map.mp hx
    exact ⟨w, o, rfl, (mem_pre hw).1, (mem_pre hw).2, ho⟩
  · rintro ⟨w, o, rfl, h1, h2, ho⟩
    exact ⟨w, List.mem_filter.mpr ⟨h1, h2⟩, List.mem_map.mpr ⟨o, ho, rfl⟩⟩
theorem cand_sub (hne : ∀ w ∈ wl, 1 ≤ w.length) {m : Nat} {u : T} (hu : u ≠ []) : ∀ x ∈ cand wl pr m u, x ∈ Rs wl u := by
  intro x hx
  obtain ⟨w, o, rfl, h1, h2, ho⟩ := cand_mem.1 hx
  rw [Rs_eq hne hu, List.mem_flatMap]
  exact ⟨w, List.mem_filter.mpr ⟨h1, h2⟩, List.mem_map.mpr ⟨o, SL_mem.1 (List.mem_of_mem_take ho), rfl⟩⟩
theorem cand_nodup (hne : ∀ w ∈ wl, 1 ≤ w.length) (hn : wl.Nodup) {m : Nat} {u : T} : (cand wl pr m u).Nodup := by
  refine nodup_flat (hn.filter _) fun w _ => ?_
  have q : (SL wl pr (u.drop w.length)).Nodup := (Rs_nodup hne hn _ _ (Nat.le_refl _)).perm (List.mergeSort_perm _ _).symm
  exact q.sublist (List.take_sublist _ _)
theorem kbest (hne : ∀ w ∈ wl, 1 ≤ w.length) (hn : wl.Nodup) {m : Nat} {u : T} (hu : u ≠ []) : ((cand wl pr m u).mergeSort (kle pr)).take m = (SL wl pr u).take m := by
  refine top_take (kle_tot pr) (Rs_nodup hne hn _ _ (Nat.le_refl _)) (cand_nodup hne hn) (cand_sub hne hu) (anti_Rs hne) m fun x hx => ?_
  have hxS := List.mem_of_mem_take hx
  have hxR : x ∈ Rs wl u := SL_mem.1 hxS
  have hxR2 := hxR
  rw [Rs_eq hne hu, List.mem_flatMap] at hxR2
  obtain ⟨w, hw, hx2⟩ := hxR2
  obtain ⟨o, ho, rfl⟩ := List.mem_map.mp hx2
  have hw' := mem_pre hw
  refine cand_mem.2 ⟨w, o, rfl, hw'.1, hw'.2, ?_⟩
  apply Classical.byContradiction
  intro hno
  have hoS : o ∈ SL wl pr (u.drop w.length) := SL_mem.2 ho
  have nS : (SL wl pr (u.drop w.length)).Nodup := (Rs_nodup hne hn _ _ (Nat.le_refl _)).perm (List.mergeSort_perm _ _).symm
  have sS : (SL wl pr (u.drop w.length)).Pairwise (fun a b => kle pr a b = true) := sort_pairwise (kle_tot pr) _
  have hsp := List.take_append_drop m (SL wl pr (u.drop w.length))
  have hod : o ∈ (SL wl pr (u.drop w.length)).drop m := by
    rw [← hsp] at hoS
    rcases List.mem_append.mp hoS with h | h
    · exact absurd h hno
    · exact h
  have hml : m < (SL wl pr (u.drop w.length)).length := by
    have := List.length_pos_of_mem hod
    rw [List.length_drop] at this
    omega
  have hle : ∀ y ∈ (SL wl pr (u.drop w.length)).take m, kle pr y o = true := fun y hy => by
    have q := sS
    rw [← hsp, List.pairwise_append] at q
    exact q.2.2 y hy o hod
  -- the place of the row
  have hx : (w :: o) ∈ (SL wl pr u).take m := hx
  obtain ⟨i, hi, hie⟩ := List.mem_iff_getElem.mp hx
  have hi' : i < m ∧ i < (SL wl pr u).length := by
    rw [List.length_take] at hi
    omega
  have hSi : (SL wl pr u)[i]'hi'.2 = w :: o := by
    rw [← hie, List.getElem_take]
  have sSu : (SL wl pr u).Pairwise (fun a b => kle pr a b = true) := sort_pairwise (kle_tot pr) _
  have hsplit : SL wl pr u = (SL wl pr u).take i ++ (w :: o) :: (SL wl pr u).drop (i + 1) := by
    have q := List.take_append_drop i (SL wl pr u)
    rw [List.drop_eq_getElem_cons hi'.2, hSi] at q
    exact q.symm
  have hD : ∀ d ∈ ((SL wl pr (u.drop w.length)).take m).map (w :: ·), d ∈ (SL wl pr u).take i := by
    intro d hd
    obtain ⟨y, hy, rfl⟩ := List.mem_map.mp hd
    have hyR : (w :: y) ∈ Rs wl u := by
      rw [Rs_eq hne hu, List.mem_flatMap]
      exact ⟨w, hw, List.mem_map.mpr ⟨y, SL_mem.1 (List.mem_of_mem_take hy), rfl⟩⟩
    have hkl := kle_cons (w := w) (hle y hy)
    have hyne : w :: y ≠ w :: o := fun e => by
      rw [(List.cons.inj e).2] at hy
      exact hno hy
    have hyS : (w :: y) ∈ SL wl pr u := SL_mem.2 hyR
    have sSu2 := sSu
    rw [hsplit] at hyS sSu2
    rcases List.mem_append.mp hyS with h | h
    · exact h
    · rcases List.mem_cons.mp h with h | h
      · exact absurd h hyne
      · exact absurd (anti_Rs hne _ hyR _ hxR hkl ((List.pairwise_cons.mp (List.pairwise_append.mp sSu2).2.1).1 _ h)) hyne
  have hnD : (((SL wl pr (u.drop w.length)).take m).map (w :: ·)).Nodup := by
    show List.Pairwise _ _
    rw [List.pairwise_map]
    exact (nS.sublist (List.take_sublist _ _)).imp fun h e => h (List.cons.inj e).2
  have hlen := sub_le _ _ hnD hD
  rw [List.length_map, List.length_take, List.length_take] at hlen
  omega
/-- a row at the top -/
def IsTop (wl : List T) (pr : T → Nat) (u : T) (r : List T) : Prop := Row (· ∈ wl) u r ∧ ∀ o, Row (· ∈ wl) u o → kle pr r o = true
theorem top_SL (hne : ∀ w ∈ wl, 1 ≤ w.length) {u : T} {r : List T} (h : IsTop wl pr u r) : ∃ rest, SL wl pr u = r :: rest := by
  have hr : r ∈ SL wl pr u := SL_mem.2 ((Rs_row hne).2 h.1)
  have sS : (SL wl pr u).Pairwise (fun a b => kle pr a b = true) := sort_pairwise (kle_tot pr) _
  cases e : SL wl pr u with
  | nil => rw [e] at hr; cases hr
  | cons x rest =>
    have hx : x ∈ Rs wl u := SL_mem.1 (by rw [e]; exact List.mem_cons_self)
    rw [e] at hr sS
    rcases List.mem_cons.mp hr with h2 | h2
    · exact ⟨rest, by rw [h2]⟩
    · have q := kle_anti h.1 ((Rs_row hne).1 hx) (h.2 x ((Rs_row hne).1 hx)) ((List.pairwise_cons.mp sS).1 r h2)
      exact ⟨rest, by rw [q]⟩
/-- the least cost of a row -/
def IsMin (wl : List T) (pr : T → Nat) (u : T) (c : Nat) : Prop := (∃ r, Row (· ∈ wl) u r ∧ cost pr r = c) ∧ ∀ o, Row (· ∈ wl) u o → c ≤ cost pr o
theorem min_unique {u : T} {a b : Nat} (h1 : IsMin wl pr u a) (h2 : IsMin wl pr u b) : a = b := by
  obtain ⟨⟨r, hr, e1⟩, q1⟩ := h1
  obtain ⟨⟨o, ho, e2⟩, q2⟩ := h2
  have := q1 o ho
  have := q2 r hr
  omega
theorem top_min {u : T} {r : List T} (h : IsTop wl pr u r) : IsMin wl pr u (cost pr r) := ⟨⟨r, h.1, rfl⟩, fun o ho => by
  have := kle_iff.1 (h.2 o ho)
  omega⟩
theorem min_nil (hne : ∀ w ∈ wl, 1 ≤ w.length) : IsMin wl pr [] 0 := ⟨⟨[], row_nil, rfl⟩, fun _ _ => Nat.zero_le _⟩
theorem top_nil (hne : ∀ w ∈ wl, 1 ≤ w.length) : IsTop wl pr [] [] := ⟨row_nil, fun o ho => by
  rw [row_of_nil (fun w hw e => by have := hne w hw; rw [e] at this; cases this) ho]
  exact kle_iff.2 (.inr ⟨rfl, List.lt_irrefl _⟩)⟩
theorem min_step {u : T} {m : Nat} (hu : u ≠ []) (h1 : ∃ s c, Pre (· ∈ wl) u s ∧ IsMin wl pr (u.drop s) c ∧ pr (u.take s) + c = m) (h2 : ∀ s c, Pre (· ∈ wl) u s → IsMin wl pr (u.drop s) c → m ≤ pr (u.take s) + c) (hall : ∀ s, Pre (· ∈ wl) u s → ∃ c, IsMin wl pr (u.drop s) c) : IsMin wl pr u m := by
  obtain ⟨s, c, hs, ⟨⟨r, hr, e⟩, hc⟩, rfl⟩ := h1
  refine ⟨⟨u.take s :: r, row_step hs.1 hs.2 hr, by rw [cost_cons, e]⟩, fun o ho => ?_⟩
  cases o with
  | nil => exact absurd ho.1.symm hu
  | cons w o =>
    obtain ⟨hp, ew⟩ := pre_of ho
    obtain ⟨_, _, ho'⟩ := row_inv ho
    obtain ⟨c', hc'⟩ := hall _ hp
    have q1 := h2 _ _ hp hc'
    have q2 := hc'.2 o ho'
    rw [← ew] at q1
    rw [cost_cons]
    omega
theorem top_step {u : T} {s c : Nat} {r : List T} (hc : IsMin wl pr u (pr (u.take s) + c)) (hs : Pre (· ∈ wl) u s) (hcs : IsMin wl pr (u.drop s) c) (hmax : ∀ s' c', Pre (· ∈ wl) u s' → IsMin wl pr (u.drop s') c' → pr (u.take s') + c' = pr (u.take s) + c → s' ≤ s)
    (hall : ∀ s, Pre (· ∈ wl) u s → ∃ c, IsMin wl pr (u.drop s) c) (hu : u ≠ []) (hr : IsTop wl pr (u.drop s) r) : IsTop wl pr u (u.take s :: r) := by
  have hrow := row_step hs.1 hs.2 hr.1
  have hrc : cost pr r = c := min_unique (top_min hr) hcs
  refine ⟨hrow, fun o ho => ?_⟩
  cases o with
  | nil => exact absurd ho.1.symm hu
  | cons w o =>
    obtain ⟨hp, ew⟩ := pre_of ho
    obtain ⟨_, _, ho'⟩ := row_inv ho
    obtain ⟨c', hc'⟩ := hall _ hp
    have q1 := hc.2 _ ho
    have q2 := hc'.2 o ho'
    have q4 : pr w + c' ≥ pr (u.take s) + c := by
      obtain ⟨⟨o2, ho2, e2⟩, _⟩ := hc'
      have q := hc.2 _ (row_step hp.1 hp.2 ho2)
      rw [← ew, cost_cons, e2] at q
      exact q
    rw [kle_iff, cost_cons, cost_cons]
    rw [cost_cons] at q1
    rw [hrc]
    rcases Nat.lt_or_ge (pr (u.take s) + c) (pr w + cost pr o) with h | h
    · exact .inl h
    · right
      refine ⟨by omega, ?_⟩
      have hle := hmax _ _ hp hc' (by rw [← ew]; omega)
      have hl : (u.take s).length = s := by rw [List.length_take]; exact Nat.min_eq_left hs.1
      rcases Nat.lt_or_ge w.length s with h3 | h3
      · unfold shape
        rw [List.map_cons, List.map_cons, List.cons_lt_cons_iff, hl]
        omega
      · have e : w.length = s := by omega
        have ew2 : w = u.take s := by rw [← e]; exact ew
        rw [e] at ho'
        rw [← ew2, shape_cons]
        have q5 := kle_iff.1 (hr.2 o ho')
        rcases q5 with q5 | q5
        · rw [← ew2] at h q1
          omega
        · exact q5.2
/-- where all words cost as much, the best row is at the top -/
theorem best_shape : ∀ {r o : List T} {t : T}, Row (· ∈ wl) t r → Row (· ∈ wl) t o → r.length = o.length → beatsL r o = true → ¬ shape o < shape r
  | [], [], _, _, _, _, _ => List.lt_irrefl _
  | [], _ :: _, _, _, _, h, _ => by cases h
  | _ :: _, [], _, _, _, h, _ => by cases h
  | a :: r, b :: o, t, h1, h2, hl, h => by
    have h : (if a = b then beatsL r o else decide (b.length < a.length)) = true := h
    by_cases e : a = b
    · subst e
      rw [if_pos rfl] at h
      obtain ⟨_, _, q1⟩ := row_inv h1
      obtain ⟨_, _, q2⟩ := row_inv h2
      rw [shape_cons]
      exact best_shape q1 q2 (by simpa using hl) h
    · rw [if_neg e] at h
      have h := of_decide_eq_true h
      unfold shape
      rw [List.map_cons, List.map_cons, List.cons_lt_cons_iff]
      omega
theorem cost_const {c : Nat} (hc : ∀ w ∈ wl, pr w = c) : ∀ {r : List T} {t : T}, Row (· ∈ wl) t r → cost pr r = c * r.length
  | [], _, _ => rfl
  | w :: r, t, h => by
    obtain ⟨hw, _, h2⟩ := row_inv h
    rw [cost_cons, cost_const hc h2, hc w hw, List.length_cons, Nat.mul_add, Nat.mul_one, Nat.add_comm]
theorem best_top {c : Nat} (hc : ∀ w ∈ wl, pr w = c) (hc1 : 1 ≤ c) {t : T} {r : List T} (h : IsBest (· ∈ wl) t r) : IsTop wl pr t r := by
  refine ⟨h.1, fun o ho => kle_iff.2 ?_⟩
  rw [cost_const hc h.1, cost_const hc ho]
  have q := h.2 o ho
  unfold beats at q
  by_cases e : r.length = o.length
  · rw [if_pos e] at q
    exact .inr ⟨by rw [e], best_shape h.1 ho e q⟩
  · rw [if_neg e] at q
    have q := of_decide_eq_true q
    exact .inl (Nat.mul_lt_mul_of_pos_left q (by omega))
end
end PL

set_option Elab.async false
set_option linter.all false
set_option maxRecDepth 100000
/-! # Joins (plain): the lowest pair everywhere at once, or the first place alone: the same cut; a stretch of a cut is a cut -/
namespace PL
abbrev Pr := Nat × Nat
/-- neighbors -/
def prs : List Nat → List Pr
  | a :: b :: r => (a, b) :: prs (b :: r)
  | _ => []
def putT (p : Pr) (x : Nat) : List Nat → List Nat
  | a :: b :: r => if (a, b) = p then x :: putT p x r else a :: putT p x (b :: r)
  | r => r
theorem putT_nil {p : Pr} {x : Nat} : putT p x [] = [] := by rw [putT]; intro _ _ _ h; cases h
theorem putT_one {p : Pr} {x a : Nat} : putT p x [a] = [a] := by rw [putT]; intro _ _ _ h; cases h
theorem putT_two {p : Pr} {x a b : Nat} {r : List Nat} : putT p x (a :: b :: r) = if (a, b) = p then x :: putT p x r else a :: putT p x (b :: r) := by rw [putT]
theorem prs_two {a b : Nat} {r : List Nat} : prs (a :: b :: r) = (a, b) :: prs (b :: r) := by rw [prs]
theorem prs_nil : prs [] = [] := by rw [prs]; intro _ _ _ h; cases h
theorem prs_one {a : Nat} : prs [a] = [] := by rw [prs]; intro _ _ _ h; cases h
theorem prs_tail {a : Nat} {r : List Nat} {q : Pr} (h : q ∈ prs r) : q ∈ prs (a :: r) := by
  cases r with
  | nil => rw [prs_nil] at h; cases h
  | cons b r =>
    rw [prs_two]
    exact List.mem_cons_of_mem _ h
theorem put_none {p : Pr} {x : Nat} : ∀ {row : List Nat}, p ∉ prs row → putT p x row = row
  | [], _ => putT_nil
  | [a], _ => putT_one
  | a :: b :: r, h => by
    rw [prs_two] at h
    have h1 : (a, b) ≠ p := fun e => h (by rw [e]; exact List.mem_cons_self)
    rw [putT_two, if_neg h1, put_none fun hm => h (List.mem_cons_of_mem _ hm)]
theorem put_head {p : Pr} {x b : Nat} {r : List Nat} : ∃ c r', putT p x (b :: r) = c :: r' ∧ (c = b ∨ c = x) := by
  cases r with
  | nil => exact ⟨b, [], putT_one, .inl rfl⟩
  | cons d r =>
    rw [putT_two]
    by_cases e : (b, d) = p
    · rw [if_pos e]
      exact ⟨_, _, rfl, .inr rfl⟩
    · rw [if_neg e]
      exact ⟨_, _, rfl, .inl rfl⟩
theorem prs_put {p : Pr} {x : Nat} : ∀ {row : List Nat} {q : Pr}, q ∈ prs (putT p x row) → q.1 = x ∨ q.2 = x ∨ (q ∈ prs row ∧ q ≠ p)
  | [], q, h => by rw [putT_nil, prs_nil] at h; cases h
  | [a], q, h => by rw [putT_one, prs_one] at h; cases h
  | a :: b :: r, q, h => by
    rw [putT_two] at h
    by_cases e : (a, b) = p
    · rw [if_pos e] at h
      cases hr : putT p x r with
      | nil => rw [hr, prs_one] at h; cases h
      | cons c r' =>
        rw [hr, prs_two] at h
        rcases List.mem_cons.mp h with h | h
        · left
          rw [h]
        · rw [← hr] at h
          rcases prs_put h with h | h | ⟨h1, h2⟩
          · exact .inl h
          · exact .inr (.inl h)
          · exact .inr (.inr ⟨prs_tail (prs_tail h1), h2⟩)
    · rw [if_neg e] at h
      obtain ⟨c, r', hc, hcc⟩ := put_head (p := p) (x := x) (b := b) (r := r)
      rw [hc, prs_two] at h
      rcases List.mem_cons.mp h with h | h
      · rcases hcc with rfl | rfl
        · right; right
          rw [h]
          exact ⟨by rw [prs_two]; exact List.mem_cons_self, e⟩
        · right; left
          rw [h]
      · rw [← hc] at h
        rcases prs_put h with h | h | ⟨h1, h2⟩
        · exact .inl h
        · exact .inr (.inl h)
        · exact .inr (.inr ⟨prs_tail h1, h2⟩)
/-- rank by rank, from rank i on -/
def stages (L : Nat) : Nat → List Pr → List Nat → List Nat
  | _, [], row => row
  | i, p :: ps, row => stages L (i + 1) ps (putT p (L + i) row)
def cutJ (L : Nat) (ps : List Pr) (row : List Nat) : List Nat := stages L 0 ps row
theorem stages_none {L : Nat} : ∀ {ps : List Pr} {i : Nat} {row : List Nat}, (∀ p ∈ ps, p ∉ prs row) → stages L i ps row = row
  | [], _, _, _ => rfl
  | p :: ps, i, row, h => by
    show stages L (i + 1) ps (putT p (L + i) row) = row
    rw [put_none (h p List.mem_cons_self)]
    exact stages_none fun q hq => h q (List.mem_cons_of_mem _ hq)
theorem stages_low {L : Nat} : ∀ {pre : List Pr} {i : Nat} {post : List Pr} {row : List Nat}, (∀ p ∈ pre, p ∉ prs row) → stages L i (pre ++ post) row = stages L (i + pre.length) post row
  | [], _, _, _, _ => rfl
  | p :: pre, i, post, row, h => by
    show stages L (i + 1) (pre ++ post) (putT p (L + i) row) = _
    rw [put_none (h p List.mem_cons_self), stages_low fun q hq => h q (List.mem_cons_of_mem _ hq), List.length_cons, show i + 1 + pre.length = i + (pre.length + 1) by omega]
/-- a join stands on pieces ahead of it -/
def WF (L : Nat) (ps : List Pr) : Prop := ∀ i p, ps[i]? = some p → p.1 < L + i ∧ p.2 < L + i
/-- the join of rank r is the lowest that is there -/
def Low (ps : List Pr) (row : List Nat) (r : Nat) : Prop := ∀ i q, i < r → ps[i]? = some q → q ∉ prs row
theorem split_at {ps : List Pr} {r : Nat} {p : Pr} (h : ps[r]? = some p) : ps = ps.take r ++ p :: ps.drop (r + 1) ∧ (ps.take r).length = r := by
  obtain ⟨hr, e⟩ := List.getElem?_eq_some_iff.mp h
  refine ⟨?_, by rw [List.length_take]; omega⟩
  have q := List.take_append_drop r ps
  rw [List.drop_eq_getElem_cons hr, e] at q
  exact q.symm
theorem low_pre {ps : List Pr} {row : List Nat} {r : Nat} (h : Low ps row r) : ∀ q ∈ ps.take r, q ∉ prs row := fun q hq => by
  obtain ⟨i, hi, e⟩ := List.mem_iff_getElem.mp hq
  rw [List.length_take] at hi
  refine h i q (by omega) ?_
  rw [← e, List.getElem_take]
  exact List.getElem?_eq_getElem _
theorem cut_at {L : Nat} {ps : List Pr} {row : List Nat} {r : Nat} {p : Pr} (hp : ps[r]? = some p) (h : Low ps row r) : cutJ L ps row = stages L (r + 1) (ps.drop (r + 1)) (putT p (L + r) row) := by
  obtain ⟨e, el⟩ := split_at hp
  unfold cutJ
  rw [congrArg (fun x => stages L 0 x row) e, stages_low (low_pre h), el, Nat.zero_add]
  rfl
theorem low_all {L : Nat} {ps : List Pr} {row row' : List Nat} {r : Nat} {p : Pr} (wf : WF L ps) (h : Low ps row r) (hq : ∀ q ∈ prs row', q.1 = L + r ∨ q.2 = L + r ∨ q ∈ prs row) : Low ps row' r := fun i q hi hpq hm => by
  have := wf i q hpq
  rcases hq q hm with e | e | e
  · omega
  · omega
  · exact h i q hi hpq e
/-- the lowest pair put together everywhere: the same cut -/
theorem cut_put {L : Nat} {ps : List Pr} {row : List Nat} {r : Nat} {p : Pr} (wf : WF L ps) (hp : ps[r]? = some p) (h : Low ps row r) : cutJ L ps (putT p (L + r) row) = cutJ L ps row := by
  have h2 : Low ps (putT p (L + r) row) r := low_all (p := p) wf h fun q hq => by
    rcases prs_put hq with e | e | e
    · exact .inl e
    · exact .inr (.inl e)
    · exact .inr (.inr e.1)
  rw [cut_at hp h, cut_at hp h2]
  congr 1
  refine put_none fun hm => ?_
  have q2 := wf r p hp
  rcases prs_put hm with e | e | e
  · omega
  · omega
  · exact e.2 rfl
theorem put_at {p : Pr} {X a b : Nat} {y : List Nat} (hab : (a, b) = p) : ∀ {x : List Nat}, p ∉ prs (x ++ [a]) → putT p X (x ++ a :: b :: y) = x ++ X :: putT p X y
  | [], _ => by
    show putT p X (a :: b :: y) = _
    rw [putT_two, if_pos hab]
    rfl
  | [u], h => by
    have h : p ∉ prs (u :: a :: []) := h
    rw [prs_two, prs_one] at h
    show putT p X (u :: a :: b :: y) = u :: X :: putT p X y
    rw [putT_two, if_neg (fun e => h (by rw [e]; exact List.mem_cons_self)), putT_two, if_pos hab]
  | u :: v :: x, h => by
    have h : p ∉ prs (u :: v :: (x ++ [a])) := h
    rw [prs_two] at h
    show putT p X (u :: v :: (x ++ a :: b :: y)) = u :: (v :: x ++ X :: putT p X y)
    rw [putT_two, if_neg (fun e => h (by rw [e]; exact List.mem_cons_self))]
    congr 1
    exact put_at hab (x := v :: x) fun hm => h (List.mem_cons_of_mem _ hm)
theorem put_over {p : Pr} {X : Nat} {y : List Nat} (h1 : X ≠ p.1) (h2 : X ≠ p.2) : ∀ {x : List Nat}, p ∉ prs x → putT p X (x ++ X :: y) = x ++ X :: putT p X y
  | [], _ => by
    show putT p X (X :: y) = X :: putT p X y
    cases y with
    | nil => rw [putT_one, putT_nil]
    | cons c y => rw [putT_two, if_neg (fun e => h1 (by rw [← e]))]
  | [u], _ => by
    show putT p X (u :: X :: y) = u :: X :: putT p X y
    rw [putT_two, if_neg (fun e => h2 (by rw [← e]))]
    congr 1
    exact put_over h1 h2 (x := []) (by rw [prs_nil]; exact fun h => by cases h)
  | u :: v :: x, h => by
    rw [prs_two] at h
    show putT p X (u :: v :: (x ++ X :: y)) = u :: (v :: x ++ X :: putT p X y)
    rw [putT_two, if_neg (fun e => h (by rw [e]; exact List.mem_cons_self))]
    congr 1
    exact put_over h1 h2 (x := v :: x) fun hm => h (List.mem_cons_of_mem _ hm)
theorem prs_app {a : Nat} {y : List Nat} : ∀ {x : List Nat} {q : Pr}, q ∈ prs (x ++ [a]) → q ∈ prs (x ++ a :: y)
  | [], q, h => by
    have h : q ∈ prs [a] := h
    rw [prs_one] at h
    cases h
  | [u], q, h => by
    have h : q ∈ prs (u :: a :: []) := h
    show q ∈ prs (u :: a :: y)
    rw [prs_two, prs_one] at h
    rw [prs_two]
    rcases List.mem_cons.mp h with h | h
    · rw [h]; exact List.mem_cons_self
    · cases h
  | u :: v :: x, q, h => by
    have h : q ∈ prs (u :: v :: (x ++ [a])) := h
    show q ∈ prs (u :: v :: (x ++ a :: y))
    rw [prs_two] at h ⊢
    rcases List.mem_cons.mp h with h | h
    · rw [h]; exact List.mem_cons_self
    · exact List.mem_cons_of_mem _ (prs_app (x := v :: x) h)
theorem prs_left : ∀ {x y : List Nat} {q : Pr}, q ∈ prs x → q ∈ prs (x ++ y)
  | [], _, q, h => by rw [prs_nil] at h; cases h
  | [u], _, q, h => by rw [prs_one] at h; cases h
  | u :: v :: x, y, q, h => by
    show q ∈ prs (u :: v :: (x ++ y))
    rw [prs_two] at h ⊢
    rcases List.mem_cons.mp h with h | h
    · rw [h]; exact List.mem_cons_self
    · exact List.mem_cons_of_mem _ (prs_left (x := v :: x) h)
theorem prs_right : ∀ {x y : List Nat} {q : Pr}, q ∈ prs y → q ∈ prs (x ++ y)
  | [], _, q, h => h
  | u :: x, y, q, h => prs_tail (prs_right (x := x) h)
/-- neighbors of a row in two parts -/
theorem prs_cases {X : Nat} {y : List Nat} : ∀ {x : List Nat} {q : Pr}, q ∈ prs (x ++ X :: y) → q.1 = X ∨ q.2 = X ∨ q ∈ prs x ∨ q ∈ prs y
  | [], q, h => by
    have h : q ∈ prs (X :: y) := h
    cases y with
    | nil => rw [prs_one] at h; cases h
    | cons c y =>
      rw [prs_two] at h
      rcases List.mem_cons.mp h with h | h
      · left; rw [h]
      · exact .inr (.inr (.inr h))
  | [u], q, h => by
    have h : q ∈ prs (u :: X :: y) := h
    rw [prs_two] at h
    rcases List.mem_cons.mp h with h | h
    · right; left; rw [h]
    · rcases prs_cases (x := []) h with h | h | h | h
      · exact .inl h
      · exact .inr (.inl h)
      · rw [prs_nil] at h; cases h
      · exact .inr (.inr (.inr h))
  | u :: v :: x, q, h => by
    have h : q ∈ prs (u :: v :: (x ++ X :: y)) := h
    rw [prs_two] at h
    rcases List.mem_cons.mp h with h | h
    · right; right; left
      rw [h, prs_two]
      exact List.mem_cons_self
    · rcases prs_cases (x := v :: x) h with h | h | h | h
      · exact .inl h
      · exact .inr (.inl h)
      · exact .inr (.inr (.inl (prs_tail h)))
      · exact .inr (.inr (.inr h))
/-- the lowest pair put together at its first place alone: the same cut -/
theorem cut_first {L : Nat} {ps : List Pr} {x y : List Nat} {a b r : Nat} (wf : WF L ps) (hp : ps[r]? = some (a, b)) (h : Low ps (x ++ a :: b :: y) r) (hf : (a, b) ∉ prs (x ++ [a])) : cutJ L ps (x ++ (L + r) :: y) = cutJ L ps (x ++ a :: b :: y) := by
  have q2 := wf r _ hp
  have h2 : Low ps (x ++ (L + r) :: y) r := low_all (p := (a, b)) wf h fun q hq => by
    rcases prs_cases hq with e | e | e | e
    · exact .inl e
    · exact .inr (.inl e)
    · exact .inr (.inr (prs_left e))
    · exact .inr (.inr (prs_right (prs_tail (prs_tail e))))
  rw [cut_at hp h, cut_at hp h2]
  congr 1
  rw [put_at rfl hf, put_over (by show L + r ≠ a; have := q2.1; have e : (a, b).1 = a := rfl; omega) (by show L + r ≠ b; have := q2.2; have e : (a, b).2 = b := rfl; omega) fun hm => hf (prs_left hm)]
/-- a cut that comes in two parts: each is the cut of its own part -/
theorem put_split {p : Pr} {x : Nat} : ∀ {row P' Q' : List Nat}, putT p x row = P' ++ Q' → ∃ P Q, row = P ++ Q ∧ putT p x P = P' ∧ putT p x Q = Q'
  | row, [], Q', h => ⟨[], row, rfl, putT_nil, h⟩
  | [], c :: P', Q', h => by rw [putT_nil] at h; cases h
  | [a], c :: P', Q', h => by
    rw [putT_one] at h
    have h : a :: [] = c :: (P' ++ Q') := h
    injection h with h1 h2
    obtain ⟨e1, e2⟩ := List.append_eq_nil_iff.mp h2.symm
    subst e1 e2 h1
    exact ⟨[a], [], rfl, putT_one, putT_nil⟩
  | a :: b :: r, c :: P', Q', h => by
    rw [putT_two] at h
    by_cases e : (a, b) = p
    · rw [if_pos e] at h
      have h : x :: putT p x r = c :: (P' ++ Q') := h
      injection h with h1 h2
      obtain ⟨P, Q, e1, e2, e3⟩ := put_split h2
      refine ⟨a :: b :: P, Q, by rw [e1]; rfl, ?_, e3⟩
      rw [putT_two, if_pos e, e2, h1]
    · rw [if_neg e] at h
      have h : a :: putT p x (b :: r) = c :: (P' ++ Q') := h
      injection h with h1 h2
      obtain ⟨P, Q, e1, e2, e3⟩ := put_split h2
      refine ⟨a :: P, Q, by rw [e1]; rfl, ?_, e3⟩
      cases P with
      | nil =>
        rw [putT_nil] at e2
        rw [putT_one, ← e2, h1]
      | cons d P =>
        have e1 : b :: r = d :: (P ++ Q) := e1
        injection e1 with e4 e5
        rw [putT_two, if_neg (by rw [← e4]; exact e), e2, h1]
theorem stages_split {L : Nat} : ∀ {ps : List Pr} {i : Nat} {row P' Q' : List Nat}, stages L i ps row = P' ++ Q' → ∃ P Q, row = P ++ Q ∧ stages L i ps P = P' ∧ stages L i ps Q = Q'
  | [], _, row, P', Q', h => ⟨P', Q', h, rfl, rfl⟩
  | p :: ps, i, row, P', Q', h => by
    have h : stages L (i + 1) ps (putT p (L + i) row) = P' ++ Q' := h
    obtain ⟨P1, Q1, e1, e2, e3⟩ := stages_split h
    obtain ⟨P, Q, e4, e5, e6⟩ := put_split e1
    refine ⟨P, Q, e4, ?_, ?_⟩
    · show stages L (i + 1) ps (putT p (L + i) P) = P'
      rw [e5, e2]
    · show stages L (i + 1) ps (putT p (L + i) Q) = Q'
      rw [e6, e3]
theorem put_len {p : Pr} {x : Nat} : ∀ {row : List Nat}, (putT p x row).length ≤ row.length
  | [] => by rw [putT_nil]; exact Nat.le_refl _
  | [a] => by rw [putT_one]; exact Nat.le_refl _
  | a :: b :: r => by
    rw [putT_two]
    by_cases e : (a, b) = p
    · rw [if_pos e]
      have := put_len (p := p) (x := x) (row := r)
      simp only [List.length_cons]
      omega
    · rw [if_neg e]
      have := put_len (p := p) (x := x) (row := b :: r)
      simp only [List.length_cons] at this ⊢
      omega
theorem put_less {p : Pr} {x : Nat} : ∀ {row : List Nat}, p ∈ prs row → (putT p x row).length < row.length
  | [], h => by rw [prs_nil] at h; cases h
  | [a], h => by rw [prs_one] at h; cases h
  | a :: b :: r, h => by
    rw [putT_two]
    by_cases e : (a, b) = p
    · rw [if_pos e]
      have := put_len (p := p) (x := x) (row := r)
      simp only [List.length_cons]
      omega
    · rw [if_neg e]
      rw [prs_two] at h
      rcases List.mem_cons.mp h with h | h
      · exact absurd h.symm e
      · have := put_less (p := p) (x := x) (row := b :: r) h
        simp only [List.length_cons] at this ⊢
        omega
theorem put_mem {p : Pr} {x : Nat} : ∀ {row : List Nat} {c : Nat}, c ∈ putT p x row → c = x ∨ c ∈ row
  | [], c, h => by rw [putT_nil] at h; cases h
  | [a], c, h => by rw [putT_one] at h; exact .inr h
  | a :: b :: r, c, h => by
    rw [putT_two] at h
    by_cases e : (a, b) = p
    · rw [if_pos e] at h
      rcases List.mem_cons.mp h with h | h
      · exact .inl h
      · rcases put_mem h with h | h
        · exact .inl h
        · exact .inr (List.mem_cons_of_mem _ (List.mem_cons_of_mem _ h))
    · rw [if_neg e] at h
      rcases List.mem_cons.mp h with h | h
      · exact .inr (by rw [h]; exact List.mem_cons_self)
      · rcases put_mem h with h | h
        · exact .inl h
        · exact .inr (List.mem_cons_of_mem _ h)
/-! ### texts of pieces -/
def txs : List T → List Pr → List T
  | base, [] => base
  | base, p :: ps => txs (base ++ [base.getD p.1 [] ++ base.getD p.2 []]) ps
theorem txs_len : ∀ {ps : List Pr} {base : List T}, (txs base ps).length = base.length + ps.length
  | [], _ => rfl
  | p :: ps, base => by
    show (txs (base ++ [_]) ps).length = _
    rw [txs_len, List.length_append, List.length_cons, List.length_cons, List.length_nil]
    omega
theorem txs_pre : ∀ {ps : List Pr} {base : List T} {i : Nat}, i < base.length → (txs base ps).getD i [] = base.getD i []
  | [], _, _, _ => rfl
  | p :: ps, base, i, h => by
    show (txs (base ++ [_]) ps).getD i [] = _
    rw [txs_pre (by rw [List.length_append]; omega)]
    simp only [List.getD_eq_getElem?_getD]
    rw [List.getElem?_append_left h]
theorem txs_snoc : ∀ {ps : List Pr} {base : List T} {p : Pr}, txs base (ps ++ [p]) = txs base ps ++ [(txs base ps).getD p.1 [] ++ (txs base ps).getD p.2 []]
  | [], _, _ => rfl
  | q :: ps, base, p => by
    show txs (base ++ [_]) (ps ++ [p]) = _
    rw [txs_snoc]
    rfl
theorem txs_app : ∀ {ps qs : List Pr} {base : List T}, txs base (ps ++ qs) = txs (txs base ps) qs
  | [], _, _ => rfl
  | p :: ps, qs, base => by
    show txs (base ++ [_]) (ps ++ qs) = _
    rw [txs_app]
    rfl
/-- the text of the piece of a join -/
theorem txs_at {base : List T} {ps : List Pr} (wf : WF base.length ps) {r : Nat} {p : Pr} (hp : ps[r]? = some p) : (txs base ps).getD (base.length + r) [] = (txs base ps).getD p.1 [] ++ (txs base ps).getD p.2 [] := by
  obtain ⟨e, el⟩ := split_at hp
  have q := wf r p hp
  have e2 : txs base ps = txs (txs base (ps.take r) ++ [(txs base (ps.take r)).getD p.1 [] ++ (txs base (ps.take r)).getD p.2 []]) (ps.drop (r + 1)) := by
    rw [congrArg (txs base) e, txs_app]
    rfl
  have l1 : (txs base (ps.take r)).length = base.length + r := by rw [txs_len, el]
  have a0 : ∀ i, i < base.length + r + 1 → (txs base ps).getD i [] = (txs base (ps.take r) ++ [(txs base (ps.take r)).getD p.1 [] ++ (txs base (ps.take r)).getD p.2 []]).getD i [] := fun i hi =>
    (congrArg (fun l : List T => l.getD i []) e2).trans (txs_pre (by rw [List.length_append, l1]; exact hi))
  have a1 : ∀ i, i < base.length + r → (txs base (ps.take r) ++ [(txs base (ps.take r)).getD p.1 [] ++ (txs base (ps.take r)).getD p.2 []]).getD i [] = (txs base (ps.take r)).getD i [] := fun i hi => by
    simp only [List.getD_eq_getElem?_getD]
    rw [List.getElem?_append_left (by omega)]
  rw [a0 _ (Nat.lt_succ_self _), a0 _ (Nat.lt_succ_of_lt q.1), a0 _ (Nat.lt_succ_of_lt q.2), a1 _ q.1, a1 _ q.2, List.getD_eq_getElem?_getD, List.getElem?_append_right (by omega), l1, Nat.sub_self]
  rfl
def expR (tx : Nat → T) (row : List Nat) : T := row.flatMap tx
theorem exp_put {tx : Nat → T} {p : Pr} {x : Nat} (h : tx x = tx p.1 ++ tx p.2) : ∀ {row : List Nat}, expR tx (putT p x row) = expR tx row
  | [] => by rw [putT_nil]
  | [a] => by rw [putT_one]
  | a :: b :: r => by
    rw [putT_two]
    by_cases e : (a, b) = p
    · rw [if_pos e]
      have ih := exp_put h (row := r)
      unfold expR at ih ⊢
      rw [List.flatMap_cons, List.flatMap_cons, List.flatMap_cons, ih, h, ← e, List.append_assoc]
    · rw [if_neg e]
      have ih := exp_put h (row := b :: r)
      unfold expR at ih ⊢
      rw [List.flatMap_cons, ih, List.flatMap_cons, List.flatMap_cons, List.flatMap_cons]
theorem exp_stages {L : Nat} {tx : Nat → T} : ∀ {ps : List Pr} {i : Nat} {row : List Nat}, (∀ j p, ps[j]? = some p → tx (L + (i + j)) = tx p.1 ++ tx p.2) → expR tx (stages L i ps row) = expR tx row
  | [], _, _, _ => rfl
  | p :: ps, i, row, h => by
    show expR tx (stages L (i + 1) ps (putT p (L + i) row)) = _
    rw [exp_stages fun j q hq => by rw [show i + 1 + j = i + (j + 1) by omega]; exact h (j + 1) q hq]
    exact exp_put (h 0 p rfl)
theorem exp_cut {base : List T} {ps : List Pr} (wf : WF base.length ps) {row : List Nat} : expR (fun i => (txs base ps).getD i []) (cutJ base.length ps row) = expR (fun i => (txs base ps).getD i []) row :=
  exp_stages fun j p hp => by
    rw [Nat.zero_add]
    exact txs_at wf hp
/-! ### letters -/
/-- the row of the letters of a text -/
def lets (z : T) (t : T) : List Nat := t.map fun c => z.idxOf c
def baseT (z : T) : List T := z.map fun c => [c]
theorem baseT_len {z : T} : (baseT z).length = z.length := List.length_map ..
theorem base_at {z : T} {ps : List Pr} {i : Nat} (h : i < z.length) : (txs (baseT z) ps).getD i [] = [z[i]] := by
  rw [txs_pre (by rw [baseT_len]; exact h), List.getD_eq_getElem?_getD]
  unfold baseT
  rw [List.getElem?_map, List.getElem?_eq_getElem h]
  rfl
theorem exp_lets {z : T} {ps : List Pr} : ∀ {t : T}, (∀ c ∈ t, c ∈ z) → expR (fun i => (txs (baseT z) ps).getD i []) (lets z t) = t
  | [], _ => rfl
  | c :: t, h => by
    have hc := List.idxOf_lt_length_of_mem (h c List.mem_cons_self)
    show (txs (baseT z) ps).getD (z.idxOf c) [] ++ expR _ (lets z t) = c :: t
    rw [exp_lets fun d hd => h d (List.mem_cons_of_mem _ hd), base_at hc, List.getElem_idxOf]
    rfl
theorem lets_exp {z : T} {ps : List Pr} (nd : z.Nodup) : ∀ {row : List Nat}, (∀ i ∈ row, i < z.length) → lets z (expR (fun i => (txs (baseT z) ps).getD i []) row) = row
  | [], _ => rfl
  | i :: row, h => by
    have hi := h i List.mem_cons_self
    have ih := lets_exp nd (ps := ps) fun j hj => h j (List.mem_cons_of_mem _ hj)
    show lets z ((txs (baseT z) ps).getD i [] ++ expR _ row) = i :: row
    rw [base_at hi]
    show z.idxOf z[i] :: lets z (expR _ row) = i :: row
    rw [ih, nd.idxOf_getElem]
/-- a stretch of a cut is the cut of its text -/
theorem stretch {z : T} {ps : List Pr} (wf : WF z.length ps) (nd : z.Nodup) {t : T} (ht : ∀ c ∈ t, c ∈ z) {U M V : List Nat} (h : cutJ z.length ps (lets z t) = U ++ (M ++ V)) : cutJ z.length ps (lets z (expR (fun i => (txs (baseT z) ps).getD i []) M)) = M := by
  obtain ⟨P, Q, e1, e2, e3⟩ := stages_split h
  obtain ⟨P2, Q2, e4, e5, e6⟩ := stages_split e3
  have hl : ∀ i ∈ lets z t, i < z.length := fun i hi => by
    obtain ⟨c, hc, rfl⟩ := List.mem_map.mp hi
    exact List.idxOf_lt_length_of_mem (ht c hc)
  have hP2 : ∀ i ∈ P2, i < z.length := fun i hi => hl i (by rw [e1, e4]; exact List.mem_append_right _ (List.mem_append_left _ hi))
  have wf' : WF (baseT z).length ps := by rw [baseT_len]; exact wf
  have e7 : expR (fun i => (txs (baseT z) ps).getD i []) M = expR (fun i => (txs (baseT z) ps).getD i []) P2 := by
    have q := exp_cut (base := baseT z) wf' (row := P2)
    rw [baseT_len] at q
    have e5 : cutJ z.length ps P2 = M := e5
    rw [e5] at q
    exact q
  rw [e7, lets_exp nd hP2]
  exact e5
/-- in a cut no join is left -/
theorem cut_done {L : Nat} {ps : List Pr} (wf : WF L ps) : ∀ (n : Nat) (row : List Nat), row.length ≤ n → ∀ p ∈ ps, p ∉ prs (cutJ L ps row) := by
  intro n
  induction n with
  | zero =>
    intro row h p hp
    obtain rfl := List.eq_nil_of_length_eq_zero (Nat.le_zero.mp h)
    have e : cutJ L ps [] = [] := stages_none fun q _ => by rw [prs_nil]; exact fun h => by cases h
    rw [e, prs_nil]
    exact fun h => by cases h
  | succ n ih =>
    intro row h p hp
    by_cases hex : ∃ (r : Nat) (q : Pr), ps[r]? = some q ∧ q ∈ prs row
    · obtain ⟨r, hr, hlow⟩ : ∃ r : Nat, (∃ q : Pr, ps[r]? = some q ∧ q ∈ prs row) ∧ Low ps row r := by
        obtain ⟨r, hr⟩ := hex
        induction r using Nat.strongRecOn with
        | _ r ihr =>
          by_cases hl : Low ps row r
          · exact ⟨r, hr, hl⟩
          · unfold Low at hl
            obtain ⟨i, hl⟩ := Classical.not_forall.mp hl
            obtain ⟨q, hl⟩ := Classical.not_forall.mp hl
            obtain ⟨h1, hl⟩ := Classical.not_imp.mp hl
            obtain ⟨h2, hl⟩ := Classical.not_imp.mp hl
            exact ihr i h1 ⟨q, h2, Classical.not_not.mp hl⟩
      obtain ⟨q, hq, hqm⟩ := hr
      rw [← cut_put wf hq hlow]
      have := put_less (x := L + r) hqm
      exact ih _ (by omega) p hp
    · have e : cutJ L ps row = row := stages_none fun q hq hm => by
        obtain ⟨i, hi, rfl⟩ := List.mem_iff_getElem.mp hq
        exact hex ⟨i, _, List.getElem?_eq_getElem hi, hm⟩
      rw [e]
      intro hm
      obtain ⟨i, hi, rfl⟩ := List.mem_iff_getElem.mp hp
      exact hex ⟨i, _, List.getElem?_eq_getElem hi, hm⟩
theorem cut_none {L : Nat} {ps : List Pr} {row : List Nat} (h : ∀ p ∈ ps, p ∉ prs row) : cutJ L ps row = row := stages_none h
theorem cut_len {L : Nat} : ∀ {ps : List Pr} {i : Nat} {row : List Nat}, (stages L i ps row).length ≤ row.length
  | [], _, _ => Nat.le_refl _
  | p :: ps, i, row => by
    show (stages L (i + 1) ps (putT p (L + i) row)).length ≤ _
    exact Nat.le_trans cut_len put_len
theorem cut_mem {L : Nat} : ∀ {ps : List Pr} {i : Nat} {row : List Nat} {c : Nat}, c ∈ stages L i ps row → c ∈ row ∨ c < L + i + ps.length
  | [], _, _, _, h => .inl h
  | p :: ps, i, row, c, h => by
    have h : c ∈ stages L (i + 1) ps (putT p (L + i) row) := h
    rw [List.length_cons]
    rcases cut_mem h with h | h
    · rcases put_mem h with h | h
      · right; omega
      · exact .inl h
    · right; omega
end PL

set_option Elab.async false
set_option linter.all false
set_option maxRecDepth 100000
set_option maxHeartbeats 4000000
/-! # min of a list of tuples (data of any depth, any length) -/
namespace PH
open PySem PySem.Spec PyProof.Rows L2 PySem.W
theorem depthAll_le {n : Nat} : ∀ {ds : List PyData}, (∀ d ∈ ds, d.depth ≤ n) → PyData.depthAll ds ≤ n
  | [], _ => by simp [PyData.depthAll]
  | d :: ds, h => by
    have h1 := h d List.mem_cons_self
    have h2 := depthAll_le (n := n) (ds := ds) fun e he => h e (List.mem_cons_of_mem _ he)
    simp only [PyData.depthAll]
    omega
/-- min(xs): xs are tuples that compare -/
def rMinD (K : PySem.W.Frag) : List V → Hp → VK → Prop := fun vs H Q => ∃ (a : Addr) (xs : List V) (d : PyData) (ds : List PyData) (H0 : Hp), vs = [V.ref a] ∧ SqL K H a xs ∧ Same H0 H ∧ DpAll K H0 xs (d :: ds) ∧ AlikeAll (d :: ds) ∧ (∀ e ∈ d :: ds, e.depth ≤ 60) ∧
  ∀ v, Dp K H0 v (minD d ds) → Q v H
theorem reads_all {X : Cx} {pins : List (Addr × Obj)} {σ : L2.St} {H : Hp} {s : Shared} (I : Inv X pins σ H s) : ∀ {xs : List V} {ds : List PyData} {us : List Value}, DpAll X.K H xs ds → Vals xs us → ∃ as, ReadsAll s.heap us ds as
  | _, _, _, .nil, .nil => ⟨[], .nil⟩
  | _, _, _, .cons h1 h2, .cons r1 r2 => by
    obtain ⟨as, e1⟩ := Dp.reads I _ _ _ h1 r1
    obtain ⟨bs, e2⟩ := reads_all I h2 r2
    exact ⟨_, .cons e1 e2⟩
theorem at_both {X : Cx} {pins : List (Addr × Obj)} {σ : L2.St} {H H0 : Hp} {s : Shared} (I : Inv X pins σ H s) (hS : Same H0 H) : ∀ {xs : List V} {ds : List PyData} {us : List Value} {i : Nat} {u : Value}, DpAll X.K H0 xs ds → Vals xs us → us[i]? = some u → ∃ v d as, RelV v u ∧ Dp X.K H0 v d ∧ Reads s.heap u d as
  | _, _, _, _, _, .nil, .nil, h => by simp at h
  | _, _, _, 0, _, .cons h1 h2, .cons r1 r2, h => by
    have e := Option.some.inj (show some _ = some _ from h)
    subst e
    obtain ⟨as, e1⟩ := Dp.reads I _ _ _ (dp_same hS _ _ h1) r1
    exact ⟨_, _, as, r1, h1, e1⟩
  | _, _, _, i + 1, u, .cons h1 h2, .cons r1 r2, h => at_both I hS h2 r2 (i := i) (by simpa using h)
theorem cr_minD {X : Cx} {K : PySem.W.Frag} (hK : X.K = K) (hc : X.calm = true) (hu : X.A.units + 64 < cLine) : CallR X (.builtin "min") (rMinD K) := by
  subst hK
  intro pins s σ H vs us Q I r h
  obtain ⟨a, xs, d, ds, H0, rfl, hs, hS0, hd, hal, hdep, q⟩ := h
  obtain ⟨its, rv, hl, hz⟩ := I.list hs
  rw [Vals.ref1 r]
  obtain ⟨as, hr⟩ := reads_all I (dpAll_same hS0 _ _ hd) rv
  have hdl := depthAll_le hdep
  refine min_list_data (I.ok.hd hc) hl.isList (by simpa using hr) hal (by show X.A.units + 1 + _ < _; omega) fun i v h' tk bs hv hrv hk => ?_
  obtain ⟨y, e, cs, ry, hy, hre⟩ := at_both I hS0 hd rv (i := i) (u := v) (by simpa using hv)
  have hre' := reads_keeps hk hre
  have ee := (Reads.unique hre' _ _ hrv).1
  subst ee
  exact ⟨y, H, I.kept hk, ry, q y hy⟩
/-! ### dicts -/
section
variable {σ : L2.St} {H : Hp} {D : Ends} {Q : VK} {td ty tv tx : TE}
theorem v_dput (q : tv σ H fun v H1 => td σ H1 fun x H2 => ty σ H2 fun y H3 => ∃ a H4, x = .ref a ∧ DPut H3 a y v H4 ∧ D.nx σ H4) : sDPut td ty tv D σ H := q
theorem v_dget1 (q : td σ H fun x H1 => ∃ a, x = .ref a ∧ IsD H1 a ∧ ty σ H1 fun y H2 => ∃ o, DGet H2 a y o ∧ Q (o.getD .non) H2) : tDGet1 td ty σ H Q := q
theorem v_dget2 (q : td σ H fun x H1 => ∃ a, x = .ref a ∧ IsD H1 a ∧ ty σ H1 fun y H2 => tx σ H2 fun z H3 => ∃ o, DGet H3 a y o ∧ Q (o.getD z) H3) : tDGet2 td ty tx σ H Q := q
theorem v_dnewK (q : ∀ p, H p = none → Q (.ref p) (upd H p (.dK []))) : tDNewK σ H Q := q
theorem v_dnewT (q : ∀ p, H p = none → Q (.ref p) (upd H p (.dT []))) : tDNewT σ H Q := q
end
end PH

set_option Elab.async false
set_option linter.all false
/-! # The rows by longest words from both ends -/
namespace PL
inductive AheadR (W : T → Prop) : T → List T → Prop
  | nil : AheadR W [] []
  | step {t : T} {s : Nat} {r : List T} : t ≠ [] → MaxPre W t s → AheadR W (t.drop s) r → AheadR W t (t.take s :: r)
theorem aheadR_unique {W : T → Prop} {t : T} {a b : List T} (h : AheadR W t a) (h2 : AheadR W t b) : a = b := by
  induction h generalizing b with
  | nil =>
    cases h2 with
    | nil => rfl
    | step h _ _ => exact absurd rfl h
  | @step t s n hne hm ha ih =>
    cases h2 with
    | nil => exact absurd rfl hne
    | @step _ s' n' _ hm' ha' =>
      have e : s = s' := Nat.le_antisymm (hm'.2 s hm.1) (hm.2 s' hm'.1)
      subst e
      rw [ih ha']
theorem aheadR_row {W : T → Prop} {t : T} {r : List T} (h : AheadR W t r) : Row W t r := by
  induction h with
  | nil => exact row_nil
  | step _ hm _ ih => exact row_step hm.1.1 hm.1.2 ih
inductive BehindR (W : T → Prop) : T → List T → Prop
  | nil : BehindR W [] []
  | step {t : T} {s : Nat} {r : List T} : t ≠ [] → MaxSuf W t s → BehindR W (t.take (t.length - s)) r → BehindR W t (r ++ [t.drop (t.length - s)])
theorem behindR_cases {W : T → Prop} {t : T} {b : List T} (h : BehindR W t b) : (t = [] ∧ b = []) ∨ ∃ s r, t ≠ [] ∧ MaxSuf W t s ∧ BehindR W (t.take (t.length - s)) r ∧ b = r ++ [t.drop (t.length - s)] := by
  cases h with
  | nil => exact .inl ⟨rfl, rfl⟩
  | step h1 h2 h3 => exact .inr ⟨_, _, h1, h2, h3, rfl⟩
theorem behindR_unique {W : T → Prop} {t : T} {a b : List T} (h : BehindR W t a) (h2 : BehindR W t b) : a = b := by
  induction h generalizing b with
  | nil =>
    rcases behindR_cases h2 with ⟨_, e⟩ | ⟨_, _, h, _⟩
    · exact e.symm
    · exact absurd rfl h
  | @step t s n hne hm ha ih =>
    rcases behindR_cases h2 with ⟨e, _⟩ | ⟨s', r', _, hm', ha', e'⟩
    · exact absurd e hne
    · have e : s = s' := Nat.le_antisymm (hm'.2 s hm.1) (hm.2 s' hm'.1)
      subst e
      rw [e', ih ha']
theorem behindR_row {W : T → Prop} {t : T} {r : List T} (h : BehindR W t r) : Row W t r := by
  induction h with
  | nil => exact row_nil
  | @step t s r _ hm _ ih =>
    have q := row_snoc ih hm.1.2
    rw [List.take_append_drop] at q
    exact q
end PL

set_option Elab.async false
set_option linter.all false
set_option maxRecDepth 100000
set_option maxHeartbeats 4000000
/-! # One of two operators (operands of several classes) -/
namespace PH
open PySem PySem.Spec PyProof.Rows L2 PySem.W
def rOr (r1 r2 : R2) : R2 := fun x y H Q => r1 x y H Q ∨ r2 x y H Q
theorem op_or {X : Cx} {f : Value → Value → Sem Value} {r1 r2 : R2} (h1 : OpR X f r1) (h2 : OpR X f r2) : OpR X f (rOr r1 r2) := by
  intro pins s σ H x y v u Q I rx ry h
  rcases h with h | h
  · exact h1 pins s σ H x y v u Q I rx ry h
  · exact h2 pins s σ H x y v u Q I rx ry h
end PH

set_option Elab.async false
set_option linter.all false
set_option maxRecDepth 100000
set_option maxHeartbeats 4000000
/-! # str.index of a sign -/
namespace PH
open PySem PySem.Spec PyProof.Rows L2
section
open PySem.StrLaws PySem.Builtin PySem.Builtin.Str
theorem occ_full (s sub : Str) (hi : Nat) : ∀ (l : List Nat) (st : Array Nat × Nat), st.fst.size = 1 → (forIn l st (occBody s sub hi 1)).run.fst = st.fst
  | [], st, _ => rfl
  | a :: l, st, h => by
    rw [List.forIn_cons]
    unfold occBody
    rw [if_neg (fun hc => by have := hc.1.1.1; omega)]
    exact occ_full s sub hi l _ h
theorem occ_at (s sub : Str) (hi i : Nat) (post : List Nat) (hc : i + sub.length ≤ hi ∧ subAt s sub i = true) : ∀ (pre : List Nat) (free : Nat), (∀ j ∈ pre, free ≤ j) → free ≤ i → (∀ j ∈ pre, ¬ (j + sub.length ≤ hi ∧ subAt s sub j = true)) → (forIn (pre ++ i :: post) ((#[] : Array Nat), free) (occBody s sub hi 1)).run.fst = #[i]
  | [], free, _, hf, _ => by
    rw [List.nil_append, List.forIn_cons]
    have c1 : (((((#[] : Array Nat), free).fst.size < 1 ∧ ((#[] : Array Nat), free).snd ≤ i) ∧ i + sub.length ≤ hi) ∧ subAt s sub i = true) := ⟨⟨⟨by simp, hf⟩, hc.1⟩, hc.2⟩
    have e : occBody s sub hi 1 i ((#[] : Array Nat), free) = pure (ForInStep.yield ((#[] : Array Nat).push i, i + sub.length)) := by
      unfold occBody
      rw [if_pos c1]
    rw [e]
    exact occ_full s sub hi post _ rfl
  | a :: pre, free, h1, hf, h2 => by
    rw [List.cons_append, List.forIn_cons]
    have e : occBody s sub hi 1 a ((#[] : Array Nat), free) = pure (ForInStep.yield ((#[] : Array Nat), free)) := by
      unfold occBody
      rw [if_neg (fun h => h2 a List.mem_cons_self ⟨h.1.2, h.2⟩)]
    rw [e]
    exact occ_at s sub hi i post hc pre free (fun j hj => h1 j (List.mem_cons_of_mem _ hj)) hf fun j hj => h2 j (List.mem_cons_of_mem _ hj)
theorem occ_sign {z : Str} {c i : Nat} (nd : z.cps.toList.Nodup) (hi : z.cps.toList[i]? = some c) : occurrences z ⟨#[c]⟩ 0 z.length 1 = [i] := by
  have hc := (subAt_one z c i).2 hi
  have hn : i < z.length := by
    have : (⟨#[c]⟩ : Str).length = 1 := rfl
    omega
  rw [occ_eq]
  have e : List.range' 0 (z.length + 1 - 0) = List.range' 0 i ++ i :: List.range' (i + 1) (z.length - i) := by
    have q := List.range'_append (s := 0) (m := i) (n := z.length + 1 - i) (step := 1)
    rw [show 0 + 1 * i = i by omega, show i + (z.length + 1 - i) = z.length + 1 - 0 by omega, show z.length + 1 - i = (z.length - i) + 1 by omega, List.range'_succ] at q
    exact q.symm
  rw [e, occ_at z ⟨#[c]⟩ z.length i _ hc _ 0 (fun j _ => Nat.zero_le _) (Nat.zero_le _) fun j hj h => ?_]
  have hj2 : j < i := by
    have := List.mem_range'.mp hj
    omega
  have q := (subAt_one z c j).1 h
  obtain ⟨b1, e1⟩ := List.getElem?_eq_some_iff.mp hi
  obtain ⟨b2, e2⟩ := List.getElem?_eq_some_iff.mp q
  have := (List.getElem_inj nd).1 (e1.trans e2.symm)
  omega
end
def rSIndex : V → List V → Hp → VK → Prop := fun x xs H Q => ∃ (z : Str) (c i : Nat), x = .str z ∧ xs = [.str ⟨#[c]⟩] ∧ z.cps.toList.Nodup ∧ z.cps.toList[i]? = some c ∧ Q (.int (i : Nat)) H
theorem mt_sindex1 {X : Cx} : MtR X "str.index" rSIndex := by
  intro pins s σ H x xs v us Q I rx rs h
  obtain ⟨z, c, i, rfl, rfl, nd, hi, q⟩ := h
  exact mt_sindex pins s σ H (.str z) [.str ⟨#[c]⟩] v us Q I rx rs ⟨z, ⟨#[c]⟩, i, [], rfl, rfl, occ_sign nd hi, q⟩
end PH

set_option Elab.async false
set_option linter.all false
set_option maxRecDepth 100000
set_option maxHeartbeats 4000000
/-! # A text twice -/
namespace PH
open PySem PySem.Spec PyProof.Rows L2
def rep2 (z : Str) : Str := ⟨(List.replicate 2 z.cps).foldl (· ++ ·) #[]⟩
theorem rep2_length {z : Str} : (rep2 z).length = 2 * z.length := by
  show ((List.replicate 2 z.cps).foldl (· ++ ·) #[]).size = 2 * z.cps.size
  simp [List.replicate, List.foldl]
  omega
theorem rep2_sign {c : Nat} : (rep2 (⟨#[c]⟩ : Str)).cps.toList = [c, c] := rfl
def rMul2 : R2 := fun x y H Q => ∃ z : Str, x = .str z ∧ y = .int 2 ∧ 0 < z.length ∧ z.length < 10000 ∧ Q (.str (rep2 z)) H
theorem op_mul_str2 {X : Cx} : OpR X (binaryOp .Mult) rMul2 := by
  intro pins s σ H x y v u Q I rx ry h
  obtain ⟨z, rfl, rfl, h3, h4, q⟩ := h
  obtain ⟨t, rfl⟩ := rx
  obtain ⟨t2, rfl⟩ := ry
  have e2 : ((2 : Int) == 1 || z.length == 0) = false := by
    have b : (z.length == 0) = false := beq_eq_false_iff_ne.mpr (by omega)
    rw [b] <;> rfl
  have hl : ¬ (z.length * (2 : Int).toNat > sizeLine) := by
    show ¬ (z.length * 2 > sizeLine)
    rw [sizeLine_eq]
    omega
  have hn : (rep2 z).length ≤ sizeLine := by
    rw [rep2_length, sizeLine_eq]
    omega
  refine PySem.P.mul_str (by decide) (fun _ _ => ?_) (fun _ _ => decide_eq_false hl) ?_
  · have e : ((2 ^ 63 - 1 : Int) / 2) = 4611686018427387903 := by decide
    rw [e]
    omega
  · rw [if_neg (by decide), if_neg (by rw [e2]; decide)]
    exact ⟨hn, ⟨.str (rep2 z), H, I.tok _, ⟨_, rfl⟩, q⟩⟩
end PH

set_option Elab.async false
set_option linter.all false
set_option maxRecDepth 100000
set_option maxHeartbeats 4000000
/-! # Comprehensions with two fors -/
namespace PH
open PySem PySem.Spec PyProof.Rows L2 C8
section
variable {J : It} {n : Nat} {G : Hp → Prop} {Y : Nat → Hp → V → Hp → Prop}
theorem v_lc2 {wi wi1 : TI} {g g1 : TG} {tt tt1 : TT} {te : TE} {vs vs1 : List Nat} {σ : L2.St} {H : Hp} {Q : VK} (q : wi σ H fun J H1 => ∀ D, H1 D = none → ∃ W : Nat → Nat → Hp → Prop, (∃ m, W 0 m (upd H1 D (.lst []))) ∧ ∀ i m H, W i m H →
  (J.stop i H ∧ Q (.ref D) H) ∨ (J.go i H ∧ ∃ Nx : Hp → Prop, (∀ H', Nx H' → ∃ m', m' < m ∧ W (i + 1) m' H') ∧ ∀ x H', J.yld i H x H' → g x (wipe σ vs) H' fun σ2 H2 => wipe σ2 vs = wipe σ vs ∧ tt σ2 H2 fun b H3 =>
    if b = true then wi1 σ2 H3 fun J1 H4 => ∃ W1 : Nat → Nat → Hp → Prop, (∃ m, W1 0 m H4) ∧ ∀ j k H, W1 j k H →
      (J1.stop j H ∧ Nx H) ∨ (J1.go j H ∧ ∃ Nx1 : Hp → Prop, (∀ H', Nx1 H' → ∃ k', k' < k ∧ W1 (j + 1) k' H') ∧ ∀ x H', J1.yld j H x H' → g1 x (wipe σ2 vs1) H' fun σ3 H5 => wipe σ3 vs1 = wipe σ2 vs1 ∧ tt1 σ3 H5 fun b H6 =>
        if b = true then te σ3 H6 fun y H7 => ∃ acc, H7 D = some (.lst acc) ∧ acc.length < sizeLine ∧ Nx1 (upd H7 D (.lst (acc ++ [y]))) else Nx1 H6)
    else Nx H3)) : tLc2 wi g tt wi1 g1 tt1 te vs vs1 σ H Q := q
/-- the outer walk: B Nx is what one turn asks -/
theorem lc2_it (w : Walk J n G Y) {g : TG} {B : (Hp → Prop) → L2.St → Hp → Prop} {vs : List Nat} {σ : L2.St} {H1 : Hp} {Qd : Hp → Prop} (Pv : Nat → Hp → Prop) (h0 : Pv 0 H1) (hG : ∀ i H, i ≤ n → Pv i H → G H)
    (hs : ∀ i x H H', i < n → Pv i H → Y i H x H' → g x (wipe σ vs) H' fun σ2 H2 => B (Pv (i + 1)) σ2 H2) (hd : ∀ H, Pv n H → Qd H) :
    ∃ W : Nat → Nat → Hp → Prop, (∃ m, W 0 m H1) ∧ ∀ i m H, W i m H →
      (J.stop i H ∧ Qd H) ∨ (J.go i H ∧ ∃ Nx : Hp → Prop, (∀ H', Nx H' → ∃ m', m' < m ∧ W (i + 1) m' H') ∧ ∀ x H', J.yld i H x H' → g x (wipe σ vs) H' fun σ2 H2 => B Nx σ2 H2) := by
  refine ⟨fun i m H => m = n - i ∧ i ≤ n ∧ Pv i H, ⟨n, by simp, Nat.zero_le _, h0⟩, ?_⟩
  rintro i m H ⟨rfl, hi, p⟩
  have q := hG i H hi p
  by_cases hlt : i < n
  · refine .inr ⟨w.goes i H hlt q, Pv (i + 1), fun H' p' => ⟨n - (i + 1), by omega, rfl, hlt, p'⟩, fun x H' y => hs i x H H' hlt p (w.yields i H x H' hlt q y)⟩
  · have e : i = n := by omega
    subst e
    exact .inl ⟨w.stops H q, hd H p⟩
end
end PH

set_option Elab.async false
set_option linter.all false
set_option maxRecDepth 100000
set_option maxHeartbeats 4000000
/-! # set(list of ints): the library's road for tuples, turned to lists -/
namespace PH
open PySem PySem.Spec PyProof.Rows L2
section
variable {P : Program} {w : World} {A : Around} {E : Value → Shared → Prop} {s : Shared}
set_option maxRecDepth 100000 in
set_option maxHeartbeats 3200000 in
theorem call_set_lstI {l : Addr} {items : Array Value} (ns : List Int) {Q : Value → Shared → Prop} (hh : A.handled = none) (hl : s.heap.IsList l items) (hit : IntsAre items.toList ns) (hb : ns.length + 1 < scanBound)
    (h : ∀ (h' : Heap) (tk c : Nat), SetR w h' s.heap.objs.size (fun j => decide (j ∈ ns)) c → c ≤ ns.length → (∀ b o, s.heap.get? b = some o → h'.get? b = some o) → Q (.ref s.heap.objs.size) { s with heap := h', toks := tk }) :
    wpAny (model P w) A (call (.type "set") [.ref l]) Q E s := by
  have hisz : items.size = ns.length := by
    have q := IntsAre.length hit
    rw [Array.length_toList] at q
    exact q
  obtain ⟨c, tl, hmro⟩ := F.called_set.mro
  have hmade := F.called_set.made
  have hsub := F.called_set.sub
  refine wpAny_call (codeAny_of_tree ?_)
  show wpAny _ _ (callAny (.type "set") _) _ _ _
  refine wpAny_pure ⟨Code.quiet_builtin _ (by decide +kernel), codeAny_builtin F.entry_type_call ?_⟩
  rw [Around.under_plain (weight_type_call_type "set" [.ref l] []) rfl]
  have h1 := F.called_set.notType
  have h2 := F.called_set.canCreate
  have hct := F.typeCall_set_1 (.ref l)
  repeat (any_goals (first | assumption | wp_step))

  refine codeAny_mono (code_set_led1 (.ref l) (E := E) (Q₁ := fun obj s₁ => obj = .ref s.heap.objs.size ∧ s₁ = { s with heap := s.heap.push { cls := .type "set", dict := none, data := .set #[] 0 (.fresh 0 0 (!w.params.followText "set-order")) } }) ⟨rfl, rfl⟩) fun r s₁ hr => ?_
  cases r with
  | error e => exact hr
  | ok fl =>
    cases fl with
    | ret obj =>
      obtain ⟨rfl, rfl⟩ := hr
      have hS : (s.heap.push { cls := .type "set", dict := none, data := .set #[] 0 (.fresh 0 0 (!w.params.followText "set-order")) }).get? s.heap.objs.size = some { cls := .type "set", dict := none, data := .set #[] 0 (.fresh 0 0 (!w.params.followText "set-order")) } := Heap.get?_push_size _ rfl
      have hT : Shared.TypeIs { s with heap := s.heap.push { cls := .type "set", dict := none, data := .set #[] 0 (.fresh 0 0 (!w.params.followText "set-order")) } } (.ref s.heap.objs.size) "set" := ⟨_, hS, rfl⟩
      have hli := F.called_set.init.lookup
      have hbi := F.called_set.init.bind (.ref s.heap.objs.size)
      repeat (any_goals (first | assumption | wp_step))

      refine codeAny_mono (codeAny_call_builtin (R := wants (fun r s₂ => r = .none ∧ ∃ h' tk c, s₂ = { s with heap := h', toks := tk } ∧ SetR w h' s.heap.objs.size (fun j => decide (j ∈ ns)) c ∧ c ≤ ns.length ∧
          (∀ b o, s.heap.get? b = some o → h'.get? b = some o)) E) F.called_set.init.plain F.entry_set_init (check_set_init_1 hT ?_)) fun r₂ s₂ hr₂ => ?_
      · obtain ⟨ol, hol, hcl, nl, hdl⟩ := hl
        obtain ⟨ocls, odict, odata, oslots⟩ := ol
        simp only at hcl hdl
        subst hcl; subst hdl
        have hol' : (s.heap.push { cls := .type "set", dict := none, data := .set #[] 0 (.fresh 0 0 (!w.params.followText "set-order")) }).get? l = some { cls := .type "list", dict := odict, data := .seq items nl, slots := oslots } := Heap.get?_push_of_some _ hol
        have hsls := F.sub_list_set
        have hslf := F.sub_list_frozenset
        have hne : (Value.type "list" == Value.type "dict") = false := by decide
        have hl1 : (s.heap.push { cls := .type "set", dict := none, data := .set #[] 0 (.fresh 0 0 (!w.params.followText "set-order")) }).IsList l items := ⟨_, hol', rfl, nl, rfl⟩
        unfold Builtin.«set.__init__» noKeywords Builtin.Frozenset.updateFrom
        generalize hPI : pyIter = PI
        wp_walk
        subst hPI

        refine wpAny_pyIter_list hl1 ?_
        refine wpAny_bind (wpAny_runValue ?_)
        have hlS : l < s.heap.objs.size := Heap.lt_size hol
        have hh3 : A.in1.in1.in1.handled = none := by simp [hh]
        have hz1 : (s.heap.push { cls := .type "set", dict := none, data := .set #[] 0 (.fresh 0 0 (!w.params.followText "set-order")) }).objs.size = s.heap.objs.size + 1 := Heap.size_push ..
        have hneI : l ≠ (s.heap.push { cls := .type "set", dict := none, data := .set #[] 0 (.fresh 0 0 (!w.params.followText "set-order")) }).objs.size := by
          rw [Heap.size_push]; exact Nat.ne_of_lt (Nat.lt_succ_of_lt hlS)
        have hSf : s.heap.objs.size ∉ [(s.heap.push { cls := .type "set", dict := none, data := .set #[] 0 (.fresh 0 0 (!w.params.followText "set-order")) }).objs.size, l] := by
          rw [Heap.size_push]; simp only [List.mem_cons, List.mem_singleton, List.not_mem_nil, or_false, not_or]
          exact ⟨Nat.ne_of_lt (Nat.lt_succ_self _), Nat.ne_of_gt hlS⟩
        have hval : ∀ (i : Nat) (v : Value), items[i]? = some v → ∃ k t, ns[i]? = some k ∧ v = .int k t := fun i v hv => by
          have hi : i < ns.length := by rw [← hisz]; exact (Array.getElem?_eq_some_iff.mp hv).1
          obtain ⟨t, e⟩ := PyProof.Rows.IntsAre.int_at hit i v (by rw [Array.getElem?_toList]; exact hv)
          refine ⟨ns[i], t, List.getElem?_eq_getElem hi, ?_⟩
          rw [e, List.getD_eq_getElem?_getD, List.getElem?_eq_getElem hi] <;> rfl
        refine set_update_ints ((Walks.list hh3 _ l hneI items).toS) s.heap.objs.size
          hSf ns hisz hb hval (items.size - 0) 0 _ (by omega) (Nat.zero_le _)
          ⟨⟨_, Heap.get?_push_size _ rfl, rfl, rfl⟩, (hl1.push _)⟩ ?hS0 ?hR
        case hS0 =>
          have hget : ((s.heap.push { cls := .type "set", dict := none, data := .set #[] 0 (.fresh 0 0 (!w.params.followText "set-order")) }).push { cls := .type "list_iterator", data := .fields #[.ref l, .int 0 0] }).get? s.heap.objs.size
              = some { cls := .type "set", dict := none, data := .set #[] 0 (.fresh 0 0 (!w.params.followText "set-order")) } := Heap.get?_push_of_some _ hS
          exact ⟨0, Nat.le_refl 0, setR_new_at hget⟩
        case hR =>
          intro s' c' hm hc' hS'
          obtain ⟨h', g2, d', tk', os'⟩ := s'
          have eg : g2 = s.gens := hm.gens
          have ed : d' = s.drawn := hm.drawn
          have eo : os' = s.os := hm.os
          subst eg; subst ed; subst eo
          show wpAny _ _ _ _ _ _
          refine wpAny_pure ?_
          show wpAny _ _ (ret Value.none) _ _ _
          rw [hisz] at hc'
          refine wpAny_pure ⟨rfl, h', tk', c', rfl, hS', hc', fun b o e => ?_⟩
          have hb0 : b < s.heap.objs.size := Heap.lt_size e
          have hb1 : b ≠ s.heap.objs.size := Nat.ne_of_lt hb0
          have hb2 : b ≠ (s.heap.push { cls := .type "set", dict := none, data := .set #[] 0 (.fresh 0 0 (!w.params.followText "set-order")) }).objs.size := by
            rw [Heap.size_push]; exact Nat.ne_of_lt (Nat.lt_succ_of_lt hb0)
          exact hm.heap b o (by simp only [List.mem_cons, List.mem_singleton, List.not_mem_nil, or_false, not_or]; exact ⟨hb1, hb2⟩) (Heap.get?_push_of_some _ (Heap.get?_push_of_some _ e))

      · cases r₂ with
        | error e => exact hr₂
        | ok fl₂ =>
          cases fl₂ with
          | ret r =>
            obtain ⟨rfl, h', tk, c', rfl, hS', hc', hk'⟩ := hr₂
            repeat (any_goals (first | assumption | wp_step))
            exact h _ _ _ hS' hc' hk'
          | _ => exact hr₂.elim
    | _ => exact hr.elim
end
section
variable {X : Cx}
def rSetInts (K : PySem.W.Frag) (w : World) : List V → Hp → VK → Prop := fun xs H Q => ∃ (l : Addr) (ns : List Int), xs = [V.ref l] ∧ SqL K H l (ns.map V.int) ∧ ns.length < 64 ∧
  ∀ a c, H a = none → c ≤ ns.length → Q (.ref a) (upd H a (SetO w a (fun j => decide (j ∈ ns)) c))
theorem cr_set_ints (hc : X.calm = true) : CallR X (.type "set") (rSetInts X.K X.w) := by
  intro pins s σ H xs us Q I r h
  obtain ⟨l, ns, rfl, hl, hf, q⟩ := h
  rw [Vals.ref1 r]
  obtain ⟨its, rv, pl, hz⟩ := I.list hl
  have hn : H s.heap.objs.size = none := I.hok.fresh (Nat.le_refl _)
  refine call_set_lstI (P := X.prog) (w := X.w) ns (I.ok.hd hc) pl.isList (by simpa using rv.ints) (by unfold scanBound; omega) fun h' tk c R hc k => ?_
  exact ⟨.ref s.heap.objs.size, upd H s.heap.objs.size (SetO X.w s.heap.objs.size (fun j => decide (j ∈ ns)) c), I.laid (t' := tk) k (Nat.le_refl _) (setO_new R), rfl, q _ c hn hc⟩
end
end PH

set_option Elab.async false
set_option linter.all false
set_option maxRecDepth 100000
set_option maxHeartbeats 8000000
/-! # The text by places, the facts, the run of the top -/
namespace K80
open PySem PySem.Spec PyProof.Rows L2 PH
abbrev PW := PySem.Challenge.pw_piecehouse_k80_whole_marked_texts
abbrev RWL := PySem.Challenge.rw_piecehouse_k80_whole_marked_texts
def top (i : Nat) : Stmt := PW.main.body.getD i (.Pass ⟨0, 0, 0, 0⟩)
abbrev s_InvalidAlphabet___init__ : Stmt := inClass (top 3) 0
abbrev s_NotProper___init__ : Stmt := inClass (top 4) 0
abbrev s_NoPiece___init__ : Stmt := inClass (top 5) 0
abbrev s_UnknownSign___init__ : Stmt := inClass (top 6) 0
abbrev s_InvalidNumber___init__ : Stmt := inClass (top 7) 0
abbrev s_InvalidWords___init__ : Stmt := inClass (top 8) 0
abbrev s_InvalidCutter___init__ : Stmt := inClass (top 9) 0
abbrev s_TooMany___init__ : Stmt := inClass (top 10) 0
abbrev s_is_between : Stmt := top 14
abbrev s_is_alphabet : Stmt := top 15
abbrev s_checked_alphabet : Stmt := top 16
abbrev s_put_together : Stmt := top 17
abbrev s_lowest_pair : Stmt := top 18
abbrev s_cut_row : Stmt := top 19
abbrev s_Joins___init__ : Stmt := inClass (top 20) 0
abbrev s_Joins_take : Stmt := inClass (top 20) 1
abbrev s_Joins_is_proper : Stmt := inClass (top 20) 2
abbrev s_Joins_pieces : Stmt := inClass (top 20) 3
abbrev s_Joins_is_piece : Stmt := inClass (top 20) 4
abbrev s_Joins_check_piece : Stmt := inClass (top 20) 5
abbrev s_Joins_text_of : Stmt := inClass (top 20) 6
abbrev s_Joins_parts_of : Stmt := inClass (top 20) 7
abbrev s_Joins_rank_of : Stmt := inClass (top 20) 8
abbrev s_Joins_piece_of : Stmt := inClass (top 20) 9
abbrev s_Joins_first : Stmt := inClass (top 20) 10
abbrev s_Joins___len__ : Stmt := inClass (top 20) 11
abbrev s_Joins___iter__ : Stmt := inClass (top 20) 12
abbrev s_Joins___eq__ : Stmt := inClass (top 20) 13
abbrev s_letters_of : Stmt := top 22
abbrev s_cut : Stmt := top 23
abbrev s_is_sequence : Stmt := top 28
abbrev s_is_text_over : Stmt := top 29
abbrev s_is_word_text : Stmt := top 30
abbrev s_check_letters : Stmt := top 31
abbrev s_checked_alphabet_of_words : Stmt := top 32
abbrev s_checked_further : Stmt := top 33
abbrev s_Words___init__ : Stmt := inClass (top 34) 0
abbrev s_Words_all_words : Stmt := inClass (top 34) 1
abbrev s_Words_has : Stmt := inClass (top 34) 2
abbrev s_Words_without : Stmt := inClass (top 34) 3
abbrev s_Words_lengths_ahead : Stmt := inClass (top 34) 4
abbrev s_Words_lengths_behind : Stmt := inClass (top 34) 5
abbrev s_Words___eq__ : Stmt := inClass (top 34) 6
abbrev s_ahead : Stmt := top 36
abbrev s_behind : Stmt := top 37
abbrev s_least_counts : Stmt := top 38
abbrev s_fewest : Stmt := top 39
abbrev s_checked_costs : Stmt := top 43
abbrev s_Costs___init__ : Stmt := inClass (top 44) 0
abbrev s_Costs_cost_of : Stmt := inClass (top 44) 1
abbrev s_Costs___eq__ : Stmt := inClass (top 44) 2
abbrev s_priced_lengths : Stmt := top 45
abbrev s_least_costs : Stmt := top 46
abbrev s_best : Stmt := top 47
abbrev s_is_kind : Stmt := top 50
abbrev s_goes_with : Stmt := top 51
abbrev s_source_alphabet : Stmt := top 52
abbrev s_source_pieces : Stmt := top 53
abbrev s_source_row : Stmt := top 54
abbrev s_places_in : Stmt := top 55
abbrev s_Cutter___init__ : Stmt := inClass (top 56) 0
abbrev s_Cutter_cut : Stmt := inClass (top 56) 1
abbrev s_Cutter_all_pieces : Stmt := inClass (top 56) 2
abbrev s_Cutter_places : Stmt := inClass (top 56) 3
abbrev s_Cutter___eq__ : Stmt := inClass (top 56) 4
abbrev s_is_marked : Stmt := top 57
abbrev s_marked_of_size : Stmt := top 60
abbrev s__law_bag : Stmt := top 62
abbrev s__law_draw : Stmt := top 63
abbrev s__law_letters : Stmt := top 64
abbrev s__law_join_row : Stmt := top 65
abbrev s__law_texts : Stmt := top 66
abbrev s__law_pairs : Stmt := top 67
abbrev s__law_further : Stmt := top 68
abbrev s__law_ahead : Stmt := top 69
abbrev s__law_behind : Stmt := top 70
abbrev s__law_best : Stmt := top 71
abbrev s__law_cut : Stmt := top 72
abbrev s__law_places : Stmt := top 73
abbrev s__law_drawn : Stmt := top 74
abbrev s__law_made : Stmt := top 75
abbrev s__law_all_texts : Stmt := top 76
abbrev s__law_all_places : Stmt := top 77
abbrev s__law_same : Stmt := top 78
abbrev s__law_refused : Stmt := top 79
abbrev s__law_every_text : Stmt := top 80
abbrev s__law_none : Stmt := top 81
abbrev s__law_long : Stmt := top 82
abbrev s_law : Stmt := top 83
theorem sc_InvalidAlphabet___init__ : FnScope ["self", "alphabet"] ["self", "alphabet"] (defScope s_InvalidAlphabet___init__) := ⟨rfl, rfl, rfl, by decide +kernel, rfl, by decide +kernel, by decide +kernel⟩
theorem bo_InvalidAlphabet___init__ : BindOk "__init__" "InvalidAlphabet.__init__" s_InvalidAlphabet___init__ ["self", "alphabet"] := fun _ _ _ _ _ _ us hl => match us, hl with | [_, _], _ => rfl
theorem sc_NotProper___init__ : FnScope ["self", "rank"] ["self", "rank"] (defScope s_NotProper___init__) := ⟨rfl, rfl, rfl, by decide +kernel, rfl, by decide +kernel, by decide +kernel⟩
theorem bo_NotProper___init__ : BindOk "__init__" "NotProper.__init__" s_NotProper___init__ ["self", "rank"] := fun _ _ _ _ _ _ us hl => match us, hl with | [_, _], _ => rfl
theorem sc_NoPiece___init__ : FnScope ["self", "piece"] ["self", "piece"] (defScope s_NoPiece___init__) := ⟨rfl, rfl, rfl, by decide +kernel, rfl, by decide +kernel, by decide +kernel⟩
theorem bo_NoPiece___init__ : BindOk "__init__" "NoPiece.__init__" s_NoPiece___init__ ["self", "piece"] := fun _ _ _ _ _ _ us hl => match us, hl with | [_, _], _ => rfl
theorem sc_UnknownSign___init__ : FnScope ["self", "sign", "at"] ["self", "sign", "at"] (defScope s_UnknownSign___init__) := ⟨rfl, rfl, rfl, by decide +kernel, rfl, by decide +kernel, by decide +kernel⟩
theorem bo_UnknownSign___init__ : BindOk "__init__" "UnknownSign.__init__" s_UnknownSign___init__ ["self", "sign", "at"] := fun _ _ _ _ _ _ us hl => match us, hl with | [_, _, _], _ => rfl
theorem sc_InvalidNumber___init__ : FnScope ["self", "number"] ["self", "number"] (defScope s_InvalidNumber___init__) := ⟨rfl, rfl, rfl, by decide +kernel, rfl, by decide +kernel, by decide +kernel⟩
theorem bo_InvalidNumber___init__ : BindOk "__init__" "InvalidNumber.__init__" s_InvalidNumber___init__ ["self", "number"] := fun _ _ _ _ _ _ us hl => match us, hl with | [_, _], _ => rfl
theorem sc_InvalidWords___init__ : FnScope ["self", "place"] ["self", "place"] (defScope s_InvalidWords___init__) := ⟨rfl, rfl, rfl, by decide +kernel, rfl, by decide +kernel, by decide +kernel⟩
theorem bo_InvalidWords___init__ : BindOk "__init__" "InvalidWords.__init__" s_InvalidWords___init__ ["self", "place"] := fun _ _ _ _ _ _ us hl => match us, hl with | [_, _], _ => rfl
theorem sc_InvalidCutter___init__ : FnScope ["self", "part"] ["self", "part"] (defScope s_InvalidCutter___init__) := ⟨rfl, rfl, rfl, by decide +kernel, rfl, by decide +kernel, by decide +kernel⟩
theorem bo_InvalidCutter___init__ : BindOk "__init__" "InvalidCutter.__init__" s_InvalidCutter___init__ ["self", "part"] := fun _ _ _ _ _ _ us hl => match us, hl with | [_, _], _ => rfl
theorem sc_TooMany___init__ : FnScope ["self", "what"] ["self", "what"] (defScope s_TooMany___init__) := ⟨rfl, rfl, rfl, by decide +kernel, rfl, by decide +kernel, by decide +kernel⟩
theorem bo_TooMany___init__ : BindOk "__init__" "TooMany.__init__" s_TooMany___init__ ["self", "what"] := fun _ _ _ _ _ _ us hl => match us, hl with | [_, _], _ => rfl
theorem sc_is_between : FnScope ["value", "least", "most"] ["value", "least", "most"] (defScope s_is_between) := ⟨rfl, rfl, rfl, by decide +kernel, rfl, by decide +kernel, by decide +kernel⟩
theorem bo_is_between : BindOk "is_between" "is_between" s_is_between ["value", "least", "most"] := fun _ _ _ _ _ _ us hl => match us, hl with | [_, _, _], _ => rfl
theorem sc_is_alphabet : FnScope ["alphabet", "sign", "at"] ["alphabet"] (defScope s_is_alphabet) := ⟨rfl, rfl, rfl, by decide +kernel, rfl, by decide +kernel, by decide +kernel⟩
theorem bo_is_alphabet : BindOk "is_alphabet" "is_alphabet" s_is_alphabet ["alphabet"] := fun _ _ _ _ _ _ us hl => match us, hl with | [_], _ => rfl
theorem sc_checked_alphabet : FnScope ["alphabet"] ["alphabet"] (defScope s_checked_alphabet) := ⟨rfl, rfl, rfl, by decide +kernel, rfl, by decide +kernel, by decide +kernel⟩
theorem bo_checked_alphabet : BindOk "checked_alphabet" "checked_alphabet" s_checked_alphabet ["alphabet"] := fun _ _ _ _ _ _ us hl => match us, hl with | [_], _ => rfl
theorem sc_put_together : FnScope ["row", "pair", "piece", "found", "at"] ["row", "pair", "piece"] (defScope s_put_together) := ⟨rfl, rfl, rfl, by decide +kernel, rfl, by decide +kernel, by decide +kernel⟩
theorem bo_put_together : BindOk "put_together" "put_together" s_put_together ["row", "pair", "piece"] := fun _ _ _ _ _ _ us hl => match us, hl with | [_, _, _], _ => rfl
theorem sc_lowest_pair : FnScope ["ranks", "row", "best", "at", "pair"] ["ranks", "row"] (defScope s_lowest_pair) := ⟨rfl, rfl, rfl, by decide +kernel, rfl, by decide +kernel, by decide +kernel⟩
theorem bo_lowest_pair : BindOk "lowest_pair" "lowest_pair" s_lowest_pair ["ranks", "row"] := fun _ _ _ _ _ _ us hl => match us, hl with | [_, _], _ => rfl
theorem sc_cut_row : FnScope ["ranks", "letters", "row", "pair"] ["ranks", "letters", "row"] (defScope s_cut_row) := ⟨rfl, rfl, rfl, by decide +kernel, rfl, by decide +kernel, by decide +kernel⟩
theorem bo_cut_row : BindOk "cut_row" "cut_row" s_cut_row ["ranks", "letters", "row"] := fun _ _ _ _ _ _ us hl => match us, hl with | [_, _, _], _ => rfl
theorem sc_Joins___init__ : FnScope ["self", "alphabet", "pairs", "at", "letter", "pair"] ["self", "alphabet", "pairs"] (defScope s_Joins___init__) := ⟨rfl, rfl, rfl, by decide +kernel, rfl, by decide +kernel, by decide +kernel⟩
theorem bo_Joins___init__ : BindOk "__init__" "Joins.__init__" s_Joins___init__ ["self", "alphabet", "pairs"] := fun _ _ _ _ _ _ us hl => match us, hl with | [_, _, _], _ => rfl
theorem sc_Joins_take : FnScope ["self", "pair", "rank", "text"] ["self", "pair"] (defScope s_Joins_take) := ⟨rfl, rfl, rfl, by decide +kernel, rfl, by decide +kernel, by decide +kernel⟩
theorem bo_Joins_take : BindOk "take" "Joins.take" s_Joins_take ["self", "pair"] := fun _ _ _ _ _ _ us hl => match us, hl with | [_, _], _ => rfl
theorem sc_Joins_is_proper : FnScope ["self", "pair", "left", "right", "most", "text", "row", "letter"] ["self", "pair"] (defScope s_Joins_is_proper) := ⟨rfl, rfl, rfl, by decide +kernel, rfl, by decide +kernel, by decide +kernel⟩
theorem bo_Joins_is_proper : BindOk "is_proper" "Joins.is_proper" s_Joins_is_proper ["self", "pair"] := fun _ _ _ _ _ _ us hl => match us, hl with | [_, _], _ => rfl
theorem sc_Joins_is_piece : FnScope ["self", "piece"] ["self", "piece"] (defScope s_Joins_is_piece) := ⟨rfl, rfl, rfl, by decide +kernel, rfl, by decide +kernel, by decide +kernel⟩
theorem bo_Joins_is_piece : BindOk "is_piece" "Joins.is_piece" s_Joins_is_piece ["self", "piece"] := fun _ _ _ _ _ _ us hl => match us, hl with | [_, _], _ => rfl
theorem sc_Joins_check_piece : FnScope ["self", "piece"] ["self", "piece"] (defScope s_Joins_check_piece) := ⟨rfl, rfl, rfl, by decide +kernel, rfl, by decide +kernel, by decide +kernel⟩
theorem bo_Joins_check_piece : BindOk "check_piece" "Joins.check_piece" s_Joins_check_piece ["self", "piece"] := fun _ _ _ _ _ _ us hl => match us, hl with | [_, _], _ => rfl
theorem sc_Joins_text_of : FnScope ["self", "piece"] ["self", "piece"] (defScope s_Joins_text_of) := ⟨rfl, rfl, rfl, by decide +kernel, rfl, by decide +kernel, by decide +kernel⟩
theorem bo_Joins_text_of : BindOk "text_of" "Joins.text_of" s_Joins_text_of ["self", "piece"] := fun _ _ _ _ _ _ us hl => match us, hl with | [_, _], _ => rfl
theorem sc_Joins_piece_of : FnScope ["self", "text"] ["self", "text"] (defScope s_Joins_piece_of) := ⟨rfl, rfl, rfl, by decide +kernel, rfl, by decide +kernel, by decide +kernel⟩
theorem bo_Joins_piece_of : BindOk "piece_of" "Joins.piece_of" s_Joins_piece_of ["self", "text"] := fun _ _ _ _ _ _ us hl => match us, hl with | [_, _], _ => rfl
theorem sc_letters_of : FnScope ["joins", "text", "row", "at", "sign"] ["joins", "text"] (defScope s_letters_of) := ⟨rfl, rfl, rfl, by decide +kernel, rfl, by decide +kernel, by decide +kernel⟩
theorem bo_letters_of : BindOk "letters_of" "letters_of" s_letters_of ["joins", "text"] := fun _ _ _ _ _ _ us hl => match us, hl with | [_, _], _ => rfl
theorem sc_cut : FnScope ["joins", "text"] ["joins", "text"] (defScope s_cut) := ⟨rfl, rfl, rfl, by decide +kernel, rfl, by decide +kernel, by decide +kernel⟩
theorem bo_cut : BindOk "cut" "cut" s_cut ["joins", "text"] := fun _ _ _ _ _ _ us hl => match us, hl with | [_, _], _ => rfl
theorem sc_is_sequence : FnScope ["value"] ["value"] (defScope s_is_sequence) := ⟨rfl, rfl, rfl, by decide +kernel, rfl, by decide +kernel, by decide +kernel⟩
theorem bo_is_sequence : BindOk "is_sequence" "is_sequence" s_is_sequence ["value"] := fun _ _ _ _ _ _ us hl => match us, hl with | [_], _ => rfl
theorem sc_is_text_over : FnScope ["alphabet", "value", "sign"] ["alphabet", "value"] (defScope s_is_text_over) := ⟨rfl, rfl, rfl, by decide +kernel, rfl, by decide +kernel, by decide +kernel⟩
theorem bo_is_text_over : BindOk "is_text_over" "is_text_over" s_is_text_over ["alphabet", "value"] := fun _ _ _ _ _ _ us hl => match us, hl with | [_, _], _ => rfl
theorem sc_is_word_text : FnScope ["alphabet", "value"] ["alphabet", "value"] (defScope s_is_word_text) := ⟨rfl, rfl, rfl, by decide +kernel, rfl, by decide +kernel, by decide +kernel⟩
theorem bo_is_word_text : BindOk "is_word_text" "is_word_text" s_is_word_text ["alphabet", "value"] := fun _ _ _ _ _ _ us hl => match us, hl with | [_, _], _ => rfl
theorem sc_check_letters : FnScope ["alphabet", "text", "at", "sign"] ["alphabet", "text"] (defScope s_check_letters) := ⟨rfl, rfl, rfl, by decide +kernel, rfl, by decide +kernel, by decide +kernel⟩
theorem bo_check_letters : BindOk "check_letters" "check_letters" s_check_letters ["alphabet", "text"] := fun _ _ _ _ _ _ us hl => match us, hl with | [_, _], _ => rfl
theorem sc_checked_alphabet_of_words : FnScope ["alphabet"] ["alphabet"] (defScope s_checked_alphabet_of_words) := ⟨rfl, rfl, rfl, by decide +kernel, rfl, by decide +kernel, by decide +kernel⟩
theorem bo_checked_alphabet_of_words : BindOk "checked_alphabet_of_words" "checked_alphabet_of_words" s_checked_alphabet_of_words ["alphabet"] := fun _ _ _ _ _ _ us hl => match us, hl with | [_], _ => rfl
theorem sc_checked_further : FnScope ["alphabet", "further", "found", "place", "text"] ["alphabet", "further"] (defScope s_checked_further) := ⟨rfl, rfl, rfl, by decide +kernel, rfl, by decide +kernel, by decide +kernel⟩
theorem bo_checked_further : BindOk "checked_further" "checked_further" s_checked_further ["alphabet", "further"] := fun _ _ _ _ _ _ us hl => match us, hl with | [_, _], _ => rfl
theorem sc_Words___init__ : FnScope ["self", "alphabet", "further", "text"] ["self", "alphabet", "further"] (defScope s_Words___init__) := ⟨rfl, rfl, rfl, by decide +kernel, rfl, by decide +kernel, by decide +kernel⟩
theorem bo_Words___init__ : BindOk "__init__" "Words.__init__" s_Words___init__ ["self", "alphabet", "further"] := fun _ _ _ _ _ _ us hl => match us, hl with | [_, _, _], _ => rfl
theorem sc_Words_all_words : FnScope ["self"] ["self"] (defScope s_Words_all_words) := ⟨rfl, rfl, rfl, by decide +kernel, rfl, by decide +kernel, by decide +kernel⟩
theorem bo_Words_all_words : BindOk "all_words" "Words.all_words" s_Words_all_words ["self"] := fun _ _ _ _ _ _ us hl => match us, hl with | [_], _ => rfl
theorem sc_Words_lengths_ahead : FnScope ["self", "text", "at", "most", "size"] ["self", "text", "at"] (defScope s_Words_lengths_ahead) := ⟨rfl, rfl, rfl, by decide +kernel, rfl, by decide +kernel, by decide +kernel⟩
theorem bo_Words_lengths_ahead : BindOk "lengths_ahead" "Words.lengths_ahead" s_Words_lengths_ahead ["self", "text", "at"] := fun _ _ _ _ _ _ us hl => match us, hl with | [_, _, _], _ => rfl
theorem sc_Words_lengths_behind : FnScope ["self", "text", "at", "most", "size"] ["self", "text", "at"] (defScope s_Words_lengths_behind) := ⟨rfl, rfl, rfl, by decide +kernel, rfl, by decide +kernel, by decide +kernel⟩
theorem bo_Words_lengths_behind : BindOk "lengths_behind" "Words.lengths_behind" s_Words_lengths_behind ["self", "text", "at"] := fun _ _ _ _ _ _ us hl => match us, hl with | [_, _, _], _ => rfl
theorem sc_ahead : FnScope ["words", "text", "row", "at", "size"] ["words", "text"] (defScope s_ahead) := ⟨rfl, rfl, rfl, by decide +kernel, rfl, by decide +kernel, by decide +kernel⟩
theorem bo_ahead : BindOk "ahead" "ahead" s_ahead ["words", "text"] := fun _ _ _ _ _ _ us hl => match us, hl with | [_, _], _ => rfl
theorem sc_behind : FnScope ["words", "text", "row", "at", "size"] ["words", "text"] (defScope s_behind) := ⟨rfl, rfl, rfl, by decide +kernel, rfl, by decide +kernel, by decide +kernel⟩
theorem bo_behind : BindOk "behind" "behind" s_behind ["words", "text"] := fun _ _ _ _ _ _ us hl => match us, hl with | [_, _], _ => rfl
theorem sc_least_counts : FnScope ["words", "text", "counts", "_", "at", "size"] ["words", "text"] (defScope s_least_counts) := ⟨rfl, rfl, rfl, by decide +kernel, rfl, by decide +kernel, by decide +kernel⟩
theorem bo_least_counts : BindOk "least_counts" "least_counts" s_least_counts ["words", "text"] := fun _ _ _ _ _ _ us hl => match us, hl with | [_, _], _ => rfl
theorem sc_fewest : FnScope ["words", "text", "counts", "row", "at", "sizes", "size"] ["words", "text"] (defScope s_fewest) := ⟨rfl, rfl, rfl, by decide +kernel, rfl, by decide +kernel, by decide +kernel⟩
theorem bo_fewest : BindOk "fewest" "fewest" s_fewest ["words", "text"] := fun _ _ _ _ _ _ us hl => match us, hl with | [_, _], _ => rfl
theorem sc_checked_costs : FnScope ["words", "costs", "value"] ["words", "costs"] (defScope s_checked_costs) := ⟨rfl, rfl, rfl, by decide +kernel, rfl, by decide +kernel, by decide +kernel⟩
theorem bo_checked_costs : BindOk "checked_costs" "checked_costs" s_checked_costs ["words", "costs"] := fun _ _ _ _ _ _ us hl => match us, hl with | [_, _], _ => rfl
theorem sc_Costs___init__ : FnScope ["self", "words", "costs", "at", "text"] ["self", "words", "costs"] (defScope s_Costs___init__) := ⟨rfl, rfl, rfl, by decide +kernel, rfl, by decide +kernel, by decide +kernel⟩
theorem bo_Costs___init__ : BindOk "__init__" "Costs.__init__" s_Costs___init__ ["self", "words", "costs"] := fun _ _ _ _ _ _ us hl => match us, hl with | [_, _, _], _ => rfl
theorem sc_priced_lengths : FnScope ["costs", "text", "at", "size"] ["costs", "text", "at"] (defScope s_priced_lengths) := ⟨rfl, rfl, rfl, by decide +kernel, rfl, by decide +kernel, by decide +kernel⟩
theorem bo_priced_lengths : BindOk "priced_lengths" "priced_lengths" s_priced_lengths ["costs", "text", "at"] := fun _ _ _ _ _ _ us hl => match us, hl with | [_, _, _], _ => rfl
theorem sc_least_costs : FnScope ["costs", "text", "least", "_", "at", "size", "cost"] ["costs", "text"] (defScope s_least_costs) := ⟨rfl, rfl, rfl, by decide +kernel, rfl, by decide +kernel, by decide +kernel⟩
theorem bo_least_costs : BindOk "least_costs" "least_costs" s_least_costs ["costs", "text"] := fun _ _ _ _ _ _ us hl => match us, hl with | [_, _], _ => rfl
theorem sc_best : FnScope ["costs", "text", "least", "row", "at", "sizes", "size", "cost"] ["costs", "text"] (defScope s_best) := ⟨rfl, rfl, rfl, by decide +kernel, rfl, by decide +kernel, by decide +kernel⟩
theorem bo_best : BindOk "best" "best" s_best ["costs", "text"] := fun _ _ _ _ _ _ us hl => match us, hl with | [_, _], _ => rfl
theorem sc_is_kind : FnScope ["value"] ["value"] (defScope s_is_kind) := ⟨rfl, rfl, rfl, by decide +kernel, rfl, by decide +kernel, by decide +kernel⟩
theorem bo_is_kind : BindOk "is_kind" "is_kind" s_is_kind ["value"] := fun _ _ _ _ _ _ us hl => match us, hl with | [_], _ => rfl
theorem sc_goes_with : FnScope ["kind", "source"] ["kind", "source"] (defScope s_goes_with) := ⟨rfl, rfl, rfl, by decide +kernel, rfl, by decide +kernel, by decide +kernel⟩
theorem bo_goes_with : BindOk "goes_with" "goes_with" s_goes_with ["kind", "source"] := fun _ _ _ _ _ _ us hl => match us, hl with | [_, _], _ => rfl
theorem sc_source_alphabet : FnScope ["kind", "source"] ["kind", "source"] (defScope s_source_alphabet) := ⟨rfl, rfl, rfl, by decide +kernel, rfl, by decide +kernel, by decide +kernel⟩
theorem bo_source_alphabet : BindOk "source_alphabet" "source_alphabet" s_source_alphabet ["kind", "source"] := fun _ _ _ _ _ _ us hl => match us, hl with | [_, _], _ => rfl
theorem sc_source_pieces : FnScope ["kind", "source"] ["kind", "source"] (defScope s_source_pieces) := ⟨rfl, rfl, rfl, by decide +kernel, rfl, by decide +kernel, by decide +kernel⟩
theorem bo_source_pieces : BindOk "source_pieces" "source_pieces" s_source_pieces ["kind", "source"] := fun _ _ _ _ _ _ us hl => match us, hl with | [_, _], _ => rfl
theorem sc_source_row : FnScope ["kind", "source", "text", "piece"] ["kind", "source", "text"] (defScope s_source_row) := ⟨rfl, rfl, rfl, by decide +kernel, rfl, by decide +kernel, by decide +kernel⟩
theorem bo_source_row : BindOk "source_row" "source_row" s_source_row ["kind", "source", "text"] := fun _ _ _ _ _ _ us hl => match us, hl with | [_, _, _], _ => rfl
theorem sc_places_in : FnScope ["row", "found", "at", "text"] ["row"] (defScope s_places_in) := ⟨rfl, rfl, rfl, by decide +kernel, rfl, by decide +kernel, by decide +kernel⟩
theorem bo_places_in : BindOk "places_in" "places_in" s_places_in ["row"] := fun _ _ _ _ _ _ us hl => match us, hl with | [_], _ => rfl
theorem sc_Cutter___init__ : FnScope ["self", "kind", "source", "text"] ["self", "kind", "source"] (defScope s_Cutter___init__) := ⟨rfl, rfl, rfl, by decide +kernel, rfl, by decide +kernel, by decide +kernel⟩
theorem bo_Cutter___init__ : BindOk "__init__" "Cutter.__init__" s_Cutter___init__ ["self", "kind", "source"] := fun _ _ _ _ _ _ us hl => match us, hl with | [_, _, _], _ => rfl
theorem sc_Cutter_cut : FnScope ["self", "text"] ["self", "text"] (defScope s_Cutter_cut) := ⟨rfl, rfl, rfl, by decide +kernel, rfl, by decide +kernel, by decide +kernel⟩
theorem bo_Cutter_cut : BindOk "cut" "Cutter.cut" s_Cutter_cut ["self", "text"] := fun _ _ _ _ _ _ us hl => match us, hl with | [_, _], _ => rfl
theorem sc_Cutter_places : FnScope ["self", "text"] ["self", "text"] (defScope s_Cutter_places) := ⟨rfl, rfl, rfl, by decide +kernel, rfl, by decide +kernel, by decide +kernel⟩
theorem bo_Cutter_places : BindOk "places" "Cutter.places" s_Cutter_places ["self", "text"] := fun _ _ _ _ _ _ us hl => match us, hl with | [_, _], _ => rfl
theorem sc_is_marked : FnScope ["cutter", "value", "text", "places", "place"] ["cutter", "value"] (defScope s_is_marked) := ⟨rfl, rfl, rfl, by decide +kernel, rfl, by decide +kernel, by decide +kernel⟩
theorem bo_is_marked : BindOk "is_marked" "is_marked" s_is_marked ["cutter", "value"] := fun _ _ _ _ _ _ us hl => match us, hl with | [_, _], _ => rfl
theorem sc_marked_of_size : FnScope ["cutter", "many", "texts", "_", "text", "letter"] ["cutter", "many"] (defScope s_marked_of_size) := ⟨rfl, rfl, rfl, by decide +kernel, rfl, by decide +kernel, by decide +kernel⟩
theorem bo_marked_of_size : BindOk "marked_of_size" "marked_of_size" s_marked_of_size ["cutter", "many"] := fun _ _ _ _ _ _ us hl => match us, hl with | [_, _], _ => rfl
theorem sc__law_bag : FnScope ["script", "cell"] ["script"] (defScope s__law_bag) := ⟨rfl, rfl, rfl, by decide +kernel, rfl, by decide +kernel, by decide +kernel⟩
theorem bo__law_bag : BindOk "_law_bag" "_law_bag" s__law_bag ["script"] := fun _ _ _ _ _ _ us hl => match us, hl with | [_], _ => rfl
theorem sc__law_draw : FnScope ["bag", "many", "cell", "mixed", "told"] ["bag", "many"] (defScope s__law_draw) := ⟨rfl, rfl, rfl, by decide +kernel, rfl, by decide +kernel, by decide +kernel⟩
theorem bo__law_draw : BindOk "_law_draw" "_law_draw" s__law_draw ["bag", "many"] := fun _ _ _ _ _ _ us hl => match us, hl with | [_, _], _ => rfl
theorem sc__law_letters : FnScope ["bag", "most", "signs", "many", "k"] ["bag", "most"] (defScope s__law_letters) := ⟨rfl, rfl, rfl, by decide +kernel, rfl, by decide +kernel, by decide +kernel⟩
theorem bo__law_letters : BindOk "_law_letters" "_law_letters" s__law_letters ["bag", "most"] := fun _ _ _ _ _ _ us hl => match us, hl with | [_, _], _ => rfl
theorem sc__law_join_row : FnScope ["letters", "pairs", "text", "ranks", "rank", "row", "sign", "k", "low", "place", "at"] ["letters", "pairs", "text"] (defScope s__law_join_row) := ⟨rfl, rfl, rfl, by decide +kernel, rfl, by decide +kernel, by decide +kernel⟩
theorem bo__law_join_row : BindOk "_law_join_row" "_law_join_row" s__law_join_row ["letters", "pairs", "text"] := fun _ _ _ _ _ _ us hl => match us, hl with | [_, _, _], _ => rfl
theorem sc__law_texts : FnScope ["letters", "pairs", "texts", "sign", "pair"] ["letters", "pairs"] (defScope s__law_texts) := ⟨rfl, rfl, rfl, by decide +kernel, rfl, by decide +kernel, by decide +kernel⟩
theorem bo__law_texts : BindOk "_law_texts" "_law_texts" s__law_texts ["letters", "pairs"] := fun _ _ _ _ _ _ us hl => match us, hl with | [_, _], _ => rfl
theorem sc__law_pairs : FnScope ["bag", "letters", "most", "longest", "pairs", "k", "text", "i", "row", "at"] ["bag", "letters", "most", "longest"] (defScope s__law_pairs) := ⟨rfl, rfl, rfl, by decide +kernel, rfl, by decide +kernel, by decide +kernel⟩
theorem bo__law_pairs : BindOk "_law_pairs" "_law_pairs" s__law_pairs ["bag", "letters", "most", "longest"] := fun _ _ _ _ _ _ us hl => match us, hl with | [_, _, _, _], _ => rfl
theorem sc__law_further : FnScope ["bag", "letters", "most", "longest", "told", "k", "word", "i"] ["bag", "letters", "most", "longest"] (defScope s__law_further) := ⟨rfl, rfl, rfl, by decide +kernel, rfl, by decide +kernel, by decide +kernel⟩
theorem bo__law_further : BindOk "_law_further" "_law_further" s__law_further ["bag", "letters", "most", "longest"] := fun _ _ _ _ _ _ us hl => match us, hl with | [_, _, _, _], _ => rfl
theorem sc__law_ahead : FnScope ["words", "text", "row", "at", "k", "size", "word"] ["words", "text"] (defScope s__law_ahead) := ⟨rfl, rfl, rfl, by decide +kernel, rfl, by decide +kernel, by decide +kernel⟩
theorem bo__law_ahead : BindOk "_law_ahead" "_law_ahead" s__law_ahead ["words", "text"] := fun _ _ _ _ _ _ us hl => match us, hl with | [_, _], _ => rfl
theorem sc__law_behind : FnScope ["words", "text", "row", "end", "k", "size", "word"] ["words", "text"] (defScope s__law_behind) := ⟨rfl, rfl, rfl, by decide +kernel, rfl, by decide +kernel, by decide +kernel⟩
theorem bo__law_behind : BindOk "_law_behind" "_law_behind" s__law_behind ["words", "text"] := fun _ _ _ _ _ _ us hl => match us, hl with | [_, _], _ => rfl
theorem sc__law_best : FnScope ["words", "costs", "text", "found", "size", "at", "ways", "k", "rest", "row"] ["words", "costs", "text"] (defScope s__law_best) := ⟨rfl, rfl, rfl, by decide +kernel, rfl, by decide +kernel, by decide +kernel⟩
theorem bo__law_best : BindOk "_law_best" "_law_best" s__law_best ["words", "costs", "text"] := fun _ _ _ _ _ _ us hl => match us, hl with | [_, _, _], _ => rfl
theorem sc__law_cut : FnScope ["cutter", "text", "piece"] ["cutter", "text"] (defScope s__law_cut) := ⟨rfl, rfl, rfl, by decide +kernel, rfl, by decide +kernel, by decide +kernel⟩
theorem bo__law_cut : BindOk "_law_cut" "_law_cut" s__law_cut ["cutter", "text"] := fun _ _ _ _ _ _ us hl => match us, hl with | [_, _], _ => rfl
theorem sc__law_places : FnScope ["row", "told", "k", "piece"] ["row"] (defScope s__law_places) := ⟨rfl, rfl, rfl, by decide +kernel, rfl, by decide +kernel, by decide +kernel⟩
theorem bo__law_places : BindOk "_law_places" "_law_places" s__law_places ["row"] := fun _ _ _ _ _ _ us hl => match us, hl with | [_], _ => rfl
theorem sc__law_drawn : FnScope ["bag", "letters", "kind", "most", "longest", "pairs", "words", "sign", "costs", "word"] ["bag", "letters", "kind", "most", "longest"] (defScope s__law_drawn) := ⟨rfl, rfl, rfl, by decide +kernel, rfl, by decide +kernel, by decide +kernel⟩
theorem bo__law_drawn : BindOk "_law_drawn" "_law_drawn" s__law_drawn ["bag", "letters", "kind", "most", "longest"] := fun _ _ _ _ _ _ us hl => match us, hl with | [_, _, _, _, _], _ => rfl
theorem sc__law_made : FnScope ["cutter", "letters", "pairs", "pair", "made", "further", "words", "costs", "priced"] ["cutter"] (defScope s__law_made) := ⟨rfl, rfl, rfl, by decide +kernel, rfl, by decide +kernel, by decide +kernel⟩
theorem bo__law_made : BindOk "_law_made" "_law_made" s__law_made ["cutter"] := fun _ _ _ _ _ _ us hl => match us, hl with | [_], _ => rfl
theorem sc__law_all_texts : FnScope ["letters", "many", "told", "k", "longer", "text", "sign"] ["letters", "many"] (defScope s__law_all_texts) := ⟨rfl, rfl, rfl, by decide +kernel, rfl, by decide +kernel, by decide +kernel⟩
theorem bo__law_all_texts : BindOk "_law_all_texts" "_law_all_texts" s__law_all_texts ["letters", "many"] := fun _ _ _ _ _ _ us hl => match us, hl with | [_, _], _ => rfl
theorem sc__law_all_places : FnScope ["size", "told", "place", "places"] ["size"] (defScope s__law_all_places) := ⟨rfl, rfl, rfl, by decide +kernel, rfl, by decide +kernel, by decide +kernel⟩
theorem bo__law_all_places : BindOk "_law_all_places" "_law_all_places" s__law_all_places ["size"] := fun _ _ _ _ _ _ us hl => match us, hl with | [_], _ => rfl
theorem sc__law_same : FnScope ["value", "due", "k", "pair", "place"] ["value", "due"] (defScope s__law_same) := ⟨rfl, rfl, rfl, by decide +kernel, rfl, by decide +kernel, by decide +kernel⟩
theorem bo__law_same : BindOk "_law_same" "_law_same" s__law_same ["value", "due"] := fun _ _ _ _ _ _ us hl => match us, hl with | [_, _], _ => rfl
theorem sc__law_refused : FnScope ["made", "many", "e"] ["made", "many"] (defScope s__law_refused) := ⟨rfl, rfl, rfl, by decide +kernel, rfl, by decide +kernel, by decide +kernel⟩
theorem bo__law_refused : BindOk "_law_refused" "_law_refused" s__law_refused ["made", "many"] := fun _ _ _ _ _ _ us hl => match us, hl with | [_, _], _ => rfl
theorem sc__law_every_text : FnScope ["cutter", "made", "many", "due", "text", "right", "places", "told"] ["cutter", "made", "many"] (defScope s__law_every_text) := ⟨rfl, rfl, rfl, by decide +kernel, rfl, by decide +kernel, by decide +kernel⟩
theorem bo__law_every_text : BindOk "_law_every_text" "_law_every_text" s__law_every_text ["cutter", "made", "many"] := fun _ _ _ _ _ _ us hl => match us, hl with | [_, _, _], _ => rfl
theorem sc__law_none : FnScope ["cutter", "made", "text", "right", "size", "ones", "k", "one"] ["cutter", "made", "text", "right"] (defScope s__law_none) := ⟨rfl, rfl, rfl, by decide +kernel, rfl, by decide +kernel, by decide +kernel⟩
theorem bo__law_none : BindOk "_law_none" "_law_none" s__law_none ["cutter", "made", "text", "right"] := fun _ _ _ _ _ _ us hl => match us, hl with | [_, _, _, _], _ => rfl
theorem sc__law_long : FnScope ["bag", "cutter", "made", "size", "text", "k", "right", "place", "other", "at", "moved"] ["bag", "cutter", "made"] (defScope s__law_long) := ⟨rfl, rfl, rfl, by decide +kernel, rfl, by decide +kernel, by decide +kernel⟩
theorem bo__law_long : BindOk "_law_long" "_law_long" s__law_long ["bag", "cutter", "made"] := fun _ _ _ _ _ _ us hl => match us, hl with | [_, _, _], _ => rfl
theorem sc_law : FnScope ["script", "bag", "letters", "kind", "cutter", "made", "many", "texts", "text", "wrong", "sign"] ["script"] (defScope s_law) := ⟨rfl, rfl, rfl, by decide +kernel, rfl, by decide +kernel, by decide +kernel⟩
theorem bo_law : BindOk "law" "law" s_law ["script"] := fun _ _ _ _ _ _ us hl => match us, hl with | [_], _ => rfl
def fn : List He.DefD := [
  ⟨("InvalidAlphabet", some "__init__"), "__init__", "InvalidAlphabet.__init__", defArgs s_InvalidAlphabet___init__, defBody s_InvalidAlphabet___init__, defScope s_InvalidAlphabet___init__, [], []⟩,
  ⟨("NotProper", some "__init__"), "__init__", "NotProper.__init__", defArgs s_NotProper___init__, defBody s_NotProper___init__, defScope s_NotProper___init__, [], []⟩,
  ⟨("NoPiece", some "__init__"), "__init__", "NoPiece.__init__", defArgs s_NoPiece___init__, defBody s_NoPiece___init__, defScope s_NoPiece___init__, [], []⟩,
  ⟨("UnknownSign", some "__init__"), "__init__", "UnknownSign.__init__", defArgs s_UnknownSign___init__, defBody s_UnknownSign___init__, defScope s_UnknownSign___init__, [], []⟩,
  ⟨("InvalidNumber", some "__init__"), "__init__", "InvalidNumber.__init__", defArgs s_InvalidNumber___init__, defBody s_InvalidNumber___init__, defScope s_InvalidNumber___init__, [], []⟩,
  ⟨("InvalidWords", some "__init__"), "__init__", "InvalidWords.__init__", defArgs s_InvalidWords___init__, defBody s_InvalidWords___init__, defScope s_InvalidWords___init__, [], []⟩,
  ⟨("InvalidCutter", some "__init__"), "__init__", "InvalidCutter.__init__", defArgs s_InvalidCutter___init__, defBody s_InvalidCutter___init__, defScope s_InvalidCutter___init__, [], []⟩,
  ⟨("TooMany", some "__init__"), "__init__", "TooMany.__init__", defArgs s_TooMany___init__, defBody s_TooMany___init__, defScope s_TooMany___init__, [], []⟩,
  ⟨("is_between", none), "is_between", "is_between", defArgs s_is_between, defBody s_is_between, defScope s_is_between, [], []⟩,
  ⟨("is_alphabet", none), "is_alphabet", "is_alphabet", defArgs s_is_alphabet, defBody s_is_alphabet, defScope s_is_alphabet, [], []⟩,
  ⟨("checked_alphabet", none), "checked_alphabet", "checked_alphabet", defArgs s_checked_alphabet, defBody s_checked_alphabet, defScope s_checked_alphabet, [], []⟩,
  ⟨("put_together", none), "put_together", "put_together", defArgs s_put_together, defBody s_put_together, defScope s_put_together, [], []⟩,
  ⟨("lowest_pair", none), "lowest_pair", "lowest_pair", defArgs s_lowest_pair, defBody s_lowest_pair, defScope s_lowest_pair, [], []⟩,
  ⟨("cut_row", none), "cut_row", "cut_row", defArgs s_cut_row, defBody s_cut_row, defScope s_cut_row, [], []⟩,
  ⟨("Joins", some "__init__"), "__init__", "Joins.__init__", defArgs s_Joins___init__, defBody s_Joins___init__, defScope s_Joins___init__, [], []⟩,
  ⟨("Joins", some "take"), "take", "Joins.take", defArgs s_Joins_take, defBody s_Joins_take, defScope s_Joins_take, [], []⟩,
  ⟨("Joins", some "is_proper"), "is_proper", "Joins.is_proper", defArgs s_Joins_is_proper, defBody s_Joins_is_proper, defScope s_Joins_is_proper, [], []⟩,
  ⟨("Joins", some "is_piece"), "is_piece", "Joins.is_piece", defArgs s_Joins_is_piece, defBody s_Joins_is_piece, defScope s_Joins_is_piece, [], []⟩,
  ⟨("Joins", some "check_piece"), "check_piece", "Joins.check_piece", defArgs s_Joins_check_piece, defBody s_Joins_check_piece, defScope s_Joins_check_piece, [], []⟩,
  ⟨("Joins", some "text_of"), "text_of", "Joins.text_of", defArgs s_Joins_text_of, defBody s_Joins_text_of, defScope s_Joins_text_of, [], []⟩,
  ⟨("Joins", some "piece_of"), "piece_of", "Joins.piece_of", defArgs s_Joins_piece_of, defBody s_Joins_piece_of, defScope s_Joins_piece_of, [], []⟩,
  ⟨("letters_of", none), "letters_of", "letters_of", defArgs s_letters_of, defBody s_letters_of, defScope s_letters_of, [], []⟩,
  ⟨("cut", none), "cut", "cut", defArgs s_cut, defBody s_cut, defScope s_cut, [], []⟩,
  ⟨("is_sequence", none), "is_sequence", "is_sequence", defArgs s_is_sequence, defBody s_is_sequence, defScope s_is_sequence, [], []⟩,
  ⟨("is_text_over", none), "is_text_over", "is_text_over", defArgs s_is_text_over, defBody s_is_text_over, defScope s_is_text_over, [], []⟩,
  ⟨("is_word_text", none), "is_word_text", "is_word_text", defArgs s_is_word_text, defBody s_is_word_text, defScope s_is_word_text, [], []⟩,
  ⟨("check_letters", none), "check_letters", "check_letters", defArgs s_check_letters, defBody s_check_letters, defScope s_check_letters, [], []⟩,
  ⟨("checked_alphabet_of_words", none), "checked_alphabet_of_words", "checked_alphabet_of_words", defArgs s_checked_alphabet_of_words, defBody s_checked_alphabet_of_words, defScope s_checked_alphabet_of_words, [], []⟩,
  ⟨("checked_further", none), "checked_further", "checked_further", defArgs s_checked_further, defBody s_checked_further, defScope s_checked_further, [], []⟩,
  ⟨("Words", some "__init__"), "__init__", "Words.__init__", defArgs s_Words___init__, defBody s_Words___init__, defScope s_Words___init__, [], []⟩,
  ⟨("Words", some "all_words"), "all_words", "Words.all_words", defArgs s_Words_all_words, defBody s_Words_all_words, defScope s_Words_all_words, [], []⟩,
  ⟨("Words", some "lengths_ahead"), "lengths_ahead", "Words.lengths_ahead", defArgs s_Words_lengths_ahead, defBody s_Words_lengths_ahead, defScope s_Words_lengths_ahead, [], []⟩,
  ⟨("Words", some "lengths_behind"), "lengths_behind", "Words.lengths_behind", defArgs s_Words_lengths_behind, defBody s_Words_lengths_behind, defScope s_Words_lengths_behind, [], []⟩,
  ⟨("ahead", none), "ahead", "ahead", defArgs s_ahead, defBody s_ahead, defScope s_ahead, [], []⟩,
  ⟨("behind", none), "behind", "behind", defArgs s_behind, defBody s_behind, defScope s_behind, [], []⟩,
  ⟨("least_counts", none), "least_counts", "least_counts", defArgs s_least_counts, defBody s_least_counts, defScope s_least_counts, [], []⟩,
  ⟨("fewest", none), "fewest", "fewest", defArgs s_fewest, defBody s_fewest, defScope s_fewest, [], []⟩,
  ⟨("checked_costs", none), "checked_costs", "checked_costs", defArgs s_checked_costs, defBody s_checked_costs, defScope s_checked_costs, [], []⟩,
  ⟨("Costs", some "__init__"), "__init__", "Costs.__init__", defArgs s_Costs___init__, defBody s_Costs___init__, defScope s_Costs___init__, [], []⟩,
  ⟨("priced_lengths", none), "priced_lengths", "priced_lengths", defArgs s_priced_lengths, defBody s_priced_lengths, defScope s_priced_lengths, [], []⟩,
  ⟨("least_costs", none), "least_costs", "least_costs", defArgs s_least_costs, defBody s_least_costs, defScope s_least_costs, [], []⟩,
  ⟨("best", none), "best", "best", defArgs s_best, defBody s_best, defScope s_best, [], []⟩,
  ⟨("is_kind", none), "is_kind", "is_kind", defArgs s_is_kind, defBody s_is_kind, defScope s_is_kind, [], []⟩,
  ⟨("goes_with", none), "goes_with", "goes_with", defArgs s_goes_with, defBody s_goes_with, defScope s_goes_with, [], []⟩,
  ⟨("source_alphabet", none), "source_alphabet", "source_alphabet", defArgs s_source_alphabet, defBody s_source_alphabet, defScope s_source_alphabet, [], []⟩,
  ⟨("source_pieces", none), "source_pieces", "source_pieces", defArgs s_source_pieces, defBody s_source_pieces, defScope s_source_pieces, [], []⟩,
  ⟨("source_row", none), "source_row", "source_row", defArgs s_source_row, defBody s_source_row, defScope s_source_row, [], []⟩,
  ⟨("places_in", none), "places_in", "places_in", defArgs s_places_in, defBody s_places_in, defScope s_places_in, [], []⟩,
  ⟨("Cutter", some "__init__"), "__init__", "Cutter.__init__", defArgs s_Cutter___init__, defBody s_Cutter___init__, defScope s_Cutter___init__, [], []⟩,
  ⟨("Cutter", some "cut"), "cut", "Cutter.cut", defArgs s_Cutter_cut, defBody s_Cutter_cut, defScope s_Cutter_cut, [], []⟩,
  ⟨("Cutter", some "places"), "places", "Cutter.places", defArgs s_Cutter_places, defBody s_Cutter_places, defScope s_Cutter_places, [], []⟩,
  ⟨("is_marked", none), "is_marked", "is_marked", defArgs s_is_marked, defBody s_is_marked, defScope s_is_marked, [], []⟩,
  ⟨("marked_of_size", none), "marked_of_size", "marked_of_size", defArgs s_marked_of_size, defBody s_marked_of_size, defScope s_marked_of_size, [], []⟩,
  ⟨("_law_bag", none), "_law_bag", "_law_bag", defArgs s__law_bag, defBody s__law_bag, defScope s__law_bag, [], []⟩,
  ⟨("_law_draw", none), "_law_draw", "_law_draw", defArgs s__law_draw, defBody s__law_draw, defScope s__law_draw, [], []⟩,
  ⟨("_law_letters", none), "_law_letters", "_law_letters", defArgs s__law_letters, defBody s__law_letters, defScope s__law_letters, [], []⟩,
  ⟨("_law_join_row", none), "_law_join_row", "_law_join_row", defArgs s__law_join_row, defBody s__law_join_row, defScope s__law_join_row, [], []⟩,
  ⟨("_law_texts", none), "_law_texts", "_law_texts", defArgs s__law_texts, defBody s__law_texts, defScope s__law_texts, [], []⟩,
  ⟨("_law_pairs", none), "_law_pairs", "_law_pairs", defArgs s__law_pairs, defBody s__law_pairs, defScope s__law_pairs, [], []⟩,
  ⟨("_law_further", none), "_law_further", "_law_further", defArgs s__law_further, defBody s__law_further, defScope s__law_further, [], []⟩,
  ⟨("_law_ahead", none), "_law_ahead", "_law_ahead", defArgs s__law_ahead, defBody s__law_ahead, defScope s__law_ahead, [], []⟩,
  ⟨("_law_behind", none), "_law_behind", "_law_behind", defArgs s__law_behind, defBody s__law_behind, defScope s__law_behind, [], []⟩,
  ⟨("_law_best", none), "_law_best", "_law_best", defArgs s__law_best, defBody s__law_best, defScope s__law_best, [], []⟩,
  ⟨("_law_cut", none), "_law_cut", "_law_cut", defArgs s__law_cut, defBody s__law_cut, defScope s__law_cut, [], []⟩,
  ⟨("_law_places", none), "_law_places", "_law_places", defArgs s__law_places, defBody s__law_places, defScope s__law_places, [], []⟩,
  ⟨("_law_drawn", none), "_law_drawn", "_law_drawn", defArgs s__law_drawn, defBody s__law_drawn, defScope s__law_drawn, [], []⟩,
  ⟨("_law_made", none), "_law_made", "_law_made", defArgs s__law_made, defBody s__law_made, defScope s__law_made, [], []⟩,
  ⟨("_law_all_texts", none), "_law_all_texts", "_law_all_texts", defArgs s__law_all_texts, defBody s__law_all_texts, defScope s__law_all_texts, [], []⟩,
  ⟨("_law_all_places", none), "_law_all_places", "_law_all_places", defArgs s__law_all_places, defBody s__law_all_places, defScope s__law_all_places, [], []⟩,
  ⟨("_law_same", none), "_law_same", "_law_same", defArgs s__law_same, defBody s__law_same, defScope s__law_same, [], []⟩,
  ⟨("_law_refused", none), "_law_refused", "_law_refused", defArgs s__law_refused, defBody s__law_refused, defScope s__law_refused, [], []⟩,
  ⟨("_law_every_text", none), "_law_every_text", "_law_every_text", defArgs s__law_every_text, defBody s__law_every_text, defScope s__law_every_text, [], []⟩,
  ⟨("_law_none", none), "_law_none", "_law_none", defArgs s__law_none, defBody s__law_none, defScope s__law_none, [], []⟩,
  ⟨("_law_long", none), "_law_long", "_law_long", defArgs s__law_long, defBody s__law_long, defScope s__law_long, [], []⟩,
  ⟨("law", none), "law", "law", defArgs s_law, defBody s_law, defScope s_law, [], []⟩]
def fa_0 : List He.Fa := [
  .glo "is_between",
  .glo "is_alphabet",
  .glo "checked_alphabet",
  .glo "put_together",
  .glo "lowest_pair",
  .glo "cut_row",
  .glo "letters_of",
  .glo "cut",
  .glo "is_sequence",
  .glo "is_text_over",
  .glo "is_word_text",
  .glo "check_letters",
  .glo "checked_alphabet_of_words",
  .glo "checked_further",
  .glo "ahead",
  .glo "behind",
  .glo "least_counts",
  .glo "fewest",
  .glo "checked_costs",
  .glo "priced_lengths",
  .glo "least_costs",
  .glo "best",
  .glo "is_kind",
  .glo "goes_with",
  .glo "source_alphabet",
  .glo "source_pieces",
  .glo "source_row",
  .glo "places_in",
  .glo "is_marked",
  .glo "marked_of_size",
  .glo "_law_bag",
  .glo "_law_draw",
  .glo "_law_letters",
  .glo "_law_join_row",
  .glo "_law_texts",
  .glo "_law_pairs",
  .glo "_law_further",
  .glo "_law_ahead",
  .glo "_law_behind",
  .glo "_law_best",
  .glo "_law_cut",
  .glo "_law_places",
  .glo "_law_drawn",
  .glo "_law_made",
  .glo "_law_all_texts",
  .glo "_law_all_places",
  .glo "_law_same",
  .glo "_law_refused",
  .glo "_law_every_text",
  .glo "_law_none",
  .glo "_law_long",
  .glo "law",
  .glo "InvalidAlphabet",
  .glo "NotProper",
  .glo "NoPiece",
  .glo "UnknownSign",
  .glo "InvalidNumber",
  .glo "InvalidWords",
  .glo "InvalidCutter",
  .glo "TooMany",
  .glo "Joins",
  .glo "Words",
  .glo "Costs",
  .glo "Cutter",
  .free "bool",
  .free "enumerate",
  .free "int",
  .free "isinstance"]
def fa_1 : List He.Fa := [
  .free "len",
  .free "list",
  .free "max",
  .free "min",
  .free "range",
  .free "reversed",
  .free "set",
  .free "sorted",
  .free "str",
  .free "sum",
  .free "tuple",
  .int "MOST_LETTERS" 30,
  .int "LONGEST_PIECE" 40,
  .int "SHORTEST_WORD" 2,
  .int "LONGEST_WORD" 6,
  .int "MOST_WORDS" 10,
  .int "LEAST_COST" 1,
  .int "GREATEST_COST" 9,
  .int "MOST_MARKED" 8,
  .glo "KINDS",
  .cls "Joins",
  .mkr "Joins",
  .noat "Joins" "alphabet",
  .noat "Joins" "pairs",
  .noat "Joins" "texts",
  .noat "Joins" "ranks",
  .noat "Joins" "numbers",
  .noat "Joins" "longest",
  .meth "Joins" "take",
  .meth "Joins" "is_proper",
  .meth "Joins" "is_piece",
  .meth "Joins" "check_piece",
  .meth "Joins" "text_of",
  .meth "Joins" "piece_of",
  .cls "Words",
  .mkr "Words",
  .noat "Words" "alphabet",
  .noat "Words" "further",
  .noat "Words" "known",
  .noat "Words" "longest",
  .meth "Words" "all_words",
  .meth "Words" "lengths_ahead",
  .meth "Words" "lengths_behind",
  .cls "Costs",
  .mkr "Costs",
  .noat "Costs" "words",
  .noat "Costs" "costs",
  .noat "Costs" "prices",
  .cls "Cutter",
  .mkr "Cutter",
  .noat "Cutter" "kind",
  .noat "Cutter" "source",
  .noat "Cutter" "alphabet",
  .noat "Cutter" "texts",
  .noat "Cutter" "known",
  .noat "Cutter" "longest",
  .meth "Cutter" "cut",
  .meth "Cutter" "places",
  .noat "InvalidAlphabet" "alphabet",
  .noat "NotProper" "rank",
  .noat "NoPiece" "piece",
  .noat "UnknownSign" "sign",
  .noat "UnknownSign" "at",
  .noat "InvalidNumber" "number",
  .noat "InvalidWords" "place",
  .noat "InvalidCutter" "part",
  .noat "TooMany" "what",
  .exm "InvalidNumber" "InvalidNumber" true]
def fa : List He.Fa := fa_0 ++ (fa_1)
def fx_0 : List Fx := [
  .any (fun K => tupB K (He.ga K "KINDS") ["joins", "ahead", "behind", "fewest", "best"]),
  .ins "Joins",
  .ins "Words",
  .ins "Costs",
  .exc "InvalidAlphabet",
  .exc "NotProper",
  .exc "NoPiece",
  .exc "UnknownSign",
  .exc "InvalidNumber",
  .exc "InvalidWords",
  .exc "InvalidCutter"]
def fx_1 : List Fx := [
  .exc "TooMany",
  .kit (.own "InvalidNumber") (.own "TooMany") false,
  .kit (.own "Joins") (.own "Words") false,
  .kit (.own "Joins") (.own "Joins") true,
  .kit (.own "Joins") (.own "Costs") false,
  .kit (.own "Words") (.own "Words") true,
  .kit (.own "Words") (.own "Joins") false,
  .kit (.own "Words") (.own "Costs") false,
  .kit (.own "Costs") (.own "Words") false,
  .kit (.own "Costs") (.own "Joins") false,
  .kit (.own "Costs") (.own "Costs") true]
def fx : List Fx := fx_0 ++ (fx_1)
abbrev R : PySem.W.OpenRow := PySem.W.OpenLaw.row RWL
def asL : List Addr := [3, 6, 4, 21, 31, 51, 70, 89, 108, 127, 146, 165, 184, 193, 200, 207, 214, 221, 228, 333, 344, 351, 358, 365, 372, 379, 386, 393, 446, 457, 464, 469, 474, 481, 510, 519, 524, 529, 530, 537, 544, 551, 558, 563, 570, 613, 624, 629, 634, 641, 646, 651, 656, 661, 666, 671, 676, 683, 688, 693, 698, 703, 708, 713, 720, 727, 734, 739, 744, 749, 0, 20, 30, 50, 69, 88, 107, 126, 145, 164, 183, 192, 199, 206, 213, 220, 227, 332, 343, 350, 357, 364, 371, 378, 385, 392, 445, 456, 463, 468, 473, 480, 509, 518, 523, 528, 536, 543, 550, 557, 562, 569, 612, 623, 628, 633, 640, 645, 650, 655, 660, 665, 670, 675, 682, 687, 692, 697, 702, 707, 712, 719, 726, 733, 738, 743, 748, 15, 16, 17, 18, 19, 29, 32, 48, 49, 67, 68, 86, 87, 105, 106, 124, 125, 143, 144, 162, 163, 181, 182, 187, 188, 189, 190, 191, 194, 195, 196, 197, 198, 201, 202, 203, 204, 205, 208, 209, 210, 211, 212, 215, 216, 217, 218, 219, 222, 223, 224, 225, 226, 240, 247, 252, 260, 267, 274, 281, 288, 295, 302, 309, 316, 323, 330, 331, 334, 335, 338, 339, 340, 341, 342, 345, 346, 347, 348, 349, 352, 353, 354, 355, 356, 359, 360, 361, 362, 363, 366, 367, 368, 369, 370, 373, 374, 375, 376, 377, 380, 381, 382, 383, 384, 387, 388, 389, 390, 391, 405, 412, 419, 426, 431, 436, 443, 444, 447, 448, 451, 452, 453, 454, 455, 458, 459, 460, 461, 462, 465, 466, 467, 470, 471, 472, 475, 476, 477, 478, 479, 493, 500, 507, 508, 511, 512, 515, 516, 517, 520, 521, 522, 525, 526, 527, 531, 532, 533, 534, 535, 538, 539, 540, 541, 542, 545, 546, 547, 548, 549, 552, 553, 554, 555, 556, 559, 560, 561, 564, 565, 566, 567, 568, 582, 589, 596, 603, 610, 611, 614, 615, 618, 619, 620, 621, 622, 625, 626, 627, 630, 631, 632, 635, 636, 637, 638, 639, 642, 643, 644, 647, 648, 649, 652, 653, 654, 657, 658, 659, 662, 663, 664, 667, 668, 669, 672, 673, 674, 677, 678, 679, 680, 681, 684, 685, 686, 689, 690, 691, 694, 695, 696, 699, 700, 701, 704, 705, 706, 709, 710, 711, 714, 715, 716, 717, 718, 721, 722, 723, 724, 725, 728, 729, 730, 731, 732, 735, 736, 737, 740, 741, 742, 745, 746, 747, 47, 66, 85, 104, 123, 142, 161, 180, 239, 246, 251, 259, 266, 273, 280, 287, 294, 301, 308, 315, 322, 329, 404, 411, 418, 425, 430, 435, 442, 492, 499, 506, 581, 588, 595, 602, 609, 42, 43, 44, 45, 46, 61, 62, 63, 64, 65, 80, 81, 82, 83, 84, 99, 100, 101, 102, 103, 118, 119, 120, 121, 122, 137, 138, 139, 140, 141, 156, 157, 158, 159, 160, 175, 176, 177, 178, 179, 236, 237, 238, 241, 242, 243, 244, 245, 248, 249, 250, 258, 261, 262, 263, 264, 265, 268, 269, 270, 271, 272, 275, 276, 277, 278, 279, 282, 283, 284, 285, 286, 289, 290, 291, 292, 293, 296, 297, 298, 299, 300, 303, 304, 305, 306, 307, 310, 311, 312, 313, 314, 317, 318, 319, 320, 321, 324, 325, 326, 327, 328, 401, 402, 403, 406, 407, 408, 409, 410, 413, 414, 415, 416, 417, 420, 421, 422, 423, 424, 427, 428, 429, 432, 433, 434, 437, 438, 439, 440, 441, 489, 490, 491, 494, 495, 496, 497, 498, 501, 502, 503, 504, 505, 578, 579, 580, 583, 584, 585, 586, 587, 590, 591, 592, 593, 594, 597, 598, 599, 600, 601, 604, 605, 606, 607, 608]
abbrev hk : PySem.W.Hook := hookL asL fa fx fn
def ob (s : PySem.W.SharedT) : He.AlD := obsX fa fx fn (Kof asL s)
theorem ob_eq (s : PySem.W.SharedT) : ob s = hk.obs s.abs := obsL_eq s
def loose : List Str := (PW.main.scope.names.map (·.1)).filter fun n => !(n == "law")
abbrev lawPlace : Nat := 83
section
variable {K : PySem.W.Frag} {mg : Str → Option Value} {base : Heap}
theorem d_InvalidAlphabet___init__ (T : Ev fa fx fn K mg base) : ∃ fd, FunD K "__init__" "InvalidAlphabet.__init__" (defArgs s_InvalidAlphabet___init__) (defBody s_InvalidAlphabet___init__) (defScope s_InvalidAlphabet___init__) [] [] (He.ma K (He.ga K "InvalidAlphabet") "__init__") fd := T.says.def_ 0
theorem d_NotProper___init__ (T : Ev fa fx fn K mg base) : ∃ fd, FunD K "__init__" "NotProper.__init__" (defArgs s_NotProper___init__) (defBody s_NotProper___init__) (defScope s_NotProper___init__) [] [] (He.ma K (He.ga K "NotProper") "__init__") fd := T.says.def_ 1
theorem d_NoPiece___init__ (T : Ev fa fx fn K mg base) : ∃ fd, FunD K "__init__" "NoPiece.__init__" (defArgs s_NoPiece___init__) (defBody s_NoPiece___init__) (defScope s_NoPiece___init__) [] [] (He.ma K (He.ga K "NoPiece") "__init__") fd := T.says.def_ 2
theorem d_UnknownSign___init__ (T : Ev fa fx fn K mg base) : ∃ fd, FunD K "__init__" "UnknownSign.__init__" (defArgs s_UnknownSign___init__) (defBody s_UnknownSign___init__) (defScope s_UnknownSign___init__) [] [] (He.ma K (He.ga K "UnknownSign") "__init__") fd := T.says.def_ 3
theorem d_InvalidNumber___init__ (T : Ev fa fx fn K mg base) : ∃ fd, FunD K "__init__" "InvalidNumber.__init__" (defArgs s_InvalidNumber___init__) (defBody s_InvalidNumber___init__) (defScope s_InvalidNumber___init__) [] [] (He.ma K (He.ga K "InvalidNumber") "__init__") fd := T.says.def_ 4
theorem d_InvalidWords___init__ (T : Ev fa fx fn K mg base) : ∃ fd, FunD K "__init__" "InvalidWords.__init__" (defArgs s_InvalidWords___init__) (defBody s_InvalidWords___init__) (defScope s_InvalidWords___init__) [] [] (He.ma K (He.ga K "InvalidWords") "__init__") fd := T.says.def_ 5
theorem d_InvalidCutter___init__ (T : Ev fa fx fn K mg base) : ∃ fd, FunD K "__init__" "InvalidCutter.__init__" (defArgs s_InvalidCutter___init__) (defBody s_InvalidCutter___init__) (defScope s_InvalidCutter___init__) [] [] (He.ma K (He.ga K "InvalidCutter") "__init__") fd := T.says.def_ 6
theorem d_TooMany___init__ (T : Ev fa fx fn K mg base) : ∃ fd, FunD K "__init__" "TooMany.__init__" (defArgs s_TooMany___init__) (defBody s_TooMany___init__) (defScope s_TooMany___init__) [] [] (He.ma K (He.ga K "TooMany") "__init__") fd := T.says.def_ 7
theorem d_is_between (T : Ev fa fx fn K mg base) : ∃ fd, FunD K "is_between" "is_between" (defArgs s_is_between) (defBody s_is_between) (defScope s_is_between) [] [] (He.ga K "is_between") fd := T.says.def_ 8
theorem d_is_alphabet (T : Ev fa fx fn K mg base) : ∃ fd, FunD K "is_alphabet" "is_alphabet" (defArgs s_is_alphabet) (defBody s_is_alphabet) (defScope s_is_alphabet) [] [] (He.ga K "is_alphabet") fd := T.says.def_ 9
theorem d_checked_alphabet (T : Ev fa fx fn K mg base) : ∃ fd, FunD K "checked_alphabet" "checked_alphabet" (defArgs s_checked_alphabet) (defBody s_checked_alphabet) (defScope s_checked_alphabet) [] [] (He.ga K "checked_alphabet") fd := T.says.def_ 10
theorem d_put_together (T : Ev fa fx fn K mg base) : ∃ fd, FunD K "put_together" "put_together" (defArgs s_put_together) (defBody s_put_together) (defScope s_put_together) [] [] (He.ga K "put_together") fd := T.says.def_ 11
theorem d_lowest_pair (T : Ev fa fx fn K mg base) : ∃ fd, FunD K "lowest_pair" "lowest_pair" (defArgs s_lowest_pair) (defBody s_lowest_pair) (defScope s_lowest_pair) [] [] (He.ga K "lowest_pair") fd := T.says.def_ 12
theorem d_cut_row (T : Ev fa fx fn K mg base) : ∃ fd, FunD K "cut_row" "cut_row" (defArgs s_cut_row) (defBody s_cut_row) (defScope s_cut_row) [] [] (He.ga K "cut_row") fd := T.says.def_ 13
theorem d_Joins___init__ (T : Ev fa fx fn K mg base) : ∃ fd, FunD K "__init__" "Joins.__init__" (defArgs s_Joins___init__) (defBody s_Joins___init__) (defScope s_Joins___init__) [] [] (He.ma K (He.ga K "Joins") "__init__") fd := T.says.def_ 14
theorem d_Joins_take (T : Ev fa fx fn K mg base) : ∃ fd, FunD K "take" "Joins.take" (defArgs s_Joins_take) (defBody s_Joins_take) (defScope s_Joins_take) [] [] (He.ma K (He.ga K "Joins") "take") fd := T.says.def_ 15
theorem d_Joins_is_proper (T : Ev fa fx fn K mg base) : ∃ fd, FunD K "is_proper" "Joins.is_proper" (defArgs s_Joins_is_proper) (defBody s_Joins_is_proper) (defScope s_Joins_is_proper) [] [] (He.ma K (He.ga K "Joins") "is_proper") fd := T.says.def_ 16
theorem d_Joins_is_piece (T : Ev fa fx fn K mg base) : ∃ fd, FunD K "is_piece" "Joins.is_piece" (defArgs s_Joins_is_piece) (defBody s_Joins_is_piece) (defScope s_Joins_is_piece) [] [] (He.ma K (He.ga K "Joins") "is_piece") fd := T.says.def_ 17
theorem d_Joins_check_piece (T : Ev fa fx fn K mg base) : ∃ fd, FunD K "check_piece" "Joins.check_piece" (defArgs s_Joins_check_piece) (defBody s_Joins_check_piece) (defScope s_Joins_check_piece) [] [] (He.ma K (He.ga K "Joins") "check_piece") fd := T.says.def_ 18
theorem d_Joins_text_of (T : Ev fa fx fn K mg base) : ∃ fd, FunD K "text_of" "Joins.text_of" (defArgs s_Joins_text_of) (defBody s_Joins_text_of) (defScope s_Joins_text_of) [] [] (He.ma K (He.ga K "Joins") "text_of") fd := T.says.def_ 19
theorem d_Joins_piece_of (T : Ev fa fx fn K mg base) : ∃ fd, FunD K "piece_of" "Joins.piece_of" (defArgs s_Joins_piece_of) (defBody s_Joins_piece_of) (defScope s_Joins_piece_of) [] [] (He.ma K (He.ga K "Joins") "piece_of") fd := T.says.def_ 20
theorem d_letters_of (T : Ev fa fx fn K mg base) : ∃ fd, FunD K "letters_of" "letters_of" (defArgs s_letters_of) (defBody s_letters_of) (defScope s_letters_of) [] [] (He.ga K "letters_of") fd := T.says.def_ 21
theorem d_cut (T : Ev fa fx fn K mg base) : ∃ fd, FunD K "cut" "cut" (defArgs s_cut) (defBody s_cut) (defScope s_cut) [] [] (He.ga K "cut") fd := T.says.def_ 22
theorem d_is_sequence (T : Ev fa fx fn K mg base) : ∃ fd, FunD K "is_sequence" "is_sequence" (defArgs s_is_sequence) (defBody s_is_sequence) (defScope s_is_sequence) [] [] (He.ga K "is_sequence") fd := T.says.def_ 23
theorem d_is_text_over (T : Ev fa fx fn K mg base) : ∃ fd, FunD K "is_text_over" "is_text_over" (defArgs s_is_text_over) (defBody s_is_text_over) (defScope s_is_text_over) [] [] (He.ga K "is_text_over") fd := T.says.def_ 24
theorem d_is_word_text (T : Ev fa fx fn K mg base) : ∃ fd, FunD K "is_word_text" "is_word_text" (defArgs s_is_word_text) (defBody s_is_word_text) (defScope s_is_word_text) [] [] (He.ga K "is_word_text") fd := T.says.def_ 25
theorem d_check_letters (T : Ev fa fx fn K mg base) : ∃ fd, FunD K "check_letters" "check_letters" (defArgs s_check_letters) (defBody s_check_letters) (defScope s_check_letters) [] [] (He.ga K "check_letters") fd := T.says.def_ 26
theorem d_checked_alphabet_of_words (T : Ev fa fx fn K mg base) : ∃ fd, FunD K "checked_alphabet_of_words" "checked_alphabet_of_words" (defArgs s_checked_alphabet_of_words) (defBody s_checked_alphabet_of_words) (defScope s_checked_alphabet_of_words) [] [] (He.ga K "checked_alphabet_of_words") fd := T.says.def_ 27
theorem d_checked_further (T : Ev fa fx fn K mg base) : ∃ fd, FunD K "checked_further" "checked_further" (defArgs s_checked_further) (defBody s_checked_further) (defScope s_checked_further) [] [] (He.ga K "checked_further") fd := T.says.def_ 28
theorem d_Words___init__ (T : Ev fa fx fn K mg base) : ∃ fd, FunD K "__init__" "Words.__init__" (defArgs s_Words___init__) (defBody s_Words___init__) (defScope s_Words___init__) [] [] (He.ma K (He.ga K "Words") "__init__") fd := T.says.def_ 29
theorem d_Words_all_words (T : Ev fa fx fn K mg base) : ∃ fd, FunD K "all_words" "Words.all_words" (defArgs s_Words_all_words) (defBody s_Words_all_words) (defScope s_Words_all_words) [] [] (He.ma K (He.ga K "Words") "all_words") fd := T.says.def_ 30
theorem d_Words_lengths_ahead (T : Ev fa fx fn K mg base) : ∃ fd, FunD K "lengths_ahead" "Words.lengths_ahead" (defArgs s_Words_lengths_ahead) (defBody s_Words_lengths_ahead) (defScope s_Words_lengths_ahead) [] [] (He.ma K (He.ga K "Words") "lengths_ahead") fd := T.says.def_ 31
theorem d_Words_lengths_behind (T : Ev fa fx fn K mg base) : ∃ fd, FunD K "lengths_behind" "Words.lengths_behind" (defArgs s_Words_lengths_behind) (defBody s_Words_lengths_behind) (defScope s_Words_lengths_behind) [] [] (He.ma K (He.ga K "Words") "lengths_behind") fd := T.says.def_ 32
theorem d_ahead (T : Ev fa fx fn K mg base) : ∃ fd, FunD K "ahead" "ahead" (defArgs s_ahead) (defBody s_ahead) (defScope s_ahead) [] [] (He.ga K "ahead") fd := T.says.def_ 33
theorem d_behind (T : Ev fa fx fn K mg base) : ∃ fd, FunD K "behind" "behind" (defArgs s_behind) (defBody s_behind) (defScope s_behind) [] [] (He.ga K "behind") fd := T.says.def_ 34
theorem d_least_counts (T : Ev fa fx fn K mg base) : ∃ fd, FunD K "least_counts" "least_counts" (defArgs s_least_counts) (defBody s_least_counts) (defScope s_least_counts) [] [] (He.ga K "least_counts") fd := T.says.def_ 35
theorem d_fewest (T : Ev fa fx fn K mg base) : ∃ fd, FunD K "fewest" "fewest" (defArgs s_fewest) (defBody s_fewest) (defScope s_fewest) [] [] (He.ga K "fewest") fd := T.says.def_ 36
theorem d_checked_costs (T : Ev fa fx fn K mg base) : ∃ fd, FunD K "checked_costs" "checked_costs" (defArgs s_checked_costs) (defBody s_checked_costs) (defScope s_checked_costs) [] [] (He.ga K "checked_costs") fd := T.says.def_ 37
theorem d_Costs___init__ (T : Ev fa fx fn K mg base) : ∃ fd, FunD K "__init__" "Costs.__init__" (defArgs s_Costs___init__) (defBody s_Costs___init__) (defScope s_Costs___init__) [] [] (He.ma K (He.ga K "Costs") "__init__") fd := T.says.def_ 38
theorem d_priced_lengths (T : Ev fa fx fn K mg base) : ∃ fd, FunD K "priced_lengths" "priced_lengths" (defArgs s_priced_lengths) (defBody s_priced_lengths) (defScope s_priced_lengths) [] [] (He.ga K "priced_lengths") fd := T.says.def_ 39
theorem d_least_costs (T : Ev fa fx fn K mg base) : ∃ fd, FunD K "least_costs" "least_costs" (defArgs s_least_costs) (defBody s_least_costs) (defScope s_least_costs) [] [] (He.ga K "least_costs") fd := T.says.def_ 40
theorem d_best (T : Ev fa fx fn K mg base) : ∃ fd, FunD K "best" "best" (defArgs s_best) (defBody s_best) (defScope s_best) [] [] (He.ga K "best") fd := T.says.def_ 41
theorem d_is_kind (T : Ev fa fx fn K mg base) : ∃ fd, FunD K "is_kind" "is_kind" (defArgs s_is_kind) (defBody s_is_kind) (defScope s_is_kind) [] [] (He.ga K "is_kind") fd := T.says.def_ 42
theorem d_goes_with (T : Ev fa fx fn K mg base) : ∃ fd, FunD K "goes_with" "goes_with" (defArgs s_goes_with) (defBody s_goes_with) (defScope s_goes_with) [] [] (He.ga K "goes_with") fd := T.says.def_ 43
theorem d_source_alphabet (T : Ev fa fx fn K mg base) : ∃ fd, FunD K "source_alphabet" "source_alphabet" (defArgs s_source_alphabet) (defBody s_source_alphabet) (defScope s_source_alphabet) [] [] (He.ga K "source_alphabet") fd := T.says.def_ 44
theorem d_source_pieces (T : Ev fa fx fn K mg base) : ∃ fd, FunD K "source_pieces" "source_pieces" (defArgs s_source_pieces) (defBody s_source_pieces) (defScope s_source_pieces) [] [] (He.ga K "source_pieces") fd := T.says.def_ 45
theorem d_source_row (T : Ev fa fx fn K mg base) : ∃ fd, FunD K "source_row" "source_row" (defArgs s_source_row) (defBody s_source_row) (defScope s_source_row) [] [] (He.ga K "source_row") fd := T.says.def_ 46
theorem d_places_in (T : Ev fa fx fn K mg base) : ∃ fd, FunD K "places_in" "places_in" (defArgs s_places_in) (defBody s_places_in) (defScope s_places_in) [] [] (He.ga K "places_in") fd := T.says.def_ 47
theorem d_Cutter___init__ (T : Ev fa fx fn K mg base) : ∃ fd, FunD K "__init__" "Cutter.__init__" (defArgs s_Cutter___init__) (defBody s_Cutter___init__) (defScope s_Cutter___init__) [] [] (He.ma K (He.ga K "Cutter") "__init__") fd := T.says.def_ 48
theorem d_Cutter_cut (T : Ev fa fx fn K mg base) : ∃ fd, FunD K "cut" "Cutter.cut" (defArgs s_Cutter_cut) (defBody s_Cutter_cut) (defScope s_Cutter_cut) [] [] (He.ma K (He.ga K "Cutter") "cut") fd := T.says.def_ 49
theorem d_Cutter_places (T : Ev fa fx fn K mg base) : ∃ fd, FunD K "places" "Cutter.places" (defArgs s_Cutter_places) (defBody s_Cutter_places) (defScope s_Cutter_places) [] [] (He.ma K (He.ga K "Cutter") "places") fd := T.says.def_ 50
theorem d_is_marked (T : Ev fa fx fn K mg base) : ∃ fd, FunD K "is_marked" "is_marked" (defArgs s_is_marked) (defBody s_is_marked) (defScope s_is_marked) [] [] (He.ga K "is_marked") fd := T.says.def_ 51
theorem d_marked_of_size (T : Ev fa fx fn K mg base) : ∃ fd, FunD K "marked_of_size" "marked_of_size" (defArgs s_marked_of_size) (defBody s_marked_of_size) (defScope s_marked_of_size) [] [] (He.ga K "marked_of_size") fd := T.says.def_ 52
theorem d__law_bag (T : Ev fa fx fn K mg base) : ∃ fd, FunD K "_law_bag" "_law_bag" (defArgs s__law_bag) (defBody s__law_bag) (defScope s__law_bag) [] [] (He.ga K "_law_bag") fd := T.says.def_ 53
theorem d__law_draw (T : Ev fa fx fn K mg base) : ∃ fd, FunD K "_law_draw" "_law_draw" (defArgs s__law_draw) (defBody s__law_draw) (defScope s__law_draw) [] [] (He.ga K "_law_draw") fd := T.says.def_ 54
theorem d__law_letters (T : Ev fa fx fn K mg base) : ∃ fd, FunD K "_law_letters" "_law_letters" (defArgs s__law_letters) (defBody s__law_letters) (defScope s__law_letters) [] [] (He.ga K "_law_letters") fd := T.says.def_ 55
theorem d__law_join_row (T : Ev fa fx fn K mg base) : ∃ fd, FunD K "_law_join_row" "_law_join_row" (defArgs s__law_join_row) (defBody s__law_join_row) (defScope s__law_join_row) [] [] (He.ga K "_law_join_row") fd := T.says.def_ 56
theorem d__law_texts (T : Ev fa fx fn K mg base) : ∃ fd, FunD K "_law_texts" "_law_texts" (defArgs s__law_texts) (defBody s__law_texts) (defScope s__law_texts) [] [] (He.ga K "_law_texts") fd := T.says.def_ 57
theorem d__law_pairs (T : Ev fa fx fn K mg base) : ∃ fd, FunD K "_law_pairs" "_law_pairs" (defArgs s__law_pairs) (defBody s__law_pairs) (defScope s__law_pairs) [] [] (He.ga K "_law_pairs") fd := T.says.def_ 58
theorem d__law_further (T : Ev fa fx fn K mg base) : ∃ fd, FunD K "_law_further" "_law_further" (defArgs s__law_further) (defBody s__law_further) (defScope s__law_further) [] [] (He.ga K "_law_further") fd := T.says.def_ 59
theorem d__law_ahead (T : Ev fa fx fn K mg base) : ∃ fd, FunD K "_law_ahead" "_law_ahead" (defArgs s__law_ahead) (defBody s__law_ahead) (defScope s__law_ahead) [] [] (He.ga K "_law_ahead") fd := T.says.def_ 60
theorem d__law_behind (T : Ev fa fx fn K mg base) : ∃ fd, FunD K "_law_behind" "_law_behind" (defArgs s__law_behind) (defBody s__law_behind) (defScope s__law_behind) [] [] (He.ga K "_law_behind") fd := T.says.def_ 61
theorem d__law_best (T : Ev fa fx fn K mg base) : ∃ fd, FunD K "_law_best" "_law_best" (defArgs s__law_best) (defBody s__law_best) (defScope s__law_best) [] [] (He.ga K "_law_best") fd := T.says.def_ 62
theorem d__law_cut (T : Ev fa fx fn K mg base) : ∃ fd, FunD K "_law_cut" "_law_cut" (defArgs s__law_cut) (defBody s__law_cut) (defScope s__law_cut) [] [] (He.ga K "_law_cut") fd := T.says.def_ 63
theorem d__law_places (T : Ev fa fx fn K mg base) : ∃ fd, FunD K "_law_places" "_law_places" (defArgs s__law_places) (defBody s__law_places) (defScope s__law_places) [] [] (He.ga K "_law_places") fd := T.says.def_ 64
theorem d__law_drawn (T : Ev fa fx fn K mg base) : ∃ fd, FunD K "_law_drawn" "_law_drawn" (defArgs s__law_drawn) (defBody s__law_drawn) (defScope s__law_drawn) [] [] (He.ga K "_law_drawn") fd := T.says.def_ 65
theorem d__law_made (T : Ev fa fx fn K mg base) : ∃ fd, FunD K "_law_made" "_law_made" (defArgs s__law_made) (defBody s__law_made) (defScope s__law_made) [] [] (He.ga K "_law_made") fd := T.says.def_ 66
theorem d__law_all_texts (T : Ev fa fx fn K mg base) : ∃ fd, FunD K "_law_all_texts" "_law_all_texts" (defArgs s__law_all_texts) (defBody s__law_all_texts) (defScope s__law_all_texts) [] [] (He.ga K "_law_all_texts") fd := T.says.def_ 67
theorem d__law_all_places (T : Ev fa fx fn K mg base) : ∃ fd, FunD K "_law_all_places" "_law_all_places" (defArgs s__law_all_places) (defBody s__law_all_places) (defScope s__law_all_places) [] [] (He.ga K "_law_all_places") fd := T.says.def_ 68
theorem d__law_same (T : Ev fa fx fn K mg base) : ∃ fd, FunD K "_law_same" "_law_same" (defArgs s__law_same) (defBody s__law_same) (defScope s__law_same) [] [] (He.ga K "_law_same") fd := T.says.def_ 69
theorem d__law_refused (T : Ev fa fx fn K mg base) : ∃ fd, FunD K "_law_refused" "_law_refused" (defArgs s__law_refused) (defBody s__law_refused) (defScope s__law_refused) [] [] (He.ga K "_law_refused") fd := T.says.def_ 70
theorem d__law_every_text (T : Ev fa fx fn K mg base) : ∃ fd, FunD K "_law_every_text" "_law_every_text" (defArgs s__law_every_text) (defBody s__law_every_text) (defScope s__law_every_text) [] [] (He.ga K "_law_every_text") fd := T.says.def_ 71
theorem d__law_none (T : Ev fa fx fn K mg base) : ∃ fd, FunD K "_law_none" "_law_none" (defArgs s__law_none) (defBody s__law_none) (defScope s__law_none) [] [] (He.ga K "_law_none") fd := T.says.def_ 72
theorem d__law_long (T : Ev fa fx fn K mg base) : ∃ fd, FunD K "_law_long" "_law_long" (defArgs s__law_long) (defBody s__law_long) (defScope s__law_long) [] [] (He.ga K "_law_long") fd := T.says.def_ 73
theorem d_law (T : Ev fa fx fn K mg base) : ∃ fd, FunD K "law" "law" (defArgs s_law) (defBody s_law) (defScope s_law) [] [] (He.ga K "law") fd := T.says.def_ 74
theorem g_is_between (T : Ev fa fx fn K mg base) : mg "is_between" = some (.ref (He.ga K "is_between")) := T.glo 0
theorem g_is_alphabet (T : Ev fa fx fn K mg base) : mg "is_alphabet" = some (.ref (He.ga K "is_alphabet")) := T.glo 1
theorem g_checked_alphabet (T : Ev fa fx fn K mg base) : mg "checked_alphabet" = some (.ref (He.ga K "checked_alphabet")) := T.glo 2
theorem g_put_together (T : Ev fa fx fn K mg base) : mg "put_together" = some (.ref (He.ga K "put_together")) := T.glo 3
theorem g_lowest_pair (T : Ev fa fx fn K mg base) : mg "lowest_pair" = some (.ref (He.ga K "lowest_pair")) := T.glo 4
theorem g_cut_row (T : Ev fa fx fn K mg base) : mg "cut_row" = some (.ref (He.ga K "cut_row")) := T.glo 5
theorem g_letters_of (T : Ev fa fx fn K mg base) : mg "letters_of" = some (.ref (He.ga K "letters_of")) := T.glo 6
theorem g_cut (T : Ev fa fx fn K mg base) : mg "cut" = some (.ref (He.ga K "cut")) := T.glo 7
theorem g_is_sequence (T : Ev fa fx fn K mg base) : mg "is_sequence" = some (.ref (He.ga K "is_sequence")) := T.glo 8
theorem g_is_text_over (T : Ev fa fx fn K mg base) : mg "is_text_over" = some (.ref (He.ga K "is_text_over")) := T.glo 9
theorem g_is_word_text (T : Ev fa fx fn K mg base) : mg "is_word_text" = some (.ref (He.ga K "is_word_text")) := T.glo 10
theorem g_check_letters (T : Ev fa fx fn K mg base) : mg "check_letters" = some (.ref (He.ga K "check_letters")) := T.glo 11
theorem g_checked_alphabet_of_words (T : Ev fa fx fn K mg base) : mg "checked_alphabet_of_words" = some (.ref (He.ga K "checked_alphabet_of_words")) := T.glo 12
theorem g_checked_further (T : Ev fa fx fn K mg base) : mg "checked_further" = some (.ref (He.ga K "checked_further")) := T.glo 13
theorem g_ahead (T : Ev fa fx fn K mg base) : mg "ahead" = some (.ref (He.ga K "ahead")) := T.glo 14
theorem g_behind (T : Ev fa fx fn K mg base) : mg "behind" = some (.ref (He.ga K "behind")) := T.glo 15
theorem g_least_counts (T : Ev fa fx fn K mg base) : mg "least_counts" = some (.ref (He.ga K "least_counts")) := T.glo 16
theorem g_fewest (T : Ev fa fx fn K mg base) : mg "fewest" = some (.ref (He.ga K "fewest")) := T.glo 17
theorem g_checked_costs (T : Ev fa fx fn K mg base) : mg "checked_costs" = some (.ref (He.ga K "checked_costs")) := T.glo 18
theorem g_priced_lengths (T : Ev fa fx fn K mg base) : mg "priced_lengths" = some (.ref (He.ga K "priced_lengths")) := T.glo 19
theorem g_least_costs (T : Ev fa fx fn K mg base) : mg "least_costs" = some (.ref (He.ga K "least_costs")) := T.glo 20
theorem g_best (T : Ev fa fx fn K mg base) : mg "best" = some (.ref (He.ga K "best")) := T.glo 21
theorem g_is_kind (T : Ev fa fx fn K mg base) : mg "is_kind" = some (.ref (He.ga K "is_kind")) := T.glo 22
theorem g_goes_with (T : Ev fa fx fn K mg base) : mg "goes_with" = some (.ref (He.ga K "goes_with")) := T.glo 23
theorem g_source_alphabet (T : Ev fa fx fn K mg base) : mg "source_alphabet" = some (.ref (He.ga K "source_alphabet")) := T.glo 24
theorem g_source_pieces (T : Ev fa fx fn K mg base) : mg "source_pieces" = some (.ref (He.ga K "source_pieces")) := T.glo 25
theorem g_source_row (T : Ev fa fx fn K mg base) : mg "source_row" = some (.ref (He.ga K "source_row")) := T.glo 26
theorem g_places_in (T : Ev fa fx fn K mg base) : mg "places_in" = some (.ref (He.ga K "places_in")) := T.glo 27
theorem g_is_marked (T : Ev fa fx fn K mg base) : mg "is_marked" = some (.ref (He.ga K "is_marked")) := T.glo 28
theorem g_marked_of_size (T : Ev fa fx fn K mg base) : mg "marked_of_size" = some (.ref (He.ga K "marked_of_size")) := T.glo 29
theorem g__law_bag (T : Ev fa fx fn K mg base) : mg "_law_bag" = some (.ref (He.ga K "_law_bag")) := T.glo 30
theorem g__law_draw (T : Ev fa fx fn K mg base) : mg "_law_draw" = some (.ref (He.ga K "_law_draw")) := T.glo 31
theorem g__law_letters (T : Ev fa fx fn K mg base) : mg "_law_letters" = some (.ref (He.ga K "_law_letters")) := T.glo 32
theorem g__law_join_row (T : Ev fa fx fn K mg base) : mg "_law_join_row" = some (.ref (He.ga K "_law_join_row")) := T.glo 33
theorem g__law_texts (T : Ev fa fx fn K mg base) : mg "_law_texts" = some (.ref (He.ga K "_law_texts")) := T.glo 34
theorem g__law_pairs (T : Ev fa fx fn K mg base) : mg "_law_pairs" = some (.ref (He.ga K "_law_pairs")) := T.glo 35
theorem g__law_further (T : Ev fa fx fn K mg base) : mg "_law_further" = some (.ref (He.ga K "_law_further")) := T.glo 36
theorem g__law_ahead (T : Ev fa fx fn K mg base) : mg "_law_ahead" = some (.ref (He.ga K "_law_ahead")) := T.glo 37
theorem g__law_behind (T : Ev fa fx fn K mg base) : mg "_law_behind" = some (.ref (He.ga K "_law_behind")) := T.glo 38
theorem g__law_best (T : Ev fa fx fn K mg base) : mg "_law_best" = some (.ref (He.ga K "_law_best")) := T.glo 39
theorem g__law_cut (T : Ev fa fx fn K mg base) : mg "_law_cut" = some (.ref (He.ga K "_law_cut")) := T.glo 40
theorem g__law_places (T : Ev fa fx fn K mg base) : mg "_law_places" = some (.ref (He.ga K "_law_places")) := T.glo 41
theorem g__law_drawn (T : Ev fa fx fn K mg base) : mg "_law_drawn" = some (.ref (He.ga K "_law_drawn")) := T.glo 42
theorem g__law_made (T : Ev fa fx fn K mg base) : mg "_law_made" = some (.ref (He.ga K "_law_made")) := T.glo 43
theorem g__law_all_texts (T : Ev fa fx fn K mg base) : mg "_law_all_texts" = some (.ref (He.ga K "_law_all_texts")) := T.glo 44
theorem g__law_all_places (T : Ev fa fx fn K mg base) : mg "_law_all_places" = some (.ref (He.ga K "_law_all_places")) := T.glo 45
theorem g__law_same (T : Ev fa fx fn K mg base) : mg "_law_same" = some (.ref (He.ga K "_law_same")) := T.glo 46
theorem g__law_refused (T : Ev fa fx fn K mg base) : mg "_law_refused" = some (.ref (He.ga K "_law_refused")) := T.glo 47
theorem g__law_every_text (T : Ev fa fx fn K mg base) : mg "_law_every_text" = some (.ref (He.ga K "_law_every_text")) := T.glo 48
theorem g__law_none (T : Ev fa fx fn K mg base) : mg "_law_none" = some (.ref (He.ga K "_law_none")) := T.glo 49
theorem g__law_long (T : Ev fa fx fn K mg base) : mg "_law_long" = some (.ref (He.ga K "_law_long")) := T.glo 50
theorem g_law (T : Ev fa fx fn K mg base) : mg "law" = some (.ref (He.ga K "law")) := T.glo 51
theorem g_InvalidAlphabet (T : Ev fa fx fn K mg base) : mg "InvalidAlphabet" = some (.ref (He.ga K "InvalidAlphabet")) := T.glo 52
theorem g_NotProper (T : Ev fa fx fn K mg base) : mg "NotProper" = some (.ref (He.ga K "NotProper")) := T.glo 53
theorem g_NoPiece (T : Ev fa fx fn K mg base) : mg "NoPiece" = some (.ref (He.ga K "NoPiece")) := T.glo 54
theorem g_UnknownSign (T : Ev fa fx fn K mg base) : mg "UnknownSign" = some (.ref (He.ga K "UnknownSign")) := T.glo 55
theorem g_InvalidNumber (T : Ev fa fx fn K mg base) : mg "InvalidNumber" = some (.ref (He.ga K "InvalidNumber")) := T.glo 56
theorem g_InvalidWords (T : Ev fa fx fn K mg base) : mg "InvalidWords" = some (.ref (He.ga K "InvalidWords")) := T.glo 57
theorem g_InvalidCutter (T : Ev fa fx fn K mg base) : mg "InvalidCutter" = some (.ref (He.ga K "InvalidCutter")) := T.glo 58
theorem g_TooMany (T : Ev fa fx fn K mg base) : mg "TooMany" = some (.ref (He.ga K "TooMany")) := T.glo 59
theorem g_Joins (T : Ev fa fx fn K mg base) : mg "Joins" = some (.ref (He.ga K "Joins")) := T.glo 60
theorem g_Words (T : Ev fa fx fn K mg base) : mg "Words" = some (.ref (He.ga K "Words")) := T.glo 61
theorem g_Costs (T : Ev fa fx fn K mg base) : mg "Costs" = some (.ref (He.ga K "Costs")) := T.glo 62
theorem g_Cutter (T : Ev fa fx fn K mg base) : mg "Cutter" = some (.ref (He.ga K "Cutter")) := T.glo 63
theorem f_bool (T : Ev fa fx fn K mg base) : mg "bool" = none := T.free 64
theorem f_enumerate (T : Ev fa fx fn K mg base) : mg "enumerate" = none := T.free 65
theorem f_int (T : Ev fa fx fn K mg base) : mg "int" = none := T.free 66
theorem f_isinstance (T : Ev fa fx fn K mg base) : mg "isinstance" = none := T.free 67
theorem f_len (T : Ev fa fx fn K mg base) : mg "len" = none := T.free 68
theorem f_list (T : Ev fa fx fn K mg base) : mg "list" = none := T.free 69
theorem f_max (T : Ev fa fx fn K mg base) : mg "max" = none := T.free 70
theorem f_min (T : Ev fa fx fn K mg base) : mg "min" = none := T.free 71
theorem f_range (T : Ev fa fx fn K mg base) : mg "range" = none := T.free 72
theorem f_reversed (T : Ev fa fx fn K mg base) : mg "reversed" = none := T.free 73
theorem f_set (T : Ev fa fx fn K mg base) : mg "set" = none := T.free 74
theorem f_sorted (T : Ev fa fx fn K mg base) : mg "sorted" = none := T.free 75
theorem f_str (T : Ev fa fx fn K mg base) : mg "str" = none := T.free 76
theorem f_sum (T : Ev fa fx fn K mg base) : mg "sum" = none := T.free 77
theorem f_tuple (T : Ev fa fx fn K mg base) : mg "tuple" = none := T.free 78
theorem c_MOST_LETTERS (T : Ev fa fx fn K mg base) : ∃ t, mg "MOST_LETTERS" = some (.int 30 t) := T.int 79
theorem c_LONGEST_PIECE (T : Ev fa fx fn K mg base) : ∃ t, mg "LONGEST_PIECE" = some (.int 40 t) := T.int 80
theorem c_SHORTEST_WORD (T : Ev fa fx fn K mg base) : ∃ t, mg "SHORTEST_WORD" = some (.int 2 t) := T.int 81
theorem c_LONGEST_WORD (T : Ev fa fx fn K mg base) : ∃ t, mg "LONGEST_WORD" = some (.int 6 t) := T.int 82
theorem c_MOST_WORDS (T : Ev fa fx fn K mg base) : ∃ t, mg "MOST_WORDS" = some (.int 10 t) := T.int 83
theorem c_LEAST_COST (T : Ev fa fx fn K mg base) : ∃ t, mg "LEAST_COST" = some (.int 1 t) := T.int 84
theorem c_GREATEST_COST (T : Ev fa fx fn K mg base) : ∃ t, mg "GREATEST_COST" = some (.int 9 t) := T.int 85
theorem c_MOST_MARKED (T : Ev fa fx fn K mg base) : ∃ t, mg "MOST_MARKED" = some (.int 8 t) := T.int 86
theorem g_KINDS (T : Ev fa fx fn K mg base) : mg "KINDS" = some (.ref (He.ga K "KINDS")) := T.glo 87
theorem cls_Joins (T : Ev fa fx fn K mg base) : Cls K (He.ga K "Joins") := T.cls 88
theorem mkr_Joins (T : Ev fa fx fn K mg base) : Mk K (He.ga K "Joins") (He.ma K (He.ga K "Joins") "__init__") := T.mkr 89
theorem no_Joins_alphabet (T : Ev fa fx fn K mg base) : NoAttr K (He.ga K "Joins") "alphabet" := T.noat 90
theorem no_Joins_pairs (T : Ev fa fx fn K mg base) : NoAttr K (He.ga K "Joins") "pairs" := T.noat 91
theorem no_Joins_texts (T : Ev fa fx fn K mg base) : NoAttr K (He.ga K "Joins") "texts" := T.noat 92
theorem no_Joins_ranks (T : Ev fa fx fn K mg base) : NoAttr K (He.ga K "Joins") "ranks" := T.noat 93
theorem no_Joins_numbers (T : Ev fa fx fn K mg base) : NoAttr K (He.ga K "Joins") "numbers" := T.noat 94
theorem no_Joins_longest (T : Ev fa fx fn K mg base) : NoAttr K (He.ga K "Joins") "longest" := T.noat 95
theorem me_Joins_take (T : Ev fa fx fn K mg base) : Meth K (He.ga K "Joins") "take" (He.ma K (He.ga K "Joins") "take") := T.meth 96
theorem me_Joins_is_proper (T : Ev fa fx fn K mg base) : Meth K (He.ga K "Joins") "is_proper" (He.ma K (He.ga K "Joins") "is_proper") := T.meth 97
theorem me_Joins_is_piece (T : Ev fa fx fn K mg base) : Meth K (He.ga K "Joins") "is_piece" (He.ma K (He.ga K "Joins") "is_piece") := T.meth 98
theorem me_Joins_check_piece (T : Ev fa fx fn K mg base) : Meth K (He.ga K "Joins") "check_piece" (He.ma K (He.ga K "Joins") "check_piece") := T.meth 99
theorem me_Joins_text_of (T : Ev fa fx fn K mg base) : Meth K (He.ga K "Joins") "text_of" (He.ma K (He.ga K "Joins") "text_of") := T.meth 100
theorem me_Joins_piece_of (T : Ev fa fx fn K mg base) : Meth K (He.ga K "Joins") "piece_of" (He.ma K (He.ga K "Joins") "piece_of") := T.meth 101
theorem cls_Words (T : Ev fa fx fn K mg base) : Cls K (He.ga K "Words") := T.cls 102
theorem mkr_Words (T : Ev fa fx fn K mg base) : Mk K (He.ga K "Words") (He.ma K (He.ga K "Words") "__init__") := T.mkr 103
theorem no_Words_alphabet (T : Ev fa fx fn K mg base) : NoAttr K (He.ga K "Words") "alphabet" := T.noat 104
theorem no_Words_further (T : Ev fa fx fn K mg base) : NoAttr K (He.ga K "Words") "further" := T.noat 105
theorem no_Words_known (T : Ev fa fx fn K mg base) : NoAttr K (He.ga K "Words") "known" := T.noat 106
theorem no_Words_longest (T : Ev fa fx fn K mg base) : NoAttr K (He.ga K "Words") "longest" := T.noat 107
theorem me_Words_all_words (T : Ev fa fx fn K mg base) : Meth K (He.ga K "Words") "all_words" (He.ma K (He.ga K "Words") "all_words") := T.meth 108
theorem me_Words_lengths_ahead (T : Ev fa fx fn K mg base) : Meth K (He.ga K "Words") "lengths_ahead" (He.ma K (He.ga K "Words") "lengths_ahead") := T.meth 109
theorem me_Words_lengths_behind (T : Ev fa fx fn K mg base) : Meth K (He.ga K "Words") "lengths_behind" (He.ma K (He.ga K "Words") "lengths_behind") := T.meth 110
theorem cls_Costs (T : Ev fa fx fn K mg base) : Cls K (He.ga K "Costs") := T.cls 111
theorem mkr_Costs (T : Ev fa fx fn K mg base) : Mk K (He.ga K "Costs") (He.ma K (He.ga K "Costs") "__init__") := T.mkr 112
theorem no_Costs_words (T : Ev fa fx fn K mg base) : NoAttr K (He.ga K "Costs") "words" := T.noat 113
theorem no_Costs_costs (T : Ev fa fx fn K mg base) : NoAttr K (He.ga K "Costs") "costs" := T.noat 114
theorem no_Costs_prices (T : Ev fa fx fn K mg base) : NoAttr K (He.ga K "Costs") "prices" := T.noat 115
theorem cls_Cutter (T : Ev fa fx fn K mg base) : Cls K (He.ga K "Cutter") := T.cls 116
theorem mkr_Cutter (T : Ev fa fx fn K mg base) : Mk K (He.ga K "Cutter") (He.ma K (He.ga K "Cutter") "__init__") := T.mkr 117
theorem no_Cutter_kind (T : Ev fa fx fn K mg base) : NoAttr K (He.ga K "Cutter") "kind" := T.noat 118
theorem no_Cutter_source (T : Ev fa fx fn K mg base) : NoAttr K (He.ga K "Cutter") "source" := T.noat 119
theorem no_Cutter_alphabet (T : Ev fa fx fn K mg base) : NoAttr K (He.ga K "Cutter") "alphabet" := T.noat 120
theorem no_Cutter_texts (T : Ev fa fx fn K mg base) : NoAttr K (He.ga K "Cutter") "texts" := T.noat 121
theorem no_Cutter_known (T : Ev fa fx fn K mg base) : NoAttr K (He.ga K "Cutter") "known" := T.noat 122
theorem no_Cutter_longest (T : Ev fa fx fn K mg base) : NoAttr K (He.ga K "Cutter") "longest" := T.noat 123
theorem me_Cutter_cut (T : Ev fa fx fn K mg base) : Meth K (He.ga K "Cutter") "cut" (He.ma K (He.ga K "Cutter") "cut") := T.meth 124
theorem me_Cutter_places (T : Ev fa fx fn K mg base) : Meth K (He.ga K "Cutter") "places" (He.ma K (He.ga K "Cutter") "places") := T.meth 125
theorem no_InvalidAlphabet_alphabet (T : Ev fa fx fn K mg base) : NoAttr K (He.ga K "InvalidAlphabet") "alphabet" := T.noat 126
theorem no_NotProper_rank (T : Ev fa fx fn K mg base) : NoAttr K (He.ga K "NotProper") "rank" := T.noat 127
theorem no_NoPiece_piece (T : Ev fa fx fn K mg base) : NoAttr K (He.ga K "NoPiece") "piece" := T.noat 128
theorem no_UnknownSign_sign (T : Ev fa fx fn K mg base) : NoAttr K (He.ga K "UnknownSign") "sign" := T.noat 129
theorem no_UnknownSign_at (T : Ev fa fx fn K mg base) : NoAttr K (He.ga K "UnknownSign") "at" := T.noat 130
theorem no_InvalidNumber_number (T : Ev fa fx fn K mg base) : NoAttr K (He.ga K "InvalidNumber") "number" := T.noat 131
theorem no_InvalidWords_place (T : Ev fa fx fn K mg base) : NoAttr K (He.ga K "InvalidWords") "place" := T.noat 132
theorem no_InvalidCutter_part (T : Ev fa fx fn K mg base) : NoAttr K (He.ga K "InvalidCutter") "part" := T.noat 133
theorem no_TooMany_what (T : Ev fa fx fn K mg base) : NoAttr K (He.ga K "TooMany") "what" := T.noat 134
theorem exm_InvalidNumber_InvalidNumber (T : Ev fa fx fn K mg base) : PySem.W.exmOne K (.ref (He.ga K "InvalidNumber")) (.ref (He.ga K "InvalidNumber")) = some true := T.exm 135
theorem t_KINDS (T : Ev fa fx fn K mg base) (H : Hp) : SqT K H (He.ga K "KINDS") ((["joins", "ahead", "behind", "fewest", "best"] : List Str).map V.str) := tupB_ok (T.says.xt 0 (f := .any (fun K => tupB K (He.ga K "KINDS") ["joins", "ahead", "behind", "fewest", "best"]))) H
theorem ins_Joins (T : Ev fa fx fn K mg base) : Ic K (He.ga K "Joins") := T.ins 1
theorem ins_Words (T : Ev fa fx fn K mg base) : Ic K (He.ga K "Words") := T.ins 2
theorem ins_Costs (T : Ev fa fx fn K mg base) : Ic K (He.ga K "Costs") := T.ins 3
theorem exc_InvalidAlphabet (T : Ev fa fx fn K mg base) : Xc K (He.ga K "InvalidAlphabet") := T.exc 4
theorem exc_NotProper (T : Ev fa fx fn K mg base) : Xc K (He.ga K "NotProper") := T.exc 5
theorem exc_NoPiece (T : Ev fa fx fn K mg base) : Xc K (He.ga K "NoPiece") := T.exc 6
theorem exc_UnknownSign (T : Ev fa fx fn K mg base) : Xc K (He.ga K "UnknownSign") := T.exc 7
theorem exc_InvalidNumber (T : Ev fa fx fn K mg base) : Xc K (He.ga K "InvalidNumber") := T.exc 8
theorem exc_InvalidWords (T : Ev fa fx fn K mg base) : Xc K (He.ga K "InvalidWords") := T.exc 9
theorem exc_InvalidCutter (T : Ev fa fx fn K mg base) : Xc K (He.ga K "InvalidCutter") := T.exc 10
theorem exc_TooMany (T : Ev fa fx fn K mg base) : Xc K (He.ga K "TooMany") := T.exc 11
theorem kit_InvalidNumber_TooMany (T : Ev fa fx fn K mg base) : PySem.W.kitOne K (.ref (He.ga K "InvalidNumber")) (.ref (He.ga K "TooMany")) = some false := T.kit 12 (t := .own "InvalidNumber") (c := .own "TooMany")
theorem kit_Joins_Words (T : Ev fa fx fn K mg base) : PySem.W.kitOne K (.ref (He.ga K "Joins")) (.ref (He.ga K "Words")) = some false := T.kit 13 (t := .own "Joins") (c := .own "Words")
theorem kit_Joins_Joins (T : Ev fa fx fn K mg base) : PySem.W.kitOne K (.ref (He.ga K "Joins")) (.ref (He.ga K "Joins")) = some true := T.kit 14 (t := .own "Joins") (c := .own "Joins")
theorem kit_Joins_Costs (T : Ev fa fx fn K mg base) : PySem.W.kitOne K (.ref (He.ga K "Joins")) (.ref (He.ga K "Costs")) = some false := T.kit 15 (t := .own "Joins") (c := .own "Costs")
theorem kit_Words_Words (T : Ev fa fx fn K mg base) : PySem.W.kitOne K (.ref (He.ga K "Words")) (.ref (He.ga K "Words")) = some true := T.kit 16 (t := .own "Words") (c := .own "Words")
theorem kit_Words_Joins (T : Ev fa fx fn K mg base) : PySem.W.kitOne K (.ref (He.ga K "Words")) (.ref (He.ga K "Joins")) = some false := T.kit 17 (t := .own "Words") (c := .own "Joins")
theorem kit_Words_Costs (T : Ev fa fx fn K mg base) : PySem.W.kitOne K (.ref (He.ga K "Words")) (.ref (He.ga K "Costs")) = some false := T.kit 18 (t := .own "Words") (c := .own "Costs")
theorem kit_Costs_Words (T : Ev fa fx fn K mg base) : PySem.W.kitOne K (.ref (He.ga K "Costs")) (.ref (He.ga K "Words")) = some false := T.kit 19 (t := .own "Costs") (c := .own "Words")
theorem kit_Costs_Joins (T : Ev fa fx fn K mg base) : PySem.W.kitOne K (.ref (He.ga K "Costs")) (.ref (He.ga K "Joins")) = some false := T.kit 20 (t := .own "Costs") (c := .own "Joins")
theorem kit_Costs_Costs (T : Ev fa fx fn K mg base) : PySem.W.kitOne K (.ref (He.ga K "Costs")) (.ref (He.ga K "Costs")) = some true := T.kit 21 (t := .own "Costs") (c := .own "Costs")
end
end K80

set_option Elab.async false
set_option linter.all false
set_option maxRecDepth 100000
set_option maxHeartbeats 0
namespace K80
open PySem PySem.Spec PyProof.Rows L2 PH PySem.W HandSHeadRun
abbrev VQ : Program := PySem.W.view R.prog [lawPlace]
noncomputable abbrev TOP (w : World) (os : OsState) : Option SharedT := endF (stepQ (denQ tabQ) R.prog w) 8000 R.prog w os
noncomputable abbrev LK (w : World) := fun (s : SharedT) => (looksF R.prog (boot_heap w.params) s.abs, seenQ VQ loose (importedModules R.prog.main.body) (fun s => xlAt VQ [] s && recOk R.toRowW.records s) s.abs)
theorem runL (w : World) (os : OsState) : (TOP w os).map (LK w) = some (true, openGood VQ loose) := by
  kernel_rfl
theorem run_0 (w : World) (os : OsState) : (TOP w os).map (chk asL fa_0 fx_0) = some true := by
  kernel_rfl
theorem run_1 (w : World) (os : OsState) : (TOP w os).map (chk asL fa_1 fx_1) = some true := by
  kernel_rfl
theorem runF (w : World) (os : OsState) : (TOP w os).map (fns asL fn) = some (He.valD fn) := by
  kernel_rfl
theorem run (w : World) : RunEq R VQ hk ob 8000 loose w := fun os => run_of (L := LK w) (fa := fa) (fx := fx) (runL w os) (ck_join (run_0 w os) (run_1 w os)) (runF w os)
end K80

local macro_rules | `(tactic| walk_at "s1") => `(tactic| first
  | with_reducible refine PH.v_seq ?_ | with_reducible refine PH.v_asg ?_ | with_reducible refine PH.v_var rfl ?_ | with_reducible refine PH.v_c ?_ | with_reducible refine PH.v_op ?_ | with_reducible refine PH.v_I0 ?_
  | with_reducible refine PH.v_test ?_ | with_reducible refine PH.v_bl ?_ | with_reducible refine PH.v_ifS ?_ | with_reducible refine PH.v_name ?_ | with_reducible refine PH.v_cb ?_ | with_reducible refine PH.v_cons ?_ | with_reducible refine PH.v_nil ?_ | with_reducible refine PH.v_ret ?_
  | with_reducible refine PH.v_sub ?_ | with_reducible refine PH.v_next ?_ | with_reducible refine PH.v_tB ?_ | with_reducible refine PH.v_and ?_ | with_reducible refine PH.v_or ?_ | with_reducible refine PH.v_not ?_ | with_reducible refine PH.v_andV ?_ | with_reducible refine PH.v_orV ?_
  | with_reducible refine PH.v_notV ?_ | with_reducible refine PH.v_if ?_ | with_reducible refine PH.v_call ?_ | with_reducible refine PH.v_fld ?_ | with_reducible refine PH.v_retN ?_ | with_reducible refine PH.v_drop ?_ | with_reducible refine PH.v_un ?_ | with_reducible refine PH.v_U ?_)
local macro_rules | `(tactic| walk_at "s2") => `(tactic| first
  | with_reducible refine PH.v_lst ?_ | with_reducible refine PH.v_tup ?_ | with_reducible refine PH.v_lc ?_ | with_reducible refine PH.v_dc ?_ | with_reducible refine PH.v_iList ?_ | with_reducible refine PH.v_iTup ?_ | with_reducible refine PH.v_iStr ?_
  | with_reducible refine PH.v_iRng1 ?_ | with_reducible refine PH.v_iRng2 ?_ | with_reducible refine PH.v_iEnumS ?_ | with_reducible refine PH.v_iEnumT ?_ | with_reducible refine PH.v_iEnum ?_ | with_reducible refine PH.v_sl ?_ | with_reducible refine PH.v_noPart ?_ | with_reducible refine PH.v_part ?_
  | with_reducible refine PH.v_part1 ?_ | with_reducible refine PH.v_yes ?_ | with_reducible refine PH.v_yif ?_ | with_reducible refine PH.v_nif ?_ | with_reducible refine PH.v_gnil ?_ | with_reducible refine PH.v_gcons ?_ | with_reducible refine PH.v_chain ?_ | with_reducible refine PH.v_meth ?_
  | with_reducible refine PH.v_make ?_ | with_reducible refine PH.v_xf ?_ | with_reducible refine PH.v_dget ?_ | with_reducible refine PH.v_din ?_ | with_reducible refine PH.v_sfld ?_ | with_reducible refine PH.v_bm ?_ | with_reducible refine PH.v_bm0 ?_ | with_reducible refine PH.v_m1 ?_
  | with_reducible refine PH.v_aug rfl ?_ | with_reducible refine PH.v_callW ?_ | with_reducible refine PH.v_methW ?_ | with_reducible refine PH.v_makeW ?_ | with_reducible refine PH.v_x1 ?_ | with_reducible refine PH.v_dput ?_ | with_reducible refine PH.v_dget1 ?_ | with_reducible refine PH.v_dget2 ?_ | with_reducible refine PH.v_dnewK ?_ | with_reducible refine PH.v_dnewT ?_ | with_reducible refine PH.v_tupRev ?_ | with_reducible refine PH.v_iRng3 ?_ | with_reducible refine PH.v_revR1 ?_ | with_reducible refine PH.v_eqI ?_ | with_reducible refine PH.v_neI ?_ | with_reducible refine PH.v_eqS ?_ | with_reducible refine PH.v_neS ?_ | with_reducible refine PH.v_eqB ?_ | with_reducible refine PH.v_neB ?_)
local macro_rules | `(tactic| walk_at "s") => `(tactic| repeat walk_at "s1")
local macro_rules | `(tactic| walk_at "cl") => `(tactic| try dsimp only [PH.cx_K, PH.cx_w, PH.cx_P])
local macro_rules | `(tactic| walk_at "ix") => `(tactic| ((with_reducible refine' PH.v_ixL (L2.SqL.of ?h) ?ha ?q); (case h => first | assumption | exact L2.upd_same); (case ha => rfl)))
local macro_rules | `(tactic| walk_at "int1") => `(tactic| (with_reducible refine Or.inl ⟨_, rfl, ?_⟩))
local macro_rules | `(tactic| walk_at "x") => `(tactic| repeat (first | walk_at "s1" | walk_at "ix" | walk_at "int1"))
local macro_rules | `(tactic| walk_at "I") => `(tactic| ((with_reducible refine' PH.v_I ?hc ?q); (case hc => first | decide | assumption | omega | (dsimp only; omega) | exact ⟨by omega, by omega⟩ | exact Or.inl ⟨by omega, by omega⟩ | exact Or.inr ⟨by omega, by omega⟩)))
local macro_rules | `(tactic| walk_at "set") => `(tactic| ((with_reducible refine' PH.v_setL ?h ?hj ?q); (case h => first | assumption | exact L2.upd_same); (case hj => rfl)))
local macro_rules | `(tactic| walk_at "x") => `(tactic| repeat (first | walk_at "s1" | walk_at "s2" | with_reducible refine PH.v_for ?_ | walk_at "ix" | walk_at "int1" | walk_at "I" | walk_at "set"))
local macro_rules | `(tactic| walk_at "y") => `(tactic| repeat (first | walk_at "s1" | walk_at "s2" | walk_at "ix" | walk_at "int1" | walk_at "I" | walk_at "set"))

namespace K80
open PySem PySem.Spec L2 PH
open C8 (tCut pss_cut)
section
variable {P : Program} {w : World} {K : PySem.W.Frag} {mg : Str → Option Value} {base : Heap}
/-- a draw of any size -/
def spDrawW : Sp := fun vs H Q _ => ∃ (b l : Addr) (many : Int), vs = [.ref b, .int many] ∧ BagAt H b l ∧ 0 < many ∧ many ≤ 1000000000000 ∧
  ∀ (n : Nat) (H' : Hp), (n : Int) < many → BagAt H' b l → Same (hid [b] H) (hid [b] H') → Q (.int (n : Nat)) H'
theorem draw_stepW {H : Hp} {b l : Addr} {n : Int} {Q : VK} {E : XK} (hB : BagAt H b l) (h0 : 0 < n) (h1 : n ≤ 1000000000000) (k : ∀ (x : Nat) (H' : Hp), (x : Int) < n → BagAt H' b l → Same (hid [b] H) (hid [b] H') → Q (.int (x : Nat)) H') : spDrawW ([.ref b, .int n] ++ []) H Q E := ⟨b, l, n, rfl, hB, h0, h1, k⟩
theorem okW__law_draw (T : Ev fa fx fn K mg base) : Dn P w K mg base 1 (He.ga K "_law_draw") ["bag", "many"] spDrawW := by
  refine dn_of (d__law_draw T) sc__law_draw bo__law_draw (fun vs H Q E h => ?_) (fun cdv A outer s H vs Q E hr h => ?_)
  · obtain ⟨a, l, many, rfl, _⟩ := h
    rfl
  · obtain ⟨a, l, many, rfl, ⟨cells, i, r, m, h1, hl, hla, hi, hr0, hr1, hm0, hm1⟩, hn0, hn1, k⟩ := h
    refine ⟨_, (PSs.nox (pss_cut (ps_if (pt_cmpR op_lt (pe_ix (ix_listK (K := K) rfl) (pv 0) pe_int (fun _ _ => rfl)) pe_int (nomark _))
        (pss_cons (ps_set (i := 2) sc__law_draw.nd rfl (.inl rfl) pe_int)
      (pss_cut (ps_if (pt_cmpR op_lt (pe_ix (ix_listK (K := K) rfl) (pv 0) pe_int (fun _ _ => rfl)) (pe_callB (call_lenK (K := K) rfl) (by rfl) (f_len T) bb_len (pa_cons (pe_ix ix_list (pv 0) pe_int (fun _ _ => rfl)) pa_nil)) (nomark _))
        (pss_one (ps_set (i := 2) sc__law_draw.nd rfl (.inl rfl) (pe_ix (ix_listK (K := K) rfl) (pe_ix ix_list (pv 0) pe_int (fun _ _ => rfl)) (pe_ix (ix_listK (K := K) rfl) (pv 0) pe_int (fun _ _ => rfl)) (fun _ _ => rfl)))) pss_nil)
      (pss_cons (ps_asg (pe_op op_add (pe_ix (ix_listK (K := K) rfl) (pv 0) pe_int (fun _ _ => rfl)) pe_int) (pg_sub (pv 0) pe_int set_list))
      (pss_cut (ps_if (pt_cmpR op_ge (pv 2) (pe_op op_pow pe_int pe_int) (nomark _))
        (pss_one (ps_asg (pe_op op_mod (pv 2) (pe_op op_pow pe_int pe_int)) (pg_sub (pv 0) pe_int set_list))) pss_nil)
      (pss_cons (ps_set (i := 3) sc__law_draw.nd rfl (.inl rfl) (pe_op op_mod (pe_callTy call_int1 (by rfl) (f_int T) bb_int (pa_cons (pe_op op_add (pe_ix (ix_listK (K := K) rfl) (pv 0) pe_int (fun _ _ => rfl)) (pv 2)) pa_nil)) pe_int))
      (pss_cons (ps_set (i := 3) sc__law_draw.nd rfl (.inl rfl) (pe_op op_mod (pe_callTy call_int1 (by rfl) (f_int T) bb_int (pa_cons (pe_op op_add (pe_op op_mul (pv 3) (pv 3)) (pe_ix (ix_listK (K := K) rfl) (pv 0) pe_int (fun _ _ => rfl))) pa_nil)) pe_int))
      (pss_one (ps_asg (pe_op op_mod (pe_callTy call_int1 (by rfl) (f_int T) bb_int (pa_cons (pe_op op_add (pe_op op_mul (pv 3) (pv 3)) pe_int) pa_nil)) pe_int) (pg_sub (pv 0) pe_int set_list))))))))) pss_nil)
      (pss_cons (ps_if (pt_cmpR op_gt (pe_ix (ix_listK (K := K) rfl) (pv 0) pe_int (fun _ _ => rfl)) pe_int (nomark _))
        (pss_cons (ps_set (i := 4) sc__law_draw.nd rfl (.inl rfl) (pe_op op_mod (pe_callTy call_int1 (by rfl) (f_int T) bb_int (pa_cons (pe_ix (ix_listK (K := K) rfl) (pv 0) pe_int (fun _ _ => rfl)) pa_nil)) (pv 1)))
      (pss_cons (ps_asg (pe_op op_fdivW (pe_ix (ix_listK (K := K) rfl) (pv 0) pe_int (fun _ _ => rfl)) (pv 1)) (pg_sub (pv 0) pe_int set_list))
      (pss_one (ps_ret (pv 4))))) pss_nil)
      (pss_one (ps_ret (pe_op op_mod (pe_op op_fdiv (pe_callTy call_int1 (by rfl) (f_int T) bb_int (pa_cons (pe_ix (ix_listK (K := K) rfl) (pv 0) pe_int (fun _ _ => rfl)) pa_nil)) pe_int) (pv 1))))))), ?_⟩
    walk_at "cl"
    refine v_cut (fun σ' H' => ∃ (i r m : Int) (c : Option V) (x : Option V), σ' = [some (.ref a), some (.int many), c, x, none] ∧ H' a = some (.lst [.ref l, .int i, .int r, .int m]) ∧ H' l = some (.lst (cells.map V.int)) ∧ hid [a] H' = hid [a] H ∧ 0 ≤ i ∧ 0 ≤ r ∧ r < 10 ^ 60 ∧ 0 ≤ m ∧ m < 2305843009213693951) ?_ ?_
    · walk_at "x"
      refine if_dec (fun c1 => ?_) (fun c1 => ?_)
      · walk_at "x"
        refine v_cut (fun σ' H' => ∃ (c : Int), σ' = [some (.ref a), some (.int many), some (.int c), none, none] ∧ H' = H) ?_ ?_
        · walk_at "x"
          refine ⟨_, cells.length, rfl, .inl ⟨_, sqL_of hl, by rw [List.length_map]⟩, ?_⟩
          walk_at "x"
          refine if_dec (fun c2 => ?_) (fun c2 => ?_)
          · walk_at "x"
            obtain ⟨j, rfl⟩ := Int.eq_ofNat_of_zero_le hi
            have hj : j < cells.length := by omega
            refine v_ixL (v := .int (cells[j])) (sqL_of hl) (atI_nat (by simp [hj])) ?_
            walk_at "x"
            exact ⟨_, rfl, rfl⟩
          · walk_at "x"
            exact ⟨_, rfl, rfl⟩
        · rintro σ' H' ⟨c, rfl, rfl⟩
          walk_at "x"
          refine v_cut (fun σ'' H'' => ∃ (r : Int), σ'' = [some (.ref a), some (.int many), some (.int c), none, none] ∧ H'' a = some (.lst [.ref l, .int (i + 1), .int r, .int m]) ∧ H'' l = some (.lst (cells.map V.int)) ∧ hid [a] H'' = hid [a] H' ∧ 0 ≤ r ∧ r < 10 ^ 60) ?_ ?_
          · walk_at "x"
            refine if_dec (fun c2 => ?_) (fun c2 => ?_)
            · walk_at "x"
              refine ⟨_, rfl, upd_same, by rw [upd_ne hla, upd_ne hla]; exact hl, ?_, Int.emod_nonneg _ (by decide), Int.emod_lt_of_pos _ (by decide)⟩
              rw [hid_in (by simp), hid_in (by simp)]
            · walk_at "x"
              exact ⟨_, rfl, upd_same, by rw [upd_ne hla]; exact hl, hid_in (by simp), hr0, hr1⟩
          · rintro σ'' H'' ⟨r', rfl, h2, hl2, e2, hr0', hr1'⟩
            walk_at "x"
            exact ⟨i + 1, r', _, _, _, rfl, upd_same, by rw [upd_ne hla]; exact hl2, by rw [hid_in (by simp), e2], by omega, hr0', hr1', Int.emod_nonneg _ (by decide), Int.emod_lt_of_pos _ (by decide)⟩
      · walk_at "x"
        exact ⟨i, r, m, none, none, rfl, h1, hl, rfl, hi, hr0, hr1, hm0, hm1⟩
    · rintro σ' H' ⟨i', r', m', c, x, rfl, h2, hl', e2, hi', hr0', hr1', hm0', hm1'⟩
      have same : Same (hid [a] H) (hid [a] H') := by rw [e2]; exact Same.refl _
      have fin : ∀ (z : Int) (H'' : Hp), 0 ≤ z → z < many → BagAt H'' a l → Same (hid [a] H) (hid [a] H'') → Q (.int z) H'' := fun z H'' hz0 hz1 hB hS => by
        obtain ⟨n, rfl⟩ := Int.eq_ofNat_of_zero_le hz0
        exact k n H'' hz1 hB hS
      walk_at "x"
      refine if_dec (fun c1 => ?_) (fun c1 => ?_)
      · walk_at "x"
        refine v_I (wide_div (b := 60) hn0 (Nat.lt_of_le_of_lt (by omega) (by decide : 1000000000000 < 2 ^ 60)) (by decide) (by decide)) ?_
        walk_at "x"
        refine fin _ _ (Int.emod_nonneg _ (by omega)) (Int.emod_lt_of_pos _ hn0) ⟨cells, _, _, _, upd_same, by rw [upd_ne hla]; exact hl', hla, hi', Int.ediv_nonneg hr0' (by omega), ?_, hm0', hm1'⟩ ?_
        · exact Int.lt_of_le_of_lt (Int.ediv_le_self _ hr0') hr1'
        · rw [hid_in (by simp)]; exact same
      · walk_at "x"
        exact fin _ _ (Int.emod_nonneg _ (by omega)) (Int.emod_lt_of_pos _ hn0) ⟨cells, _, _, _, h2, hl', hla, hi', hr0', hr1', hm0', hm1'⟩ same
theorem ok__law_draw (T : Ev fa fx fn K mg base) : Dn P w K mg base 1 (He.ga K "_law_draw") ["bag", "many"] spDraw := (okW__law_draw T).imp fun vs H Q E h => by
  obtain ⟨b, l, n, e, hB, h0, h1, k⟩ := h
  exact ⟨b, l, n, e, hB, h0, by omega, k⟩
end

end K80

namespace K80
open PySem PySem.Spec L2 PH
open C8 (tCut pss_cut)
section
variable {P : Program} {w : World} {K : PySem.W.Frag} {mg : Str → Option Value} {base : Heap}
def spBag (K : PySem.W.Frag) : Sp := fun vs H Q _ => ∃ (p : Addr) (ns : List Int), vs = [.ref p] ∧ SqL K H p (ns.map V.int) ∧ ns.length ≤ 63 ∧
  ∀ (b l : Addr) (H' : Hp), H b = none → BagAt H' b l → Same H H' → Q (.ref b) H'
theorem ok__law_bag (T : Ev fa fx fn K mg base) : Dn P w K mg base 1 (He.ga K "_law_bag") ["script"] (spBag K) := by
  refine dn_of (d__law_bag T) sc__law_bag bo__law_bag (fun vs H Q E h => ?_) (fun cdv A outer s H vs Q E hr h => ?_)
  · obtain ⟨p, ns, rfl, _⟩ := h
    rfl
  · obtain ⟨p, ns, rfl, hp, hl, k⟩ := h
    refine ⟨_, (PSs.nox (pss_one (ps_ret (pe_lst (pa_cons (pe_lc (own := [("cell", 1)]) rfl sc__law_bag.nd (pi_list (pe_slice sl_list (pv 0) po_none (po_some pe_int))) (blkOk_by (own := [("cell", 1)]) (N := ["script", "cell"]) (sc := defScope s__law_bag) (by decide +kernel)) (fun _ _ _ _ _ => (pg_name (i := 1) sc__law_bag.nd rfl (.inl rfl))) (fun _ _ _ _ _ => pts_nil) (fun _ _ _ _ _ => (pe_callTy call_int1 (by rfl) (f_int T) bb_int (pa_cons (pv 1) pa_nil)))) (pa_cons pe_int (pa_cons pe_int (pa_cons pe_int pa_nil)))))))), ?_⟩
    walk_at "cl"
    walk_at "x"
    refine ⟨p, ns.map V.int, rfl, hp, fun l hl0 => ⟨l, rfl, ⟨_, sqL_of upd_same⟩, fun D hD => ?_⟩⟩
    have hDl : D ≠ l := fun e => by rw [e, upd_same] at hD; cases hD
    have hH : H D = none := by rw [upd_ne hDl] at hD; exact hD
    refine lc_it (walk_list (xs := ns.map V.int)) (fun i H' => Same H H' ∧ SqL K H' l (ns.map V.int) ∧ H' D = some (.lst ((ns.take i).map V.int))) ?_ ?_ ?_ ?_
    · refine ⟨(same_new hl0).trans (same_new hD), ?_, upd_same⟩
      refine sqL_of ?_
      rw [upd_ne (Ne.symm hDl), upd_same, show (63 : Int) = ((63 : Nat) : Int) from rfl, cut_take, List.take_of_length_le (by simpa using hl)]
    · rintro i H' hi ⟨_, h, _⟩
      exact h
    · rintro i x H1 H2 hi ⟨h1, h2, h3⟩ ⟨rfl, hx⟩
      have hi : i < ns.length := by simpa using hi
      have hx : x = .int ns[i] := by
        rw [List.getElem?_map, List.getElem?_eq_getElem hi] at hx
        exact (Option.some.inj hx).symm
      subst hx
      walk_at "x"
      refine ⟨rfl, ?_⟩
      walk_at "x"
      have hz := smallL (n := ns.length) (by omega)
      refine ⟨_, h3, by rw [List.length_map, List.length_take]; omega, same_mut h1 hH, sqL_mut h2 (Ne.symm hDl), ?_⟩
      rw [upd_same, List.take_add_one, List.getElem?_eq_getElem hi, List.map_append]
      rfl
    · rintro H' ⟨h1, h2, h3⟩
      walk_at "x"
      refine ⟨by show 4 ≤ sizeLine; exact small (by decide), fun b hb => ?_⟩
      have hbD : D ≠ b := fun e => by rw [← e, h3] at hb; cases hb
      have hHb : H b = none := none_same h1 hb
      have e : ns.take (ns.map V.int).length = ns := List.take_of_length_le (by simp)
      rw [e] at h3
      exact k b D _ hHb ⟨ns, 0, 0, 1618033988749894848, upd_same, by rw [upd_ne hbD]; exact h3, hbD, by decide, by decide, by decide, by decide, by decide⟩ (same_upd h1 hb)
/-! ### letters -/
def spLetters : Sp := fun vs H Q _ => ∃ (b l : Addr) (n : Nat), vs = [.ref b, .int (n : Int)] ∧ BagAt H b l ∧ 1 ≤ n ∧ n ≤ 4 ∧
  ∀ (z : Str) (H' : Hp), AlphaOk z n → BagAt H' b l → Same (hid [b] H) (hid [b] H') → Q (.str z) H'
def signs94 : Str := Str.ofString " !\"#$&'()*+,-./0123456789:;<=>?@ABCDEFGHIJKLMNOPQRSTUVWXYZ[\\]^_`" ++ Str.ofString "abcdefghijklmnopqrstuvwxyz{|}~"
theorem signs94_len : signs94.cps.toList.length = 94 := by decide +kernel
theorem signs94_all : ∀ c ∈ signs94.cps.toList, 32 ≤ c ∧ c ≤ 126 := by decide +kernel
theorem alpha_abcd {k n : Nat} (h1 : 1 ≤ k) (h2 : k ≤ n) (h3 : n ≤ 4) : AlphaOk (cutS (Str.ofString "abcd") none (some (k : Int))) n := by
  have e := cutS_take (Str.ofString "abcd") k
  have e2 : (Str.ofString "abcd").cps.toList = [97, 98, 99, 100] := by decide +kernel
  rw [e2] at e
  have hk : k = 1 ∨ k = 2 ∨ k = 3 ∨ k = 4 := by omega
  constructor
  · rw [e, List.length_take]; simp; omega
  · rw [e, List.length_take]; simp; omega
  · rw [e]
    intro c hc
    have hc := List.mem_of_mem_take hc
    simp at hc
    omega
  · rw [e]
    exact List.Pairwise.sublist (List.take_sublist _ _) (by decide)
theorem ok__law_letters (T : Ev fa fx fn K mg base) : Dn P w K mg base 2 (He.ga K "_law_letters") ["bag", "most"] spLetters := by
  refine dn_of (d__law_letters T) sc__law_letters bo__law_letters (fun vs H Q E h => ?_) (fun cdv A outer s H vs Q E hr h => ?_)
  · obtain ⟨b, l, n, rfl, _⟩ := h
    rfl
  · obtain ⟨b, l, n, rfl, hB, hn1, hn4, k⟩ := h
    refine ⟨_, (PSs.nox (pss_cons (ps_set (i := 2) sc__law_letters.nd rfl (.inr rfl) pe_str)
      (pss_cons (ps_set (i := 2) sc__law_letters.nd rfl (.inr rfl) (pe_op op_add_str (pv 2) pe_str))
      (pss_cons (ps_set (i := 3) sc__law_letters.nd rfl (.inl rfl) (pe_op op_add pe_int (pe_d (ok__law_draw T) (hr.mono (by decide)) (g__law_draw T) passL (pa_cons (pv 0) (pa_cons (pv 1) pa_nil)))))
      (pss_cons (ps_if (pt_cmpR op_eq (pe_d (ok__law_draw T) (hr.mono (by decide)) (g__law_draw T) passL (pa_cons (pv 0) (pa_cons pe_int pa_nil))) pe_int (nomark _))
        (pss_one (ps_ret (pe_slice sl_str pe_str po_none (po_some (pv 3))))) pss_nil)
      (pss_one (ps_ret (pe_join pe_str (pe_callB (cr_sorted_strs rfl) (by rfl) (f_sorted T) bb_sorted (pa_cons (pe_callTy (cr_set_strs rfl) (by rfl) (f_set T) bb_set (pa_cons (pe_lc (own := [("k", 4)]) rfl sc__law_letters.nd (pi_range1 rfl (f_range T) (pa_cons (pv 3) pa_nil)) (blkOk_by (own := [("k", 4)]) (N := ["bag", "most", "signs", "many", "k"]) (sc := defScope s__law_letters) (by decide +kernel)) (fun _ _ _ _ _ => (pg_name (i := 4) sc__law_letters.nd rfl (.inl rfl))) (fun _ _ _ _ _ => pts_nil) (fun _ _ _ _ _ => (pe_ix ix_str (pv 2) (pe_d (ok__law_draw T) (hr.mono (by decide)) (g__law_draw T) passL (pa_cons (pv 0) (pa_cons pe_int pa_nil))) (fun _ _ => rfl)))) pa_nil)) pa_nil)))))))))), ?_⟩
    walk_at "cl"
    walk_at "x"
    refine ⟨_, _, rfl, rfl, by rw [sizeLine_eq]; decide +kernel, ?_⟩
    walk_at "x"
    refine draw_step hB (by omega) (by omega) fun k1 H1 h1 hB1 hS1 => ?_
    walk_at "x"
    refine draw_step hB1 (by omega) (by omega) fun k2 H2 h2 hB2 hS2 => ?_
    walk_at "x"
    refine if_dec (fun c2 => ?_) (fun c2 => ?_)
    · walk_at "x"
      refine ⟨_, rfl, by rw [sizeLine_eq]; decide +kernel, ?_⟩
      refine k _ _ ?_ hB2 (hS1.trans hS2)
      have e : (1 + (k1 : Int)) = ((1 + k1 : Nat) : Int) := by omega
      rw [e]
      exact alpha_abcd (by omega) (by omega) hn4
    · walk_at "x"
      refine ⟨⟨_, rfl⟩, ?_⟩
      walk_at "x"
      refine ⟨1 + (k1 : Int), rfl, by omega, by omega, fun D hD => ?_⟩
      have hj : (1 + (k1 : Int)).toNat = 1 + k1 := by omega
      rw [hj]
      obtain ⟨nb, nl⟩ := hB2.ne hD
      refine lc_it walk_range (fun i H' => ∃ cs : List Nat, cs.length = i ∧ (∀ c ∈ cs, c ∈ signs94.cps.toList) ∧ H' D = some (.lst ((cs.map s1).map V.str)) ∧ BagAt H' b l ∧ Same (hid [b] H2) (hid [b] H')) ?_ ?_ ?_ ?_
      · exact ⟨[], rfl, (fun c hc => by cases hc), upd_same, hB2.new hD, hsame_mut hsame_refl hD⟩
      · intros
        trivial
      · rintro i x H3 H4 hi ⟨cs, hl, hm, hd, hB3, hS3⟩ ⟨rfl, rfl⟩
        walk_at "x"
        refine ⟨rfl, ?_⟩
        walk_at "x"
        refine draw_step hB3 (by omega) (by omega) fun k3 H5 h5 hB5 hS5 => ?_
        have hk3 : k3 < signs94.cps.toList.length := by rw [signs94_len]; omega
        refine v_ixS (c := signs94.cps.toList[k3]) (by rw [sizeLine_eq]; decide +kernel) (atI_nat (by show signs94.cps.toList[k3]? = _; rw [List.getElem?_eq_getElem hk3])) ?_
        have hd5 : H5 D = some (.lst ((cs.map s1).map V.str)) := hid_get hS5 hd (by simpa using nb)
        refine ⟨_, hd5, smallL (by simp; omega), cs ++ [signs94.cps.toList[k3]], by simp [hl], fun c hc => ?_, ?_, hB5.mut nb nl, hsame_mut (hS3.trans hS5) hD⟩
        · rcases List.mem_append.mp hc with hc | hc
          · exact hm c hc
          · rw [List.mem_singleton.mp hc]
            exact List.getElem_mem hk3
        · rw [upd_same]
          simp [s1]
      · rintro H' ⟨cs, hl, hm, hd, hB', hS'⟩
        walk_at "x"
        refine ⟨D, cs.map s1, rfl, sqL_of hd, by simp; omega, fun a c ha hc => ?_⟩
        walk_at "x"
        refine ⟨a, _, _, rfl, upd_same, by simp at hc; omega, fun ys p hs hnd hmem hlen hp => ?_⟩
        obtain ⟨cs', rfl, hup, hin⟩ := sorted_signs (S := cs) hs hnd fun y hy => by
          have q := (hmem y).1 hy
          obtain ⟨c', hc', e⟩ := List.mem_map.mp (of_decide_eq_true q)
          exact ⟨c', hc', e.symm⟩
        have hne : cs' ≠ [] := by
          intro e
          subst e
          cases cs with
          | nil => simp at hl; omega
          | cons c0 r =>
            have q := (hmem (s1 c0)).2 (decide_eq_true (by simp))
            simp at q
        have hl2 : cs'.length ≤ cs.length := by
          simp at hlen hc
          omega
        refine ⟨_, p, cs'.map s1, rfl, rfl, .inl (sqL_of upd_same), ?_, k _ _ ⟨?_, ?_, ?_, ?_⟩ ?_ ?_⟩
        · have e : ((cs'.map s1).map (·.length)).sum = cs'.length := by
            have go : ∀ l : List Nat, ((l.map s1).map (·.length)).sum = l.length := by
              intro l
              induction l with
              | nil => rfl
              | cons x r ih =>
                rw [List.map_cons, List.map_cons, List.sum_cons, ih, List.length_cons, Nat.add_comm]
                rfl
            exact go cs'
          rw [e]
          simp
          show cs'.length + cs'.length * 0 ≤ _
          omega
        · rw [join_signs]
          cases cs' with
          | nil => exact absurd rfl hne
          | cons _ _ => simp
        · rw [join_signs]; omega
        · rw [join_signs]
          exact fun c hc => signs94_all c (hm c (hin c hc))
        · rw [join_signs]; exact hup
        · exact ((hB'.new ha).new hp)
        · exact (hS1.trans hS2).trans (hsame_new (hsame_new hS' ha) hp)
end

end K80

namespace K80
open PySem PySem.Spec L2 PH
open C8 (tCut pss_cut)
section
variable {P : Program} {w : World} {K : PySem.W.Frag} {mg : Str → Option Value} {base : Heap}
def spFurther : Sp := fun vs H Q _ => ∃ (b l : Addr) (z : Str) (m n : Nat), vs = [.ref b, .str z, .int (m : Int), .int (n : Int)] ∧ BagAt H b l ∧ AlphaOk z 4 ∧ m ≤ 20 ∧ 2 ≤ n ∧ n ≤ 20 ∧
  ∀ (t : Addr) (ws : List Str) (H' : Hp), H t = none → FurtherOk z m n ws → H' t = some (.lst (ws.map V.str)) → BagAt H' b l → Same (hid [b] H) (hid [b] H') → Q (.ref t) H'
theorem ok__law_further (T : Ev fa fx fn K mg base) : Dn P w K mg base 2 (He.ga K "_law_further") ["bag", "letters", "most", "longest"] spFurther := by
  refine dn_of (d__law_further T) sc__law_further bo__law_further (fun vs H Q E h => ?_) (fun cdv A outer s H vs Q E hr h => ?_)
  · obtain ⟨b, l, z, m, n, rfl, _⟩ := h
    rfl
  · obtain ⟨b, l, z, m, n, rfl, hB, hz, hm, hn2, hn, k⟩ := h
    refine ⟨_, (PSs.nox (pss_cons (ps_set (i := 4) sc__law_further.nd rfl (.inl rfl) (pe_lst pa_nil))
      (pss_cons (ps_for PassesOwn.never rfl (pi_range1 rfl (f_range T) (pa_cons (pe_d (ok__law_draw T) (hr.mono (by decide)) (g__law_draw T) passL (pa_cons (pv 0) (pa_cons (pe_op op_add (pv 2) pe_int) pa_nil))) pa_nil)) (pg_name (i := 5) sc__law_further.nd rfl (.inl rfl))
        (pss_cons (ps_set (i := 6) sc__law_further.nd rfl (.inl rfl) (pe_join pe_str (pe_lc (own := [("i", 7)]) rfl sc__law_further.nd (pi_range1 rfl (f_range T) (pa_cons (pe_op op_add pe_int (pe_d (ok__law_draw T) (hr.mono (by decide)) (g__law_draw T) passL (pa_cons (pv 0) (pa_cons (pe_op op_sub (pv 3) pe_int) pa_nil)))) pa_nil)) (blkOk_by (own := [("i", 7)]) (N := ["bag", "letters", "most", "longest", "told", "k", "word", "i"]) (sc := defScope s__law_further) (by decide +kernel)) (fun _ _ _ _ _ => (pg_name (i := 7) sc__law_further.nd rfl (.inl rfl))) (fun _ _ _ _ _ => pts_nil) (fun _ _ _ _ _ => (pe_ix ix_str (pv 1) (pe_d (ok__law_draw T) (hr.mono (by decide)) (g__law_draw T) passL (pa_cons (pv 0) (pa_cons (pe_callB (call_lenK (K := K) rfl) (by rfl) (f_len T) bb_len (pa_cons (pv 1) pa_nil)) pa_nil))) (fun _ _ => rfl))))))
      (pss_one (ps_if (pt_cmpR (op_notIn_seqK (K := K) rfl) (pv 6) (pv 4) rfl)
        (pss_one (ps_expr (pe_bmK (K := K) rfl PySem.F.plainAttrs_list PySem.F.slot_list_append PySem.F.type_list_append mt_append (pv 4) (pa_cons (pv 6) pa_nil)))) pss_nil))))
      (pss_one (ps_ret (pv 4)))))), ?_⟩
    walk_at "cl"
    walk_at "x"
    refine ⟨small (by decide), fun t ht => ?_⟩
    walk_at "x"
    obtain ⟨tb, tl⟩ := hB.ne ht
    refine draw_step (hB.new ht) (by omega) (by omega) fun k1 H1 h1 hB1 hS1 => ?_
    walk_at "x"
    refine ⟨(k1 : Int), rfl, by omega, by omega, ?_⟩
    rw [Int.toNat_natCast]
    refine for_it walk_range (fun i σ' H' => ∃ (x y : Option V) (ws : List Str), σ' = [some (.ref b), some (.str z), some (.int m), some (.int n), some (.ref t), x, y, none] ∧ FurtherOk z i n ws ∧ H' t = some (.lst (ws.map V.str)) ∧ BagAt H' b l ∧ Same (hid [b] H) (hid [b] H')) ?_ ?_ ?_ ?_
    · refine ⟨none, none, [], rfl, ⟨(fun x hx => by cases hx), List.nodup_nil, Nat.zero_le _⟩, hid_get hS1 upd_same (by simpa using tb), hB1, (hsame_new hsame_refl ht).trans hS1⟩
    · intros
      trivial
    · rintro i x σ' H2 H3 hi ⟨x0, y0, ws, rfl, hF, ht2, hB2, hS2⟩ ⟨rfl, rfl⟩
      walk_at "x"
      refine ⟨⟨_, rfl⟩, ?_⟩
      walk_at "x"
      refine draw_step hB2 (by omega) (by omega) fun k2 H4 h4 hB4 hS4 => ?_
      walk_at "x"
      refine ⟨2 + (k2 : Int), rfl, by omega, by omega, fun D hD => ?_⟩
      have hj : (2 + (k2 : Int)).toNat = 2 + k2 := by omega
      rw [hj]
      obtain ⟨nb, nl⟩ := hB4.ne hD
      have ht4 : H4 t = some (.lst (ws.map V.str)) := hid_get hS4 ht2 (by simpa using tb)
      have nt : t ≠ D := ne_of_none ht4 hD
      have hDH : H D = none := hnone (hS2.trans hS4) hD (by simpa using nb)
      refine lc_it walk_range (fun j H' => ∃ cs : List Nat, cs.length = j ∧ (∀ c ∈ cs, c ∈ z.cps.toList) ∧ H' D = some (.lst ((cs.map s1).map V.str)) ∧ H' t = some (.lst (ws.map V.str)) ∧ BagAt H' b l ∧ Same (hid [b] H) (hid [b] H')) ?_ ?_ ?_ ?_
      · exact ⟨[], rfl, (fun c hc => by cases hc), upd_same, by rw [upd_ne nt]; exact ht4, hB4.new hD, hsame_new (hS2.trans hS4) hD⟩
      · intros
        trivial
      · rintro j x H5 H6 hj ⟨cs, hl, hm, hd, ht5, hB5, hS5⟩ ⟨rfl, rfl⟩
        walk_at "x"
        refine ⟨rfl, ?_⟩
        walk_at "x"
        have hzl := hz.lo
        have hzh := hz.hi
        have hzz : z.length ≤ sizeLine := small (by rw [tl_len]; omega)
        refine v_lenS hzz ?_
        walk_at "x"
        refine draw_step hB5 (by rw [tl_len]; omega) (by rw [tl_len]; omega) fun k3 H7 h7 hB7 hS7 => ?_
        walk_at "x"
        have hk3 : k3 < z.cps.toList.length := by rw [← tl_len]; omega
        refine v_ixS (c := z.cps.toList[k3]) hzz (atI_nat (by rw [List.getElem?_eq_getElem hk3])) ?_
        have hd7 : H7 D = some (.lst ((cs.map s1).map V.str)) := hid_get hS7 hd (by simpa using nb)
        refine ⟨_, hd7, smallL (by simp; omega), cs ++ [z.cps.toList[k3]], by simp [hl], fun c hc => ?_, ?_, ?_, hB7.mut nb nl, hsame_mut (hS5.trans hS7) hDH⟩
        · rcases List.mem_append.mp hc with hc | hc
          · exact hm c hc
          · rw [List.mem_singleton.mp hc]
            exact List.getElem_mem hk3
        · rw [upd_same]
          simp [s1]
        · rw [upd_ne nt]
          exact hid_get hS7 ht5 (by simpa using tb)
      · rintro H' ⟨cs, hl, hm, hd, ht', hB', hS'⟩
        have hsum : ∀ l : List Nat, ((l.map s1).map (·.length)).sum = l.length := by
          intro l
          induction l with
          | nil => rfl
          | cons x r ih =>
            rw [List.map_cons, List.map_cons, List.sum_cons, ih, List.length_cons, Nat.add_comm]
            rfl
        refine ⟨_, D, cs.map s1, rfl, rfl, .inl (sqL_of hd), ?_, ?_⟩
        · rw [hsum]
          simp
          show cs.length + cs.length * 0 ≤ _
          omega
        walk_at "x"
        have hw : WordOk z n (Txt.join (Str.ofString "") (cs.map s1)) := ⟨by rw [join_signs]; omega, by rw [join_signs]; omega, by rw [join_signs]; exact hm⟩
        generalize Txt.join (Str.ofString "") (cs.map s1) = word at hw
        refine v_notIn (.inl (sqL_of ht')) ?_
        walk_at "x"
        refine if_bnot (fun c => ?_) (fun c => ?_)
        · walk_at "x"
          refine ⟨ty_list (sqL_of ht'), ?_⟩
          walk_at "x"
          have hlen := hF.few
          refine v_append ht' (smallL (by simp; omega)) ?_
          walk_at "x"
          refine ⟨_, _, ws ++ [word], rfl, ⟨fun x hx => ?_, ?_, by simp; exact hF.few⟩, by rw [upd_same]; simp, hB'.mut tb tl, hsame_mut hS' ht⟩
          · rcases List.mem_append.mp hx with hx | hx
            · exact hF.ok x hx
            · rw [List.mem_singleton.mp hx]; exact hw
          · rw [List.nodup_append]
            refine ⟨hF.nd, by simp, fun a ha b hb => ?_⟩
            rw [List.mem_singleton.mp hb]
            exact fun e => c (e ▸ ha)
        · walk_at "x"
          exact ⟨_, _, ws, rfl, ⟨hF.ok, hF.nd, Nat.le_succ_of_le hF.few⟩, ht', hB', hS'⟩
    · rintro σ' H' ⟨x0, y0, ws, rfl, hF, ht2, hB2, hS2⟩
      walk_at "x"
      exact k t ws H' ht ⟨hF.ok, hF.nd, by have := hF.few; omega⟩ ht2 hB2 hS2
end

end K80

namespace K80
open PySem PySem.Spec L2 PH
open C8 (tCut pss_cut)
section
variable {P : Program} {w : World} {K : PySem.W.Frag} {mg : Str → Option Value} {base : Heap}
theorem ok_InvalidAlphabet___init__ (T : Ev fa fx fn K mg base) : Dn P w K mg base 1 (He.ma K (He.ga K "InvalidAlphabet") "__init__") ["self", "alphabet"] (spX1 (He.ga K "InvalidAlphabet") "alphabet") := by
  refine dn_of (d_InvalidAlphabet___init__ T) sc_InvalidAlphabet___init__ bo_InvalidAlphabet___init__ (fun vs H Q E h => ?_) (fun cdv A outer s H vs Q E hr h => ?_)
  · obtain ⟨a, v, rfl, _⟩ := h
    rfl
  · obtain ⟨a, v, rfl, ha, k⟩ := h
    refine ⟨_, (PSs.nox (pss_one (ps_ost (pv 0) (pv 1)))), ?_⟩
    walk_at "cl"
    refine v_var rfl (v_var rfl ?_)
    exact ⟨a, _, rfl, (exc_InvalidAlphabet T).oex, no_InvalidAlphabet_alphabet T, .inl ⟨ha, fun dx h1 h2 => k dx h1 h2⟩⟩

theorem ok_NotProper___init__ (T : Ev fa fx fn K mg base) : Dn P w K mg base 1 (He.ma K (He.ga K "NotProper") "__init__") ["self", "rank"] (spX1 (He.ga K "NotProper") "rank") := by
  refine dn_of (d_NotProper___init__ T) sc_NotProper___init__ bo_NotProper___init__ (fun vs H Q E h => ?_) (fun cdv A outer s H vs Q E hr h => ?_)
  · obtain ⟨a, v, rfl, _⟩ := h
    rfl
  · obtain ⟨a, v, rfl, ha, k⟩ := h
    refine ⟨_, (PSs.nox (pss_one (ps_ost (pv 0) (pv 1)))), ?_⟩
    walk_at "cl"
    refine v_var rfl (v_var rfl ?_)
    exact ⟨a, _, rfl, (exc_NotProper T).oex, no_NotProper_rank T, .inl ⟨ha, fun dx h1 h2 => k dx h1 h2⟩⟩

theorem ok_NoPiece___init__ (T : Ev fa fx fn K mg base) : Dn P w K mg base 1 (He.ma K (He.ga K "NoPiece") "__init__") ["self", "piece"] (spX1 (He.ga K "NoPiece") "piece") := by
  refine dn_of (d_NoPiece___init__ T) sc_NoPiece___init__ bo_NoPiece___init__ (fun vs H Q E h => ?_) (fun cdv A outer s H vs Q E hr h => ?_)
  · obtain ⟨a, v, rfl, _⟩ := h
    rfl
  · obtain ⟨a, v, rfl, ha, k⟩ := h
    refine ⟨_, (PSs.nox (pss_one (ps_ost (pv 0) (pv 1)))), ?_⟩
    walk_at "cl"
    refine v_var rfl (v_var rfl ?_)
    exact ⟨a, _, rfl, (exc_NoPiece T).oex, no_NoPiece_piece T, .inl ⟨ha, fun dx h1 h2 => k dx h1 h2⟩⟩

theorem ok_UnknownSign___init__ (T : Ev fa fx fn K mg base) : Dn P w K mg base 1 (He.ma K (He.ga K "UnknownSign") "__init__") ["self", "sign", "at"] (spX2 (He.ga K "UnknownSign") "sign" "at") := by
  refine dn_of (d_UnknownSign___init__ T) sc_UnknownSign___init__ bo_UnknownSign___init__ (fun vs H Q E h => ?_) (fun cdv A outer s H vs Q E hr h => ?_)
  · obtain ⟨a, v, y, rfl, _⟩ := h
    rfl
  · obtain ⟨a, v, y, rfl, ha, k⟩ := h
    refine ⟨_, (PSs.nox (pss_cons (ps_ost (pv 0) (pv 1))
      (pss_one (ps_ost (pv 0) (pv 2))))), ?_⟩
    walk_at "cl"
    refine v_seq ?_
    show tVar _ _ _ _
    refine v_var rfl ?_
    refine v_var rfl ?_
    refine ⟨a, _, rfl, (exc_UnknownSign T).oex, no_UnknownSign_sign T, .inl ⟨ha, fun dx h1 h2 => ?_⟩⟩
    dsimp only
    show tVar _ _ _ _
    refine v_var rfl ?_
    refine v_var rfl ?_
    exact ⟨a, _, rfl, (exc_UnknownSign T).oex, no_UnknownSign_at T, .inr ⟨dx, _, upd_same, by rw [upd_ne h2]; exact upd_same, by show 1 ≤ 900; decide, k dx h1 h2⟩⟩

theorem ok_InvalidNumber___init__ (T : Ev fa fx fn K mg base) : Dn P w K mg base 1 (He.ma K (He.ga K "InvalidNumber") "__init__") ["self", "number"] (spX1 (He.ga K "InvalidNumber") "number") := by
  refine dn_of (d_InvalidNumber___init__ T) sc_InvalidNumber___init__ bo_InvalidNumber___init__ (fun vs H Q E h => ?_) (fun cdv A outer s H vs Q E hr h => ?_)
  · obtain ⟨a, v, rfl, _⟩ := h
    rfl
  · obtain ⟨a, v, rfl, ha, k⟩ := h
    refine ⟨_, (PSs.nox (pss_one (ps_ost (pv 0) (pv 1)))), ?_⟩
    walk_at "cl"
    refine v_var rfl (v_var rfl ?_)
    exact ⟨a, _, rfl, (exc_InvalidNumber T).oex, no_InvalidNumber_number T, .inl ⟨ha, fun dx h1 h2 => k dx h1 h2⟩⟩

theorem ok_InvalidWords___init__ (T : Ev fa fx fn K mg base) : Dn P w K mg base 1 (He.ma K (He.ga K "InvalidWords") "__init__") ["self", "place"] (spX1 (He.ga K "InvalidWords") "place") := by
  refine dn_of (d_InvalidWords___init__ T) sc_InvalidWords___init__ bo_InvalidWords___init__ (fun vs H Q E h => ?_) (fun cdv A outer s H vs Q E hr h => ?_)
  · obtain ⟨a, v, rfl, _⟩ := h
    rfl
  · obtain ⟨a, v, rfl, ha, k⟩ := h
    refine ⟨_, (PSs.nox (pss_one (ps_ost (pv 0) (pv 1)))), ?_⟩
    walk_at "cl"
    refine v_var rfl (v_var rfl ?_)
    exact ⟨a, _, rfl, (exc_InvalidWords T).oex, no_InvalidWords_place T, .inl ⟨ha, fun dx h1 h2 => k dx h1 h2⟩⟩

theorem ok_InvalidCutter___init__ (T : Ev fa fx fn K mg base) : Dn P w K mg base 1 (He.ma K (He.ga K "InvalidCutter") "__init__") ["self", "part"] (spX1 (He.ga K "InvalidCutter") "part") := by
  refine dn_of (d_InvalidCutter___init__ T) sc_InvalidCutter___init__ bo_InvalidCutter___init__ (fun vs H Q E h => ?_) (fun cdv A outer s H vs Q E hr h => ?_)
  · obtain ⟨a, v, rfl, _⟩ := h
    rfl
  · obtain ⟨a, v, rfl, ha, k⟩ := h
    refine ⟨_, (PSs.nox (pss_one (ps_ost (pv 0) (pv 1)))), ?_⟩
    walk_at "cl"
    refine v_var rfl (v_var rfl ?_)
    exact ⟨a, _, rfl, (exc_InvalidCutter T).oex, no_InvalidCutter_part T, .inl ⟨ha, fun dx h1 h2 => k dx h1 h2⟩⟩

theorem ok_TooMany___init__ (T : Ev fa fx fn K mg base) : Dn P w K mg base 1 (He.ma K (He.ga K "TooMany") "__init__") ["self", "what"] (spX1 (He.ga K "TooMany") "what") := by
  refine dn_of (d_TooMany___init__ T) sc_TooMany___init__ bo_TooMany___init__ (fun vs H Q E h => ?_) (fun cdv A outer s H vs Q E hr h => ?_)
  · obtain ⟨a, v, rfl, _⟩ := h
    rfl
  · obtain ⟨a, v, rfl, ha, k⟩ := h
    refine ⟨_, (PSs.nox (pss_one (ps_ost (pv 0) (pv 1)))), ?_⟩
    walk_at "cl"
    refine v_var rfl (v_var rfl ?_)
    exact ⟨a, _, rfl, (exc_TooMany T).oex, no_TooMany_what T, .inl ⟨ha, fun dx h1 h2 => k dx h1 h2⟩⟩

def spBet (K : PySem.W.Frag) : Sp := fun vs H Q _ => ∃ (x : V) (a b : Int) (d : PyData), vs = [x, .int a, .int b] ∧ Dp K H x d ∧ Q (.bl (dBet a b d)) H
theorem ok_is_between (T : Ev fa fx fn K mg base) : Dn P w K mg base 1 (He.ga K "is_between") ["value", "least", "most"] (spBet K) := by
  refine dn_of (d_is_between T) sc_is_between bo_is_between (fun vs H Q E h => ?_) (fun cdv A outer s H vs Q E hr h => ?_)
  · obtain ⟨x, a, b, d, rfl, _⟩ := h
    rfl
  · obtain ⟨x, a, b0, d, rfl, hx, k⟩ := h
    refine ⟨_, (PSs.nox (pss_one (ps_ret (pe_and (pe_callB (call_isiK' (K := K) rfl) (by rfl) (f_isinstance T) bb_isinstance (pa_cons (pv 0) (pa_cons (pe_ty (f_int T) bb_int) pa_nil))) (pe_and (pe_not (pe_callB (call_isiK' (K := K) rfl) (by rfl) (f_isinstance T) bb_isinstance (pa_cons (pv 0) (pa_cons (pe_ty (f_bool T) bb_bool) pa_nil)))) (pe_one (pe_chain op_le op_le (pv 1) (pv 0) (pv 2)))))))), ?_⟩
    walk_at "cl"
    walk_at "x"
    refine isi_int hx ?_
    walk_at "x"
    have fin : ∀ b : Bool, dBet a b0 d = b → Q (.bl b) H := fun b e => e ▸ k
    refine if_b (fun c => ?_) (fun c => ?_)
    · walk_at "x"
      refine isi_bool hx ?_
      walk_at "x"
      refine if_b (fun c2 => ?_) (fun c2 => ?_)
      · cases hx with
        | int i =>
          walk_at "x"
          refine if_dec (fun c3 => ?_) (fun c3 => ?_)
          · walk_at "x"
            refine fin _ ?_
            show decide (a ≤ i ∧ i ≤ b0) = decide (i ≤ b0)
            simp [c3]
          · refine fin _ ?_
            show decide (a ≤ i ∧ i ≤ b0) = false
            simp [c3]
        | bl _ => cases c2
        | non => cases c
        | str _ => cases c
        | lst _ _ => cases c
        | tup _ _ => cases c
      · refine fin _ ?_
        cases hx with
        | int i => cases c2
        | bl _ => rfl
        | non => cases c
        | str _ => cases c
        | lst _ _ => cases c
        | tup _ _ => cases c
    · refine fin _ ?_
      cases hx with
      | int i => cases c
      | bl _ => cases c
      | non => rfl
      | str _ => rfl
      | lst _ _ => rfl
      | tup _ _ => rfl
def spSeq (K : PySem.W.Frag) : Sp := fun vs H Q _ => ∃ (x : V) (d : PyData), vs = [x] ∧ Dp K H x d ∧ ∀ H', Same H H' → Q (.bl (dSeq d)) H'
theorem ok_is_sequence (T : Ev fa fx fn K mg base) : Dn P w K mg base 1 (He.ga K "is_sequence") ["value"] (spSeq K) := by
  refine dn_of (d_is_sequence T) sc_is_sequence bo_is_sequence (fun vs H Q E h => ?_) (fun cdv A outer s H vs Q E hr h => ?_)
  · obtain ⟨x, d, rfl, _⟩ := h
    rfl
  · obtain ⟨x, d, rfl, hx, k⟩ := h
    refine ⟨_, (PSs.nox (pss_one (ps_ret (pe_callB (call_isiTK (K := K) rfl) (by rfl) (f_isinstance T) bb_isinstance (pa_cons (pv 0) (pa_cons (pe_tup (pa_cons (pe_ty (f_tuple T) bb_tuple) (pa_cons (pe_ty (f_list T) bb_list) pa_nil))) pa_nil)))))), ?_⟩
    walk_at "cl"
    walk_at "x"
    refine ⟨small (by decide), fun p hp => ?_⟩
    walk_at "x"
    exact isi_seq (dp_same (same_new hp) _ _ hx) upd_same (k _ (same_new hp))
end

end K80

namespace K80
open PySem PySem.Spec L2 PH
open C8 (tCut pss_cut)
section
variable {P : Program} {w : World} {K : PySem.W.Frag} {mg : Str → Option Value} {base : Heap}
def spAlphabet : Sp := fun vs H Q _ => ∃ z : Str, vs = [.str z] ∧ AlphaOk z 4 ∧ Q (.bl true) H
theorem ok_is_alphabet (T : Ev fa fx fn K mg base) : Dn P w K mg base 1 (He.ga K "is_alphabet") ["alphabet"] spAlphabet := by
  refine dn_of (d_is_alphabet T) sc_is_alphabet bo_is_alphabet (fun vs H Q E h => ?_) (fun cdv A outer s H vs Q E hr h => ?_)
  · obtain ⟨z, rfl, _⟩ := h
    rfl
  · obtain ⟨z, rfl, hz, k⟩ := h
    have z1 := hz.lo
    have z2 := hz.hi
    have zl : z.length = z.cps.toList.length := tl_len
    have hzz : z.length ≤ sizeLine := small (by omega)
    refine ⟨_, (PSs.nox (pss_cons (ps_if (pt_not (pt_chain op_le op_le pe_int (pe_callB (call_lenK (K := K) rfl) (by rfl) (f_len T) bb_len (pa_cons (pv 0) pa_nil)) (pe_gi (c_MOST_LETTERS T))))
        (pss_one (ps_ret pe_bl)) pss_nil)
      (pss_cons (ps_for PassesOwn.never rfl (pi_str (pv 0)) (pg_name (i := 1) sc_is_alphabet.nd rfl (.inl rfl))
        (pss_one (ps_if (pt_not (pt_chain op_le_str op_le_str pe_str (pv 1) pe_str))
        (pss_one (ps_ret pe_bl)) pss_nil)))
      (pss_cons (ps_for PassesOwn.never rfl (pi_range2 rfl (f_range T) (pa_cons pe_int (pa_cons (pe_callB (call_lenK (K := K) rfl) (by rfl) (f_len T) bb_len (pa_cons (pv 0) pa_nil)) pa_nil))) (pg_name (i := 2) sc_is_alphabet.nd rfl (.inl rfl))
        (pss_one (ps_if (pt_cmpR op_ge_str (pe_ix ix_str (pv 0) (pe_op op_sub (pv 2) pe_int) (fun _ _ => rfl)) (pe_ix ix_str (pv 0) (pv 2) (fun _ _ => rfl)) (nomark _))
        (pss_one (ps_ret pe_bl)) pss_nil)))
      (pss_one (ps_ret pe_bl)))))), ?_⟩
    walk_at "cl"
    walk_at "x"
    refine v_lenS hzz ?_
    walk_at "x"
    refine if_dec_t (by omega) ?_
    walk_at "x"
    refine if_nd_f (by omega) ?_
    walk_at "x"
    refine ⟨z, rfl, ?_⟩
    refine for_it walk_str (fun i σ' H' => (∃ y, σ' = [some (.str z), y, none]) ∧ H' = H) ?_ ?_ ?_ ?_
    · exact ⟨⟨_, rfl⟩, rfl⟩
    · intros
      trivial
    · rintro i x σ' H1 H2 hi ⟨⟨y, rfl⟩, rfl⟩ ⟨rfl, c, hc, rfl⟩
      have hcm : c ∈ z.cps.toList := by
        rw [← Array.getElem?_toList] at hc
        exact List.mem_of_getElem? hc
      obtain ⟨c1, c2⟩ := hz.sg c hcm
      walk_at "x"
      refine ⟨_, _, rfl, rfl, ?_⟩
      walk_at "x"
      refine iteT_of ?_ ?_
      · rw [show Str.ofString " " = (⟨#[32]⟩ : Str) from by decide +kernel, sign_nlt c1]
        rfl
      walk_at "x"
      refine ⟨_, _, rfl, rfl, ?_⟩
      walk_at "x"
      refine iteF_of ?_ ?_
      · rw [show Str.ofString "~" = (⟨#[126]⟩ : Str) from by decide +kernel, sign_nlt c2]
        rfl
      walk_at "x"
      exact ⟨⟨_, rfl⟩, rfl⟩
    · rintro σ' H1 ⟨⟨y, rfl⟩, rfl⟩
      walk_at "x"
      refine v_lenS hzz ?_
      walk_at "x"
      refine ⟨1, _, rfl, ⟨by decide, by decide, by omega, by omega⟩, ?_⟩
      refine for_it walk_range (fun i σ' H' => (∃ u, σ' = [some (.str z), y, u]) ∧ H' = H1) ?_ ?_ ?_ ?_
      · exact ⟨⟨_, rfl⟩, rfl⟩
      · intros
        trivial
      · rintro i x σ' H2 H3 hi ⟨⟨u, rfl⟩, rfl⟩ ⟨rfl, rfl⟩
        have h1 : i < z.cps.toList.length := by omega
        have h2 : i + 1 < z.cps.toList.length := by omega
        walk_at "x"
        refine v_ixS (c := z.cps.toList[i]) hzz ?_ ?_
        · have e : (1 + (i : Int) - 1) = (i : Int) := by omega
          rw [e]
          exact atI_nat (List.getElem?_eq_getElem h1)
        walk_at "x"
        refine v_ixS (c := z.cps.toList[i + 1]) hzz ?_ ?_
        · have e : (1 + (i : Int)) = ((i + 1 : Nat) : Int) := by omega
          rw [e]
          exact atI_nat (List.getElem?_eq_getElem h2)
        refine ⟨_, _, rfl, rfl, ?_⟩
        walk_at "x"
        refine iteF_of ?_ ?_
        · rw [sign_lt (List.pairwise_iff_getElem.mp hz.up i (i + 1) h1 h2 (by omega))]
          rfl
        walk_at "x"
        exact ⟨⟨_, rfl⟩, rfl⟩
      · rintro σ' H2 ⟨⟨u, rfl⟩, rfl⟩
        walk_at "x"
        exact k
def spChk : Sp := fun vs H Q _ => ∃ z : Str, vs = [.str z] ∧ AlphaOk z 4 ∧ Q (.str z) H
theorem ok_checked_alphabet (T : Ev fa fx fn K mg base) : Dn P w K mg base 3 (He.ga K "checked_alphabet") ["alphabet"] spChk := by
  refine dn_of (d_checked_alphabet T) sc_checked_alphabet bo_checked_alphabet (fun vs H Q E h => ?_) (fun cdv A outer s H vs Q E hr h => ?_)
  · obtain ⟨z, rfl, _⟩ := h
    rfl
  · obtain ⟨z, rfl, hz, k⟩ := h
    refine ⟨_, (pss_cons (ps_if (pt_not (pt_val (pe_d (ok_is_alphabet T) (hr.mono (by decide)) (g_is_alphabet T) passL (pa_cons (pv 0) pa_nil))))
        (pss_one (ps_raise rfl (takes_of rfl rfl rfl rfl) (pmk_x1 (exc_InvalidAlphabet T) (ok_InvalidAlphabet___init__ T) (hr.mono (by decide)) (g_InvalidAlphabet T) (pv 0)))) pss_nil)
      (pss_one (ps_ret (pv 0)))), ?_⟩
    walk_at "cl"
    walk_at "x"
    refine ⟨z, rfl, hz, ?_⟩
    walk_at "x"
    refine iteF_of rfl ?_
    walk_at "x"
    exact k
theorem ok_checked_alphabet_of_words (T : Ev fa fx fn K mg base) : Dn P w K mg base 3 (He.ga K "checked_alphabet_of_words") ["alphabet"] spChk := by
  refine dn_of (d_checked_alphabet_of_words T) sc_checked_alphabet_of_words bo_checked_alphabet_of_words (fun vs H Q E h => ?_) (fun cdv A outer s H vs Q E hr h => ?_)
  · obtain ⟨z, rfl, _⟩ := h
    rfl
  · obtain ⟨z, rfl, hz, k⟩ := h
    refine ⟨_, (pss_cons (ps_if (pw_or (pt_not (pt_val (pe_callB (call_isiK' (K := K) rfl) (by rfl) (f_isinstance T) bb_isinstance (pa_cons (pv 0) (pa_cons (pe_ty (f_str T) bb_str) pa_nil))))) (pw_or1 (pt_not (pt_val (pe_d (ok_is_alphabet T) (hr.mono (by decide)) (g_is_alphabet T) passL (pa_cons (pv 0) pa_nil)))))).pt
        (pss_one (ps_raise rfl (takes_of rfl rfl rfl rfl) (pmk_x1 (exc_InvalidAlphabet T) (ok_InvalidAlphabet___init__ T) (hr.mono (by decide)) (g_InvalidAlphabet T) (pv 0)))) pss_nil)
      (pss_one (ps_ret (pv 0)))), ?_⟩
    walk_at "cl"
    walk_at "x"
    refine isi_str (.str z) ?_
    walk_at "x"
    refine iteF_of rfl ?_
    walk_at "x"
    refine ⟨z, rfl, hz, ?_⟩
    walk_at "x"
    refine iteF_of rfl ?_
    walk_at "x"
    exact k
def dOver (z : Str) : PyData → Bool
  | .str x => decide (∀ c ∈ x.cps.toList, c ∈ z.cps.toList)
  | _ => false
def spOver (K : PySem.W.Frag) : Sp := fun vs H Q _ => ∃ (z : Str) (x : V) (d : PyData), vs = [.str z, x] ∧ Dp K H x d ∧ Q (.bl (dOver z d)) H
theorem ok_is_text_over (T : Ev fa fx fn K mg base) : Dn P w K mg base 1 (He.ga K "is_text_over") ["alphabet", "value"] (spOver K) := by
  refine dn_of (d_is_text_over T) sc_is_text_over bo_is_text_over (fun vs H Q E h => ?_) (fun cdv A outer s H vs Q E hr h => ?_)
  · obtain ⟨z, x, d, rfl, _⟩ := h
    rfl
  · obtain ⟨z, x, d, rfl, hx, k⟩ := h
    refine ⟨_, (PSs.nox (pss_cons (ps_if (pt_not (pt_val (pe_callB (call_isiK' (K := K) rfl) (by rfl) (f_isinstance T) bb_isinstance (pa_cons (pv 1) (pa_cons (pe_ty (f_str T) bb_str) pa_nil)))))
        (pss_one (ps_ret pe_bl)) pss_nil)
      (pss_cons (ps_for PassesOwn.never rfl (pi_str (pv 1)) (pg_name (i := 2) sc_is_text_over.nd rfl (.inl rfl))
        (pss_one (ps_if (pt_cmpR op_notIn_sign (pv 2) (pv 0) rfl)
        (pss_one (ps_ret pe_bl)) pss_nil)))
      (pss_one (ps_ret pe_bl))))), ?_⟩
    walk_at "cl"
    walk_at "x"
    refine isi_str hx ?_
    walk_at "x"
    cases hx with
    | non => exact iteT_of rfl k
    | bl b => exact iteT_of rfl k
    | int i => exact iteT_of rfl k
    | lst h1 h2 => exact iteT_of rfl k
    | tup h1 h2 => exact iteT_of rfl k
    | str x =>
      have fin : ∀ b : Bool, dOver z (.str x) = b → Q (.bl b) H := fun b e => e ▸ k
      refine iteF_of rfl ?_
      walk_at "x"
      refine ⟨x, rfl, ?_⟩
      refine for_it walk_str (fun i σ' H' => (∃ y, σ' = [some (.str z), some (.str x), y]) ∧ H' = H ∧ ∀ c ∈ x.cps.toList.take i, c ∈ z.cps.toList) ?_ ?_ ?_ ?_
      · exact ⟨⟨_, rfl⟩, rfl, fun c hc => by simp at hc⟩
      · intros
        trivial
      · rintro i v σ' H1 H2 hi ⟨⟨y, rfl⟩, rfl, hall⟩ ⟨rfl, c, hc, rfl⟩
        rw [← Array.getElem?_toList] at hc
        have hcm : c ∈ x.cps.toList := List.mem_of_getElem? hc
        walk_at "x"
        refine ⟨c, z, rfl, rfl, ?_⟩
        walk_at "x"
        by_cases hz : c ∈ z.cps.toList
        · refine if_nd_f hz ?_
          walk_at "x"
          refine ⟨⟨_, rfl⟩, rfl, fun d hd => ?_⟩
          rw [List.take_add_one, hc] at hd
          rcases List.mem_append.mp hd with hd | hd
          · exact hall d hd
          · rw [show d = c by simpa using hd]
            exact hz
        · refine if_nd_t hz ?_
          walk_at "x"
          exact fin _ (decide_eq_false fun h => hz (h c hcm))
      · rintro σ' H1 ⟨⟨y, rfl⟩, rfl, hall⟩
        walk_at "x"
        refine fin _ (decide_eq_true fun c hc => hall c ?_)
        rw [List.take_of_length_le (by simp)]
        exact hc
def spWordT : Sp := fun vs H Q _ => ∃ z x : Str, vs = [.str z, .str x] ∧ WordOk z 6 x ∧ Q (.bl true) H
theorem ok_is_word_text (T : Ev fa fx fn K mg base) : Dn P w K mg base 2 (He.ga K "is_word_text") ["alphabet", "value"] spWordT := by
  refine dn_of (d_is_word_text T) sc_is_word_text bo_is_word_text (fun vs H Q E h => ?_) (fun cdv A outer s H vs Q E hr h => ?_)
  · obtain ⟨z, x, rfl, _⟩ := h
    rfl
  · obtain ⟨z, x, rfl, ho, k⟩ := h
    have x1 := ho.lo
    have x2 := ho.hi
    have xl : x.length = x.cps.toList.length := tl_len
    refine ⟨_, (PSs.nox (pss_one (ps_ret (pe_and (pe_d (ok_is_text_over T) (hr.mono (by decide)) (g_is_text_over T) passL (pa_cons (pv 0) (pa_cons (pv 1) pa_nil))) (pe_one (pe_chain op_le op_le (pe_gi (c_SHORTEST_WORD T)) (pe_callB (call_lenK (K := K) rfl) (by rfl) (f_len T) bb_len (pa_cons (pv 1) pa_nil)) (pe_gi (c_LONGEST_WORD T)))))))), ?_⟩
    walk_at "cl"
    walk_at "x"
    refine ⟨z, .str x, .str x, rfl, .str x, ?_⟩
    rw [show dOver z (.str x) = true from decide_eq_true ho.ov]
    refine ⟨true, rfl, iteT ?_⟩
    walk_at "x"
    refine v_lenS (small (by omega)) ?_
    walk_at "x"
    refine if_dec_t (by omega) ?_
    walk_at "x"
    have e : decide ((x.length : Int) ≤ 6) = true := decide_eq_true (by omega)
    rw [e]
    exact k
end

end K80

namespace K80
open PySem PySem.Spec L2 PH
open C8 (tCut pss_cut)
section
variable {P : Program} {w : World} {K : PySem.W.Frag} {mg : Str → Option Value} {base : Heap}
def spCF (K : PySem.W.Frag) : Sp := fun vs H Q _ => ∃ (z : Str) (p : Addr) (ws : List Str), vs = [.str z, .ref p] ∧ (SqL K H p (ws.map V.str) ∨ SqT K H p (ws.map V.str)) ∧ FurtherOk z 10 6 ws ∧
  ∀ q H', H q = none → H' q = some (.tup (ws.map V.str)) → Same H H' → Q (.ref q) H'
theorem ok_checked_further (T : Ev fa fx fn K mg base) : Dn P w K mg base 3 (He.ga K "checked_further") ["alphabet", "further"] (spCF K) := by
  refine dn_of (d_checked_further T) sc_checked_further bo_checked_further (fun vs H Q E h => ?_) (fun cdv A outer s H vs Q E hr h => ?_)
  · obtain ⟨z, p, ws, rfl, _⟩ := h
    rfl
  · obtain ⟨z, p, ws, rfl, hp, hF, k⟩ := h
    have few := hF.few
    refine ⟨_, (pss_cons (ps_if (pt_not (pt_val (pe_d (ok_is_sequence T) (hr.mono (by decide)) (g_is_sequence T) passL (pa_cons (pv 1) pa_nil))))
        (pss_one (ps_raise rfl (takes_of rfl rfl rfl rfl) (pmk_x1 (exc_InvalidWords T) (ok_InvalidWords___init__ T) (hr.mono (by decide)) (g_InvalidWords T) pe_int))) pss_nil)
      (pss_cons (ps_set (i := 2) sc_checked_further.nd rfl (.inl rfl) (pe_lst pa_nil))
      (pss_cons (ps_for (passes_of rfl) rfl (pi_or (pi_enum (by rfl) (f_enumerate T) (pa_cons (pv 1) pa_nil)) (pi_enumT (by rfl) (f_enumerate T) (pa_cons (pv 1) pa_nil))) (pg_two (K := K) (i := 3) (j := 4) rfl rfl sc_checked_further.nd rfl rfl (.inl rfl) (.inl rfl))
        (pss_cons (ps_if (pw_or (pt_not (pt_val (pe_d (ok_is_word_text T) (hr.mono (by decide)) (g_is_word_text T) passL (pa_cons (pv 0) (pa_cons (pv 4) pa_nil))))) (pw_or1 (pt_cmpR (op_in_seqK (K := K) rfl) (pv 4) (pv 2) rfl))).pt
        (pss_one (ps_raise rfl (takes_of rfl rfl rfl rfl) (pmk_x1 (exc_InvalidWords T) (ok_InvalidWords___init__ T) (hr.mono (by decide)) (g_InvalidWords T) (pv 3)))) pss_nil)
      (pss_one (ps_expr (pe_bmK (K := K) rfl PySem.F.plainAttrs_list PySem.F.slot_list_append PySem.F.type_list_append mt_append (pv 2) (pa_cons (pv 4) pa_nil))))))
      (pss_cons (ps_if (pt_cmpR op_gt (pe_callB (call_lenK (K := K) rfl) (by rfl) (f_len T) bb_len (pa_cons (pv 2) pa_nil)) (pe_gi (c_MOST_WORDS T)) (nomark _))
        (pss_one (ps_raise rfl (takes_of rfl rfl rfl rfl) (pmk_x1 (exc_TooMany T) (ok_TooMany___init__ T) (hr.mono (by decide)) (g_TooMany T) pe_str))) pss_nil)
      (pss_one (ps_ret (pe_callTy call_tuple_of (by rfl) (f_tuple T) bb_tuple (pa_cons (pv 2) pa_nil)))))))), ?_⟩
    walk_at "cl"
    walk_at "x"
    obtain ⟨d, hd, hds⟩ := dp_seq_strs hp
    refine ⟨_, d, rfl, hd, fun H1 hS1 => ?_⟩
    walk_at "x"
    refine iteF_of (by rw [hds]; rfl) ?_
    walk_at "x"
    refine ⟨small (by decide), fun f hf => ?_⟩
    walk_at "y"
    have hfH : H f = none := none_same hS1 hf
    refine for_enumA hp (fun Q q => ?_) (fun i σ' H' => ∃ x y : Option V, σ' = [some (.str z), some (.ref p), some (.ref f), x, y] ∧ H' f = some (.lst ((ws.take i).map V.str)) ∧ Same H H') ?_ ?_ ?_ ?_
    · walk_at "y"
      exact q
    · exact ⟨none, none, rfl, upd_same, hS1.trans (same_new hf)⟩
    · rintro i σ' H' _ ⟨_, _, _, _, h⟩
      exact h
    · rintro i x σ' H2 t hi ⟨x0, y0, rfl, hf2, hS2⟩ hx ht
      have hi : i < ws.length := by simpa using hi
      have hx : x = .str ws[i] := by
        rw [List.getElem?_map, List.getElem?_eq_getElem hi] at hx
        exact (Option.some.inj hx).symm
      subst hx
      have hft : f ≠ t := ne_of_none hf2 ht
      refine v_gtup (sqT_of upd_same) rfl ?_
      walk_at "y"
      refine ⟨z, ws[i], rfl, hF.ok _ (List.getElem_mem hi), ?_⟩
      walk_at "y"
      refine iteF_of rfl ?_
      walk_at "y"
      have hf3 : upd H2 t (.tup [.int (i : Nat), .str ws[i]]) f = some (.lst ((ws.take i).map V.str)) := by rw [upd_ne hft]; exact hf2
      refine v_in (.inl (sqL_of hf3)) ?_
      walk_at "y"
      refine if_dec_f ?_ ?_
      · intro hm
        obtain ⟨j, hj, e⟩ := List.getElem_of_mem hm
        have hji : j < i := by rw [List.length_take] at hj; omega
        rw [List.getElem_take] at e
        exact List.pairwise_iff_getElem.mp hF.nd j i (by omega) hi hji e
      walk_at "y"
      refine ⟨ty_list (sqL_of hf3), ?_⟩
      walk_at "y"
      refine v_append hf3 (smallL (by simp; omega)) ?_
      walk_at "y"
      refine ⟨_, _, rfl, ?_, same_mut (same_upd hS2 ht) hfH⟩
      rw [upd_same, List.take_add_one, List.getElem?_eq_getElem hi, List.map_append]
      rfl
    · rintro σ' H2 ⟨x0, y0, rfl, hf2, hS2⟩
      have e : ws.take (ws.map V.str).length = ws := List.take_of_length_le (by simp)
      rw [e] at hf2
      walk_at "y"
      refine v_lenL (sqL_of hf2) ?_
      walk_at "y"
      refine if_dec_f (by simp; omega) ?_
      walk_at "y"
      refine ⟨f, _, rfl, .inl ⟨sqL_of hf2, fun q hq => ?_⟩⟩
      exact k q _ (none_same hS2 hq) upd_same (same_upd hS2 hq)
/-! ### Words -/
structure WordsAt (K : PySem.W.Frag) (H : Hp) (a : Addr) (z : Str) (ws : List Str) : Prop where
  al : AlphaOk z 4
  fu : FurtherOk z 10 6 ws
  ex : ∃ (dx fp kn : Addr) (fs : List (Str × V)) (kvs : List (Key × V)), H a = some (.ins (He.ga K "Words") dx fs) ∧ lk fs "alphabet" = some (.str z) ∧ lk fs "further" = some (.ref fp) ∧ lk fs "known" = some (.ref kn) ∧
    lk fs "all_words" = none ∧ lk fs "has" = none ∧ H fp = some (.tup (ws.map V.str)) ∧ H kn = some (.dK kvs) ∧ ∀ x : Str, (valV kvs (.inr x)).isSome = decide (x ∈ z.cps.toList.map s1 ++ ws)
/-- the longest word, and that the methods are the class's own -/
def WordsL (K : PySem.W.Frag) (H : Hp) (a : Addr) (z : Str) (ws : List Str) : Prop :=
  ∃ (dx : Addr) (fs : List (Str × V)) (m : Nat), H a = some (.ins (He.ga K "Words") dx fs) ∧ lk fs "longest" = some (.int (m : Int)) ∧ lk fs "lengths_ahead" = none ∧ lk fs "lengths_behind" = none ∧ (∀ x ∈ z.cps.toList.map s1 ++ ws, x.cps.toList.length ≤ m) ∧ 1 ≤ m ∧ m ≤ 6
theorem WordsL.same {H H' : Hp} {a : Addr} {z : Str} {ws : List Str} (e : Same H H') (h : WordsL K H a z ws) : WordsL K H' a z ws := by
  obtain ⟨dx, fs, m, h1, h2⟩ := h
  exact ⟨dx, fs, m, e _ _ h1, h2⟩
theorem WordsAt.same {H H' : Hp} {a : Addr} {z : Str} {ws : List Str} (e : Same H H') (h : WordsAt K H a z ws) : WordsAt K H' a z ws := by
  obtain ⟨al, fu, dx, fp, kn, fs, kvs, h1, h2, h3, h4, h5, h6, h7, h8, h9⟩ := h
  exact ⟨al, fu, dx, fp, kn, fs, kvs, e _ _ h1, h2, h3, h4, h5, h6, e _ _ h7, e _ _ h8, h9⟩
def allW (z : Str) (ws : List Str) : List Str := z.cps.toList.map s1 ++ ws
def spAllW (K : PySem.W.Frag) : Sp := fun vs H Q _ => ∃ (a dx fp : Addr) (fs : List (Str × V)) (z : Str) (ws : List Str), vs = [.ref a] ∧ H a = some (.ins (He.ga K "Words") dx fs) ∧ lk fs "alphabet" = some (.str z) ∧ lk fs "further" = some (.ref fp) ∧ H fp = some (.tup (ws.map V.str)) ∧ AlphaOk z 4 ∧ ws.length ≤ 100 ∧
  ∀ q H', H q = none → SqT K H' q ((allW z ws).map V.str) → Same H H' → Q (.ref q) H'
theorem ok_Words_all_words (T : Ev fa fx fn K mg base) : Dn P w K mg base 1 (He.ma K (He.ga K "Words") "all_words") ["self"] (spAllW K) := by
  refine dn_of (d_Words_all_words T) sc_Words_all_words bo_Words_all_words (fun vs H Q E h => ?_) (fun cdv A outer s H vs Q E hr h => ?_)
  · obtain ⟨a, dx, fp, fs, z, ws, rfl, _⟩ := h
    rfl
  · obtain ⟨a, dx, fp, fs, z, ws, rfl, ha, h1, h2, hp, hz, hl, k⟩ := h
    refine ⟨_, (PSs.nox (pss_one (ps_ret (pe_op op_catA (pe_callTy (cr_tuple_str rfl) (by rfl) (f_tuple T) bb_tuple (pa_cons (pe_fldK (K := K) rfl (pv 0) rfl) pa_nil)) (pe_fldK (K := K) rfl (pv 0) rfl))))), ?_⟩
    walk_at "cl"
    walk_at "y"
    refine ⟨_, _, _, _, _, rfl, ha, (cls_Words T), (no_Words_alphabet T), h1, ?_⟩
    walk_at "y"
    refine ⟨z, rfl, small (by have := hz.hi; rw [tl_len]; omega), fun t ht => ?_⟩
    walk_at "y"
    have ha1 : upd H t (.tup (sg z)) a = some (.ins (He.ga K "Words") dx fs) := same_new ht _ _ ha
    refine ⟨_, _, _, _, _, rfl, ha1, (cls_Words T), (no_Words_further T), h2, ?_⟩
    have e : sg z = (z.cps.toList.map s1).map V.str := by
      unfold sg
      rw [List.map_map]
      rfl
    have e2 : (allW z ws).map V.str = sg z ++ ws.map V.str := by
      unfold allW
      rw [List.map_append, ← e]
    have zlo := hz.lo
    have zhi := hz.hi
    have ne : sg z ≠ [] := by
      intro e3
      have := congrArg List.length e3
      rw [sg_length, tl_len] at this
      simp at this
      simp [this] at zlo
    have hS : Same H (upd H t (.tup (sg z))) := same_new ht
    refine ⟨t, fp, sg z, ws.map V.str, rfl, rfl, sqT_of upd_same, sqT_of (hS _ _ hp), ?_, fun h => absurd h ne, fun _ h => ?_, fun _ _ q hq => ?_⟩
    · rw [sg_length, tl_len, List.length_map]
      exact small (by omega)
    · refine k t _ ht ?_ hS
      rw [e2, h, List.append_nil]
      exact sqT_of upd_same
    · refine k q _ (none_same hS hq) ?_ (same_upd hS hq)
      rw [e2]
      exact sqT_of upd_same
def spWI (K : PySem.W.Frag) : Sp := fun vs H Q _ => ∃ (a dx : Addr) (z : Str) (p : Addr) (ws : List Str), vs = [.ref a, .str z, .ref p] ∧ H a = some (.ins (He.ga K "Words") dx []) ∧ (SqL K H p (ws.map V.str) ∨ SqT K H p (ws.map V.str)) ∧ AlphaOk z 4 ∧ FurtherOk z 10 6 ws ∧
  ∀ H', WordsAt K H' a z ws → WordsL K H' a z ws → Same (hid [a] H) (hid [a] H') → Q .non H'
theorem ok_Words___init__ (T : Ev fa fx fn K mg base) : Dn P w K mg base 4 (He.ma K (He.ga K "Words") "__init__") ["self", "alphabet", "further"] (spWI K) := by
  refine dn_of (d_Words___init__ T) sc_Words___init__ bo_Words___init__ (fun vs H Q E h => ?_) (fun cdv A outer s H vs Q E hr h => ?_)
  · obtain ⟨a, dx, z, p, ws, rfl, _⟩ := h
    rfl
  · obtain ⟨a, dx, z, p, ws, rfl, ha, hp, hz, hF, k⟩ := h
    have zlo := hz.lo
    have zhi := hz.hi
    have few := hF.few
    have hp0 := hp.imp (fun h => sqL_hid h (one_ins ha)) (fun h => sqT_hid h (one_ins ha))
    refine ⟨_, (pss_cons (ps_fld (pv 0) (pe_d (ok_checked_alphabet_of_words T) (hr.mono (by decide)) (g_checked_alphabet_of_words T) (passes_call (takes_of rfl rfl rfl rfl) (fun _ _ _ _ h => h)) (pa_cons (pv 1) pa_nil)) rfl)
      (pss_cons (ps_fld (pv 0) (pe_d (ok_checked_further T) (hr.mono (by decide)) (g_checked_further T) (passes_call (takes_of rfl rfl rfl rfl) (fun _ _ _ _ h => h)) (pa_cons (pe_fldK (K := K) rfl (pv 0) rfl) (pa_cons (pv 2) pa_nil))) rfl)
      (pss_cons (ps_fld (pv 0) (pe_dc (own := [("text", 3)]) rfl sc_Words___init__.nd (pi_tup (pe_m0 (ok_Words_all_words T) (hr.mono (by decide)) (cls_Words T) (me_Words_all_words T) passL (pv 0))) (blkOk_by (own := [("text", 3)]) (N := ["self", "alphabet", "further", "text"]) (sc := defScope s_Words___init__) (by decide +kernel)) (fun _ _ _ _ _ => (pg_name (i := 3) sc_Words___init__.nd rfl (.inl rfl))) (fun _ _ _ _ _ => pts_nil) (fun _ _ _ _ _ => (pv 3)) (fun _ _ _ _ _ => pe_bl)) rfl)
      (pss_one (ps_fld (pv 0) (pe_callB (cr_max rfl) (by rfl) (f_max T) bb_max (pa_cons (pe_lc (own := [("text", 3)]) rfl sc_Words___init__.nd (pi_tup (pe_m0 (ok_Words_all_words T) (hr.mono (by decide)) (cls_Words T) (me_Words_all_words T) passL (pv 0))) (blkOk_by (own := [("text", 3)]) (N := ["self", "alphabet", "further", "text"]) (sc := defScope s_Words___init__) (by decide +kernel)) (fun _ _ _ _ _ => (pg_name (i := 3) sc_Words___init__.nd rfl (.inl rfl))) (fun _ _ _ _ _ => pts_nil) (fun _ _ _ _ _ => (pe_callB (call_lenK (K := K) rfl) (by rfl) (f_len T) bb_len (pa_cons (pv 3) pa_nil)))) pa_nil)) rfl))))), ?_⟩
    walk_at "cl"
    walk_at "y"
    refine ⟨z, rfl, hz, ?_⟩
    walk_at "y"
    refine ⟨_, _, _, _, rfl, ha, (cls_Words T), (no_Words_alphabet T), (by decide), ?_⟩
    walk_at "y"
    refine ⟨_, _, _, _, _, rfl, upd_same, (cls_Words T), (no_Words_alphabet T), lk_same, ?_⟩
    walk_at "y"
    have hS1 : Same (hid [a] H) (hid [a] (upd H a (.ins (He.ga K "Words") dx (putF "alphabet" (.str z) [])))) := hid_put (Same.refl _)
    refine ⟨z, p, ws, rfl, hp0.imp (fun h => sqL_same (hS1.trans hid_sub) h) (fun h => sqT_same (hS1.trans hid_sub) h), hF, fun q H2 hq hq2 hS2 => ?_⟩
    have ha2 := hS2 _ _ upd_same
    have hS2' : Same (hid [a] H) (hid [a] H2) := hS1.trans (hid_same hS2)
    have aq : q ≠ a := (ne_of_none upd_same hq).symm
    generalize hfs1 : putF "alphabet" (.str z) ([] : List (Str × V)) = fs1 at ha2
    have l1 : fs1.length ≤ 1 := by rw [← hfs1]; exact putF_len _ _ _
    have k1 : lk fs1 "alphabet" = some (.str z) := by rw [← hfs1]; exact lk_same
    have m1 : lk fs1 "all_words" = none := by rw [← hfs1, lk_ne (by decide +kernel)]; rfl
    have n1 : lk fs1 "has" = none := by rw [← hfs1, lk_ne (by decide +kernel)]; rfl
    walk_at "y"
    refine ⟨_, _, _, _, rfl, ha2, (cls_Words T), (no_Words_further T), by omega, ?_⟩
    generalize hfs2 : putF "further" (.ref q) fs1 = fs2
    have l2 : fs2.length ≤ 2 := by rw [← hfs2]; exact Nat.le_trans (putF_len _ _ _) (by omega)
    have k2 : lk fs2 "alphabet" = some (.str z) := by rw [← hfs2, lk_ne (by decide +kernel)]; exact k1
    have f2 : lk fs2 "further" = some (.ref q) := by rw [← hfs2]; exact lk_same
    have m2 : lk fs2 "all_words" = none := by rw [← hfs2, lk_ne (by decide +kernel)]; exact m1
    have n2 : lk fs2 "has" = none := by rw [← hfs2, lk_ne (by decide +kernel)]; exact n1
    have hS3 : Same (hid [a] H) (hid [a] (upd H2 a (.ins (He.ga K "Words") dx fs2))) := hid_put hS2'
    have ha3 : upd H2 a (.ins (He.ga K "Words") dx fs2) a = some (.ins (He.ga K "Words") dx fs2) := upd_same
    have hq3 : upd H2 a (.ins (He.ga K "Words") dx fs2) q = some (.tup (ws.map V.str)) := by rw [upd_ne aq]; exact hq2
    generalize upd H2 a (.ins (He.ga K "Words") dx fs2) = H3 at hS3 ha3 hq3
    walk_at "y"
    refine ⟨a, dx, fs2, rfl, ha3, m2, ?_⟩
    walk_at "y"
    refine ⟨a, dx, q, fs2, z, ws, rfl, ha3, k2, f2, hq3, hz, by omega, fun r H4 hr1 hr2 hS4 => ?_⟩
    refine ⟨r, rfl, ⟨_, hr2⟩, fun D hD => ?_⟩
    refine dc_it (walk_tup (xs := (allW z ws).map V.str)) (fun i H' => Same H4 H' ∧ ∃ kvs, H' D = some (.dK kvs) ∧ kvs.length ≤ i ∧ ∀ x : Str, (valV kvs (.inr x)).isSome = decide (x ∈ (allW z ws).take i)) ?_ ?_ ?_ ?_
    · exact ⟨same_new hD, [], upd_same, Nat.le_refl _, fun x => by simp [valV_nil]⟩
    · rintro i H' _ ⟨h, _⟩
      exact sqT_same h hr2
    · rintro i x H5 H6 hi ⟨h5, kvs, hd5, hl5, hv5⟩ ⟨rfl, hx⟩
      have hi : i < (allW z ws).length := by simpa using hi
      have hall : (allW z ws).length ≤ 14 := by
        unfold allW
        simp at zhi ⊢
        omega
      have hx : x = .str (allW z ws)[i] := by
        rw [List.getElem?_map, List.getElem?_eq_getElem hi] at hx
        exact (Option.some.inj hx).symm
      subst hx
      walk_at "y"
      refine ⟨rfl, ?_⟩
      walk_at "y"
      refine ⟨kvs, .inr (allW z ws)[i], rfl, hd5, smallL (by omega), same_mut h5 hD, _, upd_same, ?_, fun y => ?_⟩
      · exact Nat.le_trans (length_putK _ _ _) (by omega)
      · rw [valV_put, List.take_add_one, List.getElem?_eq_getElem hi]
        exact isSome_step (hv5 y)
    · rintro H5 ⟨h5, kvs, hd5, hl5, hv5⟩
      rw [List.length_map, List.take_length] at hv5
      have hDH : H3 D = none := none_same hS4 hD
      have ha5 := h5 _ _ (hS4 _ _ ha3)
      have aD : D ≠ a := (ne_of_none (hS4 _ _ ha3) hD).symm
      have hS5 : Same (hid [a] H) (hid [a] H5) := hS3.trans (hid_same (hS4.trans h5))
      have hq5 := h5 _ _ (hS4 _ _ hq3)
      walk_at "y"
      refine ⟨_, _, _, _, rfl, ha5, (cls_Words T), (no_Words_known T), by omega, ?_⟩
      generalize hfs3 : putF "known" (.ref D) fs2 = fs3
      have l3 : fs3.length ≤ 3 := by rw [← hfs3]; exact Nat.le_trans (putF_len _ _ _) (by omega)
      have k3 : lk fs3 "alphabet" = some (.str z) := by rw [← hfs3, lk_ne (by decide +kernel)]; exact k2
      have f3 : lk fs3 "further" = some (.ref q) := by rw [← hfs3, lk_ne (by decide +kernel)]; exact f2
      have g3 : lk fs3 "known" = some (.ref D) := by rw [← hfs3]; exact lk_same
      have m3 : lk fs3 "all_words" = none := by rw [← hfs3, lk_ne (by decide +kernel)]; exact m2
      have n3 : lk fs3 "has" = none := by rw [← hfs3, lk_ne (by decide +kernel)]; exact n2
      have hS6 : Same (hid [a] H) (hid [a] (upd H5 a (.ins (He.ga K "Words") dx fs3))) := hid_put hS5
      have ha6 : upd H5 a (.ins (He.ga K "Words") dx fs3) a = some (.ins (He.ga K "Words") dx fs3) := upd_same
      have hq6 : upd H5 a (.ins (He.ga K "Words") dx fs3) q = some (.tup (ws.map V.str)) := by rw [upd_ne aq]; exact hq5
      have hD6 : upd H5 a (.ins (He.ga K "Words") dx fs3) D = some (.dK kvs) := by rw [upd_ne aD]; exact hd5
      generalize upd H5 a (.ins (He.ga K "Words") dx fs3) = H6 at hS6 ha6 hq6 hD6
      walk_at "y"
      refine ⟨a, dx, fs3, rfl, ha6, m3, ?_⟩
      walk_at "y"
      refine ⟨a, dx, q, fs3, z, ws, rfl, ha6, k3, f3, hq6, hz, by omega, fun r2 H7 hr3 hr4 hS7 => ?_⟩
      refine ⟨r2, rfl, ⟨_, hr4⟩, fun D2 hD2 => ?_⟩
      refine lc_it (walk_tup (xs := (allW z ws).map V.str)) (fun i H' => Same H7 H' ∧ ∃ ns : List Int, H' D2 = some (.lst (ns.map V.int)) ∧ ns = ((allW z ws).take i).map (fun x => ((x.cps.toList.length : Nat) : Int))) ?_ ?_ ?_ ?_
      · exact ⟨same_new hD2, [], upd_same, rfl⟩
      · rintro i H' _ ⟨h, _⟩
        exact sqT_same h hr4
      · rintro i x H8 H9 hi ⟨h8, ns, hd8, hl8⟩ ⟨rfl, hx⟩
        have hi : i < (allW z ws).length := by simpa using hi
        have hall : (allW z ws).length ≤ 14 := by
          unfold allW
          simp at zhi ⊢
          omega
        have hx : x = .str (allW z ws)[i] := by
          rw [List.getElem?_map, List.getElem?_eq_getElem hi] at hx
          exact (Option.some.inj hx).symm
        subst hx
        walk_at "y"
        refine ⟨rfl, ?_⟩
        walk_at "y"
        refine v_lenS (small ?_) ?_
        · have hm : (allW z ws)[i] ∈ allW z ws := List.getElem_mem hi
          rcases List.mem_append.mp hm with hm | hm
          · obtain ⟨c, _, e⟩ := List.mem_map.mp hm
            rw [← e]
            show 1 ≤ _
            omega
          · have := (hF.ok _ hm).hi
            rw [tl_len]
            omega
        walk_at "y"
        have hll : ns.length ≤ i := by rw [hl8]; simp; omega
        refine ⟨_, hd8, smallL (by simp; omega), same_mut h8 hD2, ns ++ [_], by rw [upd_same, List.map_append]; rfl, ?_⟩
        rw [hl8, List.take_add_one, List.getElem?_eq_getElem hi, List.map_append, tl_len]
        rfl
      · rintro H8 ⟨h8, ns, hd8, hl8⟩
        have ha8 := h8 _ _ (hS7 _ _ ha6)
        have hS8 : Same (hid [a] H) (hid [a] H8) := hS6.trans (hid_same (hS7.trans h8))
        walk_at "y"
        rw [List.length_map, List.take_length] at hl8
        refine ⟨D2, ns, rfl, sqL_of hd8, ?_, fun m hmm hmx => ?_⟩
        · rw [hl8]
          unfold allW
          simp at zlo ⊢
          omega
        walk_at "y"
        refine ⟨_, _, _, _, rfl, ha8, (cls_Words T), (no_Words_longest T), by omega, ?_⟩
        obtain ⟨xm, hxm, exm⟩ : ∃ x ∈ allW z ws, ((x.cps.toList.length : Nat) : Int) = m := by
          rw [hl8] at hmm
          exact List.mem_map.mp hmm
        have hmax : ∀ x ∈ allW z ws, x.cps.toList.length ≤ xm.cps.toList.length := fun x hx => by
          have q := hmx ((x.cps.toList.length : Nat) : Int) (by rw [hl8]; exact List.mem_map.mpr ⟨x, hx, rfl⟩)
          omega
        have hxb : 1 ≤ xm.cps.toList.length ∧ xm.cps.toList.length ≤ 6 := by
          rcases List.mem_append.mp hxm with hm | hm
          · obtain ⟨c, _, e⟩ := List.mem_map.mp hm
            rw [← e]
            simp [s1]
          · have q := hF.ok _ hm
            have q1 := q.lo
            have q2 := q.hi
            omega
        subst exm
        have gone : ∀ f : Str, (f == ("longest" : Str)) = false → (f == ("known" : Str)) = false → (f == ("further" : Str)) = false → (f == ("alphabet" : Str)) = false → lk (putF "longest" (.int ((xm.cps.toList.length : Nat) : Int)) fs3) f = none := fun f e1 e2 e3 e4 => by
          rw [lk_ne e1, ← hfs3, lk_ne e2, ← hfs2, lk_ne e3, ← hfs1, lk_ne e4]
          rfl
        have hL : WordsL K (upd H8 a (.ins (He.ga K "Words") dx (putF "longest" (.int ((xm.cps.toList.length : Nat) : Int)) fs3))) a z ws :=
          ⟨dx, _, xm.cps.toList.length, upd_same, lk_same, gone _ (by decide +kernel) (by decide +kernel) (by decide +kernel) (by decide +kernel), gone _ (by decide +kernel) (by decide +kernel) (by decide +kernel) (by decide +kernel), hmax, hxb.1, hxb.2⟩
        refine k _ ⟨hz, hF, dx, q, D, _, kvs, upd_same, ?_, ?_, ?_, ?_, ?_, ?_, ?_, hv5⟩ hL (hid_put hS8)
        · rw [lk_ne (by decide +kernel)]; exact k3
        · rw [lk_ne (by decide +kernel)]; exact f3
        · rw [lk_ne (by decide +kernel)]; exact g3
        · rw [lk_ne (by decide +kernel)]; exact m3
        · rw [lk_ne (by decide +kernel)]; exact n3
        · rw [upd_ne aq]; exact h8 _ _ (hS7 _ _ hq6)
        · rw [upd_ne aD]; exact h8 _ _ (hS7 _ _ hD6)
end

end K80

namespace K80
open PySem PySem.Spec L2 PH
open C8 (tCut pss_cut)
section
variable {P : Program} {w : World} {K : PySem.W.Frag} {mg : Str → Option Value} {base : Heap}
theorem WordsAt.ty (T : Ev fa fx fn K mg base) {H : Hp} {a : Addr} {z : Str} {ws : List Str} (h : WordsAt K H a z ws) : TyX K H (.ref a) (.ref (He.ga K "Words")) := by
  obtain ⟨al, fu, dx, fp, kn, fs, kvs, h1, _⟩ := h
  exact ty_ins h1 (cls_Words T) (ins_Words T)
def dFault (n : Nat) : PyData → Option PyData
  | .list ds => if ds.length = n then ds.find? (fun e => !dBet 1 9 e) else some (.list ds)
  | .tuple ds => if ds.length = n then ds.find? (fun e => !dBet 1 9 e) else some (.tuple ds)
  | d => some d
def CostOk (n : Nat) (d : PyData) (cs : List Int) : Prop := (d = .list (cs.map .int) ∨ d = .tuple (cs.map .int)) ∧ cs.length = n ∧ ∀ c ∈ cs, 1 ≤ c ∧ c ≤ 9
theorem bet_all {cs : List Int} (h : ∀ c ∈ cs, 1 ≤ c ∧ c ≤ 9) : (cs.map PyData.int).find? (fun e => !dBet 1 9 e) = none := by
  rw [List.find?_eq_none]
  intro x hx
  obtain ⟨c, hc, rfl⟩ := List.mem_map.mp hx
  have h1 := h c hc
  show ¬ (!decide (1 ≤ c ∧ c ≤ 9)) = true
  rw [decide_eq_true h1]
  decide
theorem dFault_ok {n : Nat} {d : PyData} {cs : List Int} (h : CostOk n d cs) : dFault n d = none := by
  obtain ⟨h1, h2, h3⟩ := h
  rcases h1 with rfl | rfl
  · show (if (cs.map PyData.int).length = n then _ else _) = none
    rw [if_pos (by simpa using h2)]
    exact bet_all h3
  · show (if (cs.map PyData.int).length = n then _ else _) = none
    rw [if_pos (by simpa using h2)]
    exact bet_all h3
theorem find_at {α : Type} {p : α → Bool} : ∀ {l : List α} {i : Nat} {x : α}, l[i]? = some x → p x = true → (∀ j, j < i → ∀ y, l[j]? = some y → p y = false) → l.find? p = some x
  | [], _, _, h, _, _ => by simp at h
  | a :: l, 0, x, h, hp, _ => by
    simp at h
    subst h
    rw [List.find?_cons, hp]
  | a :: l, i + 1, x, h, hp, hj => by
    rw [List.find?_cons, hj 0 (by omega) a rfl]
    exact find_at (i := i) (by simpa using h) hp fun j hji y hy => hj (j + 1) (by omega) y (by simpa using hy)
def spCC (K : PySem.W.Frag) : Sp := fun vs H Q E => ∃ (wa : Addr) (z : Str) (ws : List Str) (c : V) (d : PyData), vs = [.ref wa, c] ∧ WordsAt K H wa z ws ∧ Dp K H c d ∧
  ((∃ cs, CostOk (allW z ws).length d cs ∧ ∀ q H', Same H H' → SqT K H' q (cs.map V.int) → Q (.ref q) H') ∨
   (∃ e, dFault (allW z ws).length d = some e ∧ ∀ v dd H', Dp K H' v e → Same H H' → H' dd = none → E (.ref (He.ga K "InvalidNumber")) (some dd) (upd H' dd (.xd [("number", v)]))))
theorem ok_checked_costs (T : Ev fa fx fn K mg base) : Dn P w K mg base 3 (He.ga K "checked_costs") ["words", "costs"] (spCC K) := by
  refine dn_of (d_checked_costs T) sc_checked_costs bo_checked_costs (fun vs H Q E h => ?_) (fun cdv A outer s H vs Q E hr h => ?_)
  · obtain ⟨wa, z, ws, c, d, rfl, _⟩ := h
    rfl
  · obtain ⟨wa, z, ws, c, d, rfl, hw, hd, k⟩ := h
    have ⟨al, fu, dx, fp, kn, fs, kvs, h1, h2, h3, h4, h5, h6, h7, h8, h9⟩ := hw
    refine ⟨_, (pss_cons (ps_if (pw_or (pt_not (pt_val (pe_d (ok_is_sequence T) (hr.mono (by decide)) (g_is_sequence T) passL (pa_cons (pv 1) pa_nil)))) (pw_or1 (pt_cmpR op_ne (pe_callB (call_lenK (K := K) rfl) (by rfl) (f_len T) bb_len (pa_cons (pv 1) pa_nil)) (pe_callB (call_lenK (K := K) rfl) (by rfl) (f_len T) bb_len (pa_cons (pe_m0 (ok_Words_all_words T) (hr.mono (by decide)) (cls_Words T) (me_Words_all_words T) passL (pv 0)) pa_nil)) (nomark _)))).pt
        (pss_one (ps_raise rfl (takes_of rfl rfl rfl rfl) (pmk_x1 (exc_InvalidNumber T) (ok_InvalidNumber___init__ T) (hr.mono (by decide)) (g_InvalidNumber T) (pv 1)))) pss_nil)
      (pss_cons (ps_for (passes_of rfl) rfl (pi_or (pi_list (pv 1)) (pi_tup (pv 1))) (pg_name (i := 2) sc_checked_costs.nd rfl (.inl rfl))
        (pss_one (ps_if (pt_not (pt_val (pe_d (ok_is_between T) (hr.mono (by decide)) (g_is_between T) passL (pa_cons (pv 2) (pa_cons (pe_gi (c_LEAST_COST T)) (pa_cons (pe_gi (c_GREATEST_COST T)) pa_nil))))))
        (pss_one (ps_raise rfl (takes_of rfl rfl rfl rfl) (pmk_x1 (exc_InvalidNumber T) (ok_InvalidNumber___init__ T) (hr.mono (by decide)) (g_InvalidNumber T) (pv 2)))) pss_nil)))
      (pss_one (ps_ret (pe_callTy call_tuple_of (by rfl) (f_tuple T) bb_tuple (pa_cons (pv 1) pa_nil)))))), ?_⟩
    walk_at "cl"
    walk_at "y"
    refine ⟨c, d, rfl, hd, fun H1 hS1 => ?_⟩
    walk_at "y"
    have kE : ∀ e v dd H', dFault (allW z ws).length d = some e → Dp K H' v e → Same H H' → H' dd = none → E (.ref (He.ga K "InvalidNumber")) (some dd) (upd H' dd (.xd [("number", v)])) := by
      intro e v dd H' he hv hS hn
      rcases k with ⟨cs, hc, _⟩ | ⟨e', he', k⟩
      · rw [dFault_ok hc] at he
        cases he
      · rw [he] at he'
        cases he'
        exact k v dd H' hv hS hn
    have kQ : dFault (allW z ws).length d = none → ∃ cs, CostOk (allW z ws).length d cs ∧ ∀ q H', Same H H' → SqT K H' q (cs.map V.int) → Q (.ref q) H' := by
      intro he
      rcases k with h | ⟨e', he', k⟩
      · exact h
      · rw [he] at he'
        cases he'
    cases hq : dSeq d with
    | false =>
      refine iteT_of rfl ?_
      walk_at "y"
      intro dd hdd
      refine kE d c dd H1 ?_ (dp_same hS1 _ _ hd) hS1 hdd
      cases hd with
      | non => rfl
      | bl _ => rfl
      | int _ => rfl
      | str _ => rfl
      | lst _ _ => cases hq
      | tup _ _ => cases hq
    | true =>
      refine iteF_of rfl ?_
      walk_at "y"
      obtain ⟨p, xs, ds, rfl, hds, hall⟩ := dp_seq_of hd hq
      have hp : SqL K H p xs ∨ SqT K H p xs := hds.imp (fun h => h.2) fun h => h.2
      have hlen := dpAll_length hall
      have hdf : dFault (allW z ws).length d = if ds.length = (allW z ws).length then ds.find? (fun e => !dBet 1 9 e) else some d := by
        rcases hds with ⟨rfl, _⟩ | ⟨rfl, _⟩ <;> rfl
      refine v_lenA (hp.imp (sqL_same hS1) (sqT_same hS1)) ?_
      walk_at "y"
      refine ⟨wa, dx, fs, rfl, hS1 _ _ h1, h5, ?_⟩
      walk_at "y"
      refine ⟨wa, dx, fp, fs, z, ws, rfl, hS1 _ _ h1, h2, h3, hS1 _ _ h7, al, by have := fu.few; omega, fun q H2 hq1 hq2 hS2 => ?_⟩
      walk_at "y"
      refine v_lenT hq2 ?_
      walk_at "y"
      rw [List.length_map]
      refine if_bnot (fun c => ?_) (fun c => ?_)
      · walk_at "y"
        intro dd hdd
        refine kE d _ dd H2 ?_ (dp_same (hS1.trans hS2) _ _ hd) (hS1.trans hS2) hdd
        rw [hdf, if_neg (fun e => c (by rw [hlen, e]))]
      · walk_at "y"
        have hl2 : ds.length = (allW z ws).length := by omega
        rw [if_pos hl2] at hdf
        refine for_seq hp (fun Q q => ?_) (fun i σ' H' => (∃ y, σ' = [some (.ref wa), some (.ref p), y]) ∧ Same H H' ∧ ∀ j, j < i → ∀ e, ds[j]? = some e → (!dBet 1 9 e) = false) ?_ ?_ ?_ ?_
        · walk_at "y"
          exact q
        · exact ⟨⟨_, rfl⟩, hS1.trans hS2, fun j hj => by omega⟩
        · rintro i σ' H' _ ⟨_, h, _⟩
          exact h
        · rintro i x σ' H3 hi ⟨⟨y, rfl⟩, hS3, hb⟩ hx
          obtain ⟨e, he, hde⟩ := dpAll_get hall hx
          walk_at "y"
          refine ⟨x, 1, 9, e, rfl, dp_same hS3 _ _ hde, ?_⟩
          walk_at "y"
          cases hbe : dBet 1 9 e with
          | true =>
            refine iteF_of rfl ?_
            walk_at "y"
            refine ⟨⟨_, rfl⟩, hS3, fun j hj e' he' => ?_⟩
            by_cases hji : j < i
            · exact hb j hji e' he'
            · have : j = i := by omega
              subst this
              rw [he] at he'
              cases he'
              rw [hbe]
              rfl
          | false =>
            refine iteT_of rfl ?_
            walk_at "y"
            intro dd hdd
            refine kE e x dd H3 ?_ (dp_same hS3 _ _ hde) hS3 hdd
            rw [hdf]
            exact find_at he (by rw [hbe]; rfl) hb
        · rintro σ' H3 ⟨⟨y, rfl⟩, hS3, hb⟩
          have hnone : dFault (allW z ws).length d = none := by
            rw [hdf, List.find?_eq_none]
            intro e he
            obtain ⟨j, hj, rfl⟩ := List.getElem_of_mem he
            rw [hb j (by omega) _ (List.getElem?_eq_getElem hj)]
            decide
          obtain ⟨cs, hco, kq⟩ := kQ hnone
          have hxs : xs = cs.map V.int := by
            have hds2 : ds = cs.map PyData.int := by
              rcases hds with ⟨rfl, _⟩ | ⟨rfl, _⟩ <;> rcases hco.1 with e | e <;> first | (injection e) | cases e
            subst hds2
            exact dpAll_ints_inv hall
          subst hxs
          walk_at "y"
          refine ⟨p, cs.map V.int, rfl, ?_⟩
          rcases hp with hp | hp
          · refine .inl ⟨sqL_same hS3 hp, fun q hq => ?_⟩
            exact kq q _ (same_upd hS3 hq) (sqT_of upd_same)
          · exact .inr ⟨sqT_same hS3 hp, kq p _ hS3 (sqT_same hS3 hp)⟩
/-! ### Costs -/
structure CostsAt (K : PySem.W.Frag) (H : Hp) (a wa : Addr) (z : Str) (ws : List Str) (cs : List Int) : Prop where
  wo : WordsAt K H wa z ws
  len : cs.length = (allW z ws).length
  bd : ∀ c ∈ cs, 1 ≤ c ∧ c ≤ 9
  ex : ∃ (dx cp pr : Addr) (fs : List (Str × V)) (kvs : List (Key × V)), H a = some (.ins (He.ga K "Costs") dx fs) ∧ lk fs "words" = some (.ref wa) ∧ lk fs "costs" = some (.ref cp) ∧ lk fs "prices" = some (.ref pr) ∧ lk fs "cost_of" = none ∧
    SqT K (hid [a] H) cp (cs.map V.int) ∧ H pr = some (.dK kvs) ∧ ∀ (i : Nat) (x : Str), (allW z ws)[i]? = some x → valV kvs (.inr x) = some (.int (cs.getD i 0))
theorem CostsAt.same {H H' : Hp} {a wa : Addr} {z : Str} {ws : List Str} {cs : List Int} (e : Same H H') (h : CostsAt K H a wa z ws cs) : CostsAt K H' a wa z ws cs := by
  obtain ⟨wo, len, bd, dx, cp, pr, fs, kvs, h1, h2, h3, h4, h5, h6, h7, h8⟩ := h
  exact ⟨wo.same e, len, bd, dx, cp, pr, fs, kvs, e _ _ h1, h2, h3, h4, h5, sqT_same (hid_same e) h6, e _ _ h7, h8⟩
theorem allW_nodup {z : Str} {ws : List Str} (al : AlphaOk z 4) (fu : FurtherOk z 10 6 ws) : (allW z ws).Nodup := by
  unfold allW
  rw [List.nodup_append]
  refine ⟨?_, fu.nd, fun x hx y hy e => ?_⟩
  · have h : z.cps.toList.Nodup := al.up.imp (fun h => Nat.ne_of_lt h)
    exact List.Pairwise.map s1 (fun a b hne e => hne (by unfold s1 at e; simpa using e)) h
  · subst e
    obtain ⟨c, _, e⟩ := List.mem_map.mp hx
    have := (fu.ok x hy).lo
    rw [← e] at this
    simp [s1] at this
def spCI (K : PySem.W.Frag) : Sp := fun vs H Q E => ∃ (a dx : Addr) (wv c : V), vs = [.ref a, wv, c] ∧ H a = some (.ins (He.ga K "Costs") dx []) ∧
  ((∃ t, TyX K H wv t ∧ PySem.W.kitOne K t (.ref (He.ga K "Words")) = some false ∧ ∀ dd, H dd = none → E (.ref (He.ga K "InvalidCutter")) (some dd) (upd H dd (.xd [("part", .str "words")]))) ∨
   ∃ (wa : Addr) (z : Str) (ws : List Str) (d : PyData), wv = .ref wa ∧ WordsAt K H wa z ws ∧ Dp K H c d ∧
    ((∃ cs, CostOk (allW z ws).length d cs ∧ ∀ H', CostsAt K H' a wa z ws cs → Same (hid [a] H) (hid [a] H') → Q .non H') ∨
     (∃ e, dFault (allW z ws).length d = some e ∧ ∀ v dd H', Dp K H' v e → Same (hid [a] H) (hid [a] H') → H' dd = none → E (.ref (He.ga K "InvalidNumber")) (some dd) (upd H' dd (.xd [("number", v)])))))
theorem WordsAt.hid (h : WordsAt K H wa z ws) (ha : H a = some (.ins (He.ga K "Costs") dx fs)) (ne : a ≠ wa) : WordsAt K (PH.hid [a] H) wa z ws := by
  obtain ⟨al, fu, dx, fp, kn, fs, kvs, h1, h2, h3, h4, h5, h6, h7, h8, h9⟩ := h
  refine ⟨al, fu, dx, fp, kn, fs, kvs, hid_at h1 (by simpa using Ne.symm ne), h2, h3, h4, h5, h6, hid_at h7 ?_, hid_at h8 ?_, h9⟩
  · intro hm
    rw [List.mem_singleton.mp hm, ha] at h7
    cases h7
  · intro hm
    rw [List.mem_singleton.mp hm, ha] at h8
    cases h8
theorem ok_Costs___init__ (T : Ev fa fx fn K mg base) : Dn P w K mg base 4 (He.ma K (He.ga K "Costs") "__init__") ["self", "words", "costs"] (spCI K) := by
  refine dn_of (d_Costs___init__ T) sc_Costs___init__ bo_Costs___init__ (fun vs H Q E h => ?_) (fun cdv A outer s H vs Q E hr h => ?_)
  · obtain ⟨a, dx, wv, c, rfl, _⟩ := h
    rfl
  · obtain ⟨a, dx, wv, c, rfl, ha, h⟩ := h
    refine ⟨_, (pss_cons (ps_if (pt_not (pt_val (pe_callB (call_isiK' (K := K) rfl) (by rfl) (f_isinstance T) bb_isinstance (pa_cons (pv 1) (pa_cons (pe_cv (g_Words T)) pa_nil)))))
        (pss_one (ps_raise rfl (takes_of rfl rfl rfl rfl) (pmk_x1 (exc_InvalidCutter T) (ok_InvalidCutter___init__ T) (hr.mono (by decide)) (g_InvalidCutter T) pe_str))) pss_nil)
      (pss_cons (ps_fld (pv 0) (pv 1) rfl)
      (pss_cons (ps_fld (pv 0) (pe_d (ok_checked_costs T) (hr.mono (by decide)) (g_checked_costs T) (passes_call (takes_of rfl rfl rfl rfl) (fun _ _ _ _ h => h)) (pa_cons (pv 1) (pa_cons (pv 2) pa_nil))) rfl)
      (pss_one (ps_fld (pv 0) (pe_dc (own := [("at", 3), ("text", 4)]) rfl sc_Costs___init__.nd (pi_enumT (by rfl) (f_enumerate T) (pa_cons (pe_m0 (ok_Words_all_words T) (hr.mono (by decide)) (cls_Words T) (me_Words_all_words T) passL (pv 1)) pa_nil)) (blkOk_by (own := [("at", 3), ("text", 4)]) (N := ["self", "words", "costs", "at", "text"]) (sc := defScope s_Costs___init__) (by decide +kernel)) (fun _ _ _ _ _ => (pg_two (K := K) (i := 3) (j := 4) rfl rfl sc_Costs___init__.nd rfl rfl (.inl rfl) (.inl rfl))) (fun _ _ _ _ _ => pts_nil) (fun _ _ _ _ _ => (pv 4)) (fun _ _ _ _ _ => (pe_ix (ix_tupK (K := K) rfl) (pe_fldK (K := K) rfl (pv 0) rfl) (pv 3) (fun _ _ => rfl)))) rfl))))), ?_⟩
    walk_at "cl"
    walk_at "y"
    rcases h with ⟨t, ht, hk, k⟩ | ⟨wa, z, ws, d, rfl, hw, hd, k⟩
    · refine isi_own ht hk ?_
      walk_at "y"
      refine iteT_of rfl ?_
      walk_at "y"
      intro dd hdd
      exact k dd hdd
    · refine isi_own (hw.ty T) (kit_Words_Words T) ?_
      walk_at "y"
      refine iteF_of rfl ?_
      walk_at "y"
      have ne : a ≠ wa := fun e => by
        obtain ⟨al, fu, dx', fp, kn, fs, kvs, h1, h2, _⟩ := hw
        rw [← e, ha] at h1
        injection h1 with h1
        injection h1 with _ _ h1
        rw [← h1] at h2
        cases h2
      have hw0 := hw.hid ha ne
      have hd0 := dp_hid (one_ins ha) _ _ hd
      have hS0 : Same (PH.hid [a] H) (PH.hid [a] H) := Same.refl _
      refine ⟨_, _, _, _, rfl, ha, (cls_Costs T), (no_Costs_words T), by decide, ?_⟩
      have hS1 := hid_put (o := .ins (He.ga K "Costs") dx (putF "words" (.ref wa) [])) hS0
      have ha1 : upd H a (.ins (He.ga K "Costs") dx (putF "words" (.ref wa) [])) a = _ := upd_same
      have l1 : (putF "words" (.ref wa) ([] : List (Str × V))).length ≤ 1 := putF_len _ _ _
      have w1 : lk (putF "words" (.ref wa) ([] : List (Str × V))) "words" = some (.ref wa) := lk_same
      have n1 : lk (putF "words" (.ref wa) ([] : List (Str × V))) "cost_of" = none := by rw [lk_ne (by decide +kernel)]; rfl
      generalize upd H a (.ins (He.ga K "Costs") dx (putF "words" (.ref wa) [])) = H1 at hS1 ha1
      generalize putF "words" (.ref wa) ([] : List (Str × V)) = fs1 at ha1 l1 w1 n1
      walk_at "y"
      refine ⟨wa, z, ws, c, d, rfl, hw0.same (hS1.trans hid_sub), dp_same (hS1.trans hid_sub) _ _ hd0, ?_⟩
      rcases k with ⟨cs, hco, k⟩ | ⟨e, he, k⟩
      · left
        refine ⟨cs, hco, fun q H2 hS2 hq => ?_⟩
        have hS3 : Same (PH.hid [a] H) (PH.hid [a] H2) := hS1.trans (hid_same hS2)
        have ha2 := hS2 _ _ ha1
        have hq0 : SqT K (PH.hid [a] H2) q (cs.map V.int) := sqT_hid hq (one_ins ha2)
        walk_at "y"
        refine ⟨_, _, _, _, rfl, ha2, (cls_Costs T), (no_Costs_costs T), by omega, ?_⟩
        have hS4 := hid_put (o := .ins (He.ga K "Costs") dx (putF "costs" (.ref q) fs1)) hS3
        have ha4 : upd H2 a (.ins (He.ga K "Costs") dx (putF "costs" (.ref q) fs1)) a = _ := upd_same
        have hq4 : SqT K (PH.hid [a] (upd H2 a (.ins (He.ga K "Costs") dx (putF "costs" (.ref q) fs1)))) q (cs.map V.int) := by rw [hid_in (by simp)]; exact hq0
        have l2 : (putF "costs" (.ref q) fs1).length ≤ 2 := Nat.le_trans (putF_len _ _ _) (by omega)
        have w2 : lk (putF "costs" (.ref q) fs1) "words" = some (.ref wa) := by rw [lk_ne (by decide +kernel)]; exact w1
        have n2 : lk (putF "costs" (.ref q) fs1) "cost_of" = none := by rw [lk_ne (by decide +kernel)]; exact n1
        have c2 : lk (putF "costs" (.ref q) fs1) "costs" = some (.ref q) := lk_same
        generalize upd H2 a (.ins (He.ga K "Costs") dx (putF "costs" (.ref q) fs1)) = H3 at hS4 ha4 hq4
        generalize putF "costs" (.ref q) fs1 = fs2 at ha4 l2 w2 n2 c2
        have hw3 : WordsAt K H3 wa z ws := hw0.same (hS4.trans hid_sub)
        have ⟨al, fu, dx', fp, kn, fsw, kvs, h1, h2, h3, h4, h5, h6, h7, h8, h9⟩ := hw3
        have zlo := al.lo
        have zhi := al.hi
        have few := fu.few
        have hnd := allW_nodup al fu
        have hall : (allW z ws).length ≤ 14 := by
          unfold allW
          simp at zhi ⊢
          omega
        walk_at "y"
        refine ⟨wa, dx', fsw, rfl, h1, h5, ?_⟩
        walk_at "y"
        refine ⟨wa, dx', fp, fsw, z, ws, rfl, h1, h2, h3, h7, al, by omega, fun r H4 hr1 hr2 hS5 => ?_⟩
        walk_at "y"
        refine ⟨r, _, rfl, hr2, fun D hD => ?_⟩
        refine dc_it walk_enumT (fun i H' => Same H4 H' ∧ ∃ kvs, H' D = some (.dK kvs) ∧ kvs.length ≤ i ∧ ∀ (j : Nat) (x : Str), j < i → (allW z ws)[j]? = some x → valV kvs (.inr x) = some (.int (cs.getD j 0))) ?_ ?_ ?_ ?_
        · exact ⟨same_new hD, [], upd_same, Nat.le_refl _, fun j x hj => by omega⟩
        · rintro i H' _ ⟨h, _⟩
          exact sqT_same h hr2
        · rintro i x H5 H6 hi ⟨h5, kv, hd5, hl5, hv5⟩ ⟨t, u, v, rfl, ht, rfl, e1, e2⟩
          cases e1
          have e2 : ((allW z ws).map V.str)[i]? = some v := e2
          have hi : i < (allW z ws).length := by simpa using hi
          have hx : v = .str (allW z ws)[i] := by
            rw [List.getElem?_map, List.getElem?_eq_getElem hi] at e2
            exact (Option.some.inj e2).symm
          subst hx
          have hDt : D ≠ t := ne_of_none hd5 ht
          have hS6 : Same H4 (upd H5 t (.tup [.int (i : Nat), .str (allW z ws)[i]])) := same_upd h5 ht
          refine v_gtup (sqT_of upd_same) rfl ?_
          walk_at "y"
          refine ⟨rfl, ?_⟩
          walk_at "y"
          refine ⟨_, _, _, _, _, rfl, hS6 _ _ (hS5 _ _ ha4), (cls_Costs T), (no_Costs_costs T), c2, ?_⟩
          walk_at "y"
          have hic : i < cs.length := by rw [hco.2.1]; exact hi
          refine v_ixT (v := .int (cs.getD i 0)) (sqT_same ((hid_sub.trans hS5).trans hS6) hq4) (atI_nat ?_) ?_
          · rw [List.getElem?_map, List.getElem?_eq_getElem hic, List.getD_eq_getElem?_getD, List.getElem?_eq_getElem hic]
            rfl
          refine ⟨kv, .inr (allW z ws)[i], rfl, by rw [upd_ne hDt]; exact hd5, smallL (by omega), same_mut hS6 hD, _, upd_same, Nat.le_trans (length_putK _ _ _) (by omega), fun j y hj hy => ?_⟩
          rw [valV_put]
          by_cases hji : j = i
          · subst hji
            rw [List.getElem?_eq_getElem hi] at hy
            cases hy
            rw [if_pos rfl]
          · have hjl : j < (allW z ws).length := (List.getElem?_eq_some_iff.mp hy).1
            have hyj : y = (allW z ws)[j] := by
              rw [List.getElem?_eq_getElem hjl] at hy
              exact (Option.some.inj hy).symm
            have hlt : j < i := by omega
            rw [if_neg (fun e => by
              injection e with e
              rw [hyj] at e
              exact List.pairwise_iff_getElem.mp hnd j i hjl hi hlt e)]
            exact hv5 j y hlt hy
        · rintro H5 ⟨h5', kv, hd5, hl5, hv5⟩
          rw [List.length_map] at hv5
          have ha5 := h5' _ _ (hS5 _ _ ha4)
          have aD : D ≠ a := (ne_of_none (hS5 _ _ ha4) hD).symm
          have hS7 : Same (PH.hid [a] H) (PH.hid [a] H5) := hS4.trans (hid_same (hS5.trans h5'))
          walk_at "y"
          refine ⟨_, _, _, _, rfl, ha5, (cls_Costs T), (no_Costs_prices T), by omega, ?_⟩
          refine k _ ⟨hw0.same ((hid_put hS7).trans hid_sub), hco.2.1, hco.2.2, dx, q, D, putF "prices" (.ref D) fs2, kv, upd_same, ?_, ?_, lk_same, ?_, ?_, ?_, ?_⟩ (hid_put hS7)
          · rw [lk_ne (by decide +kernel)]; exact w2
          · rw [lk_ne (by decide +kernel)]; exact c2
          · rw [lk_ne (by decide +kernel)]; exact n2
          · rw [hid_in (by simp)]; exact sqT_same (hid_same (hS5.trans h5')) hq4
          · rw [upd_ne aD]; exact hd5
          · exact fun i x hx => hv5 i x (List.getElem?_eq_some_iff.mp hx).1 hx
      · right
        refine ⟨e, he, fun v dd H' hv hS hdd => ?_⟩
        exact k v dd H' hv (hS1.trans (hid_same hS)) hdd
end

end K80

namespace K80
open PySem PySem.Spec L2 PH
open C8 (tCut pss_cut)
section
variable {P : Program} {w : World} {K : PySem.W.Frag} {mg : Str → Option Value} {base : Heap}
/-- the first foreign sign -/
def spCheck (K : PySem.W.Frag) : Sp := fun vs H Q E => ∃ z t : Str, vs = [.str z, .str t] ∧
  (((∀ c ∈ t.cps.toList, c ∈ z.cps.toList) ∧ ∀ H', Same H H' → Q .non H') ∨
   ∃ (i c : Nat), t.cps.toList[i]? = some c ∧ c ∉ z.cps.toList ∧ (∀ j d, j < i → t.cps.toList[j]? = some d → d ∈ z.cps.toList) ∧ ∀ dd H', Same H H' → H' dd = none → E (.ref (He.ga K "UnknownSign")) (some dd) (upd H' dd (.xd [("at", .int (i : Int)), ("sign", .str (s1 c))])))
theorem ok_check_letters (T : Ev fa fx fn K mg base) : Dn P w K mg base 3 (He.ga K "check_letters") ["alphabet", "text"] (spCheck K) := by
  refine dn_of (d_check_letters T) sc_check_letters bo_check_letters (fun vs H Q E h => ?_) (fun cdv A outer s H vs Q E hr h => ?_)
  · obtain ⟨z, t, rfl, _⟩ := h
    rfl
  · obtain ⟨z, t, rfl, h⟩ := h
    refine ⟨_, (pss_one (ps_for (passes_of rfl) rfl (pi_enumS (by rfl) (f_enumerate T) (pa_cons (pv 1) pa_nil)) (pg_two (K := K) (i := 2) (j := 3) rfl rfl sc_check_letters.nd rfl rfl (.inl rfl) (.inl rfl))
        (pss_one (ps_if (pt_cmpR op_notIn_sign (pv 3) (pv 0) rfl)
        (pss_one (ps_raise rfl (takes_of rfl rfl rfl rfl) (pmk_x2 (exc_UnknownSign T) (ok_UnknownSign___init__ T) (hr.mono (by decide)) (g_UnknownSign T) (pv 3) (pv 2)))) pss_nil)))), ?_⟩
    walk_at "cl"
    walk_at "x"
    refine ⟨t, rfl, ?_⟩
    have ezl : t.cps.size = t.cps.toList.length := by simp
    refine for_it (walk_enumG (G := fun _ => True)) (fun i σ' H' => (∃ x y, σ' = [some (.str z), some (.str t), x, y]) ∧ Same H H' ∧ ∀ j d, j < i → t.cps.toList[j]? = some d → d ∈ z.cps.toList) ?_ ?_ ?_ ?_
    · exact ⟨⟨_, _, rfl⟩, Same.refl _, fun j d hj => by omega⟩
    · intros
      trivial
    · rintro i x σ' H1 H2 hi ⟨⟨x0, y0, rfl⟩, hS, hb⟩ ⟨p, u, rfl, hp, rfl, c, hc, rfl⟩
      have hc : t.cps.toList[i]? = some c := by rw [Array.getElem?_toList]; exact hc
      refine v_gtup (sqT_of upd_same) rfl ?_
      walk_at "y"
      refine ⟨c, z, rfl, rfl, ?_⟩
      walk_at "y"
      have hS2 := same_upd (o := .tup [.int (i : Nat), .str ⟨#[c]⟩]) hS hp
      refine if_bnot (fun hn => ?_) (fun hin => ?_)
      · rcases h with ⟨ha, _⟩ | ⟨i', c', h1, h2, h3, k⟩
        · exact absurd (ha c (List.mem_of_getElem? hc)) hn
        · have e : i = i' := by
            rcases Nat.lt_trichotomy i i' with q | q | q
            · exact absurd (h3 i c q hc) hn
            · exact q
            · exact absurd (hb i' c' q h1) h2
          subst e
          rw [hc] at h1
          cases h1
          refine v_var rfl ?_
          refine v_var rfl ?_
          intro dd hdd
          exact k dd _ hS2 hdd
      · walk_at "y"
        refine ⟨⟨_, _, rfl⟩, hS2, fun j d hj hd => ?_⟩
        by_cases q : j < i
        · exact hb j d q hd
        · have e : j = i := by omega
          subst e
          rw [hc] at hd
          cases hd
          exact hin
    · rintro σ' H1 ⟨⟨x0, y0, rfl⟩, hS, hb⟩
      rcases h with ⟨_, k⟩ | ⟨i', c', h1, h2, h3, k⟩
      · exact k _ hS
      · have q := (List.getElem?_eq_some_iff.mp h1).1
        exact absurd (hb i' c' (by rw [ezl]; exact q) h1) h2
theorem allW_ok' {z : Str} {ws : List Str} (al : AlphaOk z 4) (fu : FurtherOk z 10 6 ws) : ∀ x ∈ allW z ws, 1 ≤ x.cps.toList.length ∧ x.cps.toList.length ≤ 6 := by
  intro x hx
  rcases List.mem_append.mp hx with h | h
  · obtain ⟨c, hc, rfl⟩ := List.mem_map.mp h
    exact ⟨by simp [s1], by simp [s1]⟩
  · have q := fu.ok x h
    have := q.lo
    exact ⟨by omega, q.hi⟩
/-- words by code points -/
def WW (z : Str) (ws : List Str) : PL.T → Prop := fun u => mkS u ∈ allW z ws
def spLA (K : PySem.W.Frag) : Sp := fun vs H Q _ => ∃ (a : Addr) (z t : Str) (ws : List Str) (at_ : Nat), vs = [.ref a, .str t, .int (at_ : Int)] ∧ WordsAt K H a z ws ∧ WordsL K H a z ws ∧ at_ ≤ t.cps.toList.length ∧ t.cps.toList.length ≤ 10000 ∧
  ∀ (L : Addr) (ss : List Nat) (H' : Hp), H L = none → H' L = some (.lst (ss.map fun (s : Nat) => V.int (s : Int))) → (∀ s, s ∈ ss ↔ PL.Pre (WW z ws) (t.cps.toList.drop at_) s) → ss.Pairwise (· > ·) → ss.length ≤ 6 → Same H H' → Q (.ref L) H'
theorem ok_Words_lengths_ahead (T : Ev fa fx fn K mg base) : Dn P w K mg base 1 (He.ma K (He.ga K "Words") "lengths_ahead") ["self", "text", "at"] (spLA K) := by
  refine dn_of (d_Words_lengths_ahead T) sc_Words_lengths_ahead bo_Words_lengths_ahead (fun vs H Q E h => ?_) (fun cdv A outer s H vs Q E hr h => ?_)
  · obtain ⟨a, z, t, ws, at_, rfl, _⟩ := h
    rfl
  · obtain ⟨a, z, t, ws, at_, rfl, hw, ⟨dx', fs', m, l1, l2, l3, l4, l5, l6, l7⟩, hat, htl, k⟩ := h
    have ⟨al, fu, dx, fp, kn, fs, kvs, h1, h2, h3, h4, h5, h6, h7, h8, h9⟩ := hw
    have zl : t.length = t.cps.toList.length := tl_len
    refine ⟨_, (PSs.nox (pss_cons (ps_set (i := 3) sc_Words_lengths_ahead.nd rfl (.inl rfl) (pe_callB (call_min2 rfl) (by rfl) (f_min T) bb_min (pa_cons (pe_fldK (K := K) rfl (pv 0) rfl) (pa_cons (pe_op op_sub (pe_callB (call_lenK (K := K) rfl) (by rfl) (f_len T) bb_len (pa_cons (pv 1) pa_nil)) (pv 2)) pa_nil))))
      (pss_one (ps_ret (pe_lc (own := [("size", 4)]) rfl sc_Words_lengths_ahead.nd (pi_range3 rfl (f_range T) (pa_cons (pv 3) (pa_cons pe_int (pa_cons (pe_un un_neg pe_int) pa_nil)))) (blkOk_by (own := [("size", 4)]) (N := ["self", "text", "at", "most", "size"]) (sc := defScope s_Words_lengths_ahead) (by decide +kernel)) (fun _ _ _ _ _ => (pg_name (i := 4) sc_Words_lengths_ahead.nd rfl (.inl rfl))) (fun _ _ _ _ _ => pts_one (pt_cmp (pc_din hr.hu (pe_slice sl_str (pv 1) (po_some (pv 2)) (po_some (pe_op op_add (pv 2) (pv 4)))) (pe_fldK (K := K) rfl (pv 0) rfl)))) (fun _ _ _ _ _ => (pv 4))))))), ?_⟩
    walk_at "cl"
    walk_at "y"
    refine ⟨_, _, _, _, _, rfl, l1, (cls_Words T), (no_Words_longest T), l2, ?_⟩
    walk_at "y"
    refine v_lenS (small (by omega)) ?_
    walk_at "y"
    refine ⟨_, _, rfl, ?_⟩
    obtain ⟨n, hn, hnm⟩ : ∃ n : Nat, (if ((t.length : Nat) : Int) - (at_ : Int) < (m : Int) then ((t.length : Nat) : Int) - (at_ : Int) else (m : Int)) = (n : Int) ∧ n = min m (t.cps.toList.length - at_) := by
      refine ⟨min m (t.cps.toList.length - at_), ?_, rfl⟩
      split <;> omega
    rw [hn]
    walk_at "y"
    refine ⟨_, _, _, n, rfl, rg_down (by omega), fun D hD => ?_⟩
    have hu : (t.cps.toList.drop at_).length = t.cps.toList.length - at_ := List.length_drop
    refine lc_it walk_rangeC (fun i H' => Same H H' ∧ H' D = some (.lst ((downs n (fun s => decide (mkS ((t.cps.toList.drop at_).take s) ∈ allW z ws)) i).map fun (s : Nat) => V.int (s : Int)))) ?_ ?_ ?_ ?_
    · exact ⟨same_new hD, upd_same⟩
    · intros
      trivial
    · rintro i x H1 H2 hi ⟨hS, hd⟩ ⟨rfl, rfl⟩
      obtain ⟨s, hs, hsi⟩ : ∃ s : Nat, (n : Int) + (i : Nat) * (-1) = (s : Int) ∧ s = n - i := ⟨n - i, by omega, rfl⟩
      walk_at "y"
      refine ⟨rfl, ?_⟩
      walk_at "y"
      refine ⟨t, rfl, small (by omega), ?_⟩
      rw [hs, show (at_ : Int) + (s : Int) = ((at_ + s : Nat) : Int) by omega, cutS_mid t at_ (at_ + s) (by omega), show at_ + s - at_ = s by omega]
      walk_at "y"
      refine ⟨_, _, _, _, _, rfl, hS _ _ h1, (cls_Words T), (no_Words_known T), h4, ?_⟩
      refine ⟨kn, _, rfl, .inl ⟨kvs, .inr (mkS ((t.cps.toList.drop at_).take s)), .inl (hS _ _ h8), rfl, rfl⟩, ?_⟩
      rw [h9 (mkS ((t.cps.toList.drop at_).take s))]
      refine ⟨_, rfl, ?_⟩
      refine if_dec (fun c => ?_) (fun c => ?_)
      · have c : mkS ((t.cps.toList.drop at_).take s) ∈ allW z ws := c
        walk_at "y"
        refine ⟨_, hd, smallL (Nat.lt_of_le_of_lt (by rw [List.length_map]; exact downs_len) (by omega : i < 16000000)), same_mut hS hD, ?_⟩
        rw [upd_same, downs_succ, ← hsi, if_pos (decide_eq_true c), List.map_append]
        show some (HO.lst (_ ++ [V.int ((n : Int) + (i : Nat) * (-1))])) = _
        rw [hs]
        rfl
      · have c : ¬ mkS ((t.cps.toList.drop at_).take s) ∈ allW z ws := c
        refine ⟨hS, ?_⟩
        rw [downs_succ, ← hsi, if_neg (by rw [decide_eq_false c]; decide), List.append_nil]
        exact hd
    · rintro H1 ⟨hS, hd⟩
      refine k D _ H1 hD hd (fun s => ?_) downs_down ?_ hS
      · rw [downs_mem, decide_eq_true_eq]
        unfold PL.Pre WW
        constructor
        · rintro ⟨⟨q1, q2⟩, q3⟩
          exact ⟨by omega, q3⟩
        · rintro ⟨q1, q3⟩
          have q4 := allW_ok' al fu _ q3
          have q5 := l5 _ q3
          rw [mkS_cps, List.length_take] at q4 q5
          exact ⟨⟨by omega, by omega⟩, q3⟩
      · exact Nat.le_trans downs_len (by omega)
end

end K80

namespace K80
open PySem PySem.Spec L2 PH
open C8 (tCut pss_cut)
section
variable {P : Program} {w : World} {K : PySem.W.Frag} {mg : Str → Option Value} {base : Heap}
def natV (cl : List Nat) : List V := cl.map fun (c : Nat) => V.int (c : Int)
theorem natV_int (cl : List Nat) : natV cl = (cl.map fun (c : Nat) => (c : Int)).map V.int := by
  unfold natV
  rw [List.map_map]
  rfl
theorem natV_len {cl : List Nat} : (natV cl).length = cl.length := List.length_map ..
theorem natV_at {cl : List Nat} {i : Nat} (h : i < cl.length) : (natV cl)[i]? = some (V.int (cl.getD i 0 : Nat)) := by
  unfold natV
  rw [List.getElem?_map, List.getElem?_eq_getElem h, List.getD_eq_getElem?_getD, List.getElem?_eq_getElem h]
  rfl
theorem natV_set {cl : List Nat} {i c : Nat} : (natV cl).set i (.int (c : Int)) = natV (cl.set i c) := by
  unfold natV
  rw [List.map_set]
theorem natV_snoc {cl : List Nat} {c : Nat} : natV cl ++ [.int (c : Int)] = natV (cl ++ [c]) := by
  unfold natV
  rw [List.map_append]
  rfl
theorem getD_set {cl : List Nat} {i j c : Nat} (h : i < cl.length) : (cl.set i c).getD j 0 = if i = j then c else cl.getD j 0 := by
  rw [List.getD_eq_getElem?_getD, List.getElem?_set, List.getD_eq_getElem?_getD]
  by_cases e : i = j
  · subst e
    rw [if_pos rfl, if_pos h, if_pos rfl]
    rfl
  · rw [if_neg e, if_neg e]
theorem WW_ne {z : Str} {ws : List Str} (al : AlphaOk z 4) (fu : FurtherOk z 10 6 ws) : ∀ u, WW z ws u → u ≠ [] := fun u hu e => by
  have q := (allW_ok' al fu _ hu).1
  rw [mkS_cps, e] at q
  exact absurd q (by decide)
theorem pre_one {z t : Str} {ws : List Str} {i : Nat} (hov : ∀ c ∈ t.cps.toList, c ∈ z.cps.toList) (hi : i < t.cps.toList.length) : PL.Pre (WW z ws) (t.cps.toList.drop i) 1 := by
  refine ⟨by rw [List.length_drop]; omega, ?_⟩
  unfold WW
  have e : (t.cps.toList.drop i).take 1 = [t.cps.toList[i]] := by
    rw [List.drop_eq_getElem_cons hi]
    rfl
  rw [e]
  refine List.mem_append_left _ (List.mem_map.mpr ⟨t.cps.toList[i], hov _ (List.getElem_mem hi), rfl⟩)
theorem WordsL.la {H : Hp} {a : Addr} {z : Str} {ws : List Str} {dx : Addr} {fs : List (Str × V)} (h : WordsL K H a z ws) (ha : H a = some (.ins (He.ga K "Words") dx fs)) : lk fs "lengths_ahead" = none := by
  obtain ⟨dx', fs', m, h1, h2, h3, h4, _⟩ := h
  rw [ha] at h1
  injection h1 with h1
  injection h1 with _ _ h1
  rw [h1]
  exact h3
/-- the first of falling numbers is the greatest -/
theorem head_max {ss : List Nat} {p : Nat → Prop} (hm : ∀ s, s ∈ ss ↔ p s) (hd : ss.Pairwise (· > ·)) {x : Nat} (hx : p x) : ∃ s r, ss = s :: r ∧ p s ∧ ∀ s', p s' → s' ≤ s := by
  cases ss with
  | nil => exact absurd ((hm x).2 hx) (by simp)
  | cons s r =>
    refine ⟨s, r, rfl, (hm s).1 List.mem_cons_self, fun s' h => ?_⟩
    rcases List.mem_cons.mp ((hm s').2 h) with e | q
    · omega
    · exact Nat.le_of_lt ((List.pairwise_cons.mp hd).1 s' q)
def rowV (r : List PL.T) : List V := r.map fun u => V.str (mkS u)
/-- short words of plain signs -/
def RowOk (r : List PL.T) : Prop := r.length ≤ 10000 ∧ ∀ u ∈ r, u.length ≤ 6 ∧ ∀ c ∈ u, c ≤ 126
theorem mkS_inj {u v : PL.T} (h : mkS u = mkS v) : u = v := by
  rw [← mkS_cps (u := u), h, mkS_cps]
theorem mkS_map_inj : ∀ {r o : List PL.T}, r.map mkS = o.map mkS → r = o
  | [], [], _ => rfl
  | [], _ :: _, h => by cases h
  | _ :: _, [], h => by cases h
  | u :: r, v :: o, h => by
    rw [List.map_cons, List.map_cons] at h
    injection h with h1 h2
    rw [mkS_inj h1, mkS_map_inj h2]
theorem rowV_str (r : List PL.T) : rowV r = (r.map mkS).map V.str := by
  unfold rowV
  rw [List.map_map]
  rfl
theorem rowV_len {r : List PL.T} : (rowV r).length = r.length := List.length_map ..
theorem rowV_at {r : List PL.T} {i : Nat} (h : i < r.length) : (rowV r)[i]? = some (.str (mkS r[i])) := by
  unfold rowV
  rw [List.getElem?_map, List.getElem?_eq_getElem h]
  rfl
theorem row_dp {H : Hp} {p : Addr} {r : List PL.T} (h : SqT K H p (rowV r)) : Dp K H (.ref p) (.tuple ((r.map mkS).map PyData.str)) := by
  rw [rowV_str] at h
  exact .tup h (dpAll_strs _)
theorem row_shaped {r : List PL.T} (h : RowOk r) : SeqAt.shaped (.tuple ((r.map mkS).map PyData.str)) = true := by
  refine (shaped_strs fun x hx c hc => ?_).1
  obtain ⟨u, hu, rfl⟩ := List.mem_map.mp hx
  rw [mkS_cps] at hc
  exact (h.2 u hu).2 c hc
theorem row_eqv {r o : List PL.T} : PyData.eqv (.tuple ((r.map mkS).map PyData.str)) (.tuple ((o.map mkS).map PyData.str)) = decide (r = o) := by
  show PyData.eqvAll _ _ = _
  rw [eqvAll_strs]
  by_cases e : r = o
  · subst e
    simp
  · rw [decide_eq_false e, decide_eq_false (fun h => e (mkS_map_inj h))]
theorem op_catAK {X : Cx} {K : PySem.W.Frag} (h : X.K = K) : OpR X (binaryOp .Add) (rCatA K) := by subst h; exact op_catA
/-- the words by code points -/
def wl (z : Str) (ws : List Str) : List PL.T := (allW z ws).map fun x => x.cps.toList
theorem wl_iff {z : Str} {ws : List Str} (u : PL.T) : WW z ws u ↔ u ∈ wl z ws := by
  unfold WW wl
  constructor
  · intro h
    exact List.mem_map.mpr ⟨mkS u, h, mkS_cps⟩
  · intro h
    obtain ⟨x, hx, rfl⟩ := List.mem_map.mp h
    rw [mkS_of]
    exact hx
theorem wl_str {z : Str} {ws : List Str} : (allW z ws).map V.str = rowV (wl z ws) := by
  unfold rowV wl
  rw [List.map_map]
  refine List.map_congr_left fun x _ => ?_
  show V.str x = V.str (mkS x.cps.toList)
  rw [mkS_of]
theorem wl_nodup {z : Str} {ws : List Str} (al : AlphaOk z 4) (fu : FurtherOk z 10 6 ws) : (wl z ws).Nodup := by
  unfold wl
  show List.Pairwise _ _
  rw [List.pairwise_map]
  refine (allW_nodup al fu).imp fun {a b} h e => h ?_
  rw [← mkS_of a, ← mkS_of b, e]
theorem wl_six {z : Str} {ws : List Str} (al : AlphaOk z 4) (fu : FurtherOk z 10 6 ws) : ∀ u ∈ wl z ws, 1 ≤ u.length ∧ u.length ≤ 6 := fun u hu => by
  obtain ⟨x, hx, rfl⟩ := List.mem_map.mp hu
  exact allW_ok' al fu x hx
theorem wl_ov {z : Str} {ws : List Str} (fu : FurtherOk z 10 6 ws) : ∀ u ∈ wl z ws, ∀ c ∈ u, c ∈ z.cps.toList := fun u hu c hc => by
  obtain ⟨x, hx, rfl⟩ := List.mem_map.mp hu
  rcases List.mem_append.mp hx with h | h
  · obtain ⟨d, hd, rfl⟩ := List.mem_map.mp h
    have : c = d := by simpa [s1] using hc
    rw [this]
    exact hd
  · exact (fu.ok x h).ov c hc
theorem wl_le {z : Str} {ws : List Str} (al : AlphaOk z 4) (fu : FurtherOk z 10 6 ws) : (wl z ws).length ≤ 14 := by
  have zh := al.hi
  have few := fu.few
  unfold wl allW
  simp at zh ⊢
  omega
theorem row_ok {z : Str} {ws : List Str} (al : AlphaOk z 4) (fu : FurtherOk z 10 6 ws) {t : PL.T} {r : List PL.T} (h : PL.Row (WW z ws) t r) (ht : t.length ≤ 10000) : RowOk r := by
  refine ⟨Nat.le_trans (PL.row_len (WW_ne al fu) h) ht, fun u hu => ?_⟩
  have q := (wl_iff u).1 (h.2 u hu)
  exact ⟨(wl_six al fu u q).2, fun c hc => (al.sg c (wl_ov fu u q c hc)).2⟩
theorem starts_mk (u v : PL.T) : Txt.startswith (mkS u) (mkS v) = PL.pre u v := by
  unfold Txt.startswith PL.pre
  rw [StrLaws.subAt_eq, tl_len, tl_len, mkS_cps, mkS_cps, List.drop_zero, Nat.zero_add]
  rw [Bool.eq_iff_iff]
  simp
theorem cutS_from (t : Str) (i : Nat) (h : i ≤ t.cps.toList.length) : cutS t (some (i : Int)) none = mkS (t.cps.toList.drop i) := by
  unfold cutS mkS
  rw [HT.sIx_nat, HT.sIx_none]
  have e : t.length = t.cps.toList.length := tl_len
  rw [e, Nat.min_eq_left h, List.take_of_length_le (by rw [List.length_drop]; omega)]
def rowD (r : List PL.T) : PyData := .tuple ((r.map mkS).map PyData.str)
def rowsD (R : List (List PL.T)) : PyData := .list (R.map rowD)
theorem row_dpD {H : Hp} {p : Addr} {r : List PL.T} (h : SqT K H p (rowV r)) : Dp K H (.ref p) (rowD r) := row_dp h
theorem dp_row {H : Hp} {x : V} {r : List PL.T} (h : Dp K H x (rowD r)) : ∃ p, x = .ref p ∧ SqT K H p (rowV r) := by
  unfold rowD at h
  cases h with
  | tup hs ha =>
    have e := dpAll_strs_inv ha
    rw [e, ← rowV_str] at hs
    exact ⟨_, rfl, hs⟩
theorem dp_rows {H : Hp} {x : V} {R : List (List PL.T)} (h : Dp K H x (rowsD R)) : ∃ p ys, x = .ref p ∧ SqL K H p ys ∧ DpAll K H ys (R.map rowD) := by
  unfold rowsD at h
  cases h with
  | lst hs ha => exact ⟨_, _, rfl, hs, ha⟩
theorem dpAll_snoc {H : Hp} {xs : List V} {ds : List PyData} {x : V} {d : PyData} (h : DpAll K H xs ds) (hx : Dp K H x d) : DpAll K H (xs ++ [x]) (ds ++ [d]) := dpAll_append h (.cons hx .nil)
theorem pow7 {i : Nat} (h : i ≤ 7) : 7 ^ i ≤ 823543 := by
  have : 7 ^ i ≤ 7 ^ 7 := Nat.pow_le_pow_right (by decide) h
  exact Nat.le_trans this (by decide)
theorem sqT_hidL {H : Hp} {F q : Addr} {l ys : List V} (hF : H F = some (.lst l)) (h : SqT K H q ys) : SqT K (hid [F] H) q ys := by
  rcases h with (h | ⟨o, h⟩) | h
  · exact .inl (.inl (hid_at h (by intro hm; rw [List.mem_singleton.mp hm, hF] at h; cases h)))
  · exact .inl (.inr ⟨o, hid_at h (by intro hm; rw [List.mem_singleton.mp hm, hF] at h; cases h)⟩)
  · exact .inr h
theorem v_catA {H : Hp} {Q : VK} {c q : Addr} {x : V} {ys : List V} (hq : SqT K H q ys) (hc : SqT K H c [x]) (hl : 1 + ys.length ≤ sizeLine) (h : ∀ p H', Same H H' → SqT K H' p (x :: ys) → Q (.ref p) H') : rCatA K (.ref c) (.ref q) H Q := by
  refine ⟨c, q, _, _, rfl, rfl, hc, hq, hl, (fun h => by cases h), fun _ he => ?_, fun _ _ c2 hc2 => ?_⟩
  · refine h c H (Same.refl _) ?_
    rw [he]
    exact hc
  · exact h c2 _ (same_new hc2) (sqT_of upd_same)
theorem cutS_to (t : Str) (i : Nat) : cutS t none (some (i : Int)) = mkS (t.cps.toList.take i) := by
  rw [← cutS_take t i, mkS_of]
theorem op_inDK {X : Cx} {K : PySem.W.Frag} (h : X.K = K) (hu : X.A.units + 65 < cLine) : OpR X (compareOp .In) (rInD K) := by subst h; exact op_inD hu
theorem op_notInDK {X : Cx} {K : PySem.W.Frag} (h : X.K = K) (hu : X.A.units + 65 < cLine) : OpR X (compareOp .NotIn) (rNotInD K) := by subst h; exact op_notInD hu
theorem u65 {k : Nat} {A : Around} (r : L2.Room k A) : A.units + 65 < cLine := by have := r.un; omega
theorem rows_tame {R : List (List PL.T)} (h : ∀ r ∈ R, RowOk r) : SeqAt.shaped (rowsD R) = true := by
  refine Tame.shaped (k := 2) (tame_list fun e he => ?_) (by decide)
  obtain ⟨r, hr, rfl⟩ := List.mem_map.mp he
  refine tame_tuple fun x hx => ?_
  obtain ⟨y, hy, rfl⟩ := List.mem_map.mp hx
  obtain ⟨u, hu, rfl⟩ := List.mem_map.mp hy
  exact tame_str fun c hc => by
    rw [mkS_cps] at hc
    exact ((h r hr).2 u hu).2 c hc
/-- a text over z of at most n letters -/
def TextOk (z : Str) (n : Nat) (t : Str) : Prop := t.cps.toList.length ≤ n ∧ ∀ c ∈ t.cps.toList, c ∈ z.cps.toList
theorem TextOk.mono {z t : Str} {m n : Nat} (h : TextOk z m t) (q : m ≤ n) : TextOk z n t := ⟨Nat.le_trans h.1 q, h.2⟩
theorem TextOk.app {z t u : Str} {m n : Nat} (h : TextOk z m t) (q : TextOk z n u) : TextOk z (m + n) (t ++ u) := by
  constructor
  · rw [app_cps, List.length_append]
    have := h.1
    have := q.1
    omega
  · intro c hc
    rw [app_cps] at hc
    rcases List.mem_append.mp hc with hc | hc
    · exact h.2 c hc
    · exact q.2 c hc
/-- the first foreign sign of a text -/
def Foreign (z t : Str) (i c : Nat) : Prop := t.cps.toList[i]? = some c ∧ c ∉ z.cps.toList ∧ ∀ j d, j < i → t.cps.toList[j]? = some d → d ∈ z.cps.toList
theorem keep_nl {H : Hp} {M : List Addr} (hM : ∀ m ∈ M, ∃ xs, H m = some (.lst xs)) {p : Addr} {o : HO} (hp : H p = some o) (ho : ∀ xs, o ≠ .lst xs) : PH.hid M H p = some o := hid_at hp fun hm => by
  obtain ⟨xs, e⟩ := hM p hm
  rw [hp] at e
  injection e with e
  exact ho xs e
theorem WordsAt.hidL {H : Hp} {M : List Addr} {a : Addr} {z : Str} {ws : List Str} (h : WordsAt K H a z ws) (hM : ∀ m ∈ M, ∃ xs, H m = some (.lst xs)) : WordsAt K (PH.hid M H) a z ws := by
  obtain ⟨al, fu, dx, fp, kn, fs, kvs, w1, w2, w3, w4, w5, w6, w7, w8, w9⟩ := h
  exact ⟨al, fu, dx, fp, kn, fs, kvs, keep_nl hM w1 (fun _ e => nomatch e), w2, w3, w4, w5, w6, keep_nl hM w7 (fun _ e => nomatch e), keep_nl hM w8 (fun _ e => nomatch e), w9⟩
theorem WordsL.hidL {H : Hp} {M : List Addr} {a : Addr} {z : Str} {ws : List Str} (h : WordsL K H a z ws) (hM : ∀ m ∈ M, ∃ xs, H m = some (.lst xs)) : WordsL K (PH.hid M H) a z ws := by
  obtain ⟨dx, fs, m, h1, h2⟩ := h
  exact ⟨dx, fs, m, keep_nl hM h1 (fun _ e => nomatch e), h2⟩
theorem CostsAt.hidL {H : Hp} {M : List Addr} {a wa : Addr} {z : Str} {ws : List Str} {cs : List Int} (h : CostsAt K H a wa z ws cs) (hM : ∀ m ∈ M, ∃ xs, H m = some (.lst xs)) : CostsAt K (PH.hid M H) a wa z ws cs := by
  obtain ⟨hw, len, bd, dx', cp, pr, fs', kvs', h1, h2, h3, h4, h5, h6, h7, h8⟩ := h
  refine ⟨hw.hidL hM, len, bd, dx', cp, pr, fs', kvs', keep_nl hM h1 (fun _ e => nomatch e), h2, h3, h4, h5, ?_, keep_nl hM h7 (fun _ e => nomatch e), h8⟩
  rcases h6 with h6 | h6
  · left
    rcases h6 with h6 | ⟨o, h6⟩
    · left
      have n : cp ∉ [a] := fun hm => by rw [hid_none hm] at h6; cases h6
      exact hid_at (keep_nl hM (hid_sub _ _ h6) (fun _ e => nomatch e)) n
    · right
      have n : cp ∉ [a] := fun hm => by rw [hid_none hm] at h6; cases h6
      exact ⟨o, hid_at (keep_nl hM (hid_sub _ _ h6) (fun _ e => nomatch e)) n⟩
  · exact .inr h6
theorem sub_len : ∀ (l m : List Nat), l.Nodup → (∀ x ∈ l, x ∈ m) → l.length ≤ m.length
  | [], _, _, _ => Nat.zero_le _
  | x :: l, m, hn, h => by
    have hx := h x List.mem_cons_self
    obtain ⟨h1, h2⟩ := List.nodup_cons.mp hn
    have q := sub_len l (m.erase x) h2 fun y hy => by
      have ne : y ≠ x := fun e => h1 (e ▸ hy)
      exact (List.mem_erase_of_ne ne).2 (h y (List.mem_cons_of_mem _ hy))
    rw [List.length_erase_of_mem hx] at q
    have : 0 < m.length := List.length_pos_of_mem hx
    rw [List.length_cons]
    omega
/-- the signs that may be foreign -/
def five : Str := Str.ofString "aZ~ 5"
theorem five_cps : five.cps.toList = [97, 90, 126, 32, 53] := by decide +kernel
def foreign (z : Str) : List Nat := five.cps.toList.filter fun c => !decide (c ∈ z.cps.toList)
theorem foreign_not {z : Str} {c : Nat} (h : c ∈ foreign z) : c ∉ z.cps.toList := by
  have q := (List.mem_filter.mp h).2
  intro hc
  rw [decide_eq_true hc] at q
  cases q
theorem foreign_five {z : Str} : (foreign z).length ≤ 5 := by
  refine Nat.le_trans (List.length_filter_le _ _) ?_
  rw [five_cps]
  exact Nat.le_refl _
theorem foreign_pos {z : Str} (al : AlphaOk z 4) : 0 < (foreign z).length := by
  rcases Nat.eq_zero_or_pos (foreign z).length with e | e
  · have hn := List.eq_nil_of_length_eq_zero e
    have q := sub_len five.cps.toList z.cps.toList (by rw [five_cps]; decide) fun c hc => by
      by_cases h : c ∈ z.cps.toList
      · exact h
      · have : c ∈ foreign z := List.mem_filter.mpr ⟨hc, by rw [decide_eq_false h]; rfl⟩
        rw [hn] at this
        cases this
    have := al.hi
    rw [five_cps] at q
    simp at q
    simp at this
    omega
  · exact e
theorem ws_row {ws : List Str} : ws.map V.str = rowV (ws.map fun x => x.cps.toList) := by
  unfold rowV
  rw [List.map_map]
  refine List.map_congr_left fun x _ => ?_
  show V.str x = V.str (mkS x.cps.toList)
  rw [mkS_of]
theorem ws_ok {z : Str} {ws : List Str} (al : AlphaOk z 4) (fu : FurtherOk z 10 6 ws) : RowOk (ws.map fun x => x.cps.toList) := by
  refine ⟨by rw [List.length_map]; have := fu.few; omega, fun u hu => ?_⟩
  obtain ⟨x, hx, rfl⟩ := List.mem_map.mp hu
  have q := fu.ok x hx
  exact ⟨q.hi, fun c hc => (al.sg c (q.ov c hc)).2⟩
end

end K80

namespace K80
open PySem PySem.Spec L2 PH
open C8 (tCut pss_cut)
section
variable {P : Program} {w : World} {K : PySem.W.Frag} {mg : Str → Option Value} {base : Heap}
def spLC (K : PySem.W.Frag) : Sp := fun vs H Q _ => ∃ (a : Addr) (z t : Str) (ws : List Str), vs = [.ref a, .str t] ∧ WordsAt K H a z ws ∧ WordsL K H a z ws ∧ t.cps.toList.length ≤ 10000 ∧ (∀ c ∈ t.cps.toList, c ∈ z.cps.toList) ∧
  ∀ (C : Addr) (cl : List Nat) (H' : Hp), H C = none → H' C = some (.lst (natV cl)) → cl.length = t.cps.toList.length + 1 → (∀ j, j ≤ t.cps.toList.length → PL.IsCnt (WW z ws) (t.cps.toList.drop j) (cl.getD j 0)) → Same H H' → Q (.ref C) H'
theorem ok_least_counts (T : Ev fa fx fn K mg base) : Dn P w K mg base 2 (He.ga K "least_counts") ["words", "text"] (spLC K) := by
  refine dn_of (d_least_counts T) sc_least_counts bo_least_counts (fun vs H Q E h => ?_) (fun cdv A outer s H vs Q E hr h => ?_)
  · obtain ⟨a, z, t, ws, rfl, _⟩ := h
    rfl
  · obtain ⟨a, z, t, ws, rfl, hw, hL, htl, hov, k⟩ := h
    have ⟨al, fu, dx, fp, kn, fs, kvs, h1, h2, h3, h4, h5, h6, h7, h8, h9⟩ := hw
    have hne : ∀ u, WW z ws u → u ≠ [] := fun u hu e => by
      have q := (allW_ok' al fu _ hu).1
      rw [mkS_cps, e] at q
      exact absurd q (by decide)
    have zl : t.length = t.cps.toList.length := tl_len
    refine ⟨_, (PSs.nox (pss_cons (ps_set (i := 2) sc_least_counts.nd rfl (.inr rfl) (pe_lc (own := [("_", 3)]) rfl sc_least_counts.nd (pi_range1 rfl (f_range T) (pa_cons (pe_op op_add (pe_callB (call_lenK (K := K) rfl) (by rfl) (f_len T) bb_len (pa_cons (pv 1) pa_nil)) pe_int) pa_nil)) (blkOk_by (own := [("_", 3)]) (N := ["words", "text", "counts", "_", "at", "size"]) (sc := defScope s_least_counts) (by decide +kernel)) (fun _ _ _ _ _ => (pg_name (i := 3) sc_least_counts.nd rfl (.inl rfl))) (fun _ _ _ _ _ => pts_nil) (fun _ _ _ _ _ => pe_int)))
      (pss_cons (ps_for PassesOwn.never rfl (pi_revR (by rfl) (f_reversed T) (prg_1 (by rfl) (f_range T) (pe_callB (call_lenK (K := K) rfl) (by rfl) (f_len T) bb_len (pa_cons (pv 1) pa_nil)))) (pg_name (i := 4) sc_least_counts.nd rfl (.inr rfl))
        (pss_one (ps_asg (pe_op op_add pe_int (pe_callB (cr_min rfl) (by rfl) (f_min T) bb_min (pa_cons (pe_lc (own := [("size", 5)]) rfl sc_least_counts.nd (pi_list (pe_m (ok_Words_lengths_ahead T) (hr.mono (by decide)) (cls_Words T) (me_Words_lengths_ahead T) passL (pv 0) (pa_cons (pv 1) (pa_cons (pv 4) pa_nil)))) (blkOk_by (own := [("size", 5)]) (N := ["words", "text", "counts", "_", "at", "size"]) (sc := defScope s_least_counts) (by decide +kernel)) (fun _ _ _ _ _ => (pg_name (i := 5) sc_least_counts.nd rfl (.inl rfl))) (fun _ _ _ _ _ => pts_nil) (fun _ _ _ _ _ => (pe_ix (ix_listK (K := K) rfl) (pv 2) (pe_op op_add (pv 4) (pv 5)) (fun _ _ => rfl)))) pa_nil))) (pg_sub (pv 2) (pv 4) set_list))))
      (pss_one (ps_ret (pv 2)))))), ?_⟩
    walk_at "cl"
    walk_at "y"
    refine v_lenS (small (by omega)) ?_
    walk_at "y"
    refine ⟨(t.length : Nat) + 1, rfl, by omega, by omega, fun C hC => ?_⟩
    rw [show (((t.length : Nat) : Int) + 1).toNat = t.cps.toList.length + 1 by omega]
    refine lc_it walk_range (fun i H' => Same H H' ∧ H' C = some (.lst (natV (List.replicate i 0)))) ?_ ?_ ?_ ?_
    · exact ⟨same_new hC, upd_same⟩
    · intros
      trivial
    · rintro i x H1 H2 hi ⟨hS, hd⟩ ⟨rfl, rfl⟩
      walk_at "y"
      refine ⟨rfl, ?_⟩
      walk_at "y"
      refine ⟨_, hd, smallL (by rw [natV_len, List.length_replicate]; omega), same_mut hS hC, ?_⟩
      rw [upd_same, List.replicate_succ', ← natV_snoc]
      rfl
    · rintro H1 ⟨hS1, hc1⟩
      walk_at "x"
      refine v_lenS (small (by omega)) ?_
      refine ⟨_, rfl, by omega, by omega, by omega, by omega, ?_⟩
      rw [show (((t.length : Nat) : Int) - 0).toNat = t.cps.toList.length by omega]
      refine for_it walk_rangeC (fun i σ' H' => (∃ x, σ' = [some (.ref a), some (.str t), some (.ref C), none, x, none]) ∧ Same H H' ∧ ∃ cl : List Nat, H' C = some (.lst (natV cl)) ∧ cl.length = t.cps.toList.length + 1 ∧ ∀ j, t.cps.toList.length - i ≤ j → j ≤ t.cps.toList.length → PL.IsCnt (WW z ws) (t.cps.toList.drop j) (cl.getD j 0)) ?_ ?_ ?_ ?_
      · refine ⟨⟨_, rfl⟩, hS1, _, hc1, List.length_replicate, fun j q1 q2 => ?_⟩
        have e : j = t.cps.toList.length := by omega
        subst e
        rw [List.drop_length]
        have e : (List.replicate (t.cps.toList.length + 1) 0).getD t.cps.toList.length 0 = 0 := by
          rw [List.getD_eq_getElem?_getD]
          simp
        rw [e]
        exact PL.cnt_nil
      · intros
        trivial
      · rintro i x σ' H2 H2' hi ⟨⟨x0, rfl⟩, hS2, cl, hc2, hcl, hcnt⟩ ⟨rfl, hx⟩
        obtain ⟨at_, hati⟩ : ∃ at_ : Nat, at_ = t.cps.toList.length - 1 - i := ⟨_, rfl⟩
        obtain rfl : x = .int (at_ : Int) := hx.trans (congrArg V.int (by omega))
        walk_at "y"
        refine ⟨a, dx, fs, rfl, hS2 _ _ h1, WordsL.la hL h1, ?_⟩
        walk_at "y"
        refine ⟨a, z, t, ws, at_, rfl, hw.same hS2, hL.same hS2, by omega, htl, fun L ss H3 hLn hL3 hmem hdown hsl hS3 => ?_⟩
        obtain ⟨s, rest, rfl, hs1, hs2⟩ := head_max hmem hdown (pre_one (ws := ws) hov (by omega : at_ < t.cps.toList.length))
        have hss := fun s hs => (hmem s).1 hs
        generalize hssg : s :: rest = ss at *
        have hin : ∀ q ∈ ss, 1 ≤ q ∧ at_ + q ≤ t.cps.toList.length := fun q hq => by
          have p := hss q hq
          have p1 := p.1
          rw [List.length_drop] at p1
          refine ⟨?_, by omega⟩
          rcases Nat.eq_zero_or_pos q with e | e
          · rw [e] at p
            exact absurd rfl (hne _ p.2)
          · exact e
        refine ⟨L, rfl, ⟨_, sqL_of hL3⟩, fun D hD => ?_⟩
        have hc3 := hS3 _ _ hc2
        have hCD : C ≠ D := ne_of_none hc3 hD
        refine lc_it (walk_list (xs := natV ss)) (fun j H' => Same H3 H' ∧ H' D = some (.lst (natV ((ss.take j).map fun s => cl.getD (at_ + s) 0)))) ?_ ?_ ?_ ?_
        · exact ⟨same_new hD, upd_same⟩
        · rintro j H' _ ⟨h, _⟩
          exact sqL_of (h _ _ hL3)
        · rintro j x H4 H5 hj ⟨hS4, hd4⟩ ⟨rfl, hx⟩
          rw [natV_len] at hj
          rw [natV_at hj] at hx
          cases hx
          obtain ⟨b1, b2⟩ := hin (ss.getD j 0) (by rw [List.getD_eq_getElem?_getD, List.getElem?_eq_getElem hj]; exact List.getElem_mem hj)
          walk_at "y"
          refine ⟨rfl, ?_⟩
          walk_at "y"
          rw [show (at_ : Int) + ((ss.getD j 0 : Nat) : Int) = ((at_ + ss.getD j 0 : Nat) : Int) by omega]
          refine v_ixL (v := .int (cl.getD (at_ + ss.getD j 0) 0 : Nat)) (sqL_of (hS4 _ _ hc3)) (atI_nat (natV_at (by omega))) ?_
          refine ⟨_, hd4, smallL (by rw [natV_len, List.length_map, List.length_take]; omega), same_mut hS4 hD, ?_⟩
          rw [upd_same, List.take_succ, List.getElem?_eq_getElem hj, List.map_append, natV_snoc, show ss.getD j 0 = ss[j] by rw [List.getD_eq_getElem?_getD, List.getElem?_eq_getElem hj]; rfl]
          rfl
        · rintro H4 ⟨hS4, hd4⟩
          rw [natV_len, List.take_length, natV_int] at hd4
          refine ⟨D, _, rfl, sqL_of hd4, ?_, fun m hm hmin => ?_⟩
          · rw [List.length_map, List.length_map, ← hssg]
            exact Nat.succ_pos _
          · obtain ⟨c, hcm, rfl⟩ := List.mem_map.mp hm
            obtain ⟨q, hq, rfl⟩ := List.mem_map.mp hcm
            obtain ⟨b1, b2⟩ := hin q hq
            have hc4 := hS4 _ _ hc3
            have hstep : PL.IsCnt (WW z ws) (t.cps.toList.drop at_) (1 + cl.getD (at_ + q) 0) := by
              have hc' : ∀ s, PL.Pre (WW z ws) (t.cps.toList.drop at_) s → PL.IsCnt (WW z ws) ((t.cps.toList.drop at_).drop s) (cl.getD (at_ + s) 0) := fun s hs => by
                obtain ⟨d1, d2⟩ := hin s ((hmem s).2 hs)
                rw [List.drop_drop]
                exact hcnt _ (by omega) (by omega)
              refine PL.cnt_step hne ?_ ⟨q, _, hss q hq, hc' q (hss q hq), rfl⟩ (fun s c hs hc => ?_) (fun s hs => ⟨_, hc' s hs⟩)
              · intro e
                have := congrArg List.length e
                rw [List.length_drop, List.length_nil] at this
                omega
              · rw [PL.cnt_unique hc (hc' s hs)]
                have := hmin _ (List.mem_map.mpr ⟨_, List.mem_map.mpr ⟨s, (hmem s).2 hs, rfl⟩, rfl⟩)
                omega
            walk_at "y"
            rw [show (1 : Int) + ((cl.getD (at_ + q) 0 : Nat) : Int) = ((1 + cl.getD (at_ + q) 0 : Nat) : Int) by omega]
            refine v_setL hc4 (j := at_) ?_ ?_
            · rw [natV_len]
              exact ixN_nat' (by omega)
            rw [natV_set]
            refine ⟨⟨_, rfl⟩, same_mut (hS2.trans (hS3.trans hS4)) hC, _, upd_same, by rw [List.length_set]; exact hcl, fun j q1 q2 => ?_⟩
            rw [getD_set (by omega)]
            by_cases e : at_ = j
            · rw [if_pos e, ← e]
              exact hstep
            · rw [if_neg e]
              exact hcnt j (by omega) q2
      · rintro σ' H2 ⟨⟨x, rfl⟩, hS2, cl, hc2, hcl, hcnt⟩
        walk_at "y"
        exact k C cl H2 hC hc2 hcl (fun j hj => hcnt j (by omega) hj) hS2
theorem fewest_pick {W : PL.T → Prop} (hne : ∀ u, W u → u ≠ []) {t : PL.T} {at_ : Nat} (hat : at_ < t.length) {cl : List Nat} (hcnt : ∀ j, j ≤ t.length → PL.IsCnt W (t.drop j) (cl.getD j 0)) {ss : List Nat} (hmem : ∀ s, s ∈ ss ↔ PL.Pre W (t.drop at_) s) (hdown : ss.Pairwise (· > ·)) :
    ∃ s rest, (ss.filter fun s => decide (cl.getD (at_ + s) 0 + 1 = cl.getD at_ 0)) = s :: rest ∧ PL.Pre W (t.drop at_) s ∧ ∀ b, PL.IsBest W ((t.drop at_).drop s) b → PL.IsBest W (t.drop at_) ((t.drop at_).take s :: b) := by
  have hpl : ∀ s, PL.Pre W (t.drop at_) s → at_ + s ≤ t.length := fun s hs => by
    have p1 := hs.1
    rw [List.length_drop] at p1
    omega
  have hc' : ∀ s, PL.Pre W (t.drop at_) s → PL.IsCnt W ((t.drop at_).drop s) (cl.getD (at_ + s) 0) := fun s hs => by
    rw [List.drop_drop]
    exact hcnt _ (hpl s hs)
  have hm : ∀ s, s ∈ (ss.filter fun s => decide (cl.getD (at_ + s) 0 + 1 = cl.getD at_ 0)) ↔ PL.Pre W (t.drop at_) s ∧ cl.getD (at_ + s) 0 + 1 = cl.getD at_ 0 := fun s => by
    rw [List.mem_filter, hmem, decide_eq_true_eq]
  have hx : ∃ x, PL.Pre W (t.drop at_) x ∧ cl.getD (at_ + x) 0 + 1 = cl.getD at_ 0 := by
    obtain ⟨⟨r, hr, hl⟩, hmin⟩ := hcnt at_ (by omega)
    cases r with
    | nil =>
      have e := congrArg List.length hr.1
      rw [List.flatten_nil, List.length_drop, List.length_nil] at e
      omega
    | cons u o =>
      obtain ⟨hp, eu⟩ := PL.pre_of hr
      obtain ⟨_, _, ho⟩ := PL.row_inv hr
      refine ⟨u.length, hp, ?_⟩
      obtain ⟨⟨r2, hr2, hl2⟩, hmin2⟩ := hc' _ hp
      have q1 := hmin2 o ho
      have q2 := hmin _ (PL.row_step hp.1 hp.2 hr2)
      rw [List.length_cons] at hl q2
      omega
  obtain ⟨x, hx⟩ := hx
  obtain ⟨s, rest, e, hs, hmax⟩ := head_max hm (hdown.filter _) hx
  refine ⟨s, rest, e, hs.1, fun b hb => ?_⟩
  refine PL.best_step (c := cl.getD (at_ + s) 0) ?_ hs.1 (hc' s hs.1) (fun s' hs' hcs' => ?_) hb
  · rw [hs.2]
    exact hcnt at_ (by omega)
  · refine hmax s' ⟨hs', ?_⟩
    rw [PL.cnt_unique (hc' s' hs') hcs']
    exact hs.2
def spFe (K : PySem.W.Frag) : Sp := fun vs H Q E => ∃ (a : Addr) (z t : Str) (ws : List Str), vs = [.ref a, .str t] ∧ WordsAt K H a z ws ∧ WordsL K H a z ws ∧ t.cps.toList.length ≤ 10000 ∧
  (((∀ c ∈ t.cps.toList, c ∈ z.cps.toList) ∧ ∀ (q : Addr) (r : List PL.T) (H' : Hp), Same H H' → SqT K H' q (r.map fun u => V.str (mkS u)) → PL.IsBest (WW z ws) t.cps.toList r → Q (.ref q) H') ∨
   ∃ i c, Foreign z t i c ∧ ∀ dd H', Same H H' → H' dd = none → E (.ref (He.ga K "UnknownSign")) (some dd) (upd H' dd (.xd [("at", .int (i : Int)), ("sign", .str (s1 c))])))
theorem ok_fewest (T : Ev fa fx fn K mg base) : Dn P w K mg base 4 (He.ga K "fewest") ["words", "text"] (spFe K) := by
  refine dn_of (d_fewest T) sc_fewest bo_fewest (fun vs H Q E h => ?_) (fun cdv A outer s H vs Q E hr h => ?_)
  · obtain ⟨a, z, t, ws, rfl, _⟩ := h
    rfl
  · obtain ⟨a, z, t, ws, rfl, hw, hL, htl, h⟩ := h
    have ⟨al, fu, dx, fp, kn, fs, kvs, h1, h2, h3, h4, h5, h6, h7, h8, h9⟩ := hw
    have hne := WW_ne al fu
    have zl : t.length = t.cps.toList.length := tl_len
    refine ⟨_, (pss_cons (ps_expr (pe_d (ok_check_letters T) (hr.mono (by decide)) (g_check_letters T) (passes_call (takes_of rfl rfl rfl rfl) (fun _ _ _ _ h => h)) (pa_cons (pe_fldK (K := K) rfl (pv 0) rfl) (pa_cons (pv 1) pa_nil))))
      (pss_cons (ps_set (i := 2) sc_fewest.nd rfl (.inr rfl) (pe_d (ok_least_counts T) (hr.mono (by decide)) (g_least_counts T) passL (pa_cons (pv 0) (pa_cons (pv 1) pa_nil))))
      (pss_cons (ps_set (i := 3) sc_fewest.nd rfl (.inl rfl) (pe_lst pa_nil))
      (pss_cons (ps_set (i := 4) sc_fewest.nd rfl (.inr rfl) pe_int)
      (pss_cons (ps_while (passes_of rfl) (pt_cmpR op_lt (pv 4) (pe_callB (call_lenK (K := K) rfl) (by rfl) (f_len T) bb_len (pa_cons (pv 1) pa_nil)) (nomark _))
        (pss_cons (ps_setLc (i := 5) (own := [("size", 6)]) rfl sc_fewest.nd rfl rfl (sw_true rfl rfl rfl (by decide +kernel)) (pi_list (pe_m (ok_Words_lengths_ahead T) (hr.mono (by decide)) (cls_Words T) (me_Words_lengths_ahead T) passL (pv 0) (pa_cons (pv 1) (pa_cons (pv 4) pa_nil)))) (blkOk_by (own := [("size", 6)]) (N := ["words", "text", "counts", "row", "at", "sizes", "size"]) (sc := defScope s_fewest) (by decide +kernel)) (fun _ _ _ _ _ => (pg_name (i := 6) sc_fewest.nd rfl (.inl rfl))) (fun _ _ _ _ _ => pts_one (pt_cmpR op_eq (pe_op op_add (pe_ix (ix_listK (K := K) rfl) (pv 2) (pe_op op_add (pv 4) (pv 6)) (fun _ _ => rfl)) pe_int) (pe_ix (ix_listK (K := K) rfl) (pv 2) (pv 4) (fun _ _ => rfl)) (nomark _))) (fun _ _ _ _ _ => (pv 6)))
      (pss_cons (ps_expr (pe_bmK (K := K) rfl PySem.F.plainAttrs_list PySem.F.slot_list_append PySem.F.type_list_append mt_append (pv 3) (pa_cons (pe_slice sl_str (pv 1) (po_some (pv 4)) (po_some (pe_op op_add (pv 4) (pe_ix (ix_listK (K := K) rfl) (pv 5) pe_int (fun _ _ => rfl))))) pa_nil)))
      (pss_one (ps_set (i := 4) sc_fewest.nd rfl (.inr rfl) (pe_op op_add (pv 4) (pe_ix (ix_listK (K := K) rfl) (pv 5) pe_int (fun _ _ => rfl))))))))
      (pss_one (ps_ret (pe_callTy call_tuple_of (by rfl) (f_tuple T) bb_tuple (pa_cons (pv 3) pa_nil))))))))), ?_⟩
    walk_at "cl"
    walk_at "y"
    refine ⟨_, _, _, _, _, rfl, h1, (cls_Words T), (no_Words_alphabet T), h2, ?_⟩
    walk_at "y"
    rcases h with ⟨hov, k⟩ | ⟨i, c, hf, k⟩
    · refine ⟨z, t, rfl, .inl ⟨hov, fun H1 hS1 => ?_⟩⟩
      walk_at "y"
      refine ⟨a, z, t, ws, rfl, hw.same hS1, hL.same hS1, htl, hov, fun C cl H1' hC hc1 hcl hcnt hS1' => ?_⟩
      replace hS1 := hS1.trans hS1'
      walk_at "y"
      refine ⟨Nat.zero_le _, fun rw hrw => ?_⟩
      have nrw := none_same hS1 hrw
      have nCr : C ≠ rw := ne_of_none hc1 hrw
      walk_at "y"
      refine whl_by (fun m σ' H' => ∃ (at_ : Nat) (y y6 : Option V) (r : List PL.T), m = t.cps.toList.length - at_ ∧ at_ ≤ t.cps.toList.length ∧ σ' = [some (.ref a), some (.str t), some (.ref C), some (.ref rw), some (.int (at_ : Int)), y, y6] ∧ H' rw = some (.lst (r.map fun u => V.str (mkS u))) ∧ Same H1' H' ∧
        r.length ≤ at_ ∧ ∀ b, PL.IsBest (WW z ws) (t.cps.toList.drop at_) b → PL.IsBest (WW z ws) t.cps.toList (r ++ b)) ?_ ?_
      · exact ⟨_, 0, none, none, [], rfl, Nat.zero_le _, rfl, upd_same, same_new hrw, Nat.le_refl _, fun b hb => hb⟩
      · rintro m σ' H2 ⟨at_, y, y6, r, rfl, hat, rfl, hr2, hS2, hrl, hbest⟩
        have hc2 := hS2 _ _ hc1
        walk_at "y"
        refine v_lenS (small (by omega)) ?_
        walk_at "y"
        refine if_dec (fun c => ?_) (fun c => ?_)
        · refine go_on ?_
          walk_at "y"
          refine ⟨a, dx, fs, rfl, (hS1.trans hS2) _ _ h1, WordsL.la hL h1, ?_⟩
          walk_at "y"
          refine ⟨a, z, t, ws, at_, rfl, hw.same (hS1.trans hS2), hL.same (hS1.trans hS2), hat, htl, fun L ss H3 hLn hL3 hmem hdown hsl hS3 => ?_⟩
          have hc3 := hS3 _ _ hc2
          have hin : ∀ q ∈ ss, at_ + q ≤ t.cps.toList.length := fun q hq => by
            have p1 := ((hmem q).1 hq).1
            rw [List.length_drop] at p1
            omega
          refine ⟨L, rfl, ⟨_, sqL_of hL3⟩, fun D hD => ?_⟩
          refine lc_it (walk_list (xs := natV ss)) (fun j H' => Same H3 H' ∧ H' D = some (.lst (natV ((ss.take j).filter fun s => decide (cl.getD (at_ + s) 0 + 1 = cl.getD at_ 0))))) ?_ ?_ ?_ ?_
          · exact ⟨same_new hD, upd_same⟩
          · rintro j H' _ ⟨h, _⟩
            exact sqL_of (h _ _ hL3)
          · rintro j x H4 H5 hj ⟨hS4, hd4⟩ ⟨rfl, hx⟩
            rw [natV_len] at hj
            rw [natV_at hj] at hx
            cases hx
            have ej : ss.getD j 0 = ss[j] := by rw [List.getD_eq_getElem?_getD, List.getElem?_eq_getElem hj]; rfl
            have b2 := hin (ss.getD j 0) (by rw [ej]; exact List.getElem_mem hj)
            walk_at "y"
            refine ⟨rfl, ?_⟩
            walk_at "y"
            rw [show (at_ : Int) + ((ss.getD j 0 : Nat) : Int) = ((at_ + ss.getD j 0 : Nat) : Int) by omega]
            refine v_ixL (v := .int (cl.getD (at_ + ss.getD j 0) 0 : Nat)) (sqL_of (hS4 _ _ hc3)) (atI_nat (natV_at (by omega))) ?_
            walk_at "y"
            refine v_ixL (v := .int (cl.getD at_ 0 : Nat)) (sqL_of (hS4 _ _ hc3)) (atI_nat (natV_at (by omega))) ?_
            walk_at "y"
            have hlen4 : ((ss.take j).filter fun s => decide (cl.getD (at_ + s) 0 + 1 = cl.getD at_ 0)).length < 16000000 := by
              have q1 := List.length_filter_le (fun s => decide (cl.getD (at_ + s) 0 + 1 = cl.getD at_ 0)) (ss.take j)
              have q2 : (ss.take j).length ≤ ss.length := List.length_take_le' ..
              omega
            refine if_dec (fun c => ?_) (fun c => ?_)
            · walk_at "y"
              refine ⟨_, hd4, smallL (by rw [natV_len]; exact hlen4), same_mut hS4 hD, ?_⟩
              rw [upd_same, List.take_succ, List.getElem?_eq_getElem hj, List.filter_append, ← ej, natV_snoc]
              show _ = some (HO.lst (natV (_ ++ List.filter _ [ss.getD j 0])))
              rw [List.filter_cons, if_pos (decide_eq_true (by omega))]
              rfl
            · refine ⟨hS4, ?_⟩
              rw [hd4, List.take_succ, List.getElem?_eq_getElem hj, List.filter_append, ← ej]
              show _ = some (HO.lst (natV (_ ++ List.filter _ [ss.getD j 0])))
              rw [List.filter_cons, if_neg (by rw [decide_eq_true_eq]; omega), List.filter_nil, List.append_nil]
          · rintro H4 ⟨hS4, hd4⟩
            rw [natV_len, List.take_length] at hd4
            obtain ⟨s, rest, hsr, hs1, hstep⟩ := fewest_pick hne (by omega) (fun j hj => hcnt j hj) hmem hdown
            rw [hsr] at hd4
            have hs3 := hs1.1
            rw [List.length_drop] at hs3
            have hs4 : 1 ≤ s := by
              rcases Nat.eq_zero_or_pos s with e | e
              · rw [e] at hs1
                exact absurd rfl (hne _ hs1.2)
              · exact e
            have hr4 := hS4 _ _ (hS3 _ _ hr2)
            walk_at "y"
            refine ⟨ty_list (sqL_of hr4), ?_⟩
            walk_at "y"
            refine v_ixL (v := .int (s : Int)) (sqL_of hd4) (atI_nat rfl) ?_
            walk_at "y"
            refine ⟨t, rfl, small (by omega), ?_⟩
            rw [show (at_ : Int) + (s : Int) = ((at_ + s : Nat) : Int) by omega, cutS_mid t at_ (at_ + s) (by omega), show at_ + s - at_ = s by omega]
            walk_at "y"
            refine v_append hr4 (smallL (by rw [List.length_map]; omega)) ?_
            have hDr : rw ≠ D := ne_of_none (hS3 _ _ hr2) hD
            walk_at "y"
            refine v_ixL (v := .int (s : Int)) (xs := natV (s :: rest)) (sqL_of (by rw [upd_ne hDr.symm]; exact hd4)) (atI_nat rfl) ?_
            walk_at "y"
            refine ⟨_, by omega, at_ + s, some (.ref D), y6, r ++ [(t.cps.toList.drop at_).take s], rfl, by omega, ?_, ?_, same_mut (hS2.trans (hS3.trans hS4)) hrw, ?_, fun b hb => ?_⟩
            · rw [show ((at_ + s : Nat) : Int) = (at_ : Int) + (s : Int) by omega]
              rfl
            · rw [upd_same, List.map_append]
              rfl
            · rw [List.length_append, List.length_singleton]
              omega
            · rw [List.append_assoc]
              refine hbest _ (hstep b ?_)
              rw [List.drop_drop]
              exact hb
        · have e : at_ = t.cps.toList.length := by omega
          subst e
          walk_at "y"
          refine ⟨rw, _, rfl, .inl ⟨sqL_of hr2, fun q hq => ?_⟩⟩
          have hb := hbest [] (by rw [List.drop_length]; exact PL.best_nil hne)
          rw [List.append_nil] at hb
          exact k q r _ (same_upd (hS1.trans hS2) hq) (sqT_of upd_same) hb
    · refine ⟨z, t, rfl, .inr ⟨i, c, hf.1, hf.2.1, hf.2.2, fun dd H' hS hdd => ?_⟩⟩
      exact k dd H' hS hdd
/-- the price of a word -/
def prW (z : Str) (ws : List Str) (cs : List Int) : PL.T → Nat := PL.prc (wl z ws) (cs.map Int.toNat)
theorem prW_at {z : Str} {ws : List Str} {cs : List Int} (al : AlphaOk z 4) (fu : FurtherOk z 10 6 ws) (hbd : ∀ c ∈ cs, 1 ≤ c ∧ c ≤ 9) {i : Nat} {u : PL.T} {c : Int} (h1 : (wl z ws)[i]? = some u) (h2 : cs[i]? = some c) : ((prW z ws cs u : Nat) : Int) = c := by
  have q := PL.prc_at (wl_nodup al fu) h1 (show (cs.map Int.toNat)[i]? = some c.toNat by rw [List.getElem?_map, h2]; rfl)
  unfold prW
  rw [q]
  have := hbd c (List.mem_of_getElem? h2)
  omega
theorem prW_le {z : Str} {ws : List Str} {cs : List Int} (hbd : ∀ c ∈ cs, 1 ≤ c ∧ c ≤ 9) (u : PL.T) : prW z ws cs u ≤ 9 := PL.prc_le u fun c hc => by
  obtain ⟨d, hd, rfl⟩ := List.mem_map.mp hc
  have := hbd d hd
  omega
/-- sizes with prices -/
def PairsC (H : Hp) (ps : List Addr) (ss : List Nat) (f : Nat → Nat) : Prop := ps.length = ss.length ∧ ∀ (i : Nat) (h : i < ss.length), ∃ p, ps[i]? = some p ∧ H p = some (.tup [.int (ss[i] : Nat), .int (f ss[i] : Nat)])
theorem PairsC.same {H H' : Hp} {ps : List Addr} {ss : List Nat} {f : Nat → Nat} (e : Same H H') (h : PairsC H ps ss f) : PairsC H' ps ss f :=
  ⟨h.1, fun i hi => by obtain ⟨p, h1, h2⟩ := h.2 i hi; exact ⟨p, h1, e _ _ h2⟩⟩
theorem PairsC.snoc {H H' : Hp} {ps : List Addr} {ss : List Nat} {f : Nat → Nat} {p : Addr} {s : Nat} (h : PairsC H ps ss f) (e : Same H H') (hp : H' p = some (.tup [.int (s : Nat), .int (f s : Nat)])) : PairsC H' (ps ++ [p]) (ss ++ [s]) f := by
  refine ⟨by rw [List.length_append, List.length_append, h.1]; rfl, fun i hi => ?_⟩
  rw [List.length_append, List.length_singleton] at hi
  by_cases q : i < ss.length
  · obtain ⟨p', h1, h2⟩ := h.2 i q
    refine ⟨p', ?_, ?_⟩
    · rw [List.getElem?_append_left (by rw [h.1]; exact q)]
      exact h1
    · rw [List.getElem_append_left q]
      exact e _ _ h2
  · obtain rfl : i = ss.length := by omega
    refine ⟨p, ?_, ?_⟩
    · rw [List.getElem?_append_right (by rw [h.1]; exact Nat.le_refl _), h.1, Nat.sub_self]
      rfl
    · rw [List.getElem_append_right (Nat.le_refl _)]
      simpa using hp
theorem PairsC.put {H : Hp} {ps : List Addr} {ss : List Nat} {f : Nat → Nat} {D : Addr} {l : List V} {o : HO} (h : PairsC H ps ss f) (hd : H D = some (.lst l)) : PairsC (upd H D o) ps ss f :=
  ⟨h.1, fun i hi => by
    obtain ⟨p, h1, h2⟩ := h.2 i hi
    refine ⟨p, h1, ?_⟩
    rw [upd_ne (fun e => by rw [e, hd] at h2; cases h2)]
    exact h2⟩
def spPL (K : PySem.W.Frag) : Sp := fun vs H Q _ => ∃ (a wa : Addr) (z t : Str) (ws : List Str) (cs : List Int) (at_ : Nat), vs = [.ref a, .str t, .int (at_ : Int)] ∧ CostsAt K H a wa z ws cs ∧ WordsL K H wa z ws ∧ at_ ≤ t.cps.toList.length ∧ t.cps.toList.length ≤ 10000 ∧
  ∀ (L : Addr) (ps : List Addr) (ss : List Nat) (H' : Hp), H L = none → H' L = some (.lst (ps.map V.ref)) → PairsC H' ps ss (fun s => prW z ws cs ((t.cps.toList.drop at_).take s)) → (∀ s, s ∈ ss ↔ PL.Pre (WW z ws) (t.cps.toList.drop at_) s) → ss.Pairwise (· > ·) → ss.length ≤ 6 → Same H H' → Q (.ref L) H'
theorem ok_priced_lengths (T : Ev fa fx fn K mg base) : Dn P w K mg base 2 (He.ga K "priced_lengths") ["costs", "text", "at"] (spPL K) := by
  refine dn_of (d_priced_lengths T) sc_priced_lengths bo_priced_lengths (fun vs H Q E h => ?_) (fun cdv A outer s H vs Q E hr h => ?_)
  · obtain ⟨a, wa, z, t, ws, cs, at_, rfl, _⟩ := h
    rfl
  · obtain ⟨a, wa, z, t, ws, cs, at_, rfl, hC, hL, hat, htl, k⟩ := h
    obtain ⟨hw, hlen, hbd, cdx, cp, pr, cfs, ckvs, g1, g2, g3, g4, g5, g6, g7, g8⟩ := hC
    have ⟨al, fu, dx, fp, kn, fs, kvs, h1, h2, h3, h4, h5, h6, h7, h8, h9⟩ := hw
    have zl : t.length = t.cps.toList.length := tl_len
    refine ⟨_, (PSs.nox (pss_one (ps_ret (pe_lc (own := [("size", 3)]) rfl sc_priced_lengths.nd (pi_list (pe_m (ok_Words_lengths_ahead T) (hr.mono (by decide)) (cls_Words T) (me_Words_lengths_ahead T) passL (pe_fldK (K := K) rfl (pv 0) rfl) (pa_cons (pv 1) (pa_cons (pv 2) pa_nil)))) (blkOk_by (own := [("size", 3)]) (N := ["costs", "text", "at", "size"]) (sc := defScope s_priced_lengths) (by decide +kernel)) (fun _ _ _ _ _ => (pg_name (i := 3) sc_priced_lengths.nd rfl (.inl rfl))) (fun _ _ _ _ _ => pts_nil) (fun _ _ _ _ _ => (pe_tup (pa_cons (pv 3) (pa_cons (pe_dget hr.hu (pe_fldK (K := K) rfl (pv 0) rfl) (pe_slice sl_str (pv 1) (po_some (pv 2)) (po_some (pe_op op_add (pv 2) (pv 3)))) (fun _ _ => rfl)) pa_nil)))))))), ?_⟩
    walk_at "cl"
    walk_at "y"
    refine ⟨_, _, _, _, _, rfl, g1, (cls_Costs T), (no_Costs_words T), g2, ?_⟩
    walk_at "y"
    refine ⟨wa, dx, fs, rfl, h1, WordsL.la hL h1, ?_⟩
    walk_at "y"
    refine ⟨wa, z, t, ws, at_, rfl, hw, hL, hat, htl, fun L ss H3 hLn hL3 hmem hdown hsl hS3 => ?_⟩
    refine ⟨L, rfl, ⟨_, sqL_of hL3⟩, fun D hD => ?_⟩
    have hHD : H D = none := none_same hS3 hD
    refine lc_it (walk_list (xs := natV ss)) (fun j H' => Same H3 H' ∧ ∃ ps : List Addr, H' D = some (.lst (ps.map V.ref)) ∧ PairsC H' ps (ss.take j) (fun s => prW z ws cs ((t.cps.toList.drop at_).take s))) ?_ ?_ ?_ ?_
    · exact ⟨same_new hD, [], upd_same, rfl, fun i hi => by simp at hi⟩
    · rintro j H' _ ⟨h, _⟩
      exact sqL_of (h _ _ hL3)
    · rintro j x H4 H5 hj ⟨hS4, ps, hd4, hps⟩ ⟨rfl, hx⟩
      rw [natV_len] at hj
      rw [natV_at hj] at hx
      cases hx
      have ej : ss.getD j 0 = ss[j] := by rw [List.getD_eq_getElem?_getD, List.getElem?_eq_getElem hj]; rfl
      have hp := (hmem (ss.getD j 0)).1 (by rw [ej]; exact List.getElem_mem hj)
      have hp1 := hp.1
      rw [List.length_drop] at hp1
      have hp2 : mkS ((t.cps.toList.drop at_).take (ss.getD j 0)) ∈ allW z ws := hp.2
      have hS04 := hS3.trans hS4
      walk_at "y"
      refine ⟨rfl, ?_⟩
      walk_at "y"
      refine ⟨_, _, _, _, _, rfl, hS04 _ _ g1, (cls_Costs T), (no_Costs_prices T), g4, ?_⟩
      walk_at "y"
      refine ⟨t, rfl, small (by omega), ?_⟩
      rw [show (at_ : Int) + ((ss.getD j 0 : Nat) : Int) = ((at_ + ss.getD j 0 : Nat) : Int) by omega, cutS_mid t at_ (at_ + ss.getD j 0) (by omega), show at_ + ss.getD j 0 - at_ = ss.getD j 0 by omega]
      refine ⟨pr, .int (prW z ws cs ((t.cps.toList.drop at_).take (ss.getD j 0)) : Nat), rfl, .inl ⟨ckvs, .inr (mkS ((t.cps.toList.drop at_).take (ss.getD j 0))), .inl (hS04 _ _ g7), rfl, ?_⟩, ?_⟩
      · obtain ⟨i, hi, ei⟩ := List.mem_iff_getElem.mp hp2
        rw [g8 i _ (by rw [List.getElem?_eq_getElem hi, ei])]
        have hic : i < cs.length := by rw [hlen]; exact hi
        have ec : cs.getD i 0 = cs[i] := by
          rw [List.getD_eq_getElem?_getD, List.getElem?_eq_getElem hic]
          rfl
        rw [ec]
        have hwi : (wl z ws)[i]? = some ((t.cps.toList.drop at_).take (ss.getD j 0)) := by
          unfold wl
          rw [List.getElem?_map, List.getElem?_eq_getElem hi, ei]
          show some (mkS _).cps.toList = _
          rw [mkS_cps]
        exact congrArg (fun x => some (V.int x)) (prW_at al fu hbd hwi (List.getElem?_eq_getElem hic))
      walk_at "y"
      refine ⟨small (show 2 ≤ 16000000 by decide), fun p hp => ?_⟩
      have hDp : D ≠ p := ne_of_none hd4 hp
      refine ⟨_, by rw [upd_ne hDp]; exact hd4, smallL (by rw [List.length_map, hps.1, List.length_take]; omega), same_mut (same_upd hS4 hp) hD, ps ++ [p], ?_, ?_⟩
      · rw [upd_same, List.map_append]
        rfl
      · refine PairsC.put (l := ps.map V.ref) ?_ (by rw [upd_ne hDp]; exact hd4)
        rw [List.take_succ, List.getElem?_eq_getElem hj, ← ej]
        exact hps.snoc (same_new hp) upd_same
    · rintro H4 ⟨hS4, ps, hd4, hps⟩
      rw [natV_len, List.take_length] at hps
      exact k D ps ss H4 hHD hd4 hps hmem hdown hsl (hS3.trans hS4)
end

end K80

namespace K80
open PySem PySem.Spec L2 PH
open C8 (tCut pss_cut)
section
variable {P : Program} {w : World} {K : PySem.W.Frag} {mg : Str → Option Value} {base : Heap}
theorem WW_eq {z : Str} {ws : List Str} : WW z ws = (· ∈ wl z ws) := funext fun u => propext (wl_iff u)
def spLCo (K : PySem.W.Frag) : Sp := fun vs H Q _ => ∃ (a wa : Addr) (z t : Str) (ws : List Str) (cs : List Int), vs = [.ref a, .str t] ∧ CostsAt K H a wa z ws cs ∧ WordsL K H wa z ws ∧ t.cps.toList.length ≤ 10000 ∧ (∀ c ∈ t.cps.toList, c ∈ z.cps.toList) ∧
  ∀ (C : Addr) (cl : List Nat) (H' : Hp), H C = none → H' C = some (.lst (natV cl)) → cl.length = t.cps.toList.length + 1 → (∀ j, j ≤ t.cps.toList.length → PL.IsMin (wl z ws) (prW z ws cs) (t.cps.toList.drop j) (cl.getD j 0)) → Same H H' → Q (.ref C) H'
theorem ok_least_costs (T : Ev fa fx fn K mg base) : Dn P w K mg base 3 (He.ga K "least_costs") ["costs", "text"] (spLCo K) := by
  refine dn_of (d_least_costs T) sc_least_costs bo_least_costs (fun vs H Q E h => ?_) (fun cdv A outer s H vs Q E hr h => ?_)
  · obtain ⟨a, wa, z, t, ws, cs, rfl, _⟩ := h
    rfl
  · obtain ⟨a, wa, z, t, ws, cs, rfl, hCo, hL, htl, hov, k⟩ := h
    have hw := hCo.wo
    have al := hw.al
    have fu := hw.fu
    have hne := WW_ne al fu
    have hne1 : ∀ w ∈ wl z ws, 1 ≤ w.length := fun w hw => (wl_six al fu w hw).1
    have zl : t.length = t.cps.toList.length := tl_len
    refine ⟨_, (PSs.nox (pss_cons (ps_set (i := 2) sc_least_costs.nd rfl (.inr rfl) (pe_lc (own := [("_", 3)]) rfl sc_least_costs.nd (pi_range1 rfl (f_range T) (pa_cons (pe_op op_add (pe_callB (call_lenK (K := K) rfl) (by rfl) (f_len T) bb_len (pa_cons (pv 1) pa_nil)) pe_int) pa_nil)) (blkOk_by (own := [("_", 3)]) (N := ["costs", "text", "least", "_", "at", "size", "cost"]) (sc := defScope s_least_costs) (by decide +kernel)) (fun _ _ _ _ _ => (pg_name (i := 3) sc_least_costs.nd rfl (.inl rfl))) (fun _ _ _ _ _ => pts_nil) (fun _ _ _ _ _ => pe_int)))
      (pss_cons (ps_for PassesOwn.never rfl (pi_revR (by rfl) (f_reversed T) (prg_1 (by rfl) (f_range T) (pe_callB (call_lenK (K := K) rfl) (by rfl) (f_len T) bb_len (pa_cons (pv 1) pa_nil)))) (pg_name (i := 4) sc_least_costs.nd rfl (.inr rfl))
        (pss_one (ps_asg (pe_callB (cr_min rfl) (by rfl) (f_min T) bb_min (pa_cons (pe_lc (own := [("size", 5), ("cost", 6)]) rfl sc_least_costs.nd (pi_list (pe_d (ok_priced_lengths T) (hr.mono (by decide)) (g_priced_lengths T) passL (pa_cons (pv 0) (pa_cons (pv 1) (pa_cons (pv 4) pa_nil))))) (blkOk_by (own := [("size", 5), ("cost", 6)]) (N := ["costs", "text", "least", "_", "at", "size", "cost"]) (sc := defScope s_least_costs) (by decide +kernel)) (fun _ _ _ _ _ => (pg_two (K := K) (i := 5) (j := 6) rfl rfl sc_least_costs.nd rfl rfl (.inl rfl) (.inl rfl))) (fun _ _ _ _ _ => pts_nil) (fun _ _ _ _ _ => (pe_op op_add (pv 6) (pe_ix (ix_listK (K := K) rfl) (pv 2) (pe_op op_add (pv 4) (pv 5)) (fun _ _ => rfl))))) pa_nil)) (pg_sub (pv 2) (pv 4) set_list))))
      (pss_one (ps_ret (pv 2)))))), ?_⟩
    walk_at "cl"
    walk_at "y"
    refine v_lenS (small (by omega)) ?_
    walk_at "y"
    refine ⟨(t.length : Nat) + 1, rfl, by omega, by omega, fun C hC => ?_⟩
    rw [show (((t.length : Nat) : Int) + 1).toNat = t.cps.toList.length + 1 by omega]
    refine lc_it walk_range (fun i H' => Same H H' ∧ H' C = some (.lst (natV (List.replicate i 0)))) ?_ ?_ ?_ ?_
    · exact ⟨same_new hC, upd_same⟩
    · intros
      trivial
    · rintro i x H1 H2 hi ⟨hS, hd⟩ ⟨rfl, rfl⟩
      walk_at "y"
      refine ⟨rfl, ?_⟩
      walk_at "y"
      refine ⟨_, hd, smallL (by rw [natV_len, List.length_replicate]; omega), same_mut hS hC, ?_⟩
      rw [upd_same, List.replicate_succ', ← natV_snoc]
      rfl
    · rintro H1 ⟨hS1, hc1'⟩
      walk_at "x"
      refine v_lenS (small (by omega)) ?_
      refine ⟨_, rfl, by omega, by omega, by omega, by omega, ?_⟩
      rw [show (((t.length : Nat) : Int) - 0).toNat = t.cps.toList.length by omega]
      refine for_it walk_rangeC (fun i σ' H' => (∃ x x5 x6, σ' = [some (.ref a), some (.str t), some (.ref C), none, x, x5, x6]) ∧ Same H H' ∧ ∃ cl : List Nat, H' C = some (.lst (natV cl)) ∧ cl.length = t.cps.toList.length + 1 ∧ ∀ j, t.cps.toList.length - i ≤ j → j ≤ t.cps.toList.length → PL.IsMin (wl z ws) (prW z ws cs) (t.cps.toList.drop j) (cl.getD j 0)) ?_ ?_ ?_ ?_
      · refine ⟨⟨_, _, _, rfl⟩, hS1, List.replicate (t.cps.toList.length + 1) 0, ?_, List.length_replicate, fun j q1 q2 => ?_⟩
        · exact hc1'
        have e : j = t.cps.toList.length := by omega
        subst e
        rw [List.drop_length]
        have e : (List.replicate (t.cps.toList.length + 1) 0).getD t.cps.toList.length 0 = 0 := by
          rw [List.getD_eq_getElem?_getD]
          simp
        rw [e]
        exact PL.min_nil hne1
      · intros
        trivial
      · rintro i x σ' H2 H2' hi ⟨⟨x0, x5, x6, rfl⟩, hS2, cl, hc2, hcl, hcnt⟩ ⟨rfl, hx⟩
        obtain ⟨at_, hati⟩ : ∃ at_ : Nat, at_ = t.cps.toList.length - 1 - i := ⟨_, rfl⟩
        obtain rfl : x = .int (at_ : Int) := hx.trans (congrArg V.int (by omega))
        walk_at "y"
        refine ⟨a, wa, z, t, ws, cs, at_, rfl, hCo.same hS2, hL.same hS2, by omega, htl, fun L ps ss H3 hLn hL3 hps hmem hdown hsl hS3 => ?_⟩
        obtain ⟨s, rest, rfl, hs1, hs2⟩ := head_max hmem hdown (pre_one (ws := ws) hov (by omega : at_ < t.cps.toList.length))
        have hss := fun s hs => (hmem s).1 hs
        generalize hssg : s :: rest = ss at *
        have hin : ∀ q ∈ ss, 1 ≤ q ∧ at_ + q ≤ t.cps.toList.length := fun q hq => by
          have p := hss q hq
          have p1 := p.1
          rw [List.length_drop] at p1
          refine ⟨?_, by omega⟩
          rcases Nat.eq_zero_or_pos q with e | e
          · rw [e] at p
            exact absurd rfl (hne _ p.2)
          · exact e
        refine ⟨L, rfl, ⟨_, sqL_of hL3⟩, fun D hD => ?_⟩
        have hc3 := hS3 _ _ hc2
        have hCD : C ≠ D := ne_of_none hc3 hD
        refine lc_it (walk_list (xs := ps.map V.ref)) (fun j H' => Same H3 H' ∧ H' D = some (.lst (natV ((ss.take j).map fun s => prW z ws cs ((t.cps.toList.drop at_).take s) + cl.getD (at_ + s) 0)))) ?_ ?_ ?_ ?_
        · exact ⟨same_new hD, upd_same⟩
        · rintro j H' _ ⟨h, _⟩
          exact sqL_of (h _ _ hL3)
        · rintro j x H4 H5 hj ⟨hS4, hd4⟩ ⟨rfl, hx⟩
          rw [List.length_map, hps.1] at hj
          obtain ⟨p, hp1, hp2⟩ := hps.2 j hj
          rw [List.getElem?_map, hp1] at hx
          cases hx
          obtain ⟨b1, b2⟩ := hin ss[j] (List.getElem_mem hj)
          walk_at "y"
          refine v_gtup (sqT_of (hS4 _ _ hp2)) rfl ?_
          walk_at "y"
          refine ⟨rfl, ?_⟩
          walk_at "y"
          rw [show (at_ : Int) + ((ss[j] : Nat) : Int) = ((at_ + ss[j] : Nat) : Int) by omega]
          refine v_ixL (v := .int (cl.getD (at_ + ss[j]) 0 : Nat)) (sqL_of (hS4 _ _ hc3)) (atI_nat (natV_at (by omega))) ?_
          walk_at "y"
          refine ⟨_, hd4, smallL (by rw [natV_len, List.length_map, List.length_take]; omega), same_mut hS4 hD, ?_⟩
          rw [upd_same, List.take_succ, List.getElem?_eq_getElem hj, List.map_append, show V.int (((prW z ws cs ((t.cps.toList.drop at_).take ss[j]) : Nat) : Int) + ((cl.getD (at_ + ss[j]) 0 : Nat) : Int)) = V.int ((prW z ws cs ((t.cps.toList.drop at_).take ss[j]) + cl.getD (at_ + ss[j]) 0 : Nat) : Int) from congrArg V.int (by omega), natV_snoc]
          rfl
        · rintro H4 ⟨hS4, hd4⟩
          rw [List.length_map, hps.1, List.take_length, natV_int] at hd4
          refine ⟨D, _, rfl, sqL_of hd4, ?_, fun m hm hmin => ?_⟩
          · rw [List.length_map, List.length_map, ← hssg]
            exact Nat.succ_pos _
          · obtain ⟨c', hcm, rfl⟩ := List.mem_map.mp hm
            obtain ⟨q, hq, rfl⟩ := List.mem_map.mp hcm
            obtain ⟨b1, b2⟩ := hin q hq
            have hc4 := hS4 _ _ hc3
            have hun : t.cps.toList.drop at_ ≠ [] := fun e => by
              have := congrArg List.length e
              rw [List.length_drop, List.length_nil] at this
              omega
            have hc' : ∀ s, PL.Pre (· ∈ wl z ws) (t.cps.toList.drop at_) s → PL.IsMin (wl z ws) (prW z ws cs) ((t.cps.toList.drop at_).drop s) (cl.getD (at_ + s) 0) := fun s hs => by
              obtain ⟨d1, d2⟩ := hin s ((hmem s).2 (by rw [WW_eq]; exact hs))
              rw [List.drop_drop]
              exact hcnt _ (by omega) (by omega)
            have hqp : PL.Pre (· ∈ wl z ws) (t.cps.toList.drop at_) q := by
              rw [← WW_eq]
              exact hss q hq
            have hstep : PL.IsMin (wl z ws) (prW z ws cs) (t.cps.toList.drop at_) (prW z ws cs ((t.cps.toList.drop at_).take q) + cl.getD (at_ + q) 0) := by
              refine PL.min_step hun ⟨q, _, hqp, hc' q hqp, rfl⟩ (fun s c1 hs hc => ?_) (fun s hs => ⟨_, hc' s hs⟩)
              rw [PL.min_unique hc (hc' s hs)]
              have := hmin _ (List.mem_map.mpr ⟨_, List.mem_map.mpr ⟨s, (hmem s).2 (by rw [WW_eq]; exact hs), rfl⟩, rfl⟩)
              omega
            walk_at "y"
            refine v_setL hc4 (j := at_) ?_ ?_
            · rw [natV_len]
              exact ixN_nat' (by omega)
            rw [natV_set]
            refine ⟨⟨_, _, _, rfl⟩, same_mut (hS2.trans (hS3.trans hS4)) hC, _, upd_same, by rw [List.length_set]; exact hcl, fun j q1 q2 => ?_⟩
            rw [getD_set (by omega)]
            by_cases e : at_ = j
            · rw [if_pos e, ← e]
              exact hstep
            · rw [if_neg e]
              exact hcnt j (by omega) q2
      · rintro σ' H2 ⟨⟨x, x5, x6, rfl⟩, hS2, cl, hc2, hcl, hcnt⟩
        walk_at "y"
        exact k C cl H2 hC hc2 hcl (fun j hj => hcnt j (by omega) hj) hS2
theorem best_pick {wl : List PL.T} {pr : PL.T → Nat} (hne : ∀ w ∈ wl, 1 ≤ w.length) {t : PL.T} {at_ : Nat} (hat : at_ < t.length) {cl : List Nat} (hcnt : ∀ j, j ≤ t.length → PL.IsMin wl pr (t.drop j) (cl.getD j 0)) {ss : List Nat} (hmem : ∀ s, s ∈ ss ↔ PL.Pre (· ∈ wl) (t.drop at_) s) (hdown : ss.Pairwise (· > ·)) :
    ∃ s rest, (ss.filter fun s => decide (pr ((t.drop at_).take s) + cl.getD (at_ + s) 0 = cl.getD at_ 0)) = s :: rest ∧ PL.Pre (· ∈ wl) (t.drop at_) s ∧ ∀ b, PL.IsTop wl pr ((t.drop at_).drop s) b → PL.IsTop wl pr (t.drop at_) ((t.drop at_).take s :: b) := by
  have hpl : ∀ s, PL.Pre (· ∈ wl) (t.drop at_) s → at_ + s ≤ t.length := fun s hs => by
    have p1 := hs.1
    rw [List.length_drop] at p1
    omega
  have hun : t.drop at_ ≠ [] := fun e => by
    have := congrArg List.length e
    rw [List.length_drop, List.length_nil] at this
    omega
  have hc' : ∀ s, PL.Pre (· ∈ wl) (t.drop at_) s → PL.IsMin wl pr ((t.drop at_).drop s) (cl.getD (at_ + s) 0) := fun s hs => by
    rw [List.drop_drop]
    exact hcnt _ (hpl s hs)
  have hm : ∀ s, s ∈ (ss.filter fun s => decide (pr ((t.drop at_).take s) + cl.getD (at_ + s) 0 = cl.getD at_ 0)) ↔ PL.Pre (· ∈ wl) (t.drop at_) s ∧ pr ((t.drop at_).take s) + cl.getD (at_ + s) 0 = cl.getD at_ 0 := fun s => by
    rw [List.mem_filter, hmem, decide_eq_true_eq]
  have hx : ∃ x, PL.Pre (· ∈ wl) (t.drop at_) x ∧ pr ((t.drop at_).take x) + cl.getD (at_ + x) 0 = cl.getD at_ 0 := by
    obtain ⟨⟨r, hr, hl⟩, hmin⟩ := hcnt at_ (by omega)
    cases r with
    | nil => exact absurd hr.1.symm hun
    | cons u o =>
      obtain ⟨hp, eu⟩ := PL.pre_of hr
      obtain ⟨_, _, ho⟩ := PL.row_inv hr
      refine ⟨u.length, hp, ?_⟩
      obtain ⟨⟨r2, hr2, hl2⟩, hmin2⟩ := hc' _ hp
      have q1 := hmin2 o ho
      have q2 := hmin _ (PL.row_step hp.1 hp.2 hr2)
      rw [PL.cost_cons] at hl q2
      rw [← eu] at q2 ⊢
      omega
  obtain ⟨x, hx⟩ := hx
  obtain ⟨s, rest, e, hs, hmax⟩ := head_max hm (hdown.filter _) hx
  refine ⟨s, rest, e, hs.1, fun b hb => ?_⟩
  refine PL.top_step (c := cl.getD (at_ + s) 0) ?_ hs.1 (hc' s hs.1) (fun s' c' hs' hcs' he => ?_) (fun s hs => ⟨_, hc' s hs⟩) hun hb
  · rw [hs.2]
    exact hcnt at_ (by omega)
  · refine hmax s' ⟨hs', ?_⟩
    rw [PL.min_unique (hc' s' hs') hcs', he]
    exact hs.2
def spBe (K : PySem.W.Frag) : Sp := fun vs H Q E => ∃ (a wa : Addr) (z t : Str) (ws : List Str) (cs : List Int), vs = [.ref a, .str t] ∧ CostsAt K H a wa z ws cs ∧ WordsL K H wa z ws ∧ t.cps.toList.length ≤ 10000 ∧
  (((∀ c ∈ t.cps.toList, c ∈ z.cps.toList) ∧ ∀ (q : Addr) (r : List PL.T) (H' : Hp), Same H H' → SqT K H' q (rowV r) → PL.IsTop (wl z ws) (prW z ws cs) t.cps.toList r → Q (.ref q) H') ∨
   ∃ i c, Foreign z t i c ∧ ∀ dd H', Same H H' → H' dd = none → E (.ref (He.ga K "UnknownSign")) (some dd) (upd H' dd (.xd [("at", .int (i : Int)), ("sign", .str (s1 c))])))
theorem ok_best (T : Ev fa fx fn K mg base) : Dn P w K mg base 4 (He.ga K "best") ["costs", "text"] (spBe K) := by
  refine dn_of (d_best T) sc_best bo_best (fun vs H Q E h => ?_) (fun cdv A outer s H vs Q E hr h => ?_)
  · obtain ⟨a, wa, z, t, ws, cs, rfl, _⟩ := h
    rfl
  · obtain ⟨a, wa, z, t, ws, cs, rfl, hCo, hL, htl, h⟩ := h
    have ⟨hw, _, _, cdx, cp, pr, cfs, ckvs, g1, g2, g3, g4, g5, g6, g7, g8⟩ := hCo
    have ⟨al, fu, dx, fp, kn, fs, kvs, h1, h2, h3, h4, h5, h6, h7, h8, h9⟩ := hw
    have hne := WW_ne al fu
    have hne1 : ∀ w ∈ wl z ws, 1 ≤ w.length := fun w hw => (wl_six al fu w hw).1
    have zl : t.length = t.cps.toList.length := tl_len
    refine ⟨_, (pss_cons (ps_expr (pe_d (ok_check_letters T) (hr.mono (by decide)) (g_check_letters T) (passes_call (takes_of rfl rfl rfl rfl) (fun _ _ _ _ h => h)) (pa_cons (pe_fldK (K := K) rfl (pe_fldK (K := K) rfl (pv 0) rfl) rfl) (pa_cons (pv 1) pa_nil))))
      (pss_cons (ps_set (i := 2) sc_best.nd rfl (.inr rfl) (pe_d (ok_least_costs T) (hr.mono (by decide)) (g_least_costs T) passL (pa_cons (pv 0) (pa_cons (pv 1) pa_nil))))
      (pss_cons (ps_set (i := 3) sc_best.nd rfl (.inl rfl) (pe_lst pa_nil))
      (pss_cons (ps_set (i := 4) sc_best.nd rfl (.inr rfl) pe_int)
      (pss_cons (ps_while (passes_of rfl) (pt_cmpR op_lt (pv 4) (pe_callB (call_lenK (K := K) rfl) (by rfl) (f_len T) bb_len (pa_cons (pv 1) pa_nil)) (nomark _))
        (pss_cons (ps_setLc (i := 5) (own := [("size", 6), ("cost", 7)]) rfl sc_best.nd rfl rfl (sw_true rfl rfl rfl (by decide +kernel)) (pi_list (pe_d (ok_priced_lengths T) (hr.mono (by decide)) (g_priced_lengths T) passL (pa_cons (pv 0) (pa_cons (pv 1) (pa_cons (pv 4) pa_nil))))) (blkOk_by (own := [("size", 6), ("cost", 7)]) (N := ["costs", "text", "least", "row", "at", "sizes", "size", "cost"]) (sc := defScope s_best) (by decide +kernel)) (fun _ _ _ _ _ => (pg_two (K := K) (i := 6) (j := 7) rfl rfl sc_best.nd rfl rfl (.inl rfl) (.inl rfl))) (fun _ _ _ _ _ => pts_one (pt_cmpR op_eq (pe_op op_add (pv 7) (pe_ix (ix_listK (K := K) rfl) (pv 2) (pe_op op_add (pv 4) (pv 6)) (fun _ _ => rfl))) (pe_ix (ix_listK (K := K) rfl) (pv 2) (pv 4) (fun _ _ => rfl)) (nomark _))) (fun _ _ _ _ _ => (pv 6)))
      (pss_cons (ps_expr (pe_bmK (K := K) rfl PySem.F.plainAttrs_list PySem.F.slot_list_append PySem.F.type_list_append mt_append (pv 3) (pa_cons (pe_slice sl_str (pv 1) (po_some (pv 4)) (po_some (pe_op op_add (pv 4) (pe_ix (ix_listK (K := K) rfl) (pv 5) pe_int (fun _ _ => rfl))))) pa_nil)))
      (pss_one (ps_set (i := 4) sc_best.nd rfl (.inr rfl) (pe_op op_add (pv 4) (pe_ix (ix_listK (K := K) rfl) (pv 5) pe_int (fun _ _ => rfl))))))))
      (pss_one (ps_ret (pe_callTy call_tuple_of (by rfl) (f_tuple T) bb_tuple (pa_cons (pv 3) pa_nil))))))))), ?_⟩
    walk_at "cl"
    walk_at "y"
    refine ⟨_, _, _, _, _, rfl, g1, (cls_Costs T), (no_Costs_words T), g2, ?_⟩
    walk_at "y"
    refine ⟨_, _, _, _, _, rfl, h1, (cls_Words T), (no_Words_alphabet T), h2, ?_⟩
    walk_at "y"
    rcases h with ⟨hov, k⟩ | ⟨i, c, hf, k⟩
    rotate_left
    · refine ⟨z, t, rfl, .inr ⟨i, c, hf.1, hf.2.1, hf.2.2, fun dd H' hS hdd => ?_⟩⟩
      exact k dd H' hS hdd
    · refine ⟨z, t, rfl, .inl ⟨hov, fun H1 hS1 => ?_⟩⟩
      walk_at "y"
      refine ⟨a, wa, z, t, ws, cs, rfl, hCo.same hS1, hL.same hS1, htl, hov, fun C cl H1' hC hc1 hcl hcnt hS1' => ?_⟩
      replace hS1 := hS1.trans hS1'
      walk_at "y"
      refine ⟨Nat.zero_le _, fun rw hrw => ?_⟩
      have nrw := none_same hS1 hrw
      have nCr : C ≠ rw := ne_of_none hc1 hrw
      walk_at "y"
      refine whl_by (fun m σ' H' => ∃ (at_ : Nat) (y y6 y7 : Option V) (r : List PL.T), m = t.cps.toList.length - at_ ∧ at_ ≤ t.cps.toList.length ∧ σ' = [some (.ref a), some (.str t), some (.ref C), some (.ref rw), some (.int (at_ : Int)), y, y6, y7] ∧ H' rw = some (.lst (r.map fun u => V.str (mkS u))) ∧ Same H1' H' ∧
        r.length ≤ at_ ∧ ∀ b, PL.IsTop (wl z ws) (prW z ws cs) (t.cps.toList.drop at_) b → PL.IsTop (wl z ws) (prW z ws cs) t.cps.toList (r ++ b)) ?_ ?_
      · exact ⟨_, 0, none, none, none, [], rfl, Nat.zero_le _, rfl, upd_same, same_new hrw, Nat.le_refl _, fun b hb => hb⟩
      · rintro m σ' H2 ⟨at_, y, y6, y7, r, rfl, hat, rfl, hr2, hS2, hrl, hbest⟩
        have hc2 := hS2 _ _ hc1
        walk_at "y"
        refine v_lenS (small (by omega)) ?_
        walk_at "y"
        refine if_dec (fun c => ?_) (fun c => ?_)
        · refine go_on ?_
          walk_at "y"
          refine ⟨a, wa, z, t, ws, cs, at_, rfl, hCo.same (hS1.trans hS2), hL.same (hS1.trans hS2), hat, htl, fun L ps ss H3 hLn hL3 hps hmem hdown hsl hS3 => ?_⟩
          have hc3 := hS3 _ _ hc2
          have hin : ∀ q ∈ ss, at_ + q ≤ t.cps.toList.length := fun q hq => by
            have p1 := ((hmem q).1 hq).1
            rw [List.length_drop] at p1
            omega
          refine ⟨L, rfl, ⟨_, sqL_of hL3⟩, fun D hD => ?_⟩
          refine lc_it (walk_list (xs := ps.map V.ref)) (fun j H' => Same H3 H' ∧ H' D = some (.lst (natV ((ss.take j).filter fun s => decide (prW z ws cs ((t.cps.toList.drop at_).take s) + cl.getD (at_ + s) 0 = cl.getD at_ 0))))) ?_ ?_ ?_ ?_
          · exact ⟨same_new hD, upd_same⟩
          · rintro j H' _ ⟨h, _⟩
            exact sqL_of (h _ _ hL3)
          · rintro j x H4 H5 hj ⟨hS4, hd4⟩ ⟨rfl, hx⟩
            rw [List.length_map, hps.1] at hj
            obtain ⟨p, hp1, hp2⟩ := hps.2 j hj
            rw [List.getElem?_map, hp1] at hx
            cases hx
            have b2 := hin ss[j] (List.getElem_mem hj)
            walk_at "y"
            refine v_gtup (sqT_of (hS4 _ _ hp2)) rfl ?_
            walk_at "y"
            refine ⟨rfl, ?_⟩
            walk_at "y"
            rw [show (at_ : Int) + ((ss[j] : Nat) : Int) = ((at_ + ss[j] : Nat) : Int) by omega]
            refine v_ixL (v := .int (cl.getD (at_ + ss[j]) 0 : Nat)) (sqL_of (hS4 _ _ hc3)) (atI_nat (natV_at (by omega))) ?_
            walk_at "y"
            refine v_ixL (v := .int (cl.getD at_ 0 : Nat)) (sqL_of (hS4 _ _ hc3)) (atI_nat (natV_at (by omega))) ?_
            walk_at "y"
            have hlen4 : ((ss.take j).filter fun s => decide (prW z ws cs ((t.cps.toList.drop at_).take s) + cl.getD (at_ + s) 0 = cl.getD at_ 0)).length < 16000000 := by
              have q1 := List.length_filter_le (fun s => decide (prW z ws cs ((t.cps.toList.drop at_).take s) + cl.getD (at_ + s) 0 = cl.getD at_ 0)) (ss.take j)
              have q2 : (ss.take j).length ≤ ss.length := List.length_take_le' ..
              omega
            refine if_dec (fun c => ?_) (fun c => ?_)
            · have c : ((prW z ws cs ((t.cps.toList.drop at_).take ss[j]) : Nat) : Int) + ((cl.getD (at_ + ss[j]) 0 : Nat) : Int) = ((cl.getD at_ 0 : Nat) : Int) := c
              have c : prW z ws cs ((t.cps.toList.drop at_).take ss[j]) + cl.getD (at_ + ss[j]) 0 = cl.getD at_ 0 := by omega
              walk_at "y"
              refine ⟨_, hd4, smallL (by rw [natV_len]; exact hlen4), same_mut hS4 hD, ?_⟩
              rw [upd_same, List.take_succ, List.getElem?_eq_getElem hj, List.filter_append, natV_snoc]
              show _ = some (HO.lst (natV (_ ++ List.filter _ [ss[j]])))
              rw [List.filter_cons, if_pos (decide_eq_true c)]
              rfl
            · have c : ¬ (((prW z ws cs ((t.cps.toList.drop at_).take ss[j]) : Nat) : Int) + ((cl.getD (at_ + ss[j]) 0 : Nat) : Int) = ((cl.getD at_ 0 : Nat) : Int)) := c
              have c : ¬ (prW z ws cs ((t.cps.toList.drop at_).take ss[j]) + cl.getD (at_ + ss[j]) 0 = cl.getD at_ 0) := by omega
              refine ⟨hS4, ?_⟩
              rw [hd4, List.take_succ, List.getElem?_eq_getElem hj, List.filter_append]
              show _ = some (HO.lst (natV (_ ++ List.filter _ [ss[j]])))
              rw [List.filter_cons, if_neg (by rw [decide_eq_true_eq]; exact c), List.filter_nil, List.append_nil]
          · rintro H4 ⟨hS4, hd4⟩
            rw [List.length_map, hps.1, List.take_length] at hd4
            obtain ⟨s, rest, hsr, hs1, hstep⟩ := best_pick (t := t.cps.toList) (at_ := at_) hne1 (by omega) (fun j hj => hcnt j hj) (fun s => by rw [hmem, WW_eq]) hdown
            rw [hsr] at hd4
            have hs3 := hs1.1
            rw [List.length_drop] at hs3
            have hs4 : 1 ≤ s := by
              rcases Nat.eq_zero_or_pos s with e | e
              · rw [e] at hs1
                exact absurd (hne1 _ hs1.2) (by simp)
              · exact e
            have hr4 := hS4 _ _ (hS3 _ _ hr2)
            walk_at "y"
            refine ⟨ty_list (sqL_of hr4), ?_⟩
            walk_at "y"
            refine v_ixL (v := .int (s : Int)) (sqL_of hd4) (atI_nat rfl) ?_
            walk_at "y"
            refine ⟨t, rfl, small (by omega), ?_⟩
            rw [show (at_ : Int) + (s : Int) = ((at_ + s : Nat) : Int) by omega, cutS_mid t at_ (at_ + s) (by omega), show at_ + s - at_ = s by omega]
            walk_at "y"
            refine v_append hr4 (smallL (by rw [List.length_map]; omega)) ?_
            have hDr : rw ≠ D := ne_of_none (hS3 _ _ hr2) hD
            walk_at "y"
            refine v_ixL (v := .int (s : Int)) (xs := natV (s :: rest)) (sqL_of (by rw [upd_ne hDr.symm]; exact hd4)) (atI_nat rfl) ?_
            walk_at "y"
            refine ⟨_, by omega, at_ + s, some (.ref D), y6, y7, r ++ [(t.cps.toList.drop at_).take s], rfl, by omega, ?_, ?_, same_mut (hS2.trans (hS3.trans hS4)) hrw, ?_, fun b hb => ?_⟩
            · rw [show ((at_ + s : Nat) : Int) = (at_ : Int) + (s : Int) by omega]
              rfl
            · rw [upd_same, List.map_append]
              rfl
            · rw [List.length_append, List.length_singleton]
              omega
            · rw [List.append_assoc]
              refine hbest _ (hstep b ?_)
              rw [List.drop_drop]
              exact hb
        · have e : at_ = t.cps.toList.length := by omega
          subst e
          walk_at "y"
          refine ⟨rw, _, rfl, .inl ⟨sqL_of hr2, fun q hq => ?_⟩⟩
          have hb := hbest [] (by rw [List.drop_length]; exact PL.top_nil hne1)
          rw [List.append_nil] at hb
          exact k q r _ (same_upd (hS1.trans hS2) hq) (sqT_of upd_same) hb
end

end K80

namespace K80
open PySem PySem.Spec L2 PH
open C8 (tCut pss_cut)
section
variable {P : Program} {w : World} {K : PySem.W.Frag} {mg : Str → Option Value} {base : Heap}
def prV (p : PL.Pr) : List V := [.int (p.1 : Nat), .int (p.2 : Nat)]
theorem natV_at' {l : List Nat} {i : Nat} (h : i < l.length) : (natV l)[i]? = some (.int (l[i] : Nat)) := by
  unfold natV
  rw [List.getElem?_map, List.getElem?_eq_getElem h]
  rfl
def spPT (K : PySem.W.Frag) : Sp := fun vs H Q _ => ∃ (p q : Addr) (pr : PL.Pr) (x : Nat) (row : List Nat), vs = [.ref p, .ref q, .int (x : Nat)] ∧ SqT K H p (natV row) ∧ SqT K H q (prV pr) ∧ row.length ≤ 100 ∧
  ∀ (r : Addr) (H' : Hp), Same H H' → SqT K H' r (natV (PL.putT pr x row)) → Q (.ref r) H'
theorem ok_put_together (T : Ev fa fx fn K mg base) : Dn P w K mg base 1 (He.ga K "put_together") ["row", "pair", "piece"] (spPT K) := by
  refine dn_of (d_put_together T) sc_put_together bo_put_together (fun vs H Q E h => ?_) (fun cdv A outer s H vs Q E hr h => ?_)
  · obtain ⟨p, q, pr, x, row, rfl, _⟩ := h
    rfl
  · obtain ⟨p, q, pr, x, row, rfl, hp, hq, hl, k⟩ := h
    refine ⟨_, (PSs.nox (pss_cons (ps_set (i := 3) sc_put_together.nd rfl (.inl rfl) (pe_lst pa_nil))
      (pss_cons (ps_set (i := 4) sc_put_together.nd rfl (.inl rfl) pe_int)
      (pss_cons (ps_while PassesOwn.never (pt_cmpR op_lt (pv 4) (pe_callB (call_lenK (K := K) rfl) (by rfl) (f_len T) bb_len (pa_cons (pv 0) pa_nil)) (nomark _))
        (pss_one (ps_if (pw_and (pt_cmpR op_lt (pe_op op_add (pv 4) pe_int) (pe_callB (call_lenK (K := K) rfl) (by rfl) (f_len T) bb_len (pa_cons (pv 0) pa_nil)) (nomark _)) (pw_and1 (pt_cmpR (op_eqDK (K := K) rfl hr.units) (pe_tup (pa_cons (pe_ix (ix_tupK (K := K) rfl) (pv 0) (pv 4) (fun _ _ => rfl)) (pa_cons (pe_ix (ix_tupK (K := K) rfl) (pv 0) (pe_op op_add (pv 4) pe_int) (fun _ _ => rfl)) pa_nil))) (pv 1) (nomark _)))).pt
        (pss_cons (ps_expr (pe_bmK (K := K) rfl PySem.F.plainAttrs_list PySem.F.slot_list_append PySem.F.type_list_append mt_append (pv 3) (pa_cons (pv 2) pa_nil)))
      (pss_one (ps_aug (i := 4) sc_put_together.nd rfl (.inl rfl) pe_int iop_add))) (pss_cons (ps_expr (pe_bmK (K := K) rfl PySem.F.plainAttrs_list PySem.F.slot_list_append PySem.F.type_list_append mt_append (pv 3) (pa_cons (pe_ix (ix_tupK (K := K) rfl) (pv 0) (pv 4) (fun _ _ => rfl)) pa_nil)))
      (pss_one (ps_aug (i := 4) sc_put_together.nd rfl (.inl rfl) pe_int iop_add))))))
      (pss_one (ps_ret (pe_callTy call_tuple_of (by rfl) (f_tuple T) bb_tuple (pa_cons (pv 3) pa_nil)))))))), ?_⟩
    walk_at "cl"
    walk_at "y"
    refine ⟨Nat.zero_le _, fun F hF => ?_⟩
    walk_at "y"
    refine whl_by (fun m σ' H' => ∃ (at_ : Nat) (f : List Nat), m = row.length - at_ ∧ at_ ≤ row.length ∧ σ' = [some (.ref p), some (.ref q), some (.int (x : Nat)), some (.ref F), some (.int (at_ : Nat))] ∧ H' F = some (.lst (natV f)) ∧ Same H H' ∧ f.length ≤ at_ ∧ f ++ PL.putT pr x (row.drop at_) = PL.putT pr x row) ?_ ?_
    · exact ⟨_, 0, [], rfl, Nat.zero_le _, rfl, upd_same, same_new hF, Nat.le_refl _, rfl⟩
    · rintro m σ' H' ⟨at_, f, rfl, hat, rfl, hf, hS, hfl, he⟩
      walk_at "y"
      have hp' := sqT_same hS hp
      refine v_lenT hp' ?_
      rw [natV_len]
      walk_at "y"
      refine if_dec (fun c => ?_) (fun c => ?_)
      · refine go_on ?_
        have hlt : at_ < row.length := by omega
        have hdr : row.drop at_ = row[at_] :: row.drop (at_ + 1) := List.drop_eq_getElem_cons hlt
        have helse : ∀ H2, Same H' H2 → PL.putT pr x (row.drop at_) = row[at_] :: PL.putT pr x (row.drop (at_ + 1)) → (f ++ [row[at_]]) ++ PL.putT pr x (row.drop (at_ + 1)) = PL.putT pr x row := fun H2 _ e => by
          rw [← he, e, List.append_assoc]
          rfl
        walk_at "y"
        refine v_lenT hp' ?_
        rw [natV_len]
        walk_at "y"
        refine if_dec (fun c2 => ?_) (fun c2 => ?_)
        · have hlt2 : at_ + 1 < row.length := by omega
          have hdr2 : row.drop (at_ + 1) = row[at_ + 1] :: row.drop (at_ + 2) := List.drop_eq_getElem_cons hlt2
          walk_at "y"
          refine v_ixT hp' (atI_nat (natV_at' hlt)) ?_
          walk_at "y"
          rw [show (at_ : Int) + 1 = ((at_ + 1 : Nat) : Int) by omega]
          refine v_ixT hp' (atI_nat (natV_at' hlt2)) ?_
          walk_at "y"
          refine ⟨small (show 2 ≤ 16000000 by decide), fun c1 hc1 => ?_⟩
          have r1 := same_new (o := .tup [.int (row[at_] : Nat), .int (row[at_ + 1] : Nat)]) hc1
          have g1 : upd H' c1 (.tup [.int (row[at_] : Nat), .int (row[at_ + 1] : Nat)]) c1 = some (.tup [.int (row[at_] : Nat), .int (row[at_ + 1] : Nat)]) := upd_same
          generalize upd H' c1 (.tup [.int (row[at_] : Nat), .int (row[at_ + 1] : Nat)]) = H2 at r1 g1
          have hf2 := r1 _ _ hf
          have hp2 := sqT_same r1 hp'
          walk_at "y"
          refine ⟨.tuple ([(row[at_] : Int), (row[at_ + 1] : Int)].map .int), .tuple ([(pr.1 : Int), (pr.2 : Int)].map .int), .tup (sqT_of g1) (dpAll_ints [(row[at_] : Int), (row[at_ + 1] : Int)]), .tup (sqT_same (hS.trans r1) hq) (dpAll_ints [(pr.1 : Int), (pr.2 : Int)]), (shaped_ints _).1, (shaped_ints _).1, ?_⟩
          rw [PL.eqv_ints]
          walk_at "y"
          refine if_dec (fun c3 => ?_) (fun c3 => ?_)
          · have epr : (row[at_], row[at_ + 1]) = pr := by
              injection c3 with e1 e2
              injection e2 with e2 _
              exact Prod.ext (by show row[at_] = pr.1; omega) (by show row[at_ + 1] = pr.2; omega)
            walk_at "y"
            refine ⟨ty_list (sqL_of hf2), ?_⟩
            walk_at "y"
            refine v_append hf2 (smallL (by rw [natV_len]; omega)) ?_
            walk_at "y"
            refine ⟨_, by omega, at_ + 2, f ++ [x], rfl, by omega, rfl, by rw [upd_same, natV_snoc], same_mut (hS.trans r1) hF, by rw [List.length_append]; show f.length + 1 ≤ _; omega, ?_⟩
            rw [← he, hdr, hdr2, PL.putT_two, if_pos epr, List.append_assoc]
            rfl
          · have epr : (row[at_], row[at_ + 1]) ≠ pr := fun e => c3 (by rw [← e])
            walk_at "y"
            refine ⟨ty_list (sqL_of hf2), ?_⟩
            walk_at "y"
            refine v_ixT hp2 (atI_nat (natV_at' hlt)) ?_
            walk_at "y"
            refine v_append hf2 (smallL (by rw [natV_len]; omega)) ?_
            walk_at "y"
            refine ⟨_, by omega, at_ + 1, f ++ [row[at_]], rfl, by omega, rfl, by rw [upd_same, natV_snoc], same_mut (hS.trans r1) hF, by rw [List.length_append]; show f.length + 1 ≤ _; omega, helse _ r1 ?_⟩
            rw [hdr, hdr2, PL.putT_two, if_neg epr]
        · walk_at "y"
          refine ⟨ty_list (sqL_of hf), ?_⟩
          walk_at "y"
          refine v_ixT hp' (atI_nat (natV_at' hlt)) ?_
          walk_at "y"
          refine v_append hf (smallL (by rw [natV_len]; omega)) ?_
          walk_at "y"
          refine ⟨_, by omega, at_ + 1, f ++ [row[at_]], rfl, by omega, rfl, by rw [upd_same, natV_snoc], same_mut hS hF, by rw [List.length_append]; show f.length + 1 ≤ _; omega, helse _ (Same.refl _) ?_⟩
          rw [hdr, List.drop_of_length_le (by omega), PL.putT_one, PL.putT_nil]
      · obtain rfl : at_ = row.length := by omega
        rw [List.drop_length, PL.putT_nil, List.append_nil] at he
        subst he
        walk_at "y"
        refine ⟨F, _, rfl, .inl ⟨sqL_of hf, fun q2 hq2 => ?_⟩⟩
        exact k q2 _ (same_upd hS hq2) (sqT_of upd_same)
structure RanksAt (H : Hp) (rp : Addr) (ps : List PL.Pr) : Prop where
  ex : ∃ kvs, H rp = some (.dT kvs) ∧ kvs.length ≤ ps.length ∧ ∀ a b : Nat, valV kvs [.inl (a : Int), .inl (b : Int)] = if (a, b) ∈ ps then some (.int (ps.idxOf (a, b) : Nat)) else none
theorem prs_len : ∀ {row : List Nat}, (PL.prs row).length = row.length - 1
  | [] => by rw [PL.prs_nil]; rfl
  | [a] => by rw [PL.prs_one]; rfl
  | a :: b :: r => by
    rw [PL.prs_two, List.length_cons, prs_len]
    rfl
theorem prs_at : ∀ {row : List Nat} {i : Nat} (h : i + 1 < row.length), (PL.prs row)[i]? = some (row[i], row[i + 1])
  | [], _, h => by cases h
  | [a], _, h => by simp at h
  | a :: b :: r, 0, _ => by rw [PL.prs_two]; rfl
  | a :: b :: r, i + 1, h => by
    rw [PL.prs_two, List.getElem?_cons_succ, prs_at (row := b :: r) (i := i) (by simp at h ⊢; omega)]
    rfl
def LowAt (ps : List PL.Pr) (row : List Nat) (H : Hp) (bv : V) : Prop := (bv = .non ∧ ∀ q ∈ PL.prs row, q ∉ ps) ∨ ∃ q pr, bv = .ref q ∧ H q = some (.tup (prV pr)) ∧ pr ∈ ps ∧ pr ∈ PL.prs row ∧ ∀ r ∈ PL.prs row, r ∈ ps → ps.idxOf pr ≤ ps.idxOf r
def spLP (K : PySem.W.Frag) : Sp := fun vs H Q _ => ∃ (rp p : Addr) (ps : List PL.Pr) (row : List Nat), vs = [.ref rp, .ref p] ∧ RanksAt H rp ps ∧ SqT K H p (natV row) ∧ row.length ≤ 100 ∧
  ∀ bv H', Same H H' → LowAt ps row H' bv → Q bv H'
theorem ok_lowest_pair (T : Ev fa fx fn K mg base) : Dn P w K mg base 1 (He.ga K "lowest_pair") ["ranks", "row"] (spLP K) := by
  refine dn_of (d_lowest_pair T) sc_lowest_pair bo_lowest_pair (fun vs H Q E h => ?_) (fun cdv A outer s H vs Q E hr h => ?_)
  · obtain ⟨rp, p, ps, row, rfl, _⟩ := h
    rfl
  · obtain ⟨rp, p, ps, row, rfl, ⟨kvs, hk1, hk2, hk3⟩, hp, hl, k⟩ := h
    refine ⟨_, (PSs.nox (pss_cons (ps_set (i := 2) sc_lowest_pair.nd rfl (.inl rfl) pe_non)
      (pss_cons (ps_for PassesOwn.never rfl (pi_range1 rfl (f_range T) (pa_cons (pe_op op_sub (pe_callB (call_lenK (K := K) rfl) (by rfl) (f_len T) bb_len (pa_cons (pv 1) pa_nil)) pe_int) pa_nil)) (pg_name (i := 3) sc_lowest_pair.nd rfl (.inl rfl))
        (pss_cons (ps_set (i := 4) sc_lowest_pair.nd rfl (.inl rfl) (pe_tup (pa_cons (pe_ix (ix_tupK (K := K) rfl) (pv 1) (pv 3) (fun _ _ => rfl)) (pa_cons (pe_ix (ix_tupK (K := K) rfl) (pv 1) (pe_op op_add (pv 3) pe_int) (fun _ _ => rfl)) pa_nil))))
      (pss_one (ps_if (pw_and (pt_cmp (pc_din hr.hu (pv 4) (pv 0))) (pw_and1 (pw_or (pt_cmpR op_isN (pv 2) pe_non (nomark _)) (pw_or1 (pt_cmpR op_lt (pe_dget hr.hu (pv 0) (pv 4) (fun _ _ => rfl)) (pe_dget hr.hu (pv 0) (pv 2) (fun _ _ => rfl)) (nomark _)))).pt)).pt
        (pss_one (ps_set (i := 2) sc_lowest_pair.nd rfl (.inl rfl) (pv 4))) pss_nil))))
      (pss_one (ps_ret (pv 2)))))), ?_⟩
    walk_at "cl"
    walk_at "x"
    refine v_lenT hp ?_
    rw [natV_len]
    walk_at "x"
    refine ⟨_, rfl, by omega, by omega, ?_⟩
    rw [show (((row.length : Nat) : Int) - 1).toNat = row.length - 1 by omega]
    refine for_it walk_range (fun i σ' H' => (∃ (x3 x4 : Option V) (bv : V), σ' = [some (.ref rp), some (.ref p), some bv, x3, x4] ∧
      ((bv = .non ∧ ∀ q ∈ (PL.prs row).take i, q ∉ ps) ∨ ∃ q pr, bv = .ref q ∧ H' q = some (.tup (prV pr)) ∧ pr ∈ ps ∧ pr ∈ (PL.prs row).take i ∧ ∀ r ∈ (PL.prs row).take i, r ∈ ps → ps.idxOf pr ≤ ps.idxOf r)) ∧ Same H H') ?_ ?_ ?_ ?_
    · exact ⟨⟨_, _, _, rfl, .inl ⟨rfl, fun q hq => by cases hq⟩⟩, Same.refl _⟩
    · intros
      trivial
    · rintro i x σ' H1 H1' hi ⟨⟨x3, x4, bv, rfl, hb⟩, hS⟩ ⟨rfl, hx⟩
      obtain rfl : x = .int (i : Nat) := hx.trans (congrArg V.int (by omega))
      have hi1 : i + 1 < row.length := by omega
      have hp' := sqT_same hS hp
      have htk : (PL.prs row).take (i + 1) = (PL.prs row).take i ++ [(row[i], row[i + 1])] := by
        rw [List.take_succ, prs_at hi1]
        rfl
      walk_at "y"
      refine v_ixT hp' (atI_nat (natV_at' (by omega))) ?_
      walk_at "y"
      rw [show (i : Int) + 1 = ((i + 1 : Nat) : Int) by omega]
      refine v_ixT hp' (atI_nat (natV_at' hi1)) ?_
      walk_at "y"
      refine ⟨small (show 2 ≤ 16000000 by decide), fun c1 hc1 => ?_⟩
      generalize hab : (row[i], row[i + 1]) = ab at htk
      have eab : [V.int (row[i] : Nat), V.int (row[i + 1] : Nat)] = prV ab := by rw [← hab]; rfl
      rw [eab]
      have r1 := same_new (o := .tup (prV ab)) hc1
      have g1 : upd H1' c1 (.tup (prV ab)) c1 = some (.tup (prV ab)) := upd_same
      generalize upd H1' c1 (.tup (prV ab)) = H2 at r1 g1
      have hk2' := (hS.trans r1) _ _ hk1
      have hS2 := hS.trans r1
      have key : ∀ {q : Addr} {pr : PL.Pr}, H2 q = some (.tup (prV pr)) → DGet H2 rp (.ref q) (if pr ∈ ps then some (.int (ps.idxOf pr : Nat)) else none) := fun {q pr} hq => by
        have e := DGet.t (k := [.inl (pr.1 : Int), .inl (pr.2 : Int)]) hk2' hq
        rw [hk3] at e
        exact e
      walk_at "y"
      refine ⟨rp, _, rfl, key g1, ?_⟩
      have hnew : ab ∈ ps → (∀ r ∈ (PL.prs row).take i, r ∈ ps → ps.idxOf ab ≤ ps.idxOf r) → ∃ q pr, V.ref c1 = .ref q ∧ H2 q = some (.tup (prV pr)) ∧ pr ∈ ps ∧ pr ∈ (PL.prs row).take (i + 1) ∧ ∀ r ∈ (PL.prs row).take (i + 1), r ∈ ps → ps.idxOf pr ≤ ps.idxOf r := fun hm h => by
        refine ⟨c1, ab, rfl, g1, hm, by rw [htk]; exact List.mem_append_right _ List.mem_cons_self, fun r hr hrp => ?_⟩
        rw [htk] at hr
        rcases List.mem_append.mp hr with hr | hr
        · exact h r hr hrp
        · rw [List.mem_singleton.mp hr]
          exact Nat.le_refl _
      have hold : ∀ {q : Addr} {pr : PL.Pr}, H1' q = some (.tup (prV pr)) → pr ∈ ps → pr ∈ (PL.prs row).take i → (∀ r ∈ (PL.prs row).take i, r ∈ ps → ps.idxOf pr ≤ ps.idxOf r) → (ab ∈ ps → ps.idxOf pr ≤ ps.idxOf ab) → ∃ q' pr, V.ref q = .ref q' ∧ H2 q' = some (.tup (prV pr)) ∧ pr ∈ ps ∧ pr ∈ (PL.prs row).take (i + 1) ∧ ∀ r ∈ (PL.prs row).take (i + 1), r ∈ ps → ps.idxOf pr ≤ ps.idxOf r := fun {q pr} hq hm hmr hlow h => by
        refine ⟨q, pr, rfl, r1 _ _ hq, hm, by rw [htk]; exact List.mem_append_left _ hmr, fun r hr hrp => ?_⟩
        rw [htk] at hr
        rcases List.mem_append.mp hr with hr | hr
        · exact hlow r hr hrp
        · rw [List.mem_singleton.mp hr] at hrp ⊢
          exact h hrp
      by_cases hm : ab ∈ ps
      · rw [if_pos hm]
        refine ⟨_, rfl, iteT_of rfl ?_⟩
        rcases hb with ⟨rfl, hb⟩ | ⟨q, pr, rfl, hq, hmp, hmr, hlow⟩
        · walk_at "y"
          refine ⟨rfl, ?_⟩
          walk_at "y"
          refine if_dec (fun _ => ?_) (fun c => absurd rfl c)
          walk_at "y"
          exact ⟨⟨_, _, _, rfl, .inr (hnew hm fun r hr hrp => absurd hrp (hb r hr))⟩, hS2⟩
        · walk_at "y"
          refine ⟨rfl, ?_⟩
          walk_at "y"
          refine if_dec (fun c => by cases c) (fun _ => ?_)
          walk_at "y"
          refine ⟨rp, .int (ps.idxOf ab : Nat), rfl, ?_, ?_⟩
          · have e := key g1
            rw [if_pos hm] at e
            exact e
          walk_at "y"
          refine ⟨rp, .int (ps.idxOf pr : Nat), rfl, ?_, ?_⟩
          · have e := key (r1 _ _ hq)
            rw [if_pos hmp] at e
            exact e
          walk_at "y"
          refine if_dec (fun c => ?_) (fun c => ?_)
          · walk_at "y"
            exact ⟨⟨_, _, _, rfl, .inr (hnew hm fun r hr hrp => by have := hlow r hr hrp; omega)⟩, hS2⟩
          · walk_at "y"
            exact ⟨⟨_, _, _, rfl, .inr (hold hq hmp hmr hlow fun _ => by omega)⟩, hS2⟩
      · rw [if_neg hm]
        refine ⟨_, rfl, iteF_of rfl ?_⟩
        walk_at "y"
        rcases hb with ⟨rfl, hb⟩ | ⟨q, pr, rfl, hq, hmp, hmr, hlow⟩
        · refine ⟨⟨_, _, _, rfl, .inl ⟨rfl, fun r hr hrp => ?_⟩⟩, hS2⟩
          rw [htk] at hr
          rcases List.mem_append.mp hr with hr | hr
          · exact hb r hr hrp
          · rw [List.mem_singleton.mp hr] at hrp
            exact hm hrp
        · exact ⟨⟨_, _, _, rfl, .inr (hold hq hmp hmr hlow fun h => absurd h hm)⟩, hS2⟩
    · rintro σ' H1 ⟨⟨x3, x4, bv, rfl, hb⟩, hS⟩
      have hfull : (PL.prs row).take (row.length - 1) = PL.prs row := by rw [← prs_len, List.take_length]
      rw [hfull] at hb
      walk_at "y"
      exact k _ _ hS hb
theorem low_of {ps : List PL.Pr} {row : List Nat} {pr : PL.Pr} (nd : ps.Nodup) (h : ∀ r ∈ PL.prs row, r ∈ ps → ps.idxOf pr ≤ ps.idxOf r) : PL.Low ps row (ps.idxOf pr) := fun i q hi hq hm => by
  obtain ⟨hl, e⟩ := List.getElem?_eq_some_iff.mp hq
  have h2 := h q hm (by rw [← e]; exact List.getElem_mem hl)
  rw [← e, nd.idxOf_getElem] at h2
  omega
theorem RanksAt.same {H H' : Hp} {rp : Addr} {ps : List PL.Pr} (e : Same H H') (h : RanksAt H rp ps) : RanksAt H' rp ps := by
  obtain ⟨kvs, h1, h2⟩ := h
  exact ⟨kvs, e _ _ h1, h2⟩
theorem RanksAt.get {H : Hp} {rp q : Addr} {ps : List PL.Pr} {pr : PL.Pr} (h : RanksAt H rp ps) (hq : H q = some (.tup (prV pr))) : DGet H rp (.ref q) (if pr ∈ ps then some (.int (ps.idxOf pr : Nat)) else none) := by
  obtain ⟨kvs, h1, h2, h3⟩ := h
  have e := DGet.t (k := [.inl (pr.1 : Int), .inl (pr.2 : Int)]) h1 hq
  rw [h3] at e
  exact e
theorem RanksAt.get' {H : Hp} {rp q : Addr} {ps : List PL.Pr} {pr : PL.Pr} (h : RanksAt H rp ps) (hq : H q = some (.tup (prV pr))) (hm : pr ∈ ps) : DGet H rp (.ref q) (some (.int (ps.idxOf pr : Nat))) := by
  have e := h.get hq
  rw [if_pos hm] at e
  exact e
def spCR (K : PySem.W.Frag) : Sp := fun vs H Q _ => ∃ (rp p : Addr) (L : Nat) (ps : List PL.Pr) (row : List Nat), vs = [.ref rp, .int (L : Nat), .ref p] ∧ RanksAt H rp ps ∧ SqT K H p (natV row) ∧ row.length ≤ 100 ∧ PL.WF L ps ∧ ps.Nodup ∧
  ∀ r H', Same H H' → SqT K H' r (natV (PL.cutJ L ps row)) → Q (.ref r) H'
theorem ok_cut_row (T : Ev fa fx fn K mg base) : Dn P w K mg base 2 (He.ga K "cut_row") ["ranks", "letters", "row"] (spCR K) := by
  refine dn_of (d_cut_row T) sc_cut_row bo_cut_row (fun vs H Q E h => ?_) (fun cdv A outer s H vs Q E hr h => ?_)
  · obtain ⟨rp, p, L, ps, row, rfl, _⟩ := h
    rfl
  · obtain ⟨rp, p, L, ps, row, rfl, hR, hp, hl, wf, nd, k⟩ := h
    refine ⟨_, (PSs.nox (pss_cons (ps_set (i := 3) sc_cut_row.nd rfl (.inl rfl) (pe_d (ok_lowest_pair T) (hr.mono (by decide)) (g_lowest_pair T) passL (pa_cons (pv 0) (pa_cons (pv 2) pa_nil))))
      (pss_cons (ps_while PassesOwn.never (pt_cmpR op_notN (pv 3) pe_non (nomark _))
        (pss_cons (ps_set (i := 2) sc_cut_row.nd rfl (.inl rfl) (pe_d (ok_put_together T) (hr.mono (by decide)) (g_put_together T) passL (pa_cons (pv 2) (pa_cons (pv 3) (pa_cons (pe_op op_add (pv 1) (pe_dget hr.hu (pv 0) (pv 3) (fun _ _ => rfl))) pa_nil)))))
      (pss_one (ps_set (i := 3) sc_cut_row.nd rfl (.inl rfl) (pe_d (ok_lowest_pair T) (hr.mono (by decide)) (g_lowest_pair T) passL (pa_cons (pv 0) (pa_cons (pv 2) pa_nil)))))))
      (pss_one (ps_ret (pv 2)))))), ?_⟩
    walk_at "cl"
    walk_at "y"
    refine ⟨rp, p, ps, row, rfl, hR, hp, hl, fun bv H1 hS1 hb1 => ?_⟩
    walk_at "y"
    refine whl_by (fun m σ' H' => ∃ (p' : Addr) (row' : List Nat) (bv : V), m = row'.length ∧ σ' = [some (.ref rp), some (.int (L : Nat)), some (.ref p'), some bv] ∧ Same H H' ∧ SqT K H' p' (natV row') ∧ row'.length ≤ 100 ∧ PL.cutJ L ps row' = PL.cutJ L ps row ∧ LowAt ps row' H' bv) ?_ ?_
    · exact ⟨_, p, row, bv, rfl, rfl, hS1, sqT_same hS1 hp, hl, rfl, hb1⟩
    · rintro m σ' H2 ⟨p', row', bv, rfl, rfl, hS2, hp2, hl2, hcut, hb⟩
      walk_at "y"
      refine ⟨rfl, ?_⟩
      rcases hb with ⟨rfl, hb⟩ | ⟨q, pr, rfl, hq, hm, hmr, hlow⟩
      · walk_at "y"
        refine iteF_of rfl ?_
        walk_at "y"
        refine k p' _ hS2 ?_
        rw [← hcut, PL.cut_none fun r hr hrm => hb r hrm hr]
        exact hp2
      · walk_at "y"
        refine iteT_of rfl ?_
        refine go_on ?_
        walk_at "y"
        refine ⟨rp, .int (ps.idxOf pr : Nat), rfl, (hR.same hS2).get' hq hm, ?_⟩
        walk_at "y"
        refine ⟨p', q, pr, L + ps.idxOf pr, row', by rw [show ((L : Nat) : Int) + ((ps.idxOf pr : Nat) : Int) = ((L + ps.idxOf pr : Nat) : Int) by omega]; rfl, hp2, sqT_of hq, hl2, fun p3 H3 hS3 hp3 => ?_⟩
        walk_at "y"
        have hlen := PL.put_less (x := L + ps.idxOf pr) hmr
        refine ⟨rp, p3, ps, _, rfl, hR.same (hS2.trans hS3), hp3, by omega, fun bv3 H4 hS4 hb4 => ?_⟩
        walk_at "y"
        refine ⟨_, hlen, p3, _, bv3, rfl, rfl, hS2.trans (hS3.trans hS4), sqT_same hS4 hp3, by omega, ?_, hb4⟩
        rw [PL.cut_put wf (List.getElem?_eq_some_iff.mpr ⟨List.idxOf_lt_length_of_mem hm, List.getElem_idxOf _⟩) (low_of nd hlow), hcut]
end

end K80

namespace K80
open PySem PySem.Spec L2 PH
open C8 (tCut pss_cut)
section
variable {P : Program} {w : World} {K : PySem.W.Frag} {mg : Str → Option Value} {base : Heap}
theorem v_catB {H : Hp} {Q : VK} {c q : Addr} {y : V} {xs : List V} (hc : SqT K H c xs) (hq : SqT K H q [y]) (hl : xs.length + 1 ≤ sizeLine) (h : ∀ p H', Same H H' → SqT K H' p (xs ++ [y]) → Q (.ref p) H') : rCatA K (.ref c) (.ref q) H Q := by
  refine ⟨c, q, _, _, rfl, rfl, hc, hq, hl, fun he => ?_, (fun _ he => by cases he), fun _ _ c2 hc2 => ?_⟩
  · refine h q H (Same.refl _) ?_
    rw [he]
    exact hq
  · exact h c2 _ (same_new hc2) (sqT_of upd_same)
def prD (p : PL.Pr) : PyData := .tuple [.int (p.1 : Nat), .int (p.2 : Nat)]
def tbl (z : Str) (ps : List PL.Pr) : List PL.T := PL.txs (PL.baseT z.cps.toList) ps
theorem tbl_len {z : Str} {ps : List PL.Pr} : (tbl z ps).length = z.cps.toList.length + ps.length := by
  unfold tbl
  rw [PL.txs_len, PL.baseT_len]
/-- what may be the next join -/
structure PrOk (z : Str) (ps : List PL.Pr) (pr : PL.Pr) : Prop where
  lo : pr.1 < z.cps.toList.length + ps.length ∧ pr.2 < z.cps.toList.length + ps.length
  cut : PL.cutJ z.cps.toList.length ps (PL.lets z.cps.toList ((tbl z ps).getD pr.1 [] ++ (tbl z ps).getD pr.2 [])) = [pr.1, pr.2]
  new : pr ∉ ps
  ln : ((tbl z ps).getD pr.1 [] ++ (tbl z ps).getD pr.2 []).length ≤ 40
/-- joins that are proper, one by one -/
structure PsOk (z : Str) (ps : List PL.Pr) : Prop where
  al : AlphaOk z 4
  few : ps.length ≤ 10
  wf : PL.WF z.cps.toList.length ps
  nd : ps.Nodup
  ov : ∀ u ∈ tbl z ps, (∀ c ∈ u, c ∈ z.cps.toList) ∧ u.length ≤ 40 ∧ 1 ≤ u.length
structure JoinsX (K : PySem.W.Frag) (H : Hp) (a dx tp rp np : Addr) (z : Str) (ps : List PL.Pr) : Prop where
  ok : PsOk z ps
  ne : tp ≠ a ∧ rp ≠ a ∧ np ≠ a ∧ tp ≠ rp ∧ tp ≠ np ∧ rp ≠ np
  ex : ∃ (fs : List (Str × V)) (pp : Addr) (xs : List V) (lg : Nat), H a = some (.ins (He.ga K "Joins") dx fs) ∧ fs.length ≤ 6 ∧ lk fs "alphabet" = some (.str z) ∧ lk fs "pairs" = some (.ref pp) ∧ lk fs "texts" = some (.ref tp) ∧ lk fs "ranks" = some (.ref rp) ∧ lk fs "numbers" = some (.ref np) ∧ lk fs "longest" = some (.int (lg : Nat)) ∧ lg ≤ 1000 ∧
    (∀ f ∈ ([("take" : Str), "is_proper", "check_piece", "is_piece", "text_of", "piece_of"] : List Str), lk fs f = none) ∧ SqT K (hid [a, tp, rp, np] H) pp xs ∧ DpAll K (hid [a, tp, rp, np] H) xs (ps.map prD)
  ht : H tp = some (.lst (rowV (tbl z ps)))
  hr : RanksAt H rp ps
  hn : ∃ kvs, H np = some (.dK kvs) ∧ kvs.length ≤ z.cps.toList.length + ps.length ∧ ∀ c ∈ z.cps.toList, valV kvs (.inr (s1 c)) = some (.int (z.cps.toList.idxOf c : Nat))
theorem tbl_at {z : Str} {ps : List PL.Pr} {i : Nat} (h : i < (tbl z ps).length) : (rowV (tbl z ps))[i]? = some (.str (mkS ((tbl z ps).getD i []))) := by
  rw [rowV_at h, List.getD_eq_getElem?_getD, List.getElem?_eq_getElem h]
  rfl
def spIP (K : PySem.W.Frag) : Sp := fun vs H Q _ => ∃ (a dx tp rp np q : Addr) (z : Str) (ps : List PL.Pr) (pr : PL.Pr), vs = [.ref a, .ref q] ∧ JoinsX K H a dx tp rp np z ps ∧ H q = some (.tup (prV pr)) ∧ PrOk z ps pr ∧ ∀ H', Same H H' → Q (.bl true) H'
theorem ok_Joins_is_proper (T : Ev fa fx fn K mg base) : Dn P w K mg base 3 (He.ma K (He.ga K "Joins") "is_proper") ["self", "pair"] (spIP K) := by
  refine dn_of (d_Joins_is_proper T) sc_Joins_is_proper bo_Joins_is_proper (fun vs H Q E h => ?_) (fun cdv A outer s H vs Q E hr h => ?_)
  · obtain ⟨a, dx, tp, rp, np, q, z, ps, pr, rfl, _⟩ := h
    rfl
  · obtain ⟨a, dx, tp, rp, np, q, z, ps, pr, rfl, hJ, hq, hok, k⟩ := h
    have ⟨po, _, ⟨fs, pp, xs, lg, h1, h2, h3, h4, h5, h6, h7, h8, h8', h9, h10, h11⟩, ht, hr', ⟨kvs, hn1, hn2, hn3⟩⟩ := hJ
    have zlo := po.al.lo
    have zhi := po.al.hi
    have few := po.few
    have hlen := tbl_len (z := z) (ps := ps)
    have p1 := hok.lo.1
    have p2 := hok.lo.2
    have htx : ∀ i, i < (tbl z ps).length → (∀ c ∈ (tbl z ps).getD i [], c ∈ z.cps.toList) ∧ ((tbl z ps).getD i []).length ≤ 40 := fun i hi => by
      have q := po.ov ((tbl z ps).getD i []) (by rw [List.getD_eq_getElem?_getD, List.getElem?_eq_getElem hi]; exact List.getElem_mem hi)
      exact ⟨q.1, q.2.1⟩
    refine ⟨_, (PSs.nox (pss_cons (ps_asg (pv 1) (pg_two (K := K) (i := 2) (j := 3) rfl rfl sc_Joins_is_proper.nd rfl rfl (.inl rfl) (.inl rfl)))
      (pss_cons (ps_set (i := 4) sc_Joins_is_proper.nd rfl (.inl rfl) (pe_op op_sub (pe_callB (call_lenK (K := K) rfl) (by rfl) (f_len T) bb_len (pa_cons (pe_fldK (K := K) rfl (pv 0) rfl) pa_nil)) pe_int))
      (pss_cons (ps_if (pw_or (pt_not (pt_val (pe_d (ok_is_between T) (hr.mono (by decide)) (g_is_between T) passL (pa_cons (pv 2) (pa_cons pe_int (pa_cons (pv 4) pa_nil)))))) (pw_or1 (pt_not (pt_val (pe_d (ok_is_between T) (hr.mono (by decide)) (g_is_between T) passL (pa_cons (pv 3) (pa_cons pe_int (pa_cons (pv 4) pa_nil)))))))).pt
        (pss_one (ps_ret pe_bl)) pss_nil)
      (pss_cons (ps_set (i := 5) sc_Joins_is_proper.nd rfl (.inl rfl) (pe_op op_add_str (pe_ix (ix_listK (K := K) rfl) (pe_fldK (K := K) rfl (pv 0) rfl) (pv 2) (fun _ _ => rfl)) (pe_ix (ix_listK (K := K) rfl) (pe_fldK (K := K) rfl (pv 0) rfl) (pv 3) (fun _ _ => rfl))))
      (pss_cons (ps_if (pt_cmpR op_gt (pe_callB (call_lenK (K := K) rfl) (by rfl) (f_len T) bb_len (pa_cons (pv 5) pa_nil)) (pe_gi (c_LONGEST_PIECE T)) (nomark _))
        (pss_one (ps_ret pe_bl)) pss_nil)
      (pss_cons (ps_set (i := 6) sc_Joins_is_proper.nd rfl (.inl rfl) (pe_callTy call_tuple_of (by rfl) (f_tuple T) bb_tuple (pa_cons (pe_lc (own := [("letter", 7)]) rfl sc_Joins_is_proper.nd (pi_str (pv 5)) (blkOk_by (own := [("letter", 7)]) (N := ["self", "pair", "left", "right", "most", "text", "row", "letter"]) (sc := defScope s_Joins_is_proper) (by decide +kernel)) (fun _ _ _ _ _ => (pg_name (i := 7) sc_Joins_is_proper.nd rfl (.inl rfl))) (fun _ _ _ _ _ => pts_nil) (fun _ _ _ _ _ => (pe_dget hr.hu (pe_fldK (K := K) rfl (pv 0) rfl) (pv 7) (fun _ _ => rfl)))) pa_nil)))
      (pss_one (ps_ret (pe_cmpR (op_eqDK (K := K) rfl hr.units) (pe_d (ok_cut_row T) (hr.mono (by decide)) (g_cut_row T) passL (pa_cons (pe_fldK (K := K) rfl (pv 0) rfl) (pa_cons (pe_callB (call_lenK (K := K) rfl) (by rfl) (f_len T) bb_len (pa_cons (pe_fldK (K := K) rfl (pv 0) rfl) pa_nil)) (pa_cons (pv 6) pa_nil)))) (pv 1) (nomark _))))))))))), ?_⟩
    walk_at "cl"
    walk_at "y"
    refine v_gtup (xs := [.int (pr.1 : Nat), .int (pr.2 : Nat)]) (sqT_of hq) rfl ?_
    walk_at "y"
    refine ⟨_, _, _, _, _, rfl, h1, (cls_Joins T), (no_Joins_texts T), h5, ?_⟩
    walk_at "y"
    refine v_lenL (sqL_of ht) ?_
    rw [rowV_len, hlen]
    walk_at "y"
    refine ⟨.int (pr.1 : Nat), 0, _, .int (pr.1 : Nat), rfl, .int _, ?_⟩
    rw [show dBet 0 (((z.cps.toList.length + ps.length : Nat) : Int) - 1) (.int (pr.1 : Nat)) = true from decide_eq_true ⟨by omega, by omega⟩]
    walk_at "y"
    refine iteF_of rfl ?_
    walk_at "y"
    refine ⟨.int (pr.2 : Nat), 0, _, .int (pr.2 : Nat), rfl, .int _, ?_⟩
    rw [show dBet 0 (((z.cps.toList.length + ps.length : Nat) : Int) - 1) (.int (pr.2 : Nat)) = true from decide_eq_true ⟨by omega, by omega⟩]
    walk_at "y"
    refine iteF_of rfl ?_
    walk_at "y"
    refine ⟨_, _, _, _, _, rfl, h1, (cls_Joins T), (no_Joins_texts T), h5, ?_⟩
    walk_at "y"
    refine v_ixL (sqL_of ht) (atI_nat (tbl_at (by omega))) ?_
    walk_at "y"
    refine ⟨_, _, _, _, _, rfl, h1, (cls_Joins T), (no_Joins_texts T), h5, ?_⟩
    walk_at "y"
    refine v_ixL (sqL_of ht) (atI_nat (tbl_at (by omega))) ?_
    have t1 := htx pr.1 (by omega)
    have t2 := htx pr.2 (by omega)
    refine ⟨_, _, rfl, rfl, small (by rw [tl_len, tl_len, mkS_cps, mkS_cps]; omega), ?_⟩
    have et : (mkS ((tbl z ps).getD pr.1 []) ++ mkS ((tbl z ps).getD pr.2 [])).cps.toList = (tbl z ps).getD pr.1 [] ++ (tbl z ps).getD pr.2 [] := by rw [app_cps, mkS_cps, mkS_cps]
    have hcut := hok.cut
    have hln := hok.ln
    have hov : ∀ c ∈ (tbl z ps).getD pr.1 [] ++ (tbl z ps).getD pr.2 [], c ∈ z.cps.toList := fun c hc => by
      rcases List.mem_append.mp hc with hc | hc
      · exact t1.1 c hc
      · exact t2.1 c hc
    generalize mkS ((tbl z ps).getD pr.1 []) ++ mkS ((tbl z ps).getD pr.2 []) = t at et
    rw [← et] at hcut hov hln
    walk_at "y"
    refine v_lenS (small (by rw [tl_len]; omega)) ?_
    rw [tl_len]
    walk_at "y"
    refine if_dec_f (by omega) ?_
    walk_at "y"
    refine ⟨t, rfl, fun D hD => ?_⟩
    have ezl : t.cps.size = t.cps.toList.length := by simp
    refine lc_it (walk_str (z := t)) (fun j H' => Same H H' ∧ H' D = some (.lst (natV (PL.lets z.cps.toList (t.cps.toList.take j))))) ?_ ?_ ?_ ?_
    · exact ⟨same_new hD, upd_same⟩
    · intros
      trivial
    · rintro j x H5 H6 hj ⟨h5, hd5⟩ ⟨rfl, c, hc, rfl⟩
      have hc : t.cps.toList[j]? = some c := by rw [Array.getElem?_toList]; exact hc
      have hcm := hov c (List.mem_of_getElem? hc)
      walk_at "y"
      refine ⟨rfl, ?_⟩
      walk_at "y"
      refine ⟨_, _, _, _, _, rfl, h5 _ _ h1, (cls_Joins T), (no_Joins_numbers T), h7, ?_⟩
      walk_at "y"
      refine ⟨np, .int (z.cps.toList.idxOf c : Nat), rfl, .inl ⟨kvs, .inr (s1 c), .inl (h5 _ _ hn1), rfl, (hn3 c hcm).symm⟩, ?_⟩
      refine ⟨_, hd5, smallL (by rw [natV_len]; unfold PL.lets; rw [List.length_map, List.length_take]; omega), same_mut h5 hD, ?_⟩
      rw [upd_same, List.take_add_one, hc]
      unfold PL.lets
      rw [List.map_append, natV_snoc]
      rfl
    rintro H5 ⟨h5, hd5⟩
    rw [ezl, List.take_length] at hd5
    walk_at "y"
    refine ⟨D, _, rfl, .inl ⟨sqL_of hd5, fun rw1 hrw1 => ?_⟩⟩
    have r1 := same_new (o := .tup (natV (PL.lets z.cps.toList t.cps.toList))) hrw1
    have g1 : upd H5 rw1 (.tup (natV (PL.lets z.cps.toList t.cps.toList))) rw1 = some (.tup (natV (PL.lets z.cps.toList t.cps.toList))) := upd_same
    generalize upd H5 rw1 (.tup (natV (PL.lets z.cps.toList t.cps.toList))) = H6 at r1 g1
    have h6' := h5.trans r1
    walk_at "y"
    refine ⟨_, _, _, _, _, rfl, h6' _ _ h1, (cls_Joins T), (no_Joins_ranks T), h6, ?_⟩
    walk_at "y"
    refine ⟨_, _, _, _, _, rfl, h6' _ _ h1, (cls_Joins T), (no_Joins_alphabet T), h3, ?_⟩
    walk_at "y"
    refine v_lenS (small (by rw [tl_len]; omega)) ?_
    rw [tl_len]
    walk_at "y"
    refine ⟨rp, rw1, z.cps.toList.length, ps, PL.lets z.cps.toList t.cps.toList, rfl, hr'.same h6', sqT_of g1, by unfold PL.lets; rw [List.length_map]; omega, po.wf, po.nd, fun r2 H7 hS7 hr2 => ?_⟩
    rw [hcut] at hr2
    walk_at "y"
    have dpi : ∀ {H : Hp} {q : Addr}, SqT K H q (prV pr) → Dp K H (.ref q) (.tuple ([(pr.1 : Int), (pr.2 : Int)].map .int)) := fun h => .tup h (dpAll_ints [(pr.1 : Int), (pr.2 : Int)])
    refine ⟨_, _, dpi hr2, dpi (sqT_of ((h6'.trans hS7) _ _ hq)), (shaped_ints _).1, (shaped_ints _).1, ?_⟩
    rw [PL.eqv_ints, decide_eq_true rfl]
    exact k _ (h6'.trans hS7)
theorem psOk_snoc {z : Str} {ps : List PL.Pr} {pr : PL.Pr} (h : PsOk z ps) (p : PrOk z ps pr) (few : ps.length < 10) : PsOk z (ps ++ [pr]) := by
  refine ⟨h.al, by rw [List.length_append]; show ps.length + 1 ≤ 10; omega, fun i q hq => ?_, ?_, fun u hu => ?_⟩
  · rcases Nat.lt_or_ge i ps.length with hi | hi
    · rw [List.getElem?_append_left hi] at hq
      exact h.wf i q hq
    · have hi2 : i = ps.length := by
        have := (List.getElem?_eq_some_iff.mp hq).1
        rw [List.length_append, List.length_singleton] at this
        omega
      subst hi2
      rw [List.getElem?_append_right (Nat.le_refl _), Nat.sub_self] at hq
      cases hq
      exact p.lo
  · rw [List.nodup_append]
    refine ⟨h.nd, by simp, fun x hx y hy e => ?_⟩
    rw [List.mem_singleton.mp hy] at e
    exact p.new (e ▸ hx)
  · unfold tbl at hu
    rw [PL.txs_snoc] at hu
    rcases List.mem_append.mp hu with hu | hu
    · exact h.ov u hu
    · rw [List.mem_singleton.mp hu]
      have hl := tbl_len (z := z) (ps := ps)
      have g : ∀ i, i < (tbl z ps).length → (tbl z ps).getD i [] ∈ tbl z ps := fun i hi => by
        rw [List.getD_eq_getElem?_getD, List.getElem?_eq_getElem hi]
        exact List.getElem_mem hi
      have q1 := h.ov _ (g pr.1 (by rw [hl]; exact p.lo.1))
      have q2 := h.ov _ (g pr.2 (by rw [hl]; exact p.lo.2))
      refine ⟨fun c hc => ?_, p.ln, ?_⟩
      · rcases List.mem_append.mp hc with hc | hc
        · exact q1.1 c hc
        · exact q2.1 c hc
      · show 1 ≤ ((tbl z ps).getD pr.1 [] ++ (tbl z ps).getD pr.2 []).length
        rw [List.length_append]
        omega
theorem RanksAt.put {H : Hp} {rp : Addr} {ps : List PL.Pr} {kvs : List (List Key × V)} {pr : PL.Pr} (h1 : kvs.length ≤ ps.length) (h2 : ∀ a b : Nat, valV kvs [.inl (a : Int), .inl (b : Int)] = if (a, b) ∈ ps then some (.int (ps.idxOf (a, b) : Nat)) else none) (hn : pr ∉ ps)
    (h : H rp = some (.dT (putK kvs [.inl (pr.1 : Int), .inl (pr.2 : Int)] (.int (ps.length : Nat))))) : RanksAt H rp (ps ++ [pr]) := by
  refine ⟨_, h, Nat.le_trans (length_putK _ _ _) (by rw [List.length_append]; show _ ≤ ps.length + 1; omega), fun a b => ?_⟩
  rw [valV_put, h2, List.idxOf_append]
  by_cases e : (a, b) = pr
  · subst e
    rw [if_pos rfl, if_pos (List.mem_append_right _ List.mem_cons_self), if_neg hn, List.idxOf_cons_self, Nat.zero_add]
  · have e2 : ¬ ([Sum.inl (a : Int), Sum.inl (b : Int)] : List Key) = [.inl (pr.1 : Int), .inl (pr.2 : Int)] := fun h => e (by
      injection h with h1 h2
      injection h1 with h1
      injection h2 with h2 _
      injection h2 with h2
      exact Prod.ext (by show a = pr.1; omega) (by show b = pr.2; omega))
    rw [if_neg e2]
    by_cases hm : (a, b) ∈ ps
    · rw [if_pos hm, if_pos (List.mem_append_left _ hm), if_pos hm]
    · rw [if_neg hm, if_neg (fun h => by
        rcases List.mem_append.mp h with h | h
        · exact hm h
        · exact e (List.mem_singleton.mp h))]
theorem sqT_hidN {H : Hp} {M : List Addr} {q : Addr} {ys : List V} (hM : ∀ m ∈ M, ∃ u, H m = some u ∧ (∀ xs, u ≠ .tup xs) ∧ ∀ o v, u ≠ .frz o v) (h : SqT K H q ys) : SqT K (hid M H) q ys := by
  rcases h with (h | ⟨o, h⟩) | h
  · exact .inl (.inl (hid_at h fun hm => by
      obtain ⟨u, hu, hn, _⟩ := hM q hm
      rw [h] at hu
      exact hn _ (Option.some.inj hu).symm))
  · exact .inl (.inr ⟨o, hid_at h fun hm => by
      obtain ⟨u, hu, _, hn⟩ := hM q hm
      rw [h] at hu
      exact hn _ _ (Option.some.inj hu).symm⟩)
  · exact .inr h
theorem putF_old {f : Str} {v u : V} : ∀ {fs : List (Str × V)}, lk fs f = some u → (putF f v fs).length = fs.length
  | [], h => by cases h
  | (g, x) :: r, h => by
    show (if g = f then (g, v) :: r else (g, x) :: putF f v r).length = _
    by_cases e : g = f
    · rw [if_pos e]
      rfl
    · rw [if_neg e]
      have h2 : lk r f = some u := by
        have h : List.lookup f ((g, x) :: r) = some u := h
        rw [List.lookup_cons] at h
        have e2 : (f == g) = false := beq_eq_false_iff_ne.mpr (fun q => e q.symm)
        rw [e2] at h
        exact h
      rw [List.length_cons, putF_old h2, List.length_cons]
def spTk (K : PySem.W.Frag) : Sp := fun vs H Q _ => ∃ (a dx tp rp np q : Addr) (z : Str) (ps : List PL.Pr) (pr : PL.Pr), vs = [.ref a, .ref q] ∧ JoinsX K H a dx tp rp np z ps ∧ H q = some (.tup (prV pr)) ∧ PrOk z ps pr ∧ ps.length < 10 ∧
  ∀ H', JoinsX K H' a dx tp rp np z (ps ++ [pr]) → Same (hid [a, tp, rp, np] H) (hid [a, tp, rp, np] H') → Q .non H'
theorem ok_Joins_take (T : Ev fa fx fn K mg base) : Dn P w K mg base 4 (He.ma K (He.ga K "Joins") "take") ["self", "pair"] (spTk K) := by
  refine dn_of (d_Joins_take T) sc_Joins_take bo_Joins_take (fun vs H Q E h => ?_) (fun cdv A outer s H vs Q E hr h => ?_)
  · obtain ⟨a, dx, tp, rp, np, q, z, ps, pr, rfl, _⟩ := h
    rfl
  · obtain ⟨a, dx, tp, rp, np, q, z, ps, pr, rfl, hJ, hq, hok, hfew, k⟩ := h
    have ⟨po, hne, ⟨fs, pp, xs, lg, h1, h2, h3, h4, h5, h6, h7, h8, h8', h9, h10, h11⟩, ht, hr', ⟨kvs, hn1, hn2, hn3⟩⟩ := hJ
    have zlo := po.al.lo
    have zhi := po.al.hi
    have hlen := tbl_len (z := z) (ps := ps)
    have p1 := hok.lo.1
    have p2 := hok.lo.2
    have hxl := dpAll_length h11
    rw [List.length_map] at hxl
    refine ⟨_, (pss_cons (ps_set (i := 2) sc_Joins_take.nd rfl (.inl rfl) (pe_callB (call_lenK (K := K) rfl) (by rfl) (f_len T) bb_len (pa_cons (pe_fldK (K := K) rfl (pv 0) rfl) pa_nil)))
      (pss_cons (ps_if (pt_not (pt_val (pe_m (ok_Joins_is_proper T) (hr.mono (by decide)) (cls_Joins T) (me_Joins_is_proper T) passL (pv 0) (pa_cons (pv 1) pa_nil))))
        (pss_one (ps_raise rfl (takes_of rfl rfl rfl rfl) (pmk_x1 (exc_NotProper T) (ok_NotProper___init__ T) (hr.mono (by decide)) (g_NotProper T) (pv 2)))) pss_nil)
      (pss_cons (ps_set (i := 3) sc_Joins_take.nd rfl (.inl rfl) (pe_op op_add_str (pe_ix (ix_listK (K := K) rfl) (pe_fldK (K := K) rfl (pv 0) rfl) (pe_ix (ix_tupK (K := K) rfl) (pv 1) pe_int (fun _ _ => rfl)) (fun _ _ => rfl)) (pe_ix (ix_listK (K := K) rfl) (pe_fldK (K := K) rfl (pv 0) rfl) (pe_ix (ix_tupK (K := K) rfl) (pv 1) pe_int (fun _ _ => rfl)) (fun _ _ => rfl))))
      (pss_cons (ps_fld (pv 0) (pe_op op_catA (pe_fldK (K := K) rfl (pv 0) rfl) (pe_tup (pa_cons (pv 1) pa_nil))) rfl)
      (pss_cons (ps_dput hr.hu (pe_fldK (K := K) rfl (pv 0) rfl) (pv 3) (pe_callB (call_lenK (K := K) rfl) (by rfl) (f_len T) bb_len (pa_cons (pe_fldK (K := K) rfl (pv 0) rfl) pa_nil)) rfl)
      (pss_cons (ps_expr (pe_bmK (K := K) rfl PySem.F.plainAttrs_list PySem.F.slot_list_append PySem.F.type_list_append mt_append (pe_fldK (K := K) rfl (pv 0) rfl) (pa_cons (pv 3) pa_nil)))
      (pss_cons (ps_dput hr.hu (pe_fldK (K := K) rfl (pv 0) rfl) (pv 1) (pv 2) rfl)
      (pss_one (ps_fld (pv 0) (pe_callB (call_max2 rfl) (by rfl) (f_max T) bb_max (pa_cons (pe_fldK (K := K) rfl (pv 0) rfl) (pa_cons (pe_callB (call_lenK (K := K) rfl) (by rfl) (f_len T) bb_len (pa_cons (pv 3) pa_nil)) pa_nil))) rfl))))))))), ?_⟩
    walk_at "cl"
    walk_at "y"
    refine ⟨_, _, _, _, _, rfl, h1, (cls_Joins T), (no_Joins_pairs T), h4, ?_⟩
    walk_at "y"
    refine v_lenT (sqT_same hid_sub h10) ?_
    rw [hxl]
    walk_at "y"
    refine ⟨a, dx, fs, rfl, h1, h9 _ (by simp), ?_⟩
    walk_at "y"
    refine ⟨a, dx, tp, rp, np, q, z, ps, pr, rfl, hJ, hq, hok, fun H1 hS1 => ?_⟩
    walk_at "y"
    refine iteF_of rfl ?_
    walk_at "y"
    obtain ⟨rkv, hr1, hr2, hr3⟩ := hr'
    have h1a := hS1 _ _ h1
    have hta := hS1 _ _ ht
    have hra := hS1 _ _ hr1
    have hna := hS1 _ _ hn1
    have hqa := hS1 _ _ hq
    have htx : ∀ i, i < (tbl z ps).length → ((tbl z ps).getD i []).length ≤ 40 ∧ 1 ≤ ((tbl z ps).getD i []).length := fun i hi => by
      have q := po.ov ((tbl z ps).getD i []) (by rw [List.getD_eq_getElem?_getD, List.getElem?_eq_getElem hi]; exact List.getElem_mem hi)
      exact q.2
    refine ⟨_, _, _, _, _, rfl, h1a, (cls_Joins T), (no_Joins_texts T), h5, ?_⟩
    walk_at "y"
    refine v_ixT (xs := [.int (pr.1 : Nat), .int (pr.2 : Nat)]) (sqT_of hqa) (atI_nat (j := 0) rfl) ?_
    refine v_ixL (sqL_of hta) (atI_nat (tbl_at (by omega))) ?_
    walk_at "y"
    refine ⟨_, _, _, _, _, rfl, h1a, (cls_Joins T), (no_Joins_texts T), h5, ?_⟩
    walk_at "y"
    refine v_ixT (xs := [.int (pr.1 : Nat), .int (pr.2 : Nat)]) (sqT_of hqa) (atI_nat (j := 1) rfl) ?_
    refine v_ixL (sqL_of hta) (atI_nat (tbl_at (by omega))) ?_
    have t1 := htx pr.1 (by omega)
    have t2 := htx pr.2 (by omega)
    refine ⟨_, _, rfl, rfl, small (by rw [tl_len, tl_len, mkS_cps, mkS_cps]; omega), ?_⟩
    have et : (mkS ((tbl z ps).getD pr.1 []) ++ mkS ((tbl z ps).getD pr.2 [])).cps.toList = (tbl z ps).getD pr.1 [] ++ (tbl z ps).getD pr.2 [] := by rw [app_cps, mkS_cps, mkS_cps]
    have hln := hok.ln
    generalize mkS ((tbl z ps).getD pr.1 []) ++ mkS ((tbl z ps).getD pr.2 []) = t at et
    have htl2 : 2 ≤ t.cps.toList.length := by rw [et, List.length_append]; omega
    have htl40 : t.cps.toList.length ≤ 40 := by rw [et]; exact hln
    walk_at "y"
    refine ⟨_, _, _, _, _, rfl, h1a, (cls_Joins T), (no_Joins_pairs T), h4, ?_⟩
    walk_at "y"
    refine ⟨small (show 1 ≤ 16000000 by decide), fun c1 hc1 => ?_⟩
    have r1 := same_new (o := .tup [.ref q]) hc1
    have g1 : upd H1 c1 (.tup [.ref q]) c1 = some (.tup [.ref q]) := upd_same
    generalize upd H1 c1 (.tup [.ref q]) = H2 at r1 g1
    refine v_catB (sqT_same (hid_sub.trans (hS1.trans r1)) h10) (sqT_of g1) (small (by omega)) fun p2 H3 r2 hp2 => ?_
    have hS3 := hS1.trans (r1.trans r2)
    have r13 := r1.trans r2
    replace h1a := r13 _ _ h1a
    replace hta := r13 _ _ hta
    replace hra := r13 _ _ hra
    replace hna := r13 _ _ hna
    replace hqa := r13 _ _ hqa
    have hM3 : ∀ m ∈ [a, tp, rp, np], ∃ u, H3 m = some u ∧ (∀ xs, u ≠ .tup xs) ∧ ∀ o v, u ≠ .frz o v := fun m hm => by
      simp only [List.mem_cons, List.not_mem_nil, or_false] at hm
      rcases hm with rfl | rfl | rfl | rfl
      · exact ⟨_, h1a, (fun _ e => nomatch e), fun _ _ e => nomatch e⟩
      · exact ⟨_, hta, (fun _ e => nomatch e), fun _ _ e => nomatch e⟩
      · exact ⟨_, hra, (fun _ e => nomatch e), fun _ _ e => nomatch e⟩
      · exact ⟨_, hna, (fun _ e => nomatch e), fun _ _ e => nomatch e⟩
    have hqM : q ∉ [a, tp, rp, np] := fun hm => by
      obtain ⟨u, hu, hn, _⟩ := hM3 q hm
      rw [hqa] at hu
      exact hn _ (Option.some.inj hu).symm
    have hp2h := sqT_hidN hM3 hp2
    have hxs3 := dpAll_same (hid_same (M := [a, tp, rp, np]) hS3) _ _ h11
    have hqd : Dp K (hid [a, tp, rp, np] H3) (.ref q) (prD pr) := .tup (sqT_of (hid_at hqa hqM)) (.cons (.int _) (.cons (.int _) .nil))
    have hS3h := hid_same (M := [a, tp, rp, np]) hS3
    simp only [List.mem_cons, List.not_mem_nil, or_false, not_or] at hqM
    obtain ⟨hqn1, hqn2, hqn3, hqn4⟩ := hqM
    obtain ⟨n1, n2, n3, n4, n5, n6⟩ := hne
    walk_at "y"
    refine ⟨_, _, _, _, rfl, h1a, (cls_Joins T), (no_Joins_pairs T), by omega, ?_⟩
    walk_at "y"
    obtain ⟨fs4, hfs4⟩ : ∃ fs4, fs4 = putF "pairs" (.ref p2) fs := ⟨_, rfl⟩
    have l4 : fs4.length ≤ 6 := by rw [hfs4, putF_old h4]; exact h2
    have f4p : lk fs4 "pairs" = some (.ref p2) := by rw [hfs4, lk_same]
    have f4a : lk fs4 "alphabet" = some (.str z) := by rw [hfs4, lk_ne (by decide +kernel)]; exact h3
    have f4t : lk fs4 "texts" = some (.ref tp) := by rw [hfs4, lk_ne (by decide +kernel)]; exact h5
    have f4r : lk fs4 "ranks" = some (.ref rp) := by rw [hfs4, lk_ne (by decide +kernel)]; exact h6
    have f4n : lk fs4 "numbers" = some (.ref np) := by rw [hfs4, lk_ne (by decide +kernel)]; exact h7
    have f4l : lk fs4 "longest" = some (.int (lg : Nat)) := by rw [hfs4, lk_ne (by decide +kernel)]; exact h8
    have f4m : ∀ f ∈ ([("take" : Str), "is_proper", "check_piece", "is_piece", "text_of", "piece_of"] : List Str), lk fs4 f = none := fun f hf => by
      rw [hfs4, lk_ne ?_]
      · exact h9 f hf
      · simp only [List.mem_cons, List.not_mem_nil, or_false] at hf
        rcases hf with rfl | rfl | rfl | rfl | rfl | rfl <;> decide +kernel
    rw [← hfs4]
    have b4 : upd H3 a (.ins (He.ga K "Joins") dx fs4) a = some (.ins (He.ga K "Joins") dx fs4) := upd_same
    have ht4 : upd H3 a (.ins (He.ga K "Joins") dx fs4) tp = some (.lst (rowV (tbl z ps))) := by rw [upd_ne n1]; exact hta
    have hr4 : upd H3 a (.ins (He.ga K "Joins") dx fs4) rp = some (.dT rkv) := by rw [upd_ne n2]; exact hra
    have hn4 : upd H3 a (.ins (He.ga K "Joins") dx fs4) np = some (.dK kvs) := by rw [upd_ne n3]; exact hna
    have hq4 : upd H3 a (.ins (He.ga K "Joins") dx fs4) q = some (.tup (prV pr)) := by rw [upd_ne hqn1]; exact hqa
    have e4 : hid [a, tp, rp, np] (upd H3 a (.ins (He.ga K "Joins") dx fs4)) = hid [a, tp, rp, np] H3 := hid_in (by simp)
    generalize upd H3 a (.ins (He.ga K "Joins") dx fs4) = H4 at b4 ht4 hr4 hn4 hq4 e4
    refine ⟨_, _, _, _, _, rfl, b4, (cls_Joins T), (no_Joins_texts T), f4t, ?_⟩
    walk_at "y"
    refine v_lenL (sqL_of ht4) ?_
    rw [rowV_len, hlen]
    walk_at "y"
    refine ⟨_, _, _, _, _, rfl, b4, (cls_Joins T), (no_Joins_numbers T), f4n, ?_⟩
    walk_at "y"
    refine ⟨np, _, rfl, .inl ⟨kvs, .inr t, hn4, rfl, smallL (by omega), rfl⟩, ?_⟩
    obtain ⟨o5, ho5⟩ : ∃ o5, o5 = HO.dK (putK kvs (.inr t) (.int (z.cps.toList.length + ps.length : Nat))) := ⟨_, rfl⟩
    rw [← ho5]
    have b5 : upd H4 np o5 a = some (.ins (He.ga K "Joins") dx fs4) := by rw [upd_ne (Ne.symm n3)]; exact b4
    have ht5 : upd H4 np o5 tp = some (.lst (rowV (tbl z ps))) := by rw [upd_ne n5]; exact ht4
    have hr5 : upd H4 np o5 rp = some (.dT rkv) := by rw [upd_ne n6]; exact hr4
    have hn5 : upd H4 np o5 np = some o5 := upd_same
    have hq5 : upd H4 np o5 q = some (.tup (prV pr)) := by rw [upd_ne hqn4]; exact hq4
    have e5 : hid [a, tp, rp, np] (upd H4 np o5) = hid [a, tp, rp, np] H3 := (hid_in (by simp)).trans e4
    generalize upd H4 np o5 = H5 at b5 ht5 hr5 hn5 hq5 e5
    walk_at "y"
    refine ⟨_, _, _, _, _, rfl, b5, (cls_Joins T), (no_Joins_texts T), f4t, ?_⟩
    walk_at "y"
    refine ⟨ty_list (sqL_of ht5), ?_⟩
    walk_at "y"
    refine v_append ht5 (smallL (by rw [rowV_len]; omega)) ?_
    have etb : rowV (tbl z ps) ++ [.str t] = rowV (tbl z (ps ++ [pr])) := by
      unfold tbl
      rw [PL.txs_snoc]
      unfold rowV
      rw [List.map_append, ← mkS_of t, et]
      rfl
    rw [etb]
    obtain ⟨o6, ho6⟩ : ∃ o6, o6 = HO.lst (rowV (tbl z (ps ++ [pr]))) := ⟨_, rfl⟩
    rw [← ho6]
    have b6 : upd H5 tp o6 a = some (.ins (He.ga K "Joins") dx fs4) := by rw [upd_ne (Ne.symm n1)]; exact b5
    have ht6 : upd H5 tp o6 tp = some o6 := upd_same
    have hr6 : upd H5 tp o6 rp = some (.dT rkv) := by rw [upd_ne (Ne.symm n4)]; exact hr5
    have hn6 : upd H5 tp o6 np = some o5 := by rw [upd_ne (Ne.symm n5)]; exact hn5
    have hq6 : upd H5 tp o6 q = some (.tup (prV pr)) := by rw [upd_ne hqn2]; exact hq5
    have e6 : hid [a, tp, rp, np] (upd H5 tp o6) = hid [a, tp, rp, np] H3 := (hid_in (by simp)).trans e5
    generalize upd H5 tp o6 = H6 at b6 ht6 hr6 hn6 hq6 e6
    walk_at "y"
    refine ⟨_, _, _, _, _, rfl, b6, (cls_Joins T), (no_Joins_ranks T), f4r, ?_⟩
    walk_at "y"
    refine ⟨rp, _, rfl, .inr ⟨rkv, [.inl (pr.1 : Int), .inl (pr.2 : Int)], q, hr6, rfl, hq6, smallL (by omega), rfl⟩, ?_⟩
    obtain ⟨o7, ho7⟩ : ∃ o7, o7 = HO.dT (putK rkv [.inl (pr.1 : Int), .inl (pr.2 : Int)] (.int (ps.length : Nat))) := ⟨_, rfl⟩
    rw [← ho7]
    have b7 : upd H6 rp o7 a = some (.ins (He.ga K "Joins") dx fs4) := by rw [upd_ne (Ne.symm n2)]; exact b6
    have ht7 : upd H6 rp o7 tp = some o6 := by rw [upd_ne n4]; exact ht6
    have hr7 : upd H6 rp o7 rp = some o7 := upd_same
    have hn7 : upd H6 rp o7 np = some o5 := by rw [upd_ne (Ne.symm n6)]; exact hn6
    have e7 : hid [a, tp, rp, np] (upd H6 rp o7) = hid [a, tp, rp, np] H3 := (hid_in (by simp)).trans e6
    generalize upd H6 rp o7 = H7 at b7 ht7 hr7 hn7 e7
    walk_at "y"
    refine ⟨_, _, _, _, _, rfl, b7, (cls_Joins T), (no_Joins_longest T), f4l, ?_⟩
    walk_at "y"
    refine v_lenS (small (by rw [tl_len]; omega)) ?_
    rw [tl_len]
    walk_at "y"
    obtain ⟨lg', hlg, hlg2⟩ : ∃ lg' : Nat, (if ((t.cps.toList.length : Nat) : Int) > ((lg : Nat) : Int) then ((t.cps.toList.length : Nat) : Int) else ((lg : Nat) : Int)) = ((lg' : Nat) : Int) ∧ lg' ≤ 1000 := by
      by_cases e : ((t.cps.toList.length : Nat) : Int) > ((lg : Nat) : Int)
      · exact ⟨_, if_pos e, by omega⟩
      · exact ⟨_, if_neg e, h8'⟩
    refine ⟨_, _, rfl, ?_⟩
    rw [hlg]
    walk_at "y"
    refine ⟨_, _, _, _, rfl, b7, (cls_Joins T), (no_Joins_longest T), by omega, ?_⟩
    obtain ⟨fs8, hfs8⟩ : ∃ fs8, fs8 = putF "longest" (.int (lg' : Nat)) fs4 := ⟨_, rfl⟩
    rw [← hfs8]
    have e8 : hid [a, tp, rp, np] (upd H7 a (.ins (He.ga K "Joins") dx fs8)) = hid [a, tp, rp, np] H3 := (hid_in (by simp)).trans e7
    refine k _ ⟨psOk_snoc po hok hfew, ⟨n1, n2, n3, n4, n5, n6⟩, ⟨fs8, p2, xs ++ [.ref q], lg', upd_same, by rw [hfs8, putF_old f4l]; exact l4, ?_, ?_, ?_, ?_, ?_, by rw [hfs8, lk_same], hlg2, fun f hf => ?_, by rw [e8]; exact hp2h, ?_⟩, ?_, ?_, ?_⟩ ?_
    · rw [hfs8, lk_ne (by decide +kernel)]; exact f4a
    · rw [hfs8, lk_ne (by decide +kernel)]; exact f4p
    · rw [hfs8, lk_ne (by decide +kernel)]; exact f4t
    · rw [hfs8, lk_ne (by decide +kernel)]; exact f4r
    · rw [hfs8, lk_ne (by decide +kernel)]; exact f4n
    · rw [hfs8, lk_ne ?_]
      · exact f4m f hf
      · simp only [List.mem_cons, List.not_mem_nil, or_false] at hf
        rcases hf with rfl | rfl | rfl | rfl | rfl | rfl <;> decide +kernel
    · rw [e8, List.map_append]
      exact dpAll_snoc hxs3 hqd
    · rw [upd_ne n1, ht7, ho6]
    · exact RanksAt.put hr2 hr3 hok.new (by rw [upd_ne n2, hr7, ho7])
    · refine ⟨_, by rw [upd_ne n3, hn7, ho5], ?_, fun c hc => ?_⟩
      · refine Nat.le_trans (length_putK _ _ _) ?_
        rw [List.length_append]
        show _ ≤ _ + (ps.length + 1)
        omega
      · rw [valV_put, if_neg (fun e => by
          injection e with e
          rw [← e] at htl2
          simp [s1] at htl2)]
        exact hn3 c hc
    · rw [e8]
      exact hS3h
end

end K80

namespace K80
open PySem PySem.Spec L2 PH
open C8 (tCut pss_cut)
section
variable {P : Program} {w : World} {K : PySem.W.Frag} {mg : Str → Option Value} {base : Heap}
local macro_rules | `(tactic| walk_at "lk") => `(tactic| repeat (first | exact lk_same | rw [lk_ne (by decide +kernel)]))
/-! ### the class -/
def JoinsAt (K : PySem.W.Frag) (H : Hp) (a : Addr) (z : Str) (ps : List PL.Pr) : Prop := ∃ dx tp rp np, JoinsX K H a dx tp rp np z ps
theorem JoinsX.same {H H' : Hp} {a dx tp rp np : Addr} {z : Str} {ps : List PL.Pr} (e : Same H H') (h : JoinsX K H a dx tp rp np z ps) : JoinsX K H' a dx tp rp np z ps := by
  obtain ⟨po, ne, ⟨fs, pp, xs, lg, h1, h2, h3, h4, h5, h6, h7, h8, h8', h9, h10, h11⟩, ht, hr, ⟨kvs, hn1, hn2⟩⟩ := h
  exact ⟨po, ne, ⟨fs, pp, xs, lg, e _ _ h1, h2, h3, h4, h5, h6, h7, h8, h8', h9, sqT_same (hid_same e) h10, dpAll_same (hid_same e) _ _ h11⟩, e _ _ ht, hr.same e, ⟨kvs, e _ _ hn1, hn2⟩⟩
theorem JoinsAt.same {H H' : Hp} {a : Addr} {z : Str} {ps : List PL.Pr} (e : Same H H') (h : JoinsAt K H a z ps) : JoinsAt K H' a z ps := by
  obtain ⟨dx, tp, rp, np, h⟩ := h
  exact ⟨dx, tp, rp, np, h.same e⟩
theorem sqL_hidN {H : Hp} {M : List Addr} {q : Addr} {ys : List V} (hM : ∀ m ∈ M, ∃ u, H m = some u ∧ (∀ xs, u ≠ .lst xs) ∧ ∀ o v, u ≠ .frz o v) (h : SqL K H q ys) : SqL K (hid M H) q ys := by
  rcases h with (h | ⟨o, h⟩) | h
  · exact .inl (.inl (hid_at h fun hm => by
      obtain ⟨u, hu, hn, _⟩ := hM q hm
      rw [h] at hu
      exact hn _ (Option.some.inj hu).symm))
  · exact .inl (.inr ⟨o, hid_at h fun hm => by
      obtain ⟨u, hu, _, hn⟩ := hM q hm
      rw [h] at hu
      exact hn _ _ (Option.some.inj hu).symm⟩)
  · exact .inr h
/-- each of the pairs may be the next one, one behind the other -/
def Steps (z : Str) (ps : List PL.Pr) : Prop := AlphaOk z 4 ∧ ps.length ≤ 10 ∧ ∀ i (h : i < ps.length), PrOk z (ps.take i) ps[i]
def PairV (K : PySem.W.Frag) (H : Hp) (x : V) (pr : PL.Pr) : Prop := ∃ q, x = .ref q ∧ SqL K H q (prV pr)
def spJI (K : PySem.W.Frag) : Sp := fun vs H Q _ => ∃ (a dx p : Addr) (z : Str) (ps : List PL.Pr) (xs : List V), vs = [.ref a, .str z, .ref p] ∧ H a = some (.ins (He.ga K "Joins") dx []) ∧ SqL K H p xs ∧ xs.length = ps.length ∧ (∀ (i : Nat) (x : V) (pr : PL.Pr), xs[i]? = some x → ps[i]? = some pr → ∃ q, x = V.ref q ∧ (SqL K H q (prV pr) ∨ H q = some (.tup (prV pr)))) ∧ Steps z ps ∧
  ∀ H', JoinsAt K H' a z ps → Same (hid [a] H) (hid [a] H') → Q .non H'
theorem ok_Joins___init__ (T : Ev fa fx fn K mg base) : Dn P w K mg base 5 (He.ma K (He.ga K "Joins") "__init__") ["self", "alphabet", "pairs"] (spJI K) := by
  refine dn_of (d_Joins___init__ T) sc_Joins___init__ bo_Joins___init__ (fun vs H Q E h => ?_) (fun cdv A outer s H vs Q E hr h => ?_)
  · obtain ⟨a, dx, p, z, ps, xs, rfl, _⟩ := h
    rfl
  · obtain ⟨a, dx, p, z, ps, xs, rfl, h1, hp, hxl, hx, hst, k⟩ := h
    refine ⟨_, (pss_cons (ps_fld (pv 0) (pe_d (ok_checked_alphabet T) (hr.mono (by decide)) (g_checked_alphabet T) (passes_call (takes_of rfl rfl rfl rfl) (fun _ _ _ _ h => h)) (pa_cons (pv 1) pa_nil)) rfl)
      (pss_cons (ps_fld (pv 0) (pe_tup pa_nil) rfl)
      (pss_cons (ps_fld (pv 0) (pe_callTy (cr_list_str rfl) (by rfl) (f_list T) bb_list (pa_cons (pv 1) pa_nil)) rfl)
      (pss_cons (ps_fld (pv 0) pe_dnewT rfl)
      (pss_cons (ps_fld (pv 0) (pe_dc (own := [("at", 3), ("letter", 4)]) rfl sc_Joins___init__.nd (pi_enumS (by rfl) (f_enumerate T) (pa_cons (pv 1) pa_nil)) (blkOk_by (own := [("at", 3), ("letter", 4)]) (N := ["self", "alphabet", "pairs", "at", "letter", "pair"]) (sc := defScope s_Joins___init__) (by decide +kernel)) (fun _ _ _ _ _ => (pg_two (K := K) (i := 3) (j := 4) rfl rfl sc_Joins___init__.nd rfl rfl (.inl rfl) (.inl rfl))) (fun _ _ _ _ _ => pts_nil) (fun _ _ _ _ _ => (pv 4)) (fun _ _ _ _ _ => (pv 3))) rfl)
      (pss_cons (ps_fld (pv 0) pe_int rfl)
      (pss_one (ps_for (passes_of rfl) rfl (pi_list (pv 2)) (pg_name (i := 5) sc_Joins___init__.nd rfl (.inl rfl))
        (pss_one (ps_expr (pe_m (ok_Joins_take T) (hr.mono (by decide)) (cls_Joins T) (me_Joins_take T) (passes_call (takes_of rfl rfl rfl rfl) (fun _ _ _ _ h => h)) (pv 0) (pa_cons (pe_callTy call_tuple_of (by rfl) (f_tuple T) bb_tuple (pa_cons (pv 5) pa_nil)) pa_nil)))))))))))), ?_⟩
    walk_at "cl"
    walk_at "y"
    refine ⟨z, rfl, hst.1, ?_⟩
    walk_at "y"
    have zlo := hst.1.lo
    have zhi := hst.1.hi
    refine ⟨_, _, _, _, rfl, h1, (cls_Joins T), (no_Joins_alphabet T), (by decide), ?_⟩
    have S1 : Same (hid [a] H) (hid [a] (upd H a (.ins (He.ga K "Joins") dx (putF "alphabet" (.str z) [])))) := hid_put (Same.refl _)
    have b1 : upd H a (.ins (He.ga K "Joins") dx (putF "alphabet" (.str z) [])) a = some (.ins (He.ga K "Joins") dx (putF "alphabet" (.str z) [])) := upd_same
    generalize upd H a (.ins (He.ga K "Joins") dx (putF "alphabet" (.str z) [])) = H1 at S1 b1
    obtain ⟨fs1, hf1⟩ : ∃ fs1, fs1 = putF "alphabet" (.str z) ([] : List (Str × V)) := ⟨_, rfl⟩
    have l1 : fs1.length ≤ 1 := by rw [hf1]; exact putF_len _ _ _
    rw [← hf1] at b1
    walk_at "y"
    refine ⟨small (Nat.zero_le _), fun e0 he0 => ?_⟩
    have q1 := same_new (o := .tup []) he0
    have ge0 : upd H1 e0 (.tup []) e0 = some (.tup []) := upd_same
    have b1' := q1 _ _ b1
    have S2 := S1.trans (hid_same (M := [a]) q1)
    generalize upd H1 e0 (.tup []) = H2 at ge0 b1' S2
    have ne0 : e0 ≠ a := ne_of ge0 b1' (fun e => nomatch e)
    walk_at "y"
    refine ⟨_, _, _, _, rfl, b1', (cls_Joins T), (no_Joins_pairs T), by omega, ?_⟩
    obtain ⟨fs2, hf2⟩ : ∃ fs2, fs2 = putF "pairs" (.ref e0) fs1 := ⟨_, rfl⟩
    have l2 : fs2.length ≤ 2 := by rw [hf2]; exact Nat.le_trans (putF_len _ _ _) (by omega)
    rw [← hf2]
    have S3 : Same (hid [a] H) (hid [a] (upd H2 a (.ins (He.ga K "Joins") dx fs2))) := hid_put S2
    have b2 : upd H2 a (.ins (He.ga K "Joins") dx fs2) a = some (.ins (He.ga K "Joins") dx fs2) := upd_same
    have ge2 : upd H2 a (.ins (He.ga K "Joins") dx fs2) e0 = some (.tup []) := by rw [upd_ne ne0]; exact ge0
    generalize upd H2 a (.ins (He.ga K "Joins") dx fs2) = H3 at S3 b2 ge2
    walk_at "y"
    refine ⟨z, rfl, small (by rw [tl_len]; omega), fun tp htp => ?_⟩
    have esg : sg z = rowV (tbl z []) := by
      unfold rowV tbl sg
      show _ = (PL.baseT z.cps.toList).map _
      unfold PL.baseT
      rw [List.map_map]
      rfl
    rw [esg]
    have q3 := same_new (o := .lst (rowV (tbl z []))) htp
    have gt3 : upd H3 tp (.lst (rowV (tbl z []))) tp = some (.lst (rowV (tbl z []))) := upd_same
    have b2' := q3 _ _ b2
    have ge3 := q3 _ _ ge2
    have S4 := S3.trans (hid_same (M := [a]) q3)
    have nta : tp ≠ a := (ne_of_none b2 htp).symm
    have nte : tp ≠ e0 := (ne_of_none ge2 htp).symm
    have ftp : hid [a] H tp = none := none_same S3 (by
      cases q : hid [a] H3 tp with
      | none => rfl
      | some u => rw [hid_sub _ _ q] at htp; cases htp)
    generalize upd H3 tp (.lst (rowV (tbl z []))) = H4 at gt3 b2' ge3 S4
    walk_at "y"
    refine ⟨_, _, _, _, rfl, b2', (cls_Joins T), (no_Joins_texts T), by omega, ?_⟩
    obtain ⟨fs3, hf3⟩ : ∃ fs3, fs3 = putF "texts" (.ref tp) fs2 := ⟨_, rfl⟩
    have l3 : fs3.length ≤ 3 := by rw [hf3]; exact Nat.le_trans (putF_len _ _ _) (by omega)
    rw [← hf3]
    have S5 : Same (hid [a] H) (hid [a] (upd H4 a (.ins (He.ga K "Joins") dx fs3))) := hid_put S4
    have b3 : upd H4 a (.ins (He.ga K "Joins") dx fs3) a = some (.ins (He.ga K "Joins") dx fs3) := upd_same
    have ge4 : upd H4 a (.ins (He.ga K "Joins") dx fs3) e0 = some (.tup []) := by rw [upd_ne ne0]; exact ge3
    have gt4 : upd H4 a (.ins (He.ga K "Joins") dx fs3) tp = some (.lst (rowV (tbl z []))) := by rw [upd_ne nta]; exact gt3
    generalize upd H4 a (.ins (He.ga K "Joins") dx fs3) = H5 at S5 b3 ge4 gt4
    walk_at "y"
    intro rp hrp
    walk_at "y"
    have q5 := same_new (o := .dT []) hrp
    have gr5 : upd H5 rp (.dT []) rp = some (.dT []) := upd_same
    have b3' := q5 _ _ b3
    have ge5 := q5 _ _ ge4
    have gt5 := q5 _ _ gt4
    have S6 := S5.trans (hid_same (M := [a]) q5)
    have nra : rp ≠ a := (ne_of_none b3 hrp).symm
    have nre : rp ≠ e0 := (ne_of_none ge4 hrp).symm
    have nrt : rp ≠ tp := (ne_of_none gt4 hrp).symm
    have frp : hid [a] H rp = none := none_same S5 (by
      cases q : hid [a] H5 rp with
      | none => rfl
      | some u => rw [hid_sub _ _ q] at hrp; cases hrp)
    generalize upd H5 rp (.dT []) = H6 at gr5 b3' ge5 gt5 S6
    refine ⟨_, _, _, _, rfl, b3', (cls_Joins T), (no_Joins_ranks T), by omega, ?_⟩
    obtain ⟨fs4, hf4⟩ : ∃ fs4, fs4 = putF "ranks" (.ref rp) fs3 := ⟨_, rfl⟩
    have l4 : fs4.length ≤ 4 := by rw [hf4]; exact Nat.le_trans (putF_len _ _ _) (by omega)
    rw [← hf4]
    have S7 : Same (hid [a] H) (hid [a] (upd H6 a (.ins (He.ga K "Joins") dx fs4))) := hid_put S6
    have b4 : upd H6 a (.ins (He.ga K "Joins") dx fs4) a = some (.ins (He.ga K "Joins") dx fs4) := upd_same
    have ge6 : upd H6 a (.ins (He.ga K "Joins") dx fs4) e0 = some (.tup []) := by rw [upd_ne ne0]; exact ge5
    have gt6 : upd H6 a (.ins (He.ga K "Joins") dx fs4) tp = some (.lst (rowV (tbl z []))) := by rw [upd_ne nta]; exact gt5
    have gr6 : upd H6 a (.ins (He.ga K "Joins") dx fs4) rp = some (.dT []) := by rw [upd_ne nra]; exact gr5
    generalize upd H6 a (.ins (He.ga K "Joins") dx fs4) = H7 at S7 b4 ge6 gt6 gr6
    walk_at "y"
    refine ⟨z, rfl, fun np hnp => ?_⟩
    have ezl : z.cps.size = z.cps.toList.length := by simp
    have znd : z.cps.toList.Nodup := hst.1.up.imp (fun h => Nat.ne_of_lt h)
    refine dc_it (walk_enumG (G := fun _ => True)) (fun i H' => Same H7 H' ∧ ∃ kvs, H' np = some (.dK kvs) ∧ kvs.length ≤ i ∧ ∀ j c, j < i → z.cps.toList[j]? = some c → valV kvs (.inr (s1 c)) = some (.int (j : Nat))) ?_ ?_ ?_ ?_
    · exact ⟨same_new hnp, [], upd_same, Nat.le_refl _, fun j c hj => by omega⟩
    · intros
      trivial
    · rintro i x H8 H8' hi ⟨hS8, kvs, hk, hkl, hkv⟩ ⟨t2, u, rfl, ht2, rfl, c, hc, rfl⟩
      have hc : z.cps.toList[i]? = some c := by rw [Array.getElem?_toList]; exact hc
      refine v_gtup (sqT_of upd_same) rfl ?_
      walk_at "y"
      refine ⟨rfl, ?_⟩
      walk_at "y"
      have r8 := same_new (o := .tup [.int (i : Nat), .str ⟨#[c]⟩]) ht2
      refine ⟨kvs, .inr (s1 c), rfl, r8 _ _ hk, smallL (by omega), same_mut (hS8.trans r8) hnp, _, upd_same, Nat.le_trans (length_putK _ _ _) (by omega), fun j d hj hd => ?_⟩
      rw [valV_put]
      by_cases e : j = i
      · subst e
        rw [hc] at hd
        cases hd
        rw [if_pos rfl]
      · rw [if_neg (fun h => by
          have h2 : s1 d = s1 c := Sum.inr.inj h
          have h3 : d = c := by simpa [s1] using h2
          subst h3
          obtain ⟨b1, e1⟩ := List.getElem?_eq_some_iff.mp hc
          obtain ⟨b2, e2⟩ := List.getElem?_eq_some_iff.mp hd
          exact e ((List.getElem_inj znd).1 (e2.trans e1.symm)))]
        exact hkv j d (by omega) hd
    rintro H8 ⟨hS8, kvs, hk, hkl, hkv⟩
    have b4' := hS8 _ _ b4
    have ge8 := hS8 _ _ ge6
    have gt8 := hS8 _ _ gt6
    have gr8 := hS8 _ _ gr6
    have S8 := S7.trans (hid_same (M := [a]) hS8)
    have nna : np ≠ a := (ne_of_none b4 hnp).symm
    have nne : np ≠ e0 := (ne_of_none ge6 hnp).symm
    have nnt : np ≠ tp := (ne_of_none gt6 hnp).symm
    have nnr : np ≠ rp := (ne_of_none gr6 hnp).symm
    have fnp : hid [a] H np = none := none_same S7 (by
      cases q : hid [a] H7 np with
      | none => rfl
      | some u => rw [hid_sub _ _ q] at hnp; cases hnp)
    walk_at "y"
    refine ⟨_, _, _, _, rfl, b4', (cls_Joins T), (no_Joins_numbers T), by omega, ?_⟩
    obtain ⟨fs5, hf5⟩ : ∃ fs5, fs5 = putF "numbers" (.ref np) fs4 := ⟨_, rfl⟩
    have l5 : fs5.length ≤ 5 := by rw [hf5]; exact Nat.le_trans (putF_len _ _ _) (by omega)
    rw [← hf5]
    have S9 : Same (hid [a] H) (hid [a] (upd H8 a (.ins (He.ga K "Joins") dx fs5))) := hid_put S8
    have b5 : upd H8 a (.ins (He.ga K "Joins") dx fs5) a = some (.ins (He.ga K "Joins") dx fs5) := upd_same
    have ge9 : upd H8 a (.ins (He.ga K "Joins") dx fs5) e0 = some (.tup []) := by rw [upd_ne ne0]; exact ge8
    have gt9 : upd H8 a (.ins (He.ga K "Joins") dx fs5) tp = some (.lst (rowV (tbl z []))) := by rw [upd_ne nta]; exact gt8
    have gr9 : upd H8 a (.ins (He.ga K "Joins") dx fs5) rp = some (.dT []) := by rw [upd_ne nra]; exact gr8
    have gn9 : upd H8 a (.ins (He.ga K "Joins") dx fs5) np = some (.dK kvs) := by rw [upd_ne nna]; exact hk
    generalize upd H8 a (.ins (He.ga K "Joins") dx fs5) = H9 at S9 b5 ge9 gt9 gr9 gn9
    walk_at "y"
    refine ⟨_, _, _, _, rfl, b5, (cls_Joins T), (no_Joins_longest T), by omega, ?_⟩
    obtain ⟨fs6, hf6⟩ : ∃ fs6, fs6 = putF "longest" (.int (1 : Nat)) fs5 := ⟨_, rfl⟩
    have l6 : fs6.length ≤ 6 := by rw [hf6]; exact Nat.le_trans (putF_len _ _ _) (by omega)
    have hf6' : putF "longest" (.int 1) fs5 = fs6 := hf6.symm
    rw [hf6']
    have S10 : Same (hid [a] H) (hid [a] (upd H9 a (.ins (He.ga K "Joins") dx fs6))) := hid_put S9
    have b6 : upd H9 a (.ins (He.ga K "Joins") dx fs6) a = some (.ins (He.ga K "Joins") dx fs6) := upd_same
    have ge10 : upd H9 a (.ins (He.ga K "Joins") dx fs6) e0 = some (.tup []) := by rw [upd_ne ne0]; exact ge9
    have gt10 : upd H9 a (.ins (He.ga K "Joins") dx fs6) tp = some (.lst (rowV (tbl z []))) := by rw [upd_ne nta]; exact gt9
    have gr10 : upd H9 a (.ins (He.ga K "Joins") dx fs6) rp = some (.dT []) := by rw [upd_ne nra]; exact gr9
    have gn10 : upd H9 a (.ins (He.ga K "Joins") dx fs6) np = some (.dK kvs) := by rw [upd_ne nna]; exact gn9
    generalize upd H9 a (.ins (He.ga K "Joins") dx fs6) = H10 at S10 b6 ge10 gt10 gr10 gn10
    have hJ0 : JoinsX K H10 a dx tp rp np z [] := by
      refine ⟨⟨hst.1, Nat.zero_le _, (fun i q h => by cases h), List.nodup_nil, fun u hu => ?_⟩, ⟨nta, nra, nna, Ne.symm nrt, Ne.symm nnt, Ne.symm nnr⟩, ⟨fs6, e0, [], 1, b6, l6, ?_, ?_, ?_, ?_, ?_, ?_, by decide, fun f hf => ?_, ?_, .nil⟩, gt10, ⟨[], gr10, Nat.le_refl _, fun x y => rfl⟩, ⟨kvs, gn10, by rw [← ezl]; exact hkl, fun c hc => ?_⟩⟩
      · have hu : u ∈ PL.baseT z.cps.toList := hu
        obtain ⟨c, hc, rfl⟩ := List.mem_map.mp hu
        exact ⟨fun d hd => by rw [List.mem_singleton.mp hd]; exact hc, by show 1 ≤ 40; decide, Nat.le_refl _⟩
      · rw [hf6, hf5, hf4, hf3, hf2, hf1]
        walk_at "lk"
      · rw [hf6, hf5, hf4, hf3, hf2]
        walk_at "lk"
      · rw [hf6, hf5, hf4, hf3]
        walk_at "lk"
      · rw [hf6, hf5, hf4]
        walk_at "lk"
      · rw [hf6, hf5]
        walk_at "lk"
      · rw [hf6]
        walk_at "lk"
      · rw [hf6, hf5, hf4, hf3, hf2, hf1]
        simp only [List.mem_cons, List.not_mem_nil, or_false] at hf
        rcases hf with rfl | rfl | rfl | rfl | rfl | rfl <;> (walk_at "lk"; rfl)
      · refine sqT_of (hid_at ge10 ?_)
        simp only [List.mem_cons, List.not_mem_nil, or_false, not_or]
        exact ⟨ne0, Ne.symm nte, Ne.symm nre, Ne.symm nne⟩
      · exact hkv _ c (by rw [ezl]; exact List.idxOf_lt_length_of_mem hc) (List.getElem?_eq_some_iff.mpr ⟨List.idxOf_lt_length_of_mem hc, List.getElem_idxOf _⟩)
    have hMa : ∀ m ∈ [a], ∃ u, H m = some u ∧ (∀ xs, u ≠ .lst xs) ∧ (∀ xs, u ≠ .tup xs) ∧ ∀ o v, u ≠ .frz o v := fun m hm => by
      rw [List.mem_singleton.mp hm]
      exact ⟨_, h1, (fun _ e => nomatch e), (fun _ e => nomatch e), fun _ _ e => nomatch e⟩
    have SM : Same (hid [a] H) (hid [a, tp, rp, np] H10) := fun c o hc => by
      have nca : c ≠ a := fun e => by rw [e, hid_none (by simp)] at hc; cases hc
      refine hid_at (hid_sub _ _ (S10 c o hc)) ?_
      simp only [List.mem_cons, List.not_mem_nil, or_false, not_or]
      exact ⟨nca, (fun e => by rw [e, ftp] at hc; cases hc), (fun e => by rw [e, frp] at hc; cases hc), fun e => by rw [e, fnp] at hc; cases hc⟩
    have BM : ∀ {H' : Hp}, Same (hid [a, tp, rp, np] H') (hid [a] H') := fun {H'} c o hc => by
      have ncM : c ∉ [a, tp, rp, np] := fun hm => by rw [hid_none hm] at hc; cases hc
      refine hid_at (hid_sub _ _ hc) ?_
      simp only [List.mem_cons, List.not_mem_nil, or_false, not_or] at ncM ⊢
      exact ncM.1
    have hph := sqL_hidN (fun m hm => let ⟨u, e1, e2, e3, e4⟩ := hMa m hm; ⟨u, e1, e2, e4⟩) hp
    walk_at "x"
    refine ⟨p, rfl, ⟨_, sqL_same (SM.trans hid_sub) hph⟩, ?_⟩
    refine for_it (walk_list (xs := xs)) (fun i σ' H' => (∃ y, σ' = [some (.ref a), some (.str z), some (.ref p), none, none, y]) ∧ JoinsX K H' a dx tp rp np z (ps.take i) ∧ Same (hid [a, tp, rp, np] H10) (hid [a, tp, rp, np] H')) ?_ ?_ ?_ ?_
    · exact ⟨⟨_, rfl⟩, hJ0, Same.refl _⟩
    · rintro i σ' H' _ ⟨_, _, h⟩
      exact sqL_same (SM.trans (h.trans hid_sub)) hph
    · rintro i x σ' H11 H12 hi ⟨⟨y, rfl⟩, hJ, hS⟩ ⟨rfl, hxi⟩
      have hi2 : i < ps.length := by omega
      obtain ⟨q, rfl, hq⟩ := hx i x ps[i] hxi (List.getElem?_eq_getElem hi2)
      have htk : ps.take (i + 1) = ps.take i ++ [ps[i]] := by
        rw [List.take_succ, List.getElem?_eq_getElem hi2]
        rfl
      have hpo := hst.2.2 i hi2
      have hten := hst.2.1
      have h1i : ∃ fs, H12 a = some (.ins (He.ga K "Joins") dx fs) ∧ lk fs "take" = none := by
        obtain ⟨_, _, ⟨fs, pp, xs, lg, h1, h2, h3, h4, h5, h6, h7, h8, h8', h9, h10, h11⟩, _⟩ := hJ
        exact ⟨fs, h1, h9 _ (by simp)⟩
      obtain ⟨fs, h1i, h1f⟩ := h1i
      have SS : Same (hid [a] H) H12 := SM.trans (hS.trans hid_sub)
      walk_at "y"
      refine ⟨a, dx, fs, rfl, h1i, h1f, ?_⟩
      walk_at "y"
      rcases hq with hq | hq
      · have hqh := sqL_hidN (fun m hm => let ⟨u, e1, e2, e3, e4⟩ := hMa m hm; ⟨u, e1, e2, e4⟩) hq
        refine ⟨q, _, rfl, .inl ⟨sqL_same SS hqh, fun l hl => ?_⟩⟩
        have r1 := same_new (o := .tup (prV ps[i])) hl
        have g1 : upd H12 l (.tup (prV ps[i])) l = some (.tup (prV ps[i])) := upd_same
        generalize upd H12 l (.tup (prV ps[i])) = H13 at r1 g1
        walk_at "y"
        refine ⟨a, dx, tp, rp, np, l, z, ps.take i, ps[i], rfl, hJ.same r1, g1, hpo, by rw [List.length_take]; omega, fun H14 hJ2 hS2 => ?_⟩
        walk_at "y"
        exact ⟨⟨_, rfl⟩, by rw [htk]; exact hJ2, hS.trans ((hid_same r1).trans hS2)⟩
      · have hqh : hid [a] H q = some (.tup (prV ps[i])) := hid_at hq fun hm => by
          rw [List.mem_singleton.mp hm, h1] at hq
          cases hq
        have hq2 := SS _ _ hqh
        refine ⟨q, _, rfl, .inr ⟨sqT_of hq2, ?_⟩⟩
        walk_at "y"
        refine ⟨a, dx, tp, rp, np, q, z, ps.take i, ps[i], rfl, hJ, hq2, hpo, by rw [List.length_take]; omega, fun H14 hJ2 hS2 => ?_⟩
        walk_at "y"
        exact ⟨⟨_, rfl⟩, by rw [htk]; exact hJ2, hS.trans hS2⟩
    · rintro σ' H11 ⟨⟨y, rfl⟩, hJ, hS⟩
      rw [hxl, List.take_length] at hJ
      exact k _ ⟨dx, tp, rp, np, hJ⟩ (SM.trans (hS.trans BM))
end

end K80

namespace K80
open PySem PySem.Spec L2 PH
open C8 (tCut pss_cut)
section
variable {P : Program} {w : World} {K : PySem.W.Frag} {mg : Str → Option Value} {base : Heap}
theorem JoinsX.fld {H : Hp} {a dx tp rp np : Addr} {z : Str} {ps : List PL.Pr} (h : JoinsX K H a dx tp rp np z ps) : ∃ fs, H a = some (.ins (He.ga K "Joins") dx fs) ∧ lk fs "alphabet" = some (.str z) ∧ lk fs "texts" = some (.ref tp) ∧ lk fs "ranks" = some (.ref rp) ∧ lk fs "numbers" = some (.ref np) ∧ lk fs "check_piece" = none ∧ lk fs "is_piece" = none ∧ lk fs "text_of" = none ∧ lk fs "piece_of" = none := by
  obtain ⟨po, ne, ⟨fs, pp, xs, lg, h1, h2, h3, h4, h5, h6, h7, h8, h8', h9, h10, h11⟩, ht, hr, ⟨kvs, hn1, hn2⟩⟩ := h
  exact ⟨fs, h1, h3, h5, h6, h7, h9 _ (by simp), h9 _ (by simp), h9 _ (by simp), h9 _ (by simp)⟩
def spPO (K : PySem.W.Frag) : Sp := fun vs H Q _ => ∃ (a dx tp rp np : Addr) (z : Str) (ps : List PL.Pr) (c : Nat), vs = [.ref a, .str (s1 c)] ∧ JoinsX K H a dx tp rp np z ps ∧ c ∈ z.cps.toList ∧ Q (.int (z.cps.toList.idxOf c : Nat)) H
theorem ok_Joins_piece_of (T : Ev fa fx fn K mg base) : Dn P w K mg base 1 (He.ma K (He.ga K "Joins") "piece_of") ["self", "text"] (spPO K) := by
  refine dn_of (d_Joins_piece_of T) sc_Joins_piece_of bo_Joins_piece_of (fun vs H Q E h => ?_) (fun cdv A outer s H vs Q E hr h => ?_)
  · obtain ⟨a, dx, tp, rp, np, z, ps, c, rfl, _⟩ := h
    rfl
  · obtain ⟨a, dx, tp, rp, np, z, ps, c, rfl, hJ, hc, k⟩ := h
    obtain ⟨fs, h1, _, _, _, h7, _⟩ := hJ.fld
    obtain ⟨kvs, hn1, hn2, hn3⟩ := hJ.hn
    refine ⟨_, (PSs.nox (pss_one (ps_ret (pe_dget1 hr.hu (pe_fldK (K := K) rfl (pv 0) rfl) (pv 1) ⟨rfl, rfl, rfl, rfl⟩)))), ?_⟩
    walk_at "cl"
    walk_at "y"
    refine ⟨_, _, _, _, _, rfl, h1, (cls_Joins T), (no_Joins_numbers T), h7, ?_⟩
    refine ⟨np, rfl, .inl ⟨_, .inl hn1⟩, ?_⟩
    walk_at "y"
    refine ⟨some (.int (z.cps.toList.idxOf c : Nat)), .inl ⟨kvs, .inr (s1 c), .inl hn1, rfl, (hn3 c hc).symm⟩, ?_⟩
    exact k
def spIsP (K : PySem.W.Frag) : Sp := fun vs H Q _ => ∃ (a dx tp rp np : Addr) (z : Str) (ps : List PL.Pr) (i : Nat), vs = [.ref a, .int (i : Nat)] ∧ JoinsX K H a dx tp rp np z ps ∧ i < (tbl z ps).length ∧ Q (.bl true) H
theorem ok_Joins_is_piece (T : Ev fa fx fn K mg base) : Dn P w K mg base 2 (He.ma K (He.ga K "Joins") "is_piece") ["self", "piece"] (spIsP K) := by
  refine dn_of (d_Joins_is_piece T) sc_Joins_is_piece bo_Joins_is_piece (fun vs H Q E h => ?_) (fun cdv A outer s H vs Q E hr h => ?_)
  · obtain ⟨a, dx, tp, rp, np, z, ps, i, rfl, _⟩ := h
    rfl
  · obtain ⟨a, dx, tp, rp, np, z, ps, i, rfl, hJ, hi, k⟩ := h
    obtain ⟨fs, h1, _, h5, _⟩ := hJ.fld
    have zhi := hJ.ok.al.hi
    have few := hJ.ok.few
    have hlen := tbl_len (z := z) (ps := ps)
    refine ⟨_, (PSs.nox (pss_one (ps_ret (pe_d (ok_is_between T) (hr.mono (by decide)) (g_is_between T) passL (pa_cons (pv 1) (pa_cons pe_int (pa_cons (pe_op op_sub (pe_callB (call_lenK (K := K) rfl) (by rfl) (f_len T) bb_len (pa_cons (pe_fldK (K := K) rfl (pv 0) rfl) pa_nil)) pe_int) pa_nil))))))), ?_⟩
    walk_at "cl"
    walk_at "y"
    refine ⟨_, _, _, _, _, rfl, h1, (cls_Joins T), (no_Joins_texts T), h5, ?_⟩
    walk_at "y"
    refine v_lenL (sqL_of hJ.ht) ?_
    rw [rowV_len, hlen]
    walk_at "y"
    refine ⟨.int (i : Nat), 0, _, .int (i : Nat), rfl, .int _, ?_⟩
    rw [show dBet 0 (((z.cps.toList.length + ps.length : Nat) : Int) - 1) (.int (i : Nat)) = true from decide_eq_true ⟨by omega, by omega⟩]
    exact k
def spChP (K : PySem.W.Frag) : Sp := fun vs H Q _ => ∃ (a dx tp rp np : Addr) (z : Str) (ps : List PL.Pr) (i : Nat), vs = [.ref a, .int (i : Nat)] ∧ JoinsX K H a dx tp rp np z ps ∧ i < (tbl z ps).length ∧ Q .non H
theorem ok_Joins_check_piece (T : Ev fa fx fn K mg base) : Dn P w K mg base 3 (He.ma K (He.ga K "Joins") "check_piece") ["self", "piece"] (spChP K) := by
  refine dn_of (d_Joins_check_piece T) sc_Joins_check_piece bo_Joins_check_piece (fun vs H Q E h => ?_) (fun cdv A outer s H vs Q E hr h => ?_)
  · obtain ⟨a, dx, tp, rp, np, z, ps, i, rfl, _⟩ := h
    rfl
  · obtain ⟨a, dx, tp, rp, np, z, ps, i, rfl, hJ, hi, k⟩ := h
    obtain ⟨fs, h1, _, _, _, _, _, h9, _⟩ := hJ.fld
    refine ⟨_, (pss_one (ps_if (pt_not (pt_val (pe_m (ok_Joins_is_piece T) (hr.mono (by decide)) (cls_Joins T) (me_Joins_is_piece T) passL (pv 0) (pa_cons (pv 1) pa_nil))))
        (pss_one (ps_raise rfl (takes_of rfl rfl rfl rfl) (pmk_x1 (exc_NoPiece T) (ok_NoPiece___init__ T) (hr.mono (by decide)) (g_NoPiece T) (pv 1)))) pss_nil)), ?_⟩
    walk_at "cl"
    walk_at "y"
    refine ⟨a, dx, fs, rfl, h1, h9, ?_⟩
    walk_at "y"
    refine ⟨a, dx, tp, rp, np, z, ps, i, rfl, hJ, hi, ?_⟩
    walk_at "y"
    refine iteF_of rfl ?_
    walk_at "y"
    exact k
def spTO (K : PySem.W.Frag) : Sp := fun vs H Q _ => ∃ (a dx tp rp np : Addr) (z : Str) (ps : List PL.Pr) (i : Nat), vs = [.ref a, .int (i : Nat)] ∧ JoinsX K H a dx tp rp np z ps ∧ i < (tbl z ps).length ∧ Q (.str (mkS ((tbl z ps).getD i []))) H
theorem ok_Joins_text_of (T : Ev fa fx fn K mg base) : Dn P w K mg base 4 (He.ma K (He.ga K "Joins") "text_of") ["self", "piece"] (spTO K) := by
  refine dn_of (d_Joins_text_of T) sc_Joins_text_of bo_Joins_text_of (fun vs H Q E h => ?_) (fun cdv A outer s H vs Q E hr h => ?_)
  · obtain ⟨a, dx, tp, rp, np, z, ps, i, rfl, _⟩ := h
    rfl
  · obtain ⟨a, dx, tp, rp, np, z, ps, i, rfl, hJ, hi, k⟩ := h
    obtain ⟨fs, h1, _, h5, _, _, h8, _⟩ := hJ.fld
    refine ⟨_, (pss_cons (ps_expr (pe_m (ok_Joins_check_piece T) (hr.mono (by decide)) (cls_Joins T) (me_Joins_check_piece T) (passes_call (takes_of rfl rfl rfl rfl) (fun _ _ _ _ h => h)) (pv 0) (pa_cons (pv 1) pa_nil)))
      (pss_one (ps_ret (pe_ix (ix_listK (K := K) rfl) (pe_fldK (K := K) rfl (pv 0) rfl) (pv 1) (fun _ _ => rfl))))), ?_⟩
    walk_at "cl"
    walk_at "y"
    refine ⟨a, dx, fs, rfl, h1, h8, ?_⟩
    walk_at "y"
    refine ⟨a, dx, tp, rp, np, z, ps, i, rfl, hJ, hi, ?_⟩
    walk_at "y"
    refine ⟨_, _, _, _, _, rfl, h1, (cls_Joins T), (no_Joins_texts T), h5, ?_⟩
    walk_at "y"
    refine v_ixL (sqL_of hJ.ht) (atI_nat (tbl_at hi)) ?_
    exact k
def spLO (K : PySem.W.Frag) : Sp := fun vs H Q E => ∃ (a dx tp rp np : Addr) (z t : Str) (ps : List PL.Pr), vs = [.ref a, .str t] ∧ JoinsX K H a dx tp rp np z ps ∧ t.cps.toList.length ≤ 100 ∧
  (((∀ c ∈ t.cps.toList, c ∈ z.cps.toList) ∧ ∀ (q : Addr) (H' : Hp), Same H H' → SqT K H' q (natV (PL.lets z.cps.toList t.cps.toList)) → Q (.ref q) H') ∨
   ∃ (i c : Nat), Foreign z t i c ∧ ∀ dd H', Same H H' → H' dd = none → E (.ref (He.ga K "UnknownSign")) (some dd) (upd H' dd (.xd [("at", .int (i : Int)), ("sign", .str (s1 c))])))
theorem ok_letters_of (T : Ev fa fx fn K mg base) : Dn P w K mg base 3 (He.ga K "letters_of") ["joins", "text"] (spLO K) := by
  refine dn_of (d_letters_of T) sc_letters_of bo_letters_of (fun vs H Q E h => ?_) (fun cdv A outer s H vs Q E hr h => ?_)
  · obtain ⟨a, dx, tp, rp, np, z, t, ps, rfl, _⟩ := h
    rfl
  · obtain ⟨a, dx, tp, rp, np, z, t, ps, rfl, hJ, htl, h⟩ := h
    obtain ⟨fs, h1, h3, _, _, _, _, _, _, hpo⟩ := hJ.fld
    refine ⟨_, (pss_cons (ps_set (i := 2) sc_letters_of.nd rfl (.inl rfl) (pe_lst pa_nil))
      (pss_cons (ps_for (passes_of rfl) rfl (pi_enumS (by rfl) (f_enumerate T) (pa_cons (pv 1) pa_nil)) (pg_two (K := K) (i := 3) (j := 4) rfl rfl sc_letters_of.nd rfl rfl (.inl rfl) (.inl rfl))
        (pss_cons (ps_if (pt_cmpR op_notIn_sign (pv 4) (pe_fldK (K := K) rfl (pv 0) rfl) rfl)
        (pss_one (ps_raise rfl (takes_of rfl rfl rfl rfl) (pmk_x2 (exc_UnknownSign T) (ok_UnknownSign___init__ T) (hr.mono (by decide)) (g_UnknownSign T) (pv 4) (pv 3)))) pss_nil)
      (pss_one (ps_expr (pe_bmK (K := K) rfl PySem.F.plainAttrs_list PySem.F.slot_list_append PySem.F.type_list_append mt_append (pv 2) (pa_cons (pe_m (ok_Joins_piece_of T) (hr.mono (by decide)) (cls_Joins T) (me_Joins_piece_of T) passL (pv 0) (pa_cons (pv 4) pa_nil)) pa_nil))))))
      (pss_one (ps_ret (pe_callTy call_tuple_of (by rfl) (f_tuple T) bb_tuple (pa_cons (pv 2) pa_nil)))))), ?_⟩
    walk_at "cl"
    walk_at "y"
    refine ⟨Nat.zero_le _, fun F hF => ?_⟩
    walk_at "x"
    refine ⟨t, rfl, ?_⟩
    have ezl : t.cps.size = t.cps.toList.length := by simp
    refine for_it (walk_enumG (G := fun _ => True)) (fun i σ' H' => (∃ x y, σ' = [some (.ref a), some (.str t), some (.ref F), x, y]) ∧ Same H H' ∧ H' F = some (.lst (natV (PL.lets z.cps.toList (t.cps.toList.take i)))) ∧ ∀ j d, j < i → t.cps.toList[j]? = some d → d ∈ z.cps.toList) ?_ ?_ ?_ ?_
    · exact ⟨⟨_, _, rfl⟩, same_new hF, upd_same, fun j d hj => by omega⟩
    · intros
      trivial
    · rintro i x σ' H1 H2 hi ⟨⟨x0, y0, rfl⟩, hS, hF1, hb⟩ ⟨p, u, rfl, hp, rfl, c, hc, rfl⟩
      have hc : t.cps.toList[i]? = some c := by rw [Array.getElem?_toList]; exact hc
      have r2 := same_new (o := .tup [.int (i : Nat), .str ⟨#[c]⟩]) hp
      have hS2 := hS.trans r2
      have hF2 := r2 _ _ hF1
      refine v_gtup (sqT_of upd_same) rfl ?_
      walk_at "y"
      refine ⟨_, _, _, _, _, rfl, hS2 _ _ h1, (cls_Joins T), (no_Joins_alphabet T), h3, ?_⟩
      walk_at "y"
      refine ⟨c, z, rfl, rfl, ?_⟩
      walk_at "y"
      refine if_bnot (fun hn => ?_) (fun hin => ?_)
      · rcases h with ⟨ha, _⟩ | ⟨i', c', hFo, k⟩
        · exact absurd (ha c (List.mem_of_getElem? hc)) hn
        · have e : i = i' := by
            rcases Nat.lt_trichotomy i i' with q | q | q
            · exact absurd (hFo.2.2 i c q hc) hn
            · exact q
            · exact absurd (hb i' c' q hFo.1) hFo.2.1
          subst e
          have e2 := hFo.1
          rw [hc] at e2
          cases e2
          refine v_var rfl ?_
          refine v_var rfl ?_
          intro dd hdd
          exact k dd _ hS2 hdd
      · walk_at "y"
        refine ⟨ty_list (sqL_of hF2), ?_⟩
        walk_at "y"
        refine ⟨a, dx, fs, rfl, hS2 _ _ h1, hpo, ?_⟩
        walk_at "y"
        refine ⟨a, dx, tp, rp, np, z, ps, c, rfl, hJ.same hS2, hin, ?_⟩
        walk_at "y"
        refine v_append hF2 (smallL (by rw [natV_len]; unfold PL.lets; rw [List.length_map, List.length_take]; omega)) ?_
        walk_at "y"
        refine ⟨⟨_, _, rfl⟩, same_mut hS2 hF, ?_, fun j d hj hd => ?_⟩
        · rw [upd_same, List.take_add_one, hc]
          unfold PL.lets
          rw [List.map_append, natV_snoc]
          rfl
        · by_cases q : j < i
          · exact hb j d q hd
          · have e : j = i := by omega
            subst e
            rw [hc] at hd
            cases hd
            exact hin
    · rintro σ' H1 ⟨⟨x0, y0, rfl⟩, hS, hF1, hb⟩
      rcases h with ⟨_, k⟩ | ⟨i', c', hFo, k⟩
      · rw [ezl, List.take_length] at hF1
        walk_at "y"
        refine ⟨F, _, rfl, .inl ⟨sqL_of hF1, fun q hq => ?_⟩⟩
        exact k q _ (same_upd hS hq) (sqT_of upd_same)
      · have q := (List.getElem?_eq_some_iff.mp hFo.1).1
        exact absurd (hb i' c' (by rw [ezl]; exact q) hFo.1) hFo.2.1
def spCu (K : PySem.W.Frag) : Sp := fun vs H Q E => ∃ (a dx tp rp np : Addr) (z t : Str) (ps : List PL.Pr), vs = [.ref a, .str t] ∧ JoinsX K H a dx tp rp np z ps ∧ t.cps.toList.length ≤ 100 ∧
  (((∀ c ∈ t.cps.toList, c ∈ z.cps.toList) ∧ ∀ (q : Addr) (H' : Hp), Same H H' → SqT K H' q (natV (PL.cutJ z.cps.toList.length ps (PL.lets z.cps.toList t.cps.toList))) → Q (.ref q) H') ∨
   ∃ (i c : Nat), Foreign z t i c ∧ ∀ dd H', Same H H' → H' dd = none → E (.ref (He.ga K "UnknownSign")) (some dd) (upd H' dd (.xd [("at", .int (i : Int)), ("sign", .str (s1 c))])))
theorem ok_cut (T : Ev fa fx fn K mg base) : Dn P w K mg base 4 (He.ga K "cut") ["joins", "text"] (spCu K) := by
  refine dn_of (d_cut T) sc_cut bo_cut (fun vs H Q E h => ?_) (fun cdv A outer s H vs Q E hr h => ?_)
  · obtain ⟨a, dx, tp, rp, np, z, t, ps, rfl, _⟩ := h
    rfl
  · obtain ⟨a, dx, tp, rp, np, z, t, ps, rfl, hJ, htl, h⟩ := h
    obtain ⟨fs, h1, h3, _, h6, _⟩ := hJ.fld
    have zhi := hJ.ok.al.hi
    refine ⟨_, (pss_one (ps_ret (pe_d (ok_cut_row T) (hr.mono (by decide)) (g_cut_row T) passL (pa_cons (pe_fldK (K := K) rfl (pv 0) rfl) (pa_cons (pe_callB (call_lenK (K := K) rfl) (by rfl) (f_len T) bb_len (pa_cons (pe_fldK (K := K) rfl (pv 0) rfl) pa_nil)) (pa_cons (pe_d (ok_letters_of T) (hr.mono (by decide)) (g_letters_of T) (passes_call (takes_of rfl rfl rfl rfl) (fun _ _ _ _ h => h)) (pa_cons (pv 0) (pa_cons (pv 1) pa_nil))) pa_nil)))))), ?_⟩
    walk_at "cl"
    walk_at "y"
    refine ⟨_, _, _, _, _, rfl, h1, (cls_Joins T), (no_Joins_ranks T), h6, ?_⟩
    walk_at "y"
    refine ⟨_, _, _, _, _, rfl, h1, (cls_Joins T), (no_Joins_alphabet T), h3, ?_⟩
    walk_at "y"
    refine v_lenS (small (by rw [tl_len]; omega)) ?_
    rw [tl_len]
    walk_at "y"
    refine ⟨a, dx, tp, rp, np, z, t, ps, rfl, hJ, htl, ?_⟩
    rcases h with ⟨hov, k⟩ | h
    · refine .inl ⟨hov, fun q H1 hS1 hq => ?_⟩
      walk_at "y"
      refine ⟨rp, q, _, ps, _, rfl, hJ.hr.same hS1, hq, by unfold PL.lets; rw [List.length_map]; exact htl, hJ.ok.wf, hJ.ok.nd, fun r H2 hS2 hr2 => ?_⟩
      exact k r H2 (hS1.trans hS2) hr2
    · exact .inr h
end

end K80

namespace K80
open PySem PySem.Spec L2 PH
open C8 (tCut pss_cut)
section
variable {P : Program} {w : World} {K : PySem.W.Frag} {mg : Str → Option Value} {base : Heap}
def spLB (K : PySem.W.Frag) : Sp := fun vs H Q _ => ∃ (a : Addr) (z t : Str) (ws : List Str) (at_ : Nat), vs = [.ref a, .str t, .int (at_ : Int)] ∧ WordsAt K H a z ws ∧ WordsL K H a z ws ∧ at_ ≤ t.cps.toList.length ∧ t.cps.toList.length ≤ 10000 ∧
  ∀ (L : Addr) (ss : List Nat) (H' : Hp), H L = none → H' L = some (.lst (ss.map fun (s : Nat) => V.int (s : Int))) → (∀ s, s ∈ ss ↔ PL.Suf (WW z ws) (t.cps.toList.take at_) s) → ss.Pairwise (· > ·) → ss.length ≤ 6 → Same H H' → Q (.ref L) H'
theorem ok_Words_lengths_behind (T : Ev fa fx fn K mg base) : Dn P w K mg base 1 (He.ma K (He.ga K "Words") "lengths_behind") ["self", "text", "at"] (spLB K) := by
  refine dn_of (d_Words_lengths_behind T) sc_Words_lengths_behind bo_Words_lengths_behind (fun vs H Q E h => ?_) (fun cdv A outer s H vs Q E hr h => ?_)
  · obtain ⟨a, z, t, ws, at_, rfl, _⟩ := h
    rfl
  · obtain ⟨a, z, t, ws, at_, rfl, hw, ⟨dx', fs', m, l1, l2, l3, l4, l5, l6, l7⟩, hat, htl, k⟩ := h
    have ⟨al, fu, dx, fp, kn, fs, kvs, h1, h2, h3, h4, h5, h6, h7, h8, h9⟩ := hw
    have zl : t.length = t.cps.toList.length := tl_len
    refine ⟨_, (PSs.nox (pss_cons (ps_set (i := 3) sc_Words_lengths_behind.nd rfl (.inl rfl) (pe_callB (call_min2 rfl) (by rfl) (f_min T) bb_min (pa_cons (pe_fldK (K := K) rfl (pv 0) rfl) (pa_cons (pv 2) pa_nil))))
      (pss_one (ps_ret (pe_lc (own := [("size", 4)]) rfl sc_Words_lengths_behind.nd (pi_range3 rfl (f_range T) (pa_cons (pv 3) (pa_cons pe_int (pa_cons (pe_un un_neg pe_int) pa_nil)))) (blkOk_by (own := [("size", 4)]) (N := ["self", "text", "at", "most", "size"]) (sc := defScope s_Words_lengths_behind) (by decide +kernel)) (fun _ _ _ _ _ => (pg_name (i := 4) sc_Words_lengths_behind.nd rfl (.inl rfl))) (fun _ _ _ _ _ => pts_one (pt_cmp (pc_din hr.hu (pe_slice sl_str (pv 1) (po_some (pe_op op_sub (pv 2) (pv 4))) (po_some (pv 2))) (pe_fldK (K := K) rfl (pv 0) rfl)))) (fun _ _ _ _ _ => (pv 4))))))), ?_⟩
    walk_at "cl"
    walk_at "y"
    refine ⟨_, _, _, _, _, rfl, l1, (cls_Words T), (no_Words_longest T), l2, ?_⟩
    walk_at "y"
    refine ⟨_, _, rfl, ?_⟩
    obtain ⟨n, hn, hnm⟩ : ∃ n : Nat, (if (at_ : Int) < (m : Int) then (at_ : Int) else (m : Int)) = (n : Int) ∧ n = min m at_ := by
      refine ⟨min m at_, ?_, rfl⟩
      split <;> omega
    rw [hn]
    walk_at "y"
    refine ⟨_, _, _, n, rfl, rg_down (by omega), fun D hD => ?_⟩
    refine lc_it walk_rangeC (fun i H' => Same H H' ∧ H' D = some (.lst ((downs n (fun s => decide (mkS ((t.cps.toList.drop (at_ - s)).take s) ∈ allW z ws)) i).map fun (s : Nat) => V.int (s : Int)))) ?_ ?_ ?_ ?_
    · exact ⟨same_new hD, upd_same⟩
    · intros
      trivial
    · rintro i x H1 H2 hi ⟨hS, hd⟩ ⟨rfl, rfl⟩
      obtain ⟨s, hs, hsi⟩ : ∃ s : Nat, (n : Int) + (i : Nat) * (-1) = (s : Int) ∧ s = n - i := ⟨n - i, by omega, rfl⟩
      walk_at "y"
      refine ⟨rfl, ?_⟩
      walk_at "y"
      refine ⟨t, rfl, small (by omega), ?_⟩
      rw [hs, show (at_ : Int) - (s : Int) = ((at_ - s : Nat) : Int) by omega, cutS_mid t (at_ - s) at_ (by omega), show at_ - (at_ - s) = s by omega]
      walk_at "y"
      refine ⟨_, _, _, _, _, rfl, hS _ _ h1, (cls_Words T), (no_Words_known T), h4, ?_⟩
      refine ⟨kn, _, rfl, .inl ⟨kvs, .inr (mkS ((t.cps.toList.drop (at_ - s)).take s)), .inl (hS _ _ h8), rfl, rfl⟩, ?_⟩
      rw [h9 (mkS ((t.cps.toList.drop (at_ - s)).take s))]
      refine ⟨_, rfl, ?_⟩
      refine if_dec (fun c => ?_) (fun c => ?_)
      · have c : mkS ((t.cps.toList.drop (at_ - s)).take s) ∈ allW z ws := c
        walk_at "y"
        refine ⟨_, hd, smallL (Nat.lt_of_le_of_lt (by rw [List.length_map]; exact downs_len) (by omega : i < 16000000)), same_mut hS hD, ?_⟩
        rw [upd_same, downs_succ, ← hsi, if_pos (decide_eq_true c), List.map_append]
        show some (HO.lst (_ ++ [V.int ((n : Int) + (i : Nat) * (-1))])) = _
        rw [hs]
        rfl
      · have c : ¬ mkS ((t.cps.toList.drop (at_ - s)).take s) ∈ allW z ws := c
        refine ⟨hS, ?_⟩
        rw [downs_succ, ← hsi, if_neg (by rw [decide_eq_false c]; decide), List.append_nil]
        exact hd
    · rintro H1 ⟨hS, hd⟩
      refine k D _ H1 hD hd (fun s => ?_) downs_down ?_ hS
      · rw [downs_mem, decide_eq_true_eq]
        have e : ∀ s, s ≤ at_ → (t.cps.toList.take at_).drop ((t.cps.toList.take at_).length - s) = (t.cps.toList.drop (at_ - s)).take s := fun s hs => by
          rw [List.length_take, Nat.min_eq_left hat, List.drop_take, show at_ - (at_ - s) = s by omega]
        have e2 : (t.cps.toList.take at_).length = at_ := by rw [List.length_take, Nat.min_eq_left hat]
        unfold PL.Suf WW
        constructor
        · rintro ⟨⟨q1, q2⟩, q3⟩
          exact ⟨by omega, by rw [e s (by omega)]; exact q3⟩
        · rintro ⟨q1, q3⟩
          rw [e s (by omega)] at q3
          have q4 := allW_ok' al fu _ q3
          have q5 := l5 _ q3
          rw [mkS_cps, List.length_take, List.length_drop] at q4 q5
          exact ⟨⟨by omega, by omega⟩, q3⟩
      · exact Nat.le_trans downs_len (by omega)
theorem suf_one {z t : Str} {ws : List Str} {i : Nat} (hov : ∀ c ∈ t.cps.toList, c ∈ z.cps.toList) (h0 : 0 < i) (hi : i ≤ t.cps.toList.length) : PL.Suf (WW z ws) (t.cps.toList.take i) 1 := by
  have l : (t.cps.toList.take i).length = i := by rw [List.length_take, Nat.min_eq_left hi]
  refine ⟨by omega, ?_⟩
  unfold WW
  have e : (t.cps.toList.take i).drop ((t.cps.toList.take i).length - 1) = [t.cps.toList[i - 1]] := by
    rw [l, List.drop_take, show i - (i - 1) = 1 by omega, List.drop_eq_getElem_cons (by omega)]
    rfl
  rw [e]
  refine List.mem_append_left _ (List.mem_map.mpr ⟨t.cps.toList[i - 1], hov _ (List.getElem_mem _), rfl⟩)
theorem WordsL.lb {H : Hp} {a : Addr} {z : Str} {ws : List Str} {dx : Addr} {fs : List (Str × V)} (h : WordsL K H a z ws) (ha : H a = some (.ins (He.ga K "Words") dx fs)) : lk fs "lengths_behind" = none := by
  obtain ⟨dx', fs', m, h1, h2, h3, h4, _⟩ := h
  rw [ha] at h1
  injection h1 with h1
  injection h1 with _ _ h1
  rw [h1]
  exact h4
def spAh (K : PySem.W.Frag) : Sp := fun vs H Q E => ∃ (a : Addr) (z t : Str) (ws : List Str), vs = [.ref a, .str t] ∧ WordsAt K H a z ws ∧ WordsL K H a z ws ∧ t.cps.toList.length ≤ 10000 ∧
  (((∀ c ∈ t.cps.toList, c ∈ z.cps.toList) ∧ ∀ (q : Addr) (r : List PL.T) (H' : Hp), Same H H' → SqT K H' q (rowV r) → PL.AheadR (WW z ws) t.cps.toList r → Q (.ref q) H') ∨
   ∃ i c, Foreign z t i c ∧ ∀ dd H', Same H H' → H' dd = none → E (.ref (He.ga K "UnknownSign")) (some dd) (upd H' dd (.xd [("at", .int (i : Int)), ("sign", .str (s1 c))])))
theorem ok_ahead (T : Ev fa fx fn K mg base) : Dn P w K mg base 4 (He.ga K "ahead") ["words", "text"] (spAh K) := by
  refine dn_of (d_ahead T) sc_ahead bo_ahead (fun vs H Q E h => ?_) (fun cdv A outer s H vs Q E hr h => ?_)
  · obtain ⟨a, z, t, ws, rfl, _⟩ := h
    rfl
  · obtain ⟨a, z, t, ws, rfl, hw, hL, htl, h⟩ := h
    have ⟨al, fu, dx, fp, kn, fs, kvs, h1, h2, h3, h4, h5, h6, h7, h8, h9⟩ := hw
    have ⟨dx', fs', m', l1, l2, l3, l4, l5, l6, l7⟩ := hL
    have zl : t.length = t.cps.toList.length := tl_len
    refine ⟨_, (pss_cons (ps_expr (pe_d (ok_check_letters T) (hr.mono (by decide)) (g_check_letters T) (passes_call (takes_of rfl rfl rfl rfl) (fun _ _ _ _ h => h)) (pa_cons (pe_fldK (K := K) rfl (pv 0) rfl) (pa_cons (pv 1) pa_nil))))
      (pss_cons (ps_set (i := 2) sc_ahead.nd rfl (.inl rfl) (pe_lst pa_nil))
      (pss_cons (ps_set (i := 3) sc_ahead.nd rfl (.inl rfl) pe_int)
      (pss_cons (ps_while (passes_of rfl) (pt_cmpR op_lt (pv 3) (pe_callB (call_lenK (K := K) rfl) (by rfl) (f_len T) bb_len (pa_cons (pv 1) pa_nil)) (nomark _))
        (pss_cons (ps_set (i := 4) sc_ahead.nd rfl (.inl rfl) (pe_ix (ix_listK (K := K) rfl) (pe_m (ok_Words_lengths_ahead T) (hr.mono (by decide)) (cls_Words T) (me_Words_lengths_ahead T) passL (pv 0) (pa_cons (pv 1) (pa_cons (pv 3) pa_nil))) pe_int (fun _ _ => rfl)))
      (pss_cons (ps_expr (pe_bmK (K := K) rfl PySem.F.plainAttrs_list PySem.F.slot_list_append PySem.F.type_list_append mt_append (pv 2) (pa_cons (pe_slice sl_str (pv 1) (po_some (pv 3)) (po_some (pe_op op_add (pv 3) (pv 4)))) pa_nil)))
      (pss_one (ps_set (i := 3) sc_ahead.nd rfl (.inl rfl) (pe_op op_add (pv 3) (pv 4)))))))
      (pss_one (ps_ret (pe_callTy call_tuple_of (by rfl) (f_tuple T) bb_tuple (pa_cons (pv 2) pa_nil)))))))), ?_⟩
    walk_at "cl"
    walk_at "y"
    refine ⟨_, _, _, _, _, rfl, h1, (cls_Words T), (no_Words_alphabet T), h2, ?_⟩
    walk_at "y"
    rcases h with ⟨hov, k⟩ | ⟨i, c, hf, k⟩
    rotate_left
    · exact ⟨z, t, rfl, .inr ⟨i, c, hf.1, hf.2.1, hf.2.2, fun dd H' hS hdd => k dd H' hS hdd⟩⟩
    refine ⟨z, t, rfl, .inl ⟨hov, fun H1 hS1 => ?_⟩⟩
    walk_at "y"
    refine ⟨Nat.zero_le _, fun rw hrw => ?_⟩
    have nrw := none_same hS1 hrw
    walk_at "y"
    refine whl_by (fun m σ' H' => ∃ (at_ : Nat) (y : Option V) (r : List PL.T), m = t.cps.toList.length - at_ ∧ at_ ≤ t.cps.toList.length ∧ σ' = [some (.ref a), some (.str t), some (.ref rw), some (.int (at_ : Int)), y] ∧ H' rw = some (.lst (r.map fun u => V.str (mkS u))) ∧ Same H H' ∧
      r.length ≤ at_ ∧ ∀ b, PL.AheadR (WW z ws) (t.cps.toList.drop at_) b → PL.AheadR (WW z ws) t.cps.toList (r ++ b)) ?_ ?_
    · exact ⟨_, 0, none, [], rfl, Nat.zero_le _, rfl, upd_same, same_mut hS1 nrw, Nat.le_refl _, fun n hn => hn⟩
    · rintro m σ' H2 ⟨at_, y, r, rfl, hat, rfl, hr2, hS2, hrl, hah⟩
      walk_at "y"
      refine v_lenS (small (by omega)) ?_
      walk_at "y"
      refine if_dec (fun c => ?_) (fun c => ?_)
      · refine go_on ?_
        walk_at "y"
        refine ⟨a, dx, fs, rfl, hS2 _ _ h1, WordsL.la hL h1, ?_⟩
        walk_at "y"
        refine ⟨a, z, t, ws, at_, rfl, hw.same hS2, hL.same hS2, hat, htl, fun L ss H3 hLn hL3 hmem hdown hsl hS3 => ?_⟩
        obtain ⟨s, rest, rfl, hs1, hs2⟩ := head_max hmem hdown (pre_one (ws := ws) hov (by omega : at_ < t.cps.toList.length))
        have hs3 := hs1.1
        rw [List.length_drop] at hs3
        have hs4 : 1 ≤ s := hs2 1 (pre_one (ws := ws) hov (by omega))
        walk_at "y"
        refine v_ixL (v := .int (s : Int)) (sqL_of hL3) (atI_nat rfl) ?_
        walk_at "y"
        have hr3 := hS3 _ _ hr2
        refine ⟨ty_list (sqL_of hr3), ?_⟩
        walk_at "y"
        refine ⟨t, rfl, small (by omega), ?_⟩
        rw [show (at_ : Int) + (s : Int) = ((at_ + s : Nat) : Int) by omega, cutS_mid t at_ (at_ + s) (by omega), show at_ + s - at_ = s by omega]
        walk_at "y"
        refine v_append hr3 (smallL (by simp; omega)) ?_
        walk_at "y"
        refine ⟨_, by omega, at_ + s, some (.int (s : Int)), r ++ [(t.cps.toList.drop at_).take s], rfl, by omega, ?_, ?_, same_mut (hS2.trans hS3) nrw, by simp; omega, fun n hn => ?_⟩
        · rw [show ((at_ + s : Nat) : Int) = (at_ : Int) + (s : Int) by omega]
          rfl
        · rw [upd_same, List.map_append]
          rfl
        · rw [List.append_assoc]
          refine hah _ (.step ?_ ⟨hs1, hs2⟩ ?_)
          · intro e
            have := congrArg List.length e
            rw [List.length_drop, List.length_nil] at this
            omega
          · rw [List.drop_drop]
            exact hn
      · have e : at_ = t.cps.toList.length := by omega
        subst e
        walk_at "y"
        refine ⟨rw, _, rfl, .inl ⟨sqL_of hr2, fun q hq => ?_⟩⟩
        have hd := hah [] (by rw [List.drop_length]; exact .nil)
        rw [List.append_nil] at hd
        exact k q r _ (same_upd hS2 hq) (sqT_of upd_same) hd
def spBh (K : PySem.W.Frag) : Sp := fun vs H Q E => ∃ (a : Addr) (z t : Str) (ws : List Str), vs = [.ref a, .str t] ∧ WordsAt K H a z ws ∧ WordsL K H a z ws ∧ t.cps.toList.length ≤ 10000 ∧
  (((∀ c ∈ t.cps.toList, c ∈ z.cps.toList) ∧ ∀ (q : Addr) (r : List PL.T) (H' : Hp), Same H H' → SqT K H' q (rowV r) → PL.BehindR (WW z ws) t.cps.toList r → Q (.ref q) H') ∨
   ∃ i c, Foreign z t i c ∧ ∀ dd H', Same H H' → H' dd = none → E (.ref (He.ga K "UnknownSign")) (some dd) (upd H' dd (.xd [("at", .int (i : Int)), ("sign", .str (s1 c))])))
theorem ok_behind (T : Ev fa fx fn K mg base) : Dn P w K mg base 4 (He.ga K "behind") ["words", "text"] (spBh K) := by
  refine dn_of (d_behind T) sc_behind bo_behind (fun vs H Q E h => ?_) (fun cdv A outer s H vs Q E hr h => ?_)
  · obtain ⟨a, z, t, ws, rfl, _⟩ := h
    rfl
  · obtain ⟨a, z, t, ws, rfl, hw, hL, htl, h⟩ := h
    have ⟨al, fu, dx, fp, kn, fs, kvs, h1, h2, h3, h4, h5, h6, h7, h8, h9⟩ := hw
    have ⟨dx', fs', m', l1, l2, l3, l4, l5, l6, l7⟩ := hL
    have zl : t.length = t.cps.toList.length := tl_len
    refine ⟨_, (pss_cons (ps_expr (pe_d (ok_check_letters T) (hr.mono (by decide)) (g_check_letters T) (passes_call (takes_of rfl rfl rfl rfl) (fun _ _ _ _ h => h)) (pa_cons (pe_fldK (K := K) rfl (pv 0) rfl) (pa_cons (pv 1) pa_nil))))
      (pss_cons (ps_set (i := 2) sc_behind.nd rfl (.inl rfl) (pe_lst pa_nil))
      (pss_cons (ps_set (i := 3) sc_behind.nd rfl (.inl rfl) (pe_callB (call_lenK (K := K) rfl) (by rfl) (f_len T) bb_len (pa_cons (pv 1) pa_nil)))
      (pss_cons (ps_while (passes_of rfl) (pt_cmpR op_gt (pv 3) pe_int (nomark _))
        (pss_cons (ps_set (i := 4) sc_behind.nd rfl (.inl rfl) (pe_ix (ix_listK (K := K) rfl) (pe_m (ok_Words_lengths_behind T) (hr.mono (by decide)) (cls_Words T) (me_Words_lengths_behind T) passL (pv 0) (pa_cons (pv 1) (pa_cons (pv 3) pa_nil))) pe_int (fun _ _ => rfl)))
      (pss_cons (ps_expr (pe_bmK (K := K) rfl PySem.F.plainAttrs_list PySem.F.slot_list_append PySem.F.type_list_append mt_append (pv 2) (pa_cons (pe_slice sl_str (pv 1) (po_some (pe_op op_sub (pv 3) (pv 4))) (po_some (pv 3))) pa_nil)))
      (pss_one (ps_set (i := 3) sc_behind.nd rfl (.inl rfl) (pe_op op_sub (pv 3) (pv 4)))))))
      (pss_one (ps_ret (RT.pe_tupRev rfl (by rfl) (f_tuple T) (by rfl) (f_reversed T) (pv 2)))))))), ?_⟩
    walk_at "cl"
    walk_at "y"
    refine ⟨_, _, _, _, _, rfl, h1, (cls_Words T), (no_Words_alphabet T), h2, ?_⟩
    walk_at "y"
    rcases h with ⟨hov, k⟩ | ⟨i, c, hf, k⟩
    rotate_left
    · exact ⟨z, t, rfl, .inr ⟨i, c, hf.1, hf.2.1, hf.2.2, fun dd H' hS hdd => k dd H' hS hdd⟩⟩
    refine ⟨z, t, rfl, .inl ⟨hov, fun H1 hS1 => ?_⟩⟩
    walk_at "y"
    refine ⟨Nat.zero_le _, fun rw hrw => ?_⟩
    have nrw := none_same hS1 hrw
    walk_at "y"
    refine v_lenS (small (by omega)) ?_
    walk_at "y"
    refine whl_by (fun m σ' H' => ∃ (at_ : Nat) (y : Option V) (r : List PL.T), m = at_ ∧ at_ ≤ t.cps.toList.length ∧ σ' = [some (.ref a), some (.str t), some (.ref rw), some (.int (at_ : Int)), y] ∧ H' rw = some (.lst (r.map fun u => V.str (mkS u))) ∧ Same H H' ∧
      r.length ≤ t.cps.toList.length - at_ ∧ ∀ b, PL.BehindR (WW z ws) (t.cps.toList.take at_) b → PL.BehindR (WW z ws) t.cps.toList (b ++ r.reverse)) ?_ ?_
    · refine ⟨_, t.cps.toList.length, none, [], rfl, Nat.le_refl _, ?_, upd_same, same_mut hS1 nrw, Nat.zero_le _, fun n hn => ?_⟩
      · rw [← zl]
        rfl
      · rw [List.take_length] at hn
        rw [List.reverse_nil, List.append_nil]
        exact hn
    · rintro at_ σ' H2 ⟨_, y, r, rfl, hat, rfl, hr2, hS2, hrl, hah⟩
      walk_at "y"
      refine if_dec (fun c => ?_) (fun c => ?_)
      · refine go_on ?_
        walk_at "y"
        refine ⟨a, dx, fs, rfl, hS2 _ _ h1, WordsL.lb hL h1, ?_⟩
        walk_at "y"
        refine ⟨a, z, t, ws, at_, rfl, hw.same hS2, hL.same hS2, hat, htl, fun L ss H3 hLn hL3 hmem hdown hsl hS3 => ?_⟩
        obtain ⟨s, rest, rfl, hs1, hs2⟩ := head_max hmem hdown (suf_one (ws := ws) hov (by omega : 0 < at_) hat)
        have hta : (t.cps.toList.take at_).length = at_ := by rw [List.length_take, Nat.min_eq_left hat]
        have hs3 := hs1.1
        rw [hta] at hs3
        have hs4 : 1 ≤ s := hs2 1 (suf_one (ws := ws) hov (by omega) hat)
        have ecut : (t.cps.toList.take at_).drop ((t.cps.toList.take at_).length - s) = (t.cps.toList.drop (at_ - s)).take s := by
          rw [hta, List.drop_take, show at_ - (at_ - s) = s by omega]
        walk_at "y"
        refine v_ixL (v := .int (s : Int)) (sqL_of hL3) (atI_nat rfl) ?_
        walk_at "y"
        have hr3 := hS3 _ _ hr2
        refine ⟨ty_list (sqL_of hr3), ?_⟩
        walk_at "y"
        refine ⟨t, rfl, small (by omega), ?_⟩
        rw [show (at_ : Int) - (s : Int) = ((at_ - s : Nat) : Int) by omega, cutS_mid t (at_ - s) at_ hat, show at_ - (at_ - s) = s by omega]
        walk_at "y"
        refine v_append hr3 (smallL (by simp; omega)) ?_
        walk_at "y"
        refine ⟨_, by omega, at_ - s, some (.int (s : Int)), r ++ [(t.cps.toList.drop (at_ - s)).take s], rfl, by omega, ?_, ?_, same_mut (hS2.trans hS3) nrw, by rw [List.length_append, List.length_singleton]; omega, fun n hn => ?_⟩
        · rw [show ((at_ - s : Nat) : Int) = (at_ : Int) - (s : Int) by omega]
          rfl
        · rw [upd_same, List.map_append]
          rfl
        · have e1 : n ++ (r ++ [(t.cps.toList.drop (at_ - s)).take s]).reverse = (n ++ [(t.cps.toList.take at_).drop ((t.cps.toList.take at_).length - s)]) ++ r.reverse := by
            rw [List.reverse_append, ecut, List.append_assoc]
            rfl
          rw [e1]
          refine hah _ (.step ?_ ⟨hs1, hs2⟩ ?_)
          · intro e
            have := congrArg List.length e
            rw [hta, List.length_nil] at this
            omega
          · rw [hta, List.take_take, Nat.min_eq_left (by omega)]
            exact hn
      · have e : at_ = 0 := by omega
        subst e
        walk_at "y"
        refine ⟨rw, _, rfl, sqL_of hr2, fun q hq => ?_⟩
        have hd := hah [] (by rw [List.take_zero]; exact .nil)
        refine k q r.reverse _ (same_upd hS2 hq) ?_ hd
        unfold rowV
        rw [List.map_reverse]
        exact sqT_of upd_same
end

end K80

namespace K80
open PySem PySem.Spec L2 PH
open C8 (tCut pss_cut)
section
variable {P : Program} {w : World} {K : PySem.W.Frag} {mg : Str → Option Value} {base : Heap}
inductive Kd | joins | ahead | behind | fewest | best
  deriving DecidableEq
def Kd.nm : Kd → Str
  | .joins => "joins"
  | .ahead => "ahead"
  | .behind => "behind"
  | .fewest => "fewest"
  | .best => "best"
def Kd.cls (K : PySem.W.Frag) : Kd → Addr
  | .joins => He.ga K "Joins"
  | .best => He.ga K "Costs"
  | _ => He.ga K "Words"
inductive Src | J (ps : List PL.Pr) | W (ws : List Str) | C (ws : List Str) (cs : List Int)
  deriving DecidableEq
def goes : Kd → Src → Bool
  | .joins, .J _ => true
  | .best, .C _ _ => true
  | .ahead, .W _ => true
  | .behind, .W _ => true
  | .fewest, .W _ => true
  | _, _ => false
def SrcAt (K : PySem.W.Frag) (H : Hp) (a : Addr) (z : Str) : Src → Prop
  | .J ps => JoinsAt K H a z ps
  | .W ws => WordsAt K H a z ws ∧ WordsL K H a z ws
  | .C ws cs => ∃ wa, CostsAt K H a wa z ws cs ∧ WordsL K H wa z ws
theorem SrcAt.same {H H' : Hp} {a : Addr} {z : Str} {s : Src} (e : Same H H') (h : SrcAt K H a z s) : SrcAt K H' a z s := by
  cases s with
  | J ps => exact JoinsAt.same e h
  | W ws => exact ⟨h.1.same e, h.2.same e⟩
  | C ws cs =>
    obtain ⟨wa, h1, h2⟩ := h
    exact ⟨wa, h1.same e, h2.same e⟩
theorem SrcAt.al {H : Hp} {a : Addr} {z : Str} {s : Src} (h : SrcAt K H a z s) : AlphaOk z 4 := by
  cases s with
  | J ps =>
    obtain ⟨_, _, _, _, h⟩ := h
    exact h.ok.al
  | W ws => exact h.1.al
  | C ws cs =>
    obtain ⟨wa, h1, h2⟩ := h
    exact h1.wo.al
def Src.cls (K : PySem.W.Frag) : Src → Addr
  | .J _ => He.ga K "Joins"
  | .W _ => He.ga K "Words"
  | .C _ _ => He.ga K "Costs"
theorem SrcAt.ty (T : Ev fa fx fn K mg base) {H : Hp} {a : Addr} {z : Str} {s : Src} (h : SrcAt K H a z s) : TyX K H (.ref a) (.ref (s.cls K)) := by
  cases s with
  | J ps =>
    obtain ⟨dx, tp, rp, np, h⟩ := h
    obtain ⟨fs, h1, _⟩ := h.fld
    exact ty_ins h1 (cls_Joins T) (ins_Joins T)
  | W ws =>
    obtain ⟨⟨al, fu, dx, fp, kn, fs, kvs, h1, _⟩, _⟩ := h
    exact ty_ins h1 (cls_Words T) (ins_Words T)
  | C ws cs =>
    obtain ⟨wa, ⟨wo, len, bd, dx, cp, pr, fs, kvs, h1, _⟩, _⟩ := h
    exact ty_ins h1 (cls_Costs T) (ins_Costs T)
theorem Src.kit (T : Ev fa fx fn K mg base) (k : Kd) (s : Src) : PySem.W.kitOne K (.ref (s.cls K)) (.ref (k.cls K)) = some (goes k s) := by
  cases k <;> cases s
  all_goals first
    | exact kit_Joins_Joins T
    | exact kit_Joins_Words T
    | exact kit_Joins_Costs T
    | exact kit_Words_Joins T
    | exact kit_Words_Words T
    | exact kit_Words_Costs T
    | exact kit_Costs_Joins T
    | exact kit_Costs_Words T
    | exact kit_Costs_Costs T
/-- the texts of all pieces -/
def pcs (z : Str) : Src → List PL.T
  | .J ps => tbl z ps
  | .W ws => wl z ws
  | .C ws _ => wl z ws
def RowRel (z : Str) : Kd → Src → PL.T → List PL.T → Prop
  | .joins, .J ps, t, r => r = (PL.cutJ z.cps.toList.length ps (PL.lets z.cps.toList t)).map fun i => (tbl z ps).getD i []
  | .ahead, .W ws, t, r => PL.AheadR (WW z ws) t r
  | .behind, .W ws, t, r => PL.BehindR (WW z ws) t r
  | .fewest, .W ws, t, r => PL.IsBest (WW z ws) t r
  | .best, .C ws cs, t, r => PL.IsTop (wl z ws) (prW z ws cs) t r
  | _, _, _, _ => False
def kinds : List Str := ["joins", "ahead", "behind", "fewest", "best"]
theorem nm_kinds (k : Kd) : k.nm ∈ kinds := by cases k <;> simp [Kd.nm, kinds]
def dKd : PyData → Bool
  | .str s => decide (s ∈ kinds)
  | _ => false
def spIK (K : PySem.W.Frag) : Sp := fun vs H Q _ => ∃ (x : V) (d : PyData), vs = [x] ∧ Dp K H x d ∧ Q (.bl (dKd d)) H
theorem ok_is_kind (T : Ev fa fx fn K mg base) : Dn P w K mg base 1 (He.ga K "is_kind") ["value"] (spIK K) := by
  refine dn_of (d_is_kind T) sc_is_kind bo_is_kind (fun vs H Q E h => ?_) (fun cdv A outer s H vs Q E hr h => ?_)
  · obtain ⟨x, d, rfl, _⟩ := h
    rfl
  · obtain ⟨x, d, rfl, hd, k⟩ := h
    refine ⟨_, (PSs.nox (pss_one (ps_ret (pe_and (pe_callB (call_isiK' (K := K) rfl) (by rfl) (f_isinstance T) bb_isinstance (pa_cons (pv 0) (pa_cons (pe_ty (f_str T) bb_str) pa_nil))) (pe_one (pe_cmpR (op_in_seqK (K := K) rfl) (pv 0) (pe_cv (g_KINDS T)) rfl)))))), ?_⟩
    walk_at "cl"
    walk_at "y"
    refine isi_str hd ?_
    cases hd with
    | str s =>
      walk_at "y"
      refine ⟨_, rfl, ?_⟩
      walk_at "y"
      refine ⟨_, _, rfl, .inr (t_KINDS T H), rfl, rfl, ?_⟩
      show Q (.bl (inV (.str s) (kinds.map V.str))) H
      rw [inV_str]
      exact k
    | _ =>
      walk_at "y"
      first
        | exact k
        | exact ⟨_, rfl, k⟩
def spGW (K : PySem.W.Frag) : Sp := fun vs H Q _ => ∃ (kd : Kd) (y : V) (t : Value) (b : Bool), vs = [.str kd.nm, y] ∧ TyX K H y t ∧ PySem.W.kitOne K t (.ref (kd.cls K)) = some b ∧ Q (.bl b) H
theorem ok_goes_with (T : Ev fa fx fn K mg base) : Dn P w K mg base 1 (He.ga K "goes_with") ["kind", "source"] (spGW K) := by
  refine dn_of (d_goes_with T) sc_goes_with bo_goes_with (fun vs H Q E h => ?_) (fun cdv A outer s H vs Q E hr h => ?_)
  · obtain ⟨kd, y, t, b, rfl, _⟩ := h
    rfl
  · obtain ⟨kd, y, t, b, rfl, ht, hk, k⟩ := h
    refine ⟨_, (PSs.nox (pss_cons (ps_if (pt_cmpR op_eq (pv 0) pe_str (nomark _))
        (pss_one (ps_ret (pe_callB (call_isiK' (K := K) rfl) (by rfl) (f_isinstance T) bb_isinstance (pa_cons (pv 1) (pa_cons (pe_cv (g_Joins T)) pa_nil))))) pss_nil)
      (pss_cons (ps_if (pt_cmpR op_eq (pv 0) pe_str (nomark _))
        (pss_one (ps_ret (pe_callB (call_isiK' (K := K) rfl) (by rfl) (f_isinstance T) bb_isinstance (pa_cons (pv 1) (pa_cons (pe_cv (g_Costs T)) pa_nil))))) pss_nil)
      (pss_one (ps_ret (pe_callB (call_isiK' (K := K) rfl) (by rfl) (f_isinstance T) bb_isinstance (pa_cons (pv 1) (pa_cons (pe_cv (g_Words T)) pa_nil)))))))), ?_⟩
    walk_at "cl"
    walk_at "y"
    cases kd
    · refine if_dec_t (by decide +kernel) ?_
      walk_at "y"
      exact isi_own ht hk k
    · refine if_dec_f (by decide +kernel) ?_
      walk_at "y"
      refine if_dec_f (by decide +kernel) ?_
      walk_at "y"
      exact isi_own ht hk k
    · refine if_dec_f (by decide +kernel) ?_
      walk_at "y"
      refine if_dec_f (by decide +kernel) ?_
      walk_at "y"
      exact isi_own ht hk k
    · refine if_dec_f (by decide +kernel) ?_
      walk_at "y"
      refine if_dec_f (by decide +kernel) ?_
      walk_at "y"
      exact isi_own ht hk k
    · refine if_dec_f (by decide +kernel) ?_
      walk_at "y"
      refine if_dec_t (by decide +kernel) ?_
      walk_at "y"
      exact isi_own ht hk k
def spSA (K : PySem.W.Frag) : Sp := fun vs H Q _ => ∃ (kd : Kd) (a : Addr) (z : Str) (s : Src), vs = [.str kd.nm, .ref a] ∧ SrcAt K H a z s ∧ goes kd s = true ∧ Q (.str z) H
theorem ok_source_alphabet (T : Ev fa fx fn K mg base) : Dn P w K mg base 1 (He.ga K "source_alphabet") ["kind", "source"] (spSA K) := by
  refine dn_of (d_source_alphabet T) sc_source_alphabet bo_source_alphabet (fun vs H Q E h => ?_) (fun cdv A outer s H vs Q E hr h => ?_)
  · obtain ⟨kd, a, z, s, rfl, _⟩ := h
    rfl
  · obtain ⟨kd, a, z, s, rfl, hs, hg, k⟩ := h
    refine ⟨_, (PSs.nox (pss_cons (ps_if (pt_cmpR op_eq (pv 0) pe_str (nomark _))
        (pss_one (ps_ret (pe_fldK (K := K) rfl (pe_fldK (K := K) rfl (pv 1) rfl) rfl))) pss_nil)
      (pss_one (ps_ret (pe_fldK (K := K) rfl (pv 1) rfl))))), ?_⟩
    walk_at "cl"
    walk_at "y"
    cases s with
    | J ps =>
      obtain ⟨dx, tp, rp, np, h⟩ := hs
      obtain ⟨fs, h1, h3, _⟩ := h.fld
      cases kd <;> first | cases hg | skip
      refine if_dec_f (by decide +kernel) ?_
      walk_at "y"
      exact ⟨_, _, _, _, _, rfl, h1, (cls_Joins T), (no_Joins_alphabet T), h3, k⟩
    | W ws =>
      obtain ⟨⟨al, fu, dx, fp, kn, fs, kvs, h1, h2, _⟩, _⟩ := hs
      cases kd <;> first | cases hg | skip
      all_goals
        refine if_dec_f (by decide +kernel) ?_
        walk_at "y"
        exact ⟨_, _, _, _, _, rfl, h1, (cls_Words T), (no_Words_alphabet T), h2, k⟩
    | C ws cs =>
      obtain ⟨wa, ⟨⟨al, fu, dx, fp, kn, fs, kvs, h1, h2, _⟩, len, bd, dx', cp, pr, fs', kvs', c1, c2, _⟩, _⟩ := hs
      cases kd <;> first | cases hg | skip
      refine if_dec_t (by decide +kernel) ?_
      walk_at "y"
      refine ⟨_, _, _, _, _, rfl, c1, (cls_Costs T), (no_Costs_words T), c2, ?_⟩
      walk_at "y"
      exact ⟨_, _, _, _, _, rfl, h1, (cls_Words T), (no_Words_alphabet T), h2, k⟩
theorem wl_len {z : Str} {ws : List Str} : (wl z ws).length = (allW z ws).length := by
  unfold wl
  rw [List.length_map]
theorem pcs_len {H : Hp} {a : Addr} {z : Str} {s : Src} (h : SrcAt K H a z s) : 1 ≤ (pcs z s).length ∧ (pcs z s).length ≤ 14 ∧ ∀ u ∈ pcs z s, 1 ≤ u.length ∧ u.length ≤ 40 := by
  have al := h.al
  have zlo := al.lo
  have zhi := al.hi
  have wll : ∀ {ws : List Str}, 1 ≤ (wl z ws).length := fun {ws} => by
    rw [wl_len]
    unfold allW
    rw [List.length_append, List.length_map]
    omega
  cases s with
  | J ps =>
    obtain ⟨dx, tp, rp, np, h⟩ := h
    have few := h.ok.few
    have hl := tbl_len (z := z) (ps := ps)
    refine ⟨by show 1 ≤ (tbl z ps).length; omega, by show (tbl z ps).length ≤ 14; omega, fun u hu => ?_⟩
    have q := h.ok.ov u hu
    exact ⟨q.2.2, q.2.1⟩
  | W ws => exact ⟨wll, wl_le al h.1.fu, fun u hu => by
      have q := wl_six al h.1.fu u hu
      exact ⟨q.1, by omega⟩⟩
  | C ws cs =>
    obtain ⟨wa, h1, h2⟩ := h
    exact ⟨wll, wl_le al h1.wo.fu, fun u hu => by
      have q := wl_six al h1.wo.fu u hu
      exact ⟨q.1, by omega⟩⟩
def spSP (K : PySem.W.Frag) : Sp := fun vs H Q _ => ∃ (kd : Kd) (a : Addr) (z : Str) (s : Src), vs = [.str kd.nm, .ref a] ∧ SrcAt K H a z s ∧ goes kd s = true ∧ ∀ q H', SqT K H' q (rowV (pcs z s)) → Same H H' → Q (.ref q) H'
theorem ok_source_pieces (T : Ev fa fx fn K mg base) : Dn P w K mg base 2 (He.ga K "source_pieces") ["kind", "source"] (spSP K) := by
  refine dn_of (d_source_pieces T) sc_source_pieces bo_source_pieces (fun vs H Q E h => ?_) (fun cdv A outer s H vs Q E hr h => ?_)
  · obtain ⟨kd, a, z, s, rfl, _⟩ := h
    rfl
  · obtain ⟨kd, a, z, s, rfl, hs, hg, k⟩ := h
    refine ⟨_, (PSs.nox (pss_cons (ps_if (pt_cmpR op_eq (pv 0) pe_str (nomark _))
        (pss_one (ps_ret (pe_callTy call_tuple_of (by rfl) (f_tuple T) bb_tuple (pa_cons (pe_fldK (K := K) rfl (pv 1) rfl) pa_nil)))) pss_nil)
      (pss_cons (ps_if (pt_cmpR op_eq (pv 0) pe_str (nomark _))
        (pss_one (ps_ret (pe_m0 (ok_Words_all_words T) (hr.mono (by decide)) (cls_Words T) (me_Words_all_words T) passL (pe_fldK (K := K) rfl (pv 1) rfl)))) pss_nil)
      (pss_one (ps_ret (pe_m0 (ok_Words_all_words T) (hr.mono (by decide)) (cls_Words T) (me_Words_all_words T) passL (pv 1))))))), ?_⟩
    walk_at "cl"
    walk_at "y"
    cases s with
    | J ps =>
      obtain ⟨dx, tp, rp, np, h⟩ := hs
      obtain ⟨fs, h1, h3, h5, _⟩ := h.fld
      cases kd <;> first | cases hg | skip
      refine if_dec_t (by decide +kernel) ?_
      walk_at "y"
      refine ⟨_, _, _, _, _, rfl, h1, (cls_Joins T), (no_Joins_texts T), h5, ?_⟩
      walk_at "y"
      refine ⟨tp, _, rfl, .inl ⟨sqL_of h.ht, fun q hq => ?_⟩⟩
      exact k q _ (sqT_of upd_same) (same_new hq)
    | W ws =>
      obtain ⟨hw, hL⟩ := hs
      have ⟨al, fu, dx, fp, kn, fs, kvs, h1, h2, h3, h4, h5, h6, h7, h8, h9⟩ := hw
      have few := fu.few
      cases kd <;> first | cases hg | skip
      all_goals
        refine if_dec_f (by decide +kernel) ?_
        walk_at "y"
        refine if_dec_f (by decide +kernel) ?_
        walk_at "y"
        refine ⟨a, dx, fs, rfl, h1, h5, ?_⟩
        walk_at "y"
        exact ⟨a, dx, fp, fs, z, ws, rfl, h1, h2, h3, h7, al, by omega, fun r H' hr1 hr2 hS => k r H' (by show SqT K H' r (rowV (wl z ws)); rw [← wl_str]; exact hr2) hS⟩
    | C ws cs =>
      obtain ⟨wa, hC, hL⟩ := hs
      have ⟨wo, len, bd, dx', cp, pr, fs', kvs', c1, c2, _⟩ := hC
      have ⟨al, fu, dx, fp, kn, fs, kvs, h1, h2, h3, h4, h5, h6, h7, h8, h9⟩ := wo
      have few := fu.few
      cases kd <;> first | cases hg | skip
      refine if_dec_f (by decide +kernel) ?_
      walk_at "y"
      refine if_dec_t (by decide +kernel) ?_
      walk_at "y"
      refine ⟨_, _, _, _, _, rfl, c1, (cls_Costs T), (no_Costs_words T), c2, ?_⟩
      refine ⟨wa, dx, fs, rfl, h1, h5, ?_⟩
      walk_at "y"
      exact ⟨wa, dx, fp, fs, z, ws, rfl, h1, h2, h3, h7, al, by omega, fun r H' hr1 hr2 hS => k r H' (by show SqT K H' r (rowV (wl z ws)); rw [← wl_str]; exact hr2) hS⟩
def spSR (K : PySem.W.Frag) : Sp := fun vs H Q E => ∃ (kd : Kd) (a : Addr) (z t : Str) (s : Src), vs = [.str kd.nm, .ref a, .str t] ∧ SrcAt K H a z s ∧ goes kd s = true ∧ t.cps.toList.length ≤ 100 ∧
  (((∀ c ∈ t.cps.toList, c ∈ z.cps.toList) ∧ ∀ (q : Addr) (r : List PL.T) (H' : Hp), Same H H' → SqT K H' q (rowV r) → RowRel z kd s t.cps.toList r → Q (.ref q) H') ∨
   ∃ i c, Foreign z t i c ∧ ∀ dd H', Same H H' → H' dd = none → E (.ref (He.ga K "UnknownSign")) (some dd) (upd H' dd (.xd [("at", .int (i : Int)), ("sign", .str (s1 c))])))
theorem ok_source_row (T : Ev fa fx fn K mg base) : Dn P w K mg base 5 (He.ga K "source_row") ["kind", "source", "text"] (spSR K) := by
  refine dn_of (d_source_row T) sc_source_row bo_source_row (fun vs H Q E h => ?_) (fun cdv A outer s H vs Q E hr h => ?_)
  · obtain ⟨kd, a, z, t, s, rfl, _⟩ := h
    rfl
  · obtain ⟨kd, a, z, t, s, rfl, hs, hg, htl, h⟩ := h
    refine ⟨_, (pss_cons (ps_if (pt_cmpR op_eq (pv 0) pe_str (nomark _))
        (pss_one (ps_ret (pe_callTy call_tuple_of (by rfl) (f_tuple T) bb_tuple (pa_cons (pe_lc (own := [("piece", 3)]) rfl sc_source_row.nd (pi_tup (pe_d (ok_cut T) (hr.mono (by decide)) (g_cut T) (passes_call (takes_of rfl rfl rfl rfl) (fun _ _ _ _ h => h)) (pa_cons (pv 1) (pa_cons (pv 2) pa_nil)))) (blkOk_by (own := [("piece", 3)]) (N := ["kind", "source", "text", "piece"]) (sc := defScope s_source_row) (by decide +kernel)) (fun _ _ _ _ _ => (pg_name (i := 3) sc_source_row.nd rfl (.inl rfl))) (fun _ _ _ _ _ => pts_nil) (fun _ _ _ _ _ => (pe_m (ok_Joins_text_of T) (hr.mono (by decide)) (cls_Joins T) (me_Joins_text_of T) passL (pv 1) (pa_cons (pv 3) pa_nil)))) pa_nil)))) pss_nil)
      (pss_cons (ps_if (pt_cmpR op_eq (pv 0) pe_str (nomark _))
        (pss_one (ps_ret (pe_d (ok_ahead T) (hr.mono (by decide)) (g_ahead T) (passes_call (takes_of rfl rfl rfl rfl) (fun _ _ _ _ h => h)) (pa_cons (pv 1) (pa_cons (pv 2) pa_nil))))) pss_nil)
      (pss_cons (ps_if (pt_cmpR op_eq (pv 0) pe_str (nomark _))
        (pss_one (ps_ret (pe_d (ok_behind T) (hr.mono (by decide)) (g_behind T) (passes_call (takes_of rfl rfl rfl rfl) (fun _ _ _ _ h => h)) (pa_cons (pv 1) (pa_cons (pv 2) pa_nil))))) pss_nil)
      (pss_cons (ps_if (pt_cmpR op_eq (pv 0) pe_str (nomark _))
        (pss_one (ps_ret (pe_d (ok_fewest T) (hr.mono (by decide)) (g_fewest T) (passes_call (takes_of rfl rfl rfl rfl) (fun _ _ _ _ h => h)) (pa_cons (pv 1) (pa_cons (pv 2) pa_nil))))) pss_nil)
      (pss_one (ps_ret (pe_d (ok_best T) (hr.mono (by decide)) (g_best T) (passes_call (takes_of rfl rfl rfl rfl) (fun _ _ _ _ h => h)) (pa_cons (pv 1) (pa_cons (pv 2) pa_nil))))))))), ?_⟩
    walk_at "cl"
    walk_at "y"
    cases s with
    | J ps =>
      obtain ⟨dx, tp, rp, np, hJ⟩ := hs
      obtain ⟨fs, h1, _, _, _, _, _, _, hto, _⟩ := hJ.fld
      have few := hJ.ok.few
      have hl := tbl_len (z := z) (ps := ps)
      cases kd <;> first | cases hg | skip
      refine if_dec_t (by decide +kernel) ?_
      walk_at "y"
      refine ⟨a, dx, tp, rp, np, z, t, ps, rfl, hJ, htl, ?_⟩
      rcases h with ⟨hov, k⟩ | h
      rotate_left
      · exact .inr h
      refine .inl ⟨hov, fun q H1 hS1 hq => ?_⟩
      have hcl : (PL.cutJ z.cps.toList.length ps (PL.lets z.cps.toList t.cps.toList)).length ≤ 100 := by
        refine Nat.le_trans PL.cut_len ?_
        unfold PL.lets
        rw [List.length_map]
        exact htl
      have hcm : ∀ i ∈ PL.cutJ z.cps.toList.length ps (PL.lets z.cps.toList t.cps.toList), i < (tbl z ps).length := fun i hi => by
        rcases PL.cut_mem hi with e | e
        · obtain ⟨c, hc, rfl⟩ := List.mem_map.mp e
          have := List.idxOf_lt_length_of_mem (hov c hc)
          omega
        · omega
      generalize hrow : PL.cutJ z.cps.toList.length ps (PL.lets z.cps.toList t.cps.toList) = row at hq hcl hcm
      walk_at "y"
      refine ⟨q, rfl, ⟨_, hq⟩, fun D hD => ?_⟩
      refine lc_it (walk_tup (xs := natV row)) (fun j H' => Same H1 H' ∧ H' D = some (.lst (rowV ((row.take j).map fun i => (tbl z ps).getD i [])))) ?_ ?_ ?_ ?_
      · exact ⟨same_new hD, upd_same⟩
      · rintro j H' _ ⟨h, _⟩
        exact sqT_same h hq
      · rintro j x H5 H6 hj ⟨h5, hd5⟩ ⟨rfl, hx⟩
        rw [natV_len] at hj
        rw [natV_at' hj] at hx
        cases hx
        walk_at "y"
        refine ⟨rfl, ?_⟩
        walk_at "y"
        have hS5 := hS1.trans h5
        refine ⟨a, dx, fs, rfl, hS5 _ _ h1, hto, ?_⟩
        walk_at "y"
        refine ⟨a, dx, tp, rp, np, z, ps, row[j], rfl, hJ.same hS5, hcm _ (List.getElem_mem hj), ?_⟩
        refine ⟨_, hd5, smallL (by rw [rowV_len, List.length_map, List.length_take]; omega), same_mut h5 hD, ?_⟩
        rw [upd_same, List.take_succ, List.getElem?_eq_getElem hj, List.map_append]
        unfold rowV
        rw [List.map_append]
        rfl
      · rintro H5 ⟨h5, hd5⟩
        rw [natV_len, List.take_length] at hd5
        refine ⟨D, _, rfl, .inl ⟨sqL_of hd5, fun r hr => ?_⟩⟩
        exact k r _ _ (same_upd (hS1.trans h5) hr) (sqT_of upd_same) (by rw [← hrow]; rfl)
    | W ws =>
      obtain ⟨hw, hL⟩ := hs
      cases kd with
      | joins => cases hg
      | best => cases hg
      | ahead =>
        refine if_dec_f (by decide +kernel) ?_
        walk_at "y"
        refine if_dec_t (by decide +kernel) ?_
        walk_at "y"
        refine ⟨a, z, t, ws, rfl, hw, hL, by omega, ?_⟩
        rcases h with ⟨hov, k⟩ | h
        · exact .inl ⟨hov, fun q r H1 hS hq hr => k q r H1 hS hq hr⟩
        · exact .inr h
      | behind =>
        refine if_dec_f (by decide +kernel) ?_
        walk_at "y"
        refine if_dec_f (by decide +kernel) ?_
        walk_at "y"
        refine if_dec_t (by decide +kernel) ?_
        walk_at "y"
        refine ⟨a, z, t, ws, rfl, hw, hL, by omega, ?_⟩
        rcases h with ⟨hov, k⟩ | h
        · exact .inl ⟨hov, fun q r H1 hS hq hr => k q r H1 hS hq hr⟩
        · exact .inr h
      | fewest =>
        refine if_dec_f (by decide +kernel) ?_
        walk_at "y"
        refine if_dec_f (by decide +kernel) ?_
        walk_at "y"
        refine if_dec_f (by decide +kernel) ?_
        walk_at "y"
        refine if_dec_t (by decide +kernel) ?_
        walk_at "y"
        refine ⟨a, z, t, ws, rfl, hw, hL, by omega, ?_⟩
        rcases h with ⟨hov, k⟩ | h
        · exact .inl ⟨hov, fun q r H1 hS hq hr => k q r H1 hS hq hr⟩
        · exact .inr h
    | C ws cs =>
      obtain ⟨wa, hC, hL⟩ := hs
      cases kd <;> first | cases hg | skip
      refine if_dec_f (by decide +kernel) ?_
      walk_at "y"
      refine if_dec_f (by decide +kernel) ?_
      walk_at "y"
      refine if_dec_f (by decide +kernel) ?_
      walk_at "y"
      refine if_dec_f (by decide +kernel) ?_
      walk_at "y"
      refine ⟨a, wa, z, t, ws, cs, rfl, hC, hL, by omega, ?_⟩
      rcases h with ⟨hov, k⟩ | h
      · exact .inl ⟨hov, fun q r H1 hS hq hr => k q r H1 hS hq hr⟩
      · exact .inr h
end

end K80

namespace K80
open PySem PySem.Spec L2 PH
open C8 (tCut pss_cut)
section
variable {P : Program} {w : World} {K : PySem.W.Frag} {mg : Str → Option Value} {base : Heap}
structure CutAt (K : PySem.W.Frag) (H : Hp) (a : Addr) (kd : Kd) (sa : Addr) (z : Str) (s : Src) : Prop where
  ex : ∃ (dx : Addr) (fs : List (Str × V)) (tq : Addr), H a = some (.ins (He.ga K "Cutter") dx fs) ∧ lk fs "kind" = some (.str kd.nm) ∧ lk fs "source" = some (.ref sa) ∧ lk fs "alphabet" = some (.str z) ∧ lk fs "texts" = some (.ref tq) ∧
    (∀ f ∈ ([("cut" : Str), "all_pieces", "places"] : List Str), lk fs f = none) ∧ SqT K (hid [a] H) tq (rowV (pcs z s))
  src : SrcAt K H sa z s
  go : goes kd s = true
theorem CutAt.same {H H' : Hp} {a : Addr} {kd : Kd} {sa : Addr} {z : Str} {s : Src} (e : Same H H') (h : CutAt K H a kd sa z s) : CutAt K H' a kd sa z s := by
  obtain ⟨⟨dx, fs, tq, h1, h2, h3, h4, h5, h6, h7⟩, h8, h9⟩ := h
  exact ⟨⟨dx, fs, tq, e _ _ h1, h2, h3, h4, h5, h6, sqT_same (hid_same e) h7⟩, h8.same e, h9⟩
def spKI (K : PySem.W.Frag) : Sp := fun vs H Q E => ∃ (a dx : Addr) (x y : V) (d : PyData), vs = [.ref a, x, y] ∧ H a = some (.ins (He.ga K "Cutter") dx []) ∧ Dp K H x d ∧
  ((dKd d = false ∧ ∀ dd, H dd = none → E (.ref (He.ga K "InvalidCutter")) (some dd) (upd H dd (.xd [("part", .str "kind")]))) ∨
   ∃ kd : Kd, d = .str kd.nm ∧ ((∃ t, TyX K H y t ∧ PySem.W.kitOne K t (.ref (kd.cls K)) = some false ∧ ∀ dd, H dd = none → E (.ref (He.ga K "InvalidCutter")) (some dd) (upd H dd (.xd [("part", .str "source")]))) ∨
     ∃ (sa : Addr) (z : Str) (s : Src), y = .ref sa ∧ SrcAt K (hid [a] H) sa z s ∧ goes kd s = true ∧ ∀ H', CutAt K H' a kd sa z s → Same (hid [a] H) (hid [a] H') → Q .non H'))
theorem ok_Cutter___init__ (T : Ev fa fx fn K mg base) : Dn P w K mg base 4 (He.ma K (He.ga K "Cutter") "__init__") ["self", "kind", "source"] (spKI K) := by
  refine dn_of (d_Cutter___init__ T) sc_Cutter___init__ bo_Cutter___init__ (fun vs H Q E h => ?_) (fun cdv A outer s0 H vs Q E hr h => ?_)
  · obtain ⟨a, dx, x, y, d, rfl, _⟩ := h
    rfl
  · obtain ⟨a, dx, x, y, d, rfl, ha, hd, h⟩ := h
    refine ⟨_, (pss_cons (ps_if (pt_not (pt_val (pe_d (ok_is_kind T) (hr.mono (by decide)) (g_is_kind T) passL (pa_cons (pv 1) pa_nil))))
        (pss_one (ps_raise rfl (takes_of rfl rfl rfl rfl) (pmk_x1 (exc_InvalidCutter T) (ok_InvalidCutter___init__ T) (hr.mono (by decide)) (g_InvalidCutter T) pe_str))) pss_nil)
      (pss_cons (ps_if (pt_not (pt_val (pe_d (ok_goes_with T) (hr.mono (by decide)) (g_goes_with T) passL (pa_cons (pv 1) (pa_cons (pv 2) pa_nil)))))
        (pss_one (ps_raise rfl (takes_of rfl rfl rfl rfl) (pmk_x1 (exc_InvalidCutter T) (ok_InvalidCutter___init__ T) (hr.mono (by decide)) (g_InvalidCutter T) pe_str))) pss_nil)
      (pss_cons (ps_fld (pv 0) (pv 1) rfl)
      (pss_cons (ps_fld (pv 0) (pv 2) rfl)
      (pss_cons (ps_fld (pv 0) (pe_d (ok_source_alphabet T) (hr.mono (by decide)) (g_source_alphabet T) passL (pa_cons (pv 1) (pa_cons (pv 2) pa_nil))) rfl)
      (pss_cons (ps_fld (pv 0) (pe_d (ok_source_pieces T) (hr.mono (by decide)) (g_source_pieces T) passL (pa_cons (pv 1) (pa_cons (pv 2) pa_nil))) rfl)
      (pss_cons (ps_fld (pv 0) (pe_dc (own := [("text", 3)]) rfl sc_Cutter___init__.nd (pi_tup (pe_fldK (K := K) rfl (pv 0) rfl)) (blkOk_by (own := [("text", 3)]) (N := ["self", "kind", "source", "text"]) (sc := defScope s_Cutter___init__) (by decide +kernel)) (fun _ _ _ _ _ => (pg_name (i := 3) sc_Cutter___init__.nd rfl (.inl rfl))) (fun _ _ _ _ _ => pts_nil) (fun _ _ _ _ _ => (pv 3)) (fun _ _ _ _ _ => pe_bl)) rfl)
      (pss_one (ps_fld (pv 0) (pe_callB (cr_max rfl) (by rfl) (f_max T) bb_max (pa_cons (pe_lc (own := [("text", 3)]) rfl sc_Cutter___init__.nd (pi_tup (pe_fldK (K := K) rfl (pv 0) rfl)) (blkOk_by (own := [("text", 3)]) (N := ["self", "kind", "source", "text"]) (sc := defScope s_Cutter___init__) (by decide +kernel)) (fun _ _ _ _ _ => (pg_name (i := 3) sc_Cutter___init__.nd rfl (.inl rfl))) (fun _ _ _ _ _ => pts_nil) (fun _ _ _ _ _ => (pe_callB (call_lenK (K := K) rfl) (by rfl) (f_len T) bb_len (pa_cons (pv 3) pa_nil)))) pa_nil)) rfl))))))))), ?_⟩
    walk_at "cl"
    walk_at "y"
    refine ⟨x, d, rfl, hd, ?_⟩
    rcases h with ⟨hk, k⟩ | ⟨kd, rfl, h⟩
    · rw [hk]
      walk_at "y"
      refine iteT_of rfl ?_
      walk_at "y"
      intro dd hdd
      exact k dd hdd
    cases hd
    rw [show dKd (.str kd.nm) = true from decide_eq_true (nm_kinds kd)]
    walk_at "y"
    refine iteF_of rfl ?_
    walk_at "y"
    rcases h with ⟨t, ht, hk, k⟩ | ⟨sa, z, s, rfl, hsrc, hg, k⟩
    · refine ⟨kd, y, t, false, rfl, ht, hk, ?_⟩
      walk_at "y"
      refine iteT_of rfl ?_
      walk_at "y"
      intro dd hdd
      exact k dd hdd
    refine ⟨kd, .ref sa, _, true, rfl, (hsrc.same hid_sub).ty T, by rw [Src.kit T, hg], ?_⟩
    walk_at "y"
    refine iteF_of rfl ?_
    walk_at "y"
    have hpc := pcs_len hsrc
    refine ⟨_, _, _, _, rfl, ha, (cls_Cutter T), (no_Cutter_kind T), (by decide), ?_⟩
    have hS1 : Same (hid [a] H) (hid [a] (upd H a (.ins (He.ga K "Cutter") dx (putF "kind" (.str kd.nm) [])))) := hid_put (Same.refl _)
    have ha1 : upd H a (.ins (He.ga K "Cutter") dx (putF "kind" (.str kd.nm) [])) a = _ := upd_same
    have l1 : (putF "kind" (.str kd.nm) ([] : List (Str × V))).length ≤ 1 := putF_len _ _ _
    have w1 : lk (putF "kind" (.str kd.nm) ([] : List (Str × V))) "kind" = some (.str kd.nm) := lk_same
    have n1 : ∀ f ∈ ([("cut" : Str), "all_pieces", "places"] : List Str), lk (putF "kind" (.str kd.nm) ([] : List (Str × V))) f = none := fun f hf => by
      rw [lk_ne ?_]
      · first | rfl | (simp only [List.mem_cons, List.not_mem_nil, or_false] at hf; rcases hf with rfl | rfl | rfl <;> rfl)
      · simp only [List.mem_cons, List.not_mem_nil, or_false] at hf
        rcases hf with rfl | rfl | rfl <;> decide +kernel
    generalize upd H a (.ins (He.ga K "Cutter") dx (putF "kind" (.str kd.nm) [])) = H1 at hS1 ha1
    generalize putF "kind" (.str kd.nm) ([] : List (Str × V)) = fs1 at ha1 l1 w1 n1
    walk_at "y"
    refine ⟨_, _, _, _, rfl, ha1, (cls_Cutter T), (no_Cutter_source T), by omega, ?_⟩
    have hS2 : Same (hid [a] H) (hid [a] (upd H1 a (.ins (He.ga K "Cutter") dx (putF "source" (.ref sa) fs1)))) := hid_put hS1
    have ha2 : upd H1 a (.ins (He.ga K "Cutter") dx (putF "source" (.ref sa) fs1)) a = _ := upd_same
    have l2 : (putF "source" (.ref sa) fs1).length ≤ 2 := Nat.le_trans (putF_len _ _ _) (by omega)
    have w2 : lk (putF "source" (.ref sa) fs1) "kind" = some (.str kd.nm) := by rw [lk_ne (by decide +kernel)]; exact w1
    have n2 : ∀ f ∈ ([("cut" : Str), "all_pieces", "places"] : List Str), lk (putF "source" (.ref sa) fs1) f = none := fun f hf => by
      rw [lk_ne ?_]
      · exact n1 f hf
      · simp only [List.mem_cons, List.not_mem_nil, or_false] at hf
        rcases hf with rfl | rfl | rfl <;> decide +kernel
    have s2 : lk (putF "source" (.ref sa) fs1) "source" = some (.ref sa) := lk_same
    generalize upd H1 a (.ins (He.ga K "Cutter") dx (putF "source" (.ref sa) fs1)) = H2 at hS2 ha2
    generalize putF "source" (.ref sa) fs1 = fs2 at ha2 l2 w2 n2 s2
    walk_at "y"
    refine ⟨kd, sa, z, s, rfl, hsrc.same (hS2.trans hid_sub), hg, ?_⟩
    walk_at "y"
    refine ⟨_, _, _, _, rfl, ha2, (cls_Cutter T), (no_Cutter_alphabet T), by omega, ?_⟩
    have hS3 : Same (hid [a] H) (hid [a] (upd H2 a (.ins (He.ga K "Cutter") dx (putF "alphabet" (.str z) fs2)))) := hid_put hS2
    have ha3 : upd H2 a (.ins (He.ga K "Cutter") dx (putF "alphabet" (.str z) fs2)) a = _ := upd_same
    have l3 : (putF "alphabet" (.str z) fs2).length ≤ 3 := Nat.le_trans (putF_len _ _ _) (by omega)
    have w3 : lk (putF "alphabet" (.str z) fs2) "kind" = some (.str kd.nm) := by rw [lk_ne (by decide +kernel)]; exact w2
    have n3 : ∀ f ∈ ([("cut" : Str), "all_pieces", "places"] : List Str), lk (putF "alphabet" (.str z) fs2) f = none := fun f hf => by
      rw [lk_ne ?_]
      · exact n2 f hf
      · simp only [List.mem_cons, List.not_mem_nil, or_false] at hf
        rcases hf with rfl | rfl | rfl <;> decide +kernel
    have s3 : lk (putF "alphabet" (.str z) fs2) "source" = some (.ref sa) := by rw [lk_ne (by decide +kernel)]; exact s2
    have a3 : lk (putF "alphabet" (.str z) fs2) "alphabet" = some (.str z) := lk_same
    generalize upd H2 a (.ins (He.ga K "Cutter") dx (putF "alphabet" (.str z) fs2)) = H3 at hS3 ha3
    generalize putF "alphabet" (.str z) fs2 = fs3 at ha3 l3 w3 n3 s3 a3
    walk_at "y"
    refine ⟨kd, sa, z, s, rfl, hsrc.same (hS3.trans hid_sub), hg, fun q H3' hq hS3' => ?_⟩
    have ha3' := hS3' _ _ ha3
    have hS3b : Same (hid [a] H) (hid [a] H3') := hS3.trans (hid_same hS3')
    have hq0 : SqT K (hid [a] H3') q (rowV (pcs z s)) := sqT_hid hq (one_ins ha3')
    walk_at "y"
    refine ⟨_, _, _, _, rfl, ha3', (cls_Cutter T), (no_Cutter_texts T), by omega, ?_⟩
    have hS4 : Same (hid [a] H) (hid [a] (upd H3' a (.ins (He.ga K "Cutter") dx (putF "texts" (.ref q) fs3)))) := hid_put hS3b
    have ha4 : upd H3' a (.ins (He.ga K "Cutter") dx (putF "texts" (.ref q) fs3)) a = _ := upd_same
    have hq4 : SqT K (hid [a] (upd H3' a (.ins (He.ga K "Cutter") dx (putF "texts" (.ref q) fs3)))) q (rowV (pcs z s)) := by rw [hid_in (by simp)]; exact hq0
    have l4 : (putF "texts" (.ref q) fs3).length ≤ 4 := Nat.le_trans (putF_len _ _ _) (by omega)
    have w4 : lk (putF "texts" (.ref q) fs3) "kind" = some (.str kd.nm) := by rw [lk_ne (by decide +kernel)]; exact w3
    have n4 : ∀ f ∈ ([("cut" : Str), "all_pieces", "places"] : List Str), lk (putF "texts" (.ref q) fs3) f = none := fun f hf => by
      rw [lk_ne ?_]
      · exact n3 f hf
      · simp only [List.mem_cons, List.not_mem_nil, or_false] at hf
        rcases hf with rfl | rfl | rfl <;> decide +kernel
    have s4 : lk (putF "texts" (.ref q) fs3) "source" = some (.ref sa) := by rw [lk_ne (by decide +kernel)]; exact s3
    have a4 : lk (putF "texts" (.ref q) fs3) "alphabet" = some (.str z) := by rw [lk_ne (by decide +kernel)]; exact a3
    have t4 : lk (putF "texts" (.ref q) fs3) "texts" = some (.ref q) := lk_same
    generalize upd H3' a (.ins (He.ga K "Cutter") dx (putF "texts" (.ref q) fs3)) = H4 at hS4 ha4 hq4
    generalize putF "texts" (.ref q) fs3 = fs4 at ha4 l4 w4 n4 s4 t4 a4
    have hq4' := sqT_same hid_sub hq4
    walk_at "y"
    refine ⟨_, _, _, _, _, rfl, ha4, (cls_Cutter T), (no_Cutter_texts T), t4, ?_⟩
    refine ⟨q, rfl, ⟨_, hq4'⟩, fun D hD => ?_⟩
    refine dc_it (walk_tup (xs := rowV (pcs z s))) (fun i H' => Same H4 H' ∧ ∃ kvs, H' D = some (.dK kvs) ∧ kvs.length ≤ i) ?_ ?_ ?_ ?_
    · exact ⟨same_new hD, [], upd_same, Nat.le_refl _⟩
    · rintro i H' _ ⟨h, _⟩
      exact sqT_same h hq4'
    · rintro i x H5 H6 hi ⟨h5, kvs, hd5, hl5⟩ ⟨rfl, hx⟩
      have hi : i < (pcs z s).length := by rw [← rowV_len]; exact hi
      have hx : x = .str (mkS (pcs z s)[i]) := by
        rw [rowV_at hi] at hx
        exact (Option.some.inj hx).symm
      subst hx
      walk_at "y"
      refine ⟨rfl, ?_⟩
      walk_at "y"
      refine ⟨kvs, .inr (mkS (pcs z s)[i]), rfl, hd5, smallL (by omega), same_mut h5 hD, _, upd_same, ?_⟩
      exact Nat.le_trans (length_putK _ _ _) (by omega)
    · rintro H5 ⟨h5, kvs, hd5, hl5⟩
      have ha5 := h5 _ _ ha4
      walk_at "y"
      refine ⟨_, _, _, _, rfl, ha5, (cls_Cutter T), (no_Cutter_known T), by omega, ?_⟩
      have hS5 : Same (hid [a] H) (hid [a] (upd H5 a (.ins (He.ga K "Cutter") dx (putF "known" (.ref D) fs4)))) := hid_put (hS4.trans (hid_same h5))
      have ha6 : upd H5 a (.ins (He.ga K "Cutter") dx (putF "known" (.ref D) fs4)) a = _ := upd_same
      have hq6 : SqT K (hid [a] (upd H5 a (.ins (He.ga K "Cutter") dx (putF "known" (.ref D) fs4)))) q (rowV (pcs z s)) := by rw [hid_in (by simp)]; exact sqT_same (hid_same h5) hq4
      have l5 : (putF "known" (.ref D) fs4).length ≤ 5 := Nat.le_trans (putF_len _ _ _) (by omega)
      have w5 : lk (putF "known" (.ref D) fs4) "kind" = some (.str kd.nm) := by rw [lk_ne (by decide +kernel)]; exact w4
      have n5 : ∀ f ∈ ([("cut" : Str), "all_pieces", "places"] : List Str), lk (putF "known" (.ref D) fs4) f = none := fun f hf => by
        rw [lk_ne ?_]
        · exact n4 f hf
        · simp only [List.mem_cons, List.not_mem_nil, or_false] at hf
          rcases hf with rfl | rfl | rfl <;> decide +kernel
      have s5 : lk (putF "known" (.ref D) fs4) "source" = some (.ref sa) := by rw [lk_ne (by decide +kernel)]; exact s4
      have a5 : lk (putF "known" (.ref D) fs4) "alphabet" = some (.str z) := by rw [lk_ne (by decide +kernel)]; exact a4
      have t5 : lk (putF "known" (.ref D) fs4) "texts" = some (.ref q) := by rw [lk_ne (by decide +kernel)]; exact t4
      generalize upd H5 a (.ins (He.ga K "Cutter") dx (putF "known" (.ref D) fs4)) = H6 at hS5 ha6 hq6
      generalize putF "known" (.ref D) fs4 = fs5 at ha6 l5 w5 n5 s5 t5 a5
      have hq6' := sqT_same hid_sub hq6
      walk_at "y"
      refine ⟨_, _, _, _, _, rfl, ha6, (cls_Cutter T), (no_Cutter_texts T), t5, ?_⟩
      refine ⟨q, rfl, ⟨_, hq6'⟩, fun D2 hD2 => ?_⟩
      refine lc_it (walk_tup (xs := rowV (pcs z s))) (fun i H' => Same H6 H' ∧ ∃ ns : List Int, H' D2 = some (.lst (ns.map V.int)) ∧ ns.length = i) ?_ ?_ ?_ ?_
      · exact ⟨same_new hD2, [], upd_same, rfl⟩
      · rintro i H' _ ⟨h, _⟩
        exact sqT_same h hq6'
      · rintro i x H8 H9 hi ⟨h8, ns, hd8, hl8⟩ ⟨rfl, hx⟩
        have hi : i < (pcs z s).length := by rw [← rowV_len]; exact hi
        have hx : x = .str (mkS (pcs z s)[i]) := by
          rw [rowV_at hi] at hx
          exact (Option.some.inj hx).symm
        subst hx
        walk_at "y"
        refine ⟨rfl, ?_⟩
        walk_at "y"
        refine v_lenS (small ?_) ?_
        · have hm := (hpc.2.2 _ (List.getElem_mem hi)).2
          rw [tl_len, mkS_cps]
          omega
        walk_at "y"
        exact ⟨_, hd8, smallL (by simp; omega), same_mut h8 hD2, ns ++ [_], by rw [upd_same, List.map_append]; rfl, by simp; omega⟩
      · rintro H8 ⟨h8, ns, hd8, hl8⟩
        have ha8 := h8 _ _ ha6
        have hS8 : Same (hid [a] H) (hid [a] H8) := hS5.trans (hid_same h8)
        walk_at "y"
        refine ⟨D2, ns, rfl, sqL_of hd8, ?_, fun m hmm hmx => ?_⟩
        · rw [hl8, rowV_len]
          exact hpc.1
        walk_at "y"
        refine ⟨_, _, _, _, rfl, ha8, (cls_Cutter T), (no_Cutter_longest T), by omega, ?_⟩
        have eH : hid [a] (upd H8 a (.ins (He.ga K "Cutter") dx (putF "longest" (.int m) fs5))) = hid [a] H8 := hid_in (by simp)
        refine k _ ⟨⟨dx, _, q, upd_same, ?_, ?_, ?_, ?_, ?_, ?_⟩, ?_, hg⟩ (hid_put hS8)
        · rw [lk_ne (by decide +kernel)]; exact w5
        · rw [lk_ne (by decide +kernel)]; exact s5
        · rw [lk_ne (by decide +kernel)]; exact a5
        · rw [lk_ne (by decide +kernel)]; exact t5
        · intro f hf
          rw [lk_ne ?_]
          · exact n5 f hf
          · simp only [List.mem_cons, List.not_mem_nil, or_false] at hf
            rcases hf with rfl | rfl | rfl <;> decide +kernel
        · rw [eH]
          exact sqT_same (hid_same h8) hq6
        · refine hsrc.same ?_
          exact (hid_put hS8).trans hid_sub
end

end K80

namespace K80
open PySem PySem.Spec L2 PH
open C8 (tCut pss_cut)
section
variable {P : Program} {w : World} {K : PySem.W.Frag} {mg : Str → Option Value} {base : Heap}
def plc (r : List PL.T) : List Nat := (List.range (r.length - 1)).map fun k => (r.take (k + 1)).flatten.length
def spPl (K : PySem.W.Frag) : Sp := fun vs H Q _ => ∃ (q : Addr) (r : List PL.T), vs = [.ref q] ∧ SqT K H q (rowV r) ∧ r.length ≤ 100 ∧ r.flatten.length ≤ 10000 ∧ ∀ (p : Addr) (H' : Hp), Same H H' → SqT K H' p (natV (plc r)) → Q (.ref p) H'
theorem v_slA {H : Hp} {Q : VK} {q : Addr} {xs : List V} {lo hi : Option Int} (h : SqT K H q xs) (k : ∀ p H', Same H H' → SqT K H' p (cutV xs lo hi) → Q (.ref p) H') : rSlA K (.ref q) lo hi H Q := by
  refine ⟨q, xs, rfl, h, fun hw => ?_, fun _ p hp => k p _ (same_new hp) (sqT_of upd_same)⟩
  refine k q H (Same.refl _) ?_
  have e : cutV xs lo hi = xs := by
    unfold cutV
    rw [hw.1, hw.2, List.drop_zero, Nat.sub_zero, List.take_length]
  rw [e]
  exact h
theorem sqT_listed {H : Hp} {F q : Addr} {ys l l2 : List V} (hF : H F = some (.lst l)) (h : SqT K H q ys) : SqT K (upd H F (.lst l2)) q ys := by
  rcases h with (h | ⟨o, h⟩) | h
  · exact .inl (.inl (by rw [upd_ne (fun e => by rw [e, hF] at h; cases h)]; exact h))
  · exact .inl (.inr ⟨o, by rw [upd_ne (fun e => by rw [e, hF] at h; cases h)]; exact h⟩)
  · exact .inr h
theorem flat_take {r : List PL.T} {i : Nat} (hi : i < r.length) : (r.take (i + 1)).flatten.length = (r.take i).flatten.length + r[i].length := by
  rw [List.take_succ, List.getElem?_eq_getElem hi, List.flatten_append, List.length_append]
  show _ + ([r[i]] : List PL.T).flatten.length = _
  rw [List.flatten_singleton]
theorem flat_le {r : List PL.T} (i : Nat) : (r.take i).flatten.length ≤ r.flatten.length := by
  have q := congrArg (fun l : List PL.T => l.flatten.length) (List.take_append_drop i r)
  have q : (r.take i ++ r.drop i).flatten.length = r.flatten.length := q
  rw [List.flatten_append, List.length_append] at q
  omega
theorem ok_places_in (T : Ev fa fx fn K mg base) : Dn P w K mg base 1 (He.ga K "places_in") ["row"] (spPl K) := by
  refine dn_of (d_places_in T) sc_places_in bo_places_in (fun vs H Q E h => ?_) (fun cdv A outer s H vs Q E hr h => ?_)
  · obtain ⟨q, r, rfl, _⟩ := h
    rfl
  · obtain ⟨q, r, rfl, hq, hrl, hfl, k⟩ := h
    refine ⟨_, (PSs.nox (pss_cons (ps_set (i := 1) sc_places_in.nd rfl (.inl rfl) (pe_lst pa_nil))
      (pss_cons (ps_set (i := 2) sc_places_in.nd rfl (.inl rfl) pe_int)
      (pss_cons (ps_for PassesOwn.never rfl (pi_tup (pe_slice sl_tupA (pv 0) po_none (po_some (pe_un un_neg pe_int)))) (pg_name (i := 3) sc_places_in.nd rfl (.inl rfl))
        (pss_cons (ps_set (i := 2) sc_places_in.nd rfl (.inl rfl) (pe_op op_add (pv 2) (pe_callB (call_lenK (K := K) rfl) (by rfl) (f_len T) bb_len (pa_cons (pv 3) pa_nil))))
      (pss_one (ps_expr (pe_bmK (K := K) rfl PySem.F.plainAttrs_list PySem.F.slot_list_append PySem.F.type_list_append mt_append (pv 1) (pa_cons (pv 2) pa_nil))))))
      (pss_one (ps_ret (pe_callTy call_tuple_of (by rfl) (f_tuple T) bb_tuple (pa_cons (pv 1) pa_nil)))))))), ?_⟩
    walk_at "cl"
    walk_at "y"
    refine ⟨Nat.zero_le _, fun F hF => ?_⟩
    walk_at "x"
    have hq1 := sqT_same (same_new (o := .lst []) hF) hq
    have gF : upd H F (.lst []) F = some (.lst []) := upd_same
    have hS1 := same_new (o := .lst []) hF
    generalize upd H F (.lst []) = H1 at hq1 gF hS1
    refine v_slA hq1 fun q2 H2 r2 g2 => ?_
    rw [cut_last', rowV_len] at g2
    have ert : (rowV r).take (r.length - 1) = rowV (r.take (r.length - 1)) := by
      unfold rowV
      rw [List.map_take]
    rw [ert] at g2
    walk_at "x"
    refine ⟨q2, rfl, ⟨_, g2⟩, ?_⟩
    refine for_it (walk_tup (xs := rowV (r.take (r.length - 1)))) (fun i σ' H' => (∃ x, σ' = [some (.ref q), some (.ref F), some (.int ((r.take i).flatten.length : Nat)), x]) ∧ Same H H' ∧ SqT K H' q2 (rowV (r.take (r.length - 1))) ∧ H' F = some (.lst (natV ((plc r).take i)))) ?_ ?_ ?_ ?_
    · exact ⟨⟨_, rfl⟩, hS1.trans r2, g2, r2 _ _ gF⟩
    · rintro i σ' H' _ ⟨_, _, h, _⟩
      exact h
    · rintro i x σ' H3 H4 hi ⟨⟨x4, rfl⟩, hS3, hq3, hF3⟩ ⟨rfl, hx⟩
      rw [rowV_len, List.length_take] at hi
      have hi2 : i < r.length := by omega
      have hxe : x = .str (mkS r[i]) := by
        rw [rowV_at (by rw [List.length_take]; exact hi), List.getElem_take] at hx
        exact (Option.some.inj hx).symm
      subst hxe
      have hri : r[i].length ≤ 10000 := by
        have q1 := flat_take hi2
        have q2 := flat_le (r := r) (i + 1)
        omega
      have hpl : (plc r)[i]? = some (r.take (i + 1)).flatten.length := by
        unfold plc
        rw [List.getElem?_map, List.getElem?_range (by omega)]
        rfl
      walk_at "y"
      refine v_lenS (small (by rw [tl_len, mkS_cps]; exact Nat.le_trans hri (by decide))) ?_
      rw [tl_len, mkS_cps]
      walk_at "y"
      refine ⟨ty_list (sqL_of hF3), ?_⟩
      walk_at "y"
      refine v_append hF3 (smallL (by rw [natV_len, List.length_take]; omega)) ?_
      walk_at "y"
      refine ⟨⟨some (.str (mkS r[i])), ?_⟩, same_mut hS3 hF, sqT_listed hF3 hq3, ?_⟩
      · rw [flat_take hi2, Int.natCast_add]
        rfl
      · rw [upd_same, List.take_succ, hpl, flat_take hi2, ← Int.natCast_add, natV_snoc]
        rfl
    · rintro σ' H3 ⟨⟨x4, rfl⟩, hS3, hq3, hF3⟩
      have hfull : (plc r).take (rowV (r.take (r.length - 1))).length = plc r := by
        refine List.take_of_length_le ?_
        unfold plc
        rw [List.length_map, List.length_range, rowV_len, List.length_take]
        omega
      rw [hfull] at hF3
      walk_at "y"
      refine ⟨F, _, rfl, .inl ⟨sqL_of hF3, fun p hp => ?_⟩⟩
      exact k p _ (same_upd hS3 hp) (sqT_of upd_same)
def spCc (K : PySem.W.Frag) : Sp := fun vs H Q E => ∃ (a : Addr) (kd : Kd) (sa : Addr) (z t : Str) (s : Src), vs = [.ref a, .str t] ∧ CutAt K H a kd sa z s ∧ t.cps.toList.length ≤ 100 ∧
  (((∀ c ∈ t.cps.toList, c ∈ z.cps.toList) ∧ ∀ (q : Addr) (r : List PL.T) (H' : Hp), Same H H' → SqT K H' q (rowV r) → RowRel z kd s t.cps.toList r → Q (.ref q) H') ∨
   ∃ i c, Foreign z t i c ∧ ∀ dd H', Same H H' → H' dd = none → E (.ref (He.ga K "UnknownSign")) (some dd) (upd H' dd (.xd [("at", .int (i : Int)), ("sign", .str (s1 c))])))
theorem ok_Cutter_cut (T : Ev fa fx fn K mg base) : Dn P w K mg base 6 (He.ma K (He.ga K "Cutter") "cut") ["self", "text"] (spCc K) := by
  refine dn_of (d_Cutter_cut T) sc_Cutter_cut bo_Cutter_cut (fun vs H Q E h => ?_) (fun cdv A outer s0 H vs Q E hr h => ?_)
  · obtain ⟨a, kd, sa, z, t, s, rfl, _⟩ := h
    rfl
  · obtain ⟨a, kd, sa, z, t, s, rfl, ⟨⟨dx, fs, tq, h1, h2, h3, h4, h5, h6, h7⟩, hs, hg⟩, htl, h⟩ := h
    refine ⟨_, (pss_one (ps_ret (pe_d (ok_source_row T) (hr.mono (by decide)) (g_source_row T) (passes_call (takes_of rfl rfl rfl rfl) (fun _ _ _ _ h => h)) (pa_cons (pe_fldK (K := K) rfl (pv 0) rfl) (pa_cons (pe_fldK (K := K) rfl (pv 0) rfl) (pa_cons (pv 1) pa_nil)))))), ?_⟩
    walk_at "cl"
    walk_at "y"
    refine ⟨_, _, _, _, _, rfl, h1, (cls_Cutter T), (no_Cutter_kind T), h2, ?_⟩
    walk_at "y"
    refine ⟨_, _, _, _, _, rfl, h1, (cls_Cutter T), (no_Cutter_source T), h3, ?_⟩
    walk_at "y"
    exact ⟨kd, sa, z, t, s, rfl, hs, hg, htl, h⟩
def spAP (K : PySem.W.Frag) : Sp := fun vs H Q _ => ∃ (a : Addr) (kd : Kd) (sa : Addr) (z : Str) (s : Src), vs = [.ref a] ∧ CutAt K H a kd sa z s ∧ ∀ q, SqT K H q (rowV (pcs z s)) → Q (.ref q) H
/-- rows of a cutter are rows of its pieces with the text -/
theorem rel_row {H : Hp} {sa : Addr} {z : Str} {kd : Kd} {s : Src} {t : PL.T} {r : List PL.T} (hs : SrcAt K H sa z s) (hov : ∀ c ∈ t, c ∈ z.cps.toList) (h : RowRel z kd s t r) : PL.Row (· ∈ pcs z s) t r := by
  cases s with
  | J ps =>
    obtain ⟨dx, tp, rp, np, hJ⟩ := hs
    have wf' : PL.WF (PL.baseT z.cps.toList).length ps := by rw [PL.baseT_len]; exact hJ.ok.wf
    cases kd <;> first | (exact h.elim) | skip
    have h : r = (PL.cutJ z.cps.toList.length ps (PL.lets z.cps.toList t)).map fun i => (tbl z ps).getD i [] := h
    refine ⟨?_, fun u hu => ?_⟩
    · have q := PL.exp_cut wf' (row := PL.lets z.cps.toList t)
      rw [PL.exp_lets hov, PL.baseT_len] at q
      rw [h, ← List.flatMap_def]
      exact q
    · rw [h] at hu
      obtain ⟨i, hi, rfl⟩ := List.mem_map.mp hu
      have hl := tbl_len (z := z) (ps := ps)
      have hil : i < (tbl z ps).length := by
        rcases PL.cut_mem hi with e | e
        · obtain ⟨c, hc, rfl⟩ := List.mem_map.mp e
          have := List.idxOf_lt_length_of_mem (hov c hc)
          omega
        · omega
      show _ ∈ tbl z ps
      rw [List.getD_eq_getElem?_getD, List.getElem?_eq_getElem hil]
      exact List.getElem_mem hil
  | W ws =>
    cases kd <;> first | (exact h.elim) | skip
    · have q := PL.aheadR_row (show PL.AheadR (WW z ws) t r from h)
      rw [WW_eq] at q
      exact q
    · have q := PL.behindR_row (show PL.BehindR (WW z ws) t r from h)
      rw [WW_eq] at q
      exact q
    · have q := (show PL.IsBest (WW z ws) t r from h).1
      rw [WW_eq] at q
      exact q
  | C ws cs =>
    cases kd <;> first | (exact h.elim) | skip
    exact (show PL.IsTop (wl z ws) (prW z ws cs) t r from h).1
def spPs (K : PySem.W.Frag) : Sp := fun vs H Q E => ∃ (a : Addr) (kd : Kd) (sa : Addr) (z t : Str) (s : Src), vs = [.ref a, .str t] ∧ CutAt K H a kd sa z s ∧ t.cps.toList.length ≤ 100 ∧
  (((∀ c ∈ t.cps.toList, c ∈ z.cps.toList) ∧ ∀ (q : Addr) (r : List PL.T) (H' : Hp), Same H H' → SqT K H' q (natV (plc r)) → RowRel z kd s t.cps.toList r → Q (.ref q) H') ∨
   ∃ i c, Foreign z t i c ∧ ∀ dd H', Same H H' → H' dd = none → E (.ref (He.ga K "UnknownSign")) (some dd) (upd H' dd (.xd [("at", .int (i : Int)), ("sign", .str (s1 c))])))
theorem ok_Cutter_places (T : Ev fa fx fn K mg base) : Dn P w K mg base 7 (He.ma K (He.ga K "Cutter") "places") ["self", "text"] (spPs K) := by
  refine dn_of (d_Cutter_places T) sc_Cutter_places bo_Cutter_places (fun vs H Q E h => ?_) (fun cdv A outer s0 H vs Q E hr h => ?_)
  · obtain ⟨a, kd, sa, z, t, s, rfl, _⟩ := h
    rfl
  · obtain ⟨a, kd, sa, z, t, s, rfl, hC, htl, h⟩ := h
    have ⟨⟨dx, fs, tq, h1, h2, h3, h4, h5, h6, h7⟩, hs, hg⟩ := hC
    refine ⟨_, (pss_one (ps_ret (pe_d (ok_places_in T) (hr.mono (by decide)) (g_places_in T) passL (pa_cons (pe_m (ok_Cutter_cut T) (hr.mono (by decide)) (cls_Cutter T) (me_Cutter_cut T) (passes_call (takes_of rfl rfl rfl rfl) (fun _ _ _ _ h => h)) (pv 0) (pa_cons (pv 1) pa_nil)) pa_nil)))), ?_⟩
    walk_at "cl"
    walk_at "y"
    refine ⟨a, dx, fs, rfl, h1, h6 _ (by simp), ?_⟩
    walk_at "y"
    refine ⟨a, kd, sa, z, t, s, rfl, hC, htl, ?_⟩
    rcases h with ⟨hov, k⟩ | h
    · refine .inl ⟨hov, fun q r H1 hS1 hq hr => ?_⟩
      have hrow := rel_row hs hov hr
      have hpc := pcs_len hs
      have hl := PL.row_len (fun w hw e => by have := (hpc.2.2 w hw).1; rw [e] at this; cases this) hrow
      walk_at "y"
      refine ⟨q, r, rfl, hq, by omega, by rw [hrow.1]; omega, fun p H2 hS2 hp => ?_⟩
      exact k p r H2 (hS1.trans hS2) hp hr
    · exact .inr h
end

end K80

namespace K80
open PySem PySem.Spec L2 PH
open C8 (tCut pss_cut)
section
variable {P : Program} {w : World} {K : PySem.W.Frag} {mg : Str → Option Value} {base : Heap}
/-- a list of pairs, each a tuple of its own -/
def PrL (H : Hp) (xs : List V) (ps : List PL.Pr) : Prop := xs.length = ps.length ∧ ∀ (i : Nat) (h : i < ps.length), ∃ q, xs[i]? = some (.ref q) ∧ H q = some (.tup (prV ps[i]))
theorem PrL.same {H H' : Hp} {xs : List V} {ps : List PL.Pr} (e : Same H H') (h : PrL H xs ps) : PrL H' xs ps := ⟨h.1, fun i hi => by
  obtain ⟨q, h1, h2⟩ := h.2 i hi
  exact ⟨q, h1, e _ _ h2⟩⟩
theorem prs_take : ∀ {row : List Nat} {p : Nat}, PL.prs (row.take (p + 1)) = (PL.prs row).take p
  | [], p => by rw [List.take_nil, PL.prs_nil, List.take_nil]
  | [a], p => by
    rw [List.take_succ_cons, List.take_nil, PL.prs_one, List.take_nil]
  | a :: b :: r, 0 => by rw [List.take_succ_cons, List.take_zero, PL.prs_one, List.take_zero]
  | a :: b :: r, p + 1 => by
    rw [List.take_succ_cons, List.take_succ_cons, PL.prs_two, PL.prs_two, List.take_succ_cons]
    congr 1
    have ih := prs_take (row := b :: r) (p := p)
    rw [List.take_succ_cons] at ih
    exact ih
/-- the lowest rank of the first pairs, with its first place -/
def LowF (ps : List PL.Pr) (row : List Nat) (i low place : Nat) : Prop := low ≤ ps.length ∧ (∀ q ∈ (PL.prs row).take i, low ≤ ps.idxOf q) ∧ (low = ps.length ∨ (place < i ∧ low < ps.length ∧ ∃ q, (PL.prs row)[place]? = some q ∧ low = ps.idxOf q ∧ ∀ q' ∈ (PL.prs row).take place, low < ps.idxOf q'))
theorem lowF_step {ps : List PL.Pr} {row : List Nat} {i low place : Nat} {ab : PL.Pr} (h : LowF ps row i low place) (hi : (PL.prs row)[i]? = some ab) : (ps.idxOf ab < low → LowF ps row (i + 1) (ps.idxOf ab) i) ∧ (¬ ps.idxOf ab < low → LowF ps row (i + 1) low place) := by
  obtain ⟨h1, h2, h3⟩ := h
  have htk : (PL.prs row).take (i + 1) = (PL.prs row).take i ++ [ab] := by
    rw [List.take_succ, hi]
    rfl
  constructor
  · intro c
    refine ⟨by omega, fun q hq => ?_, .inr ⟨Nat.lt_succ_self _, by omega, ab, hi, rfl, fun q' hq' => ?_⟩⟩
    · rw [htk] at hq
      rcases List.mem_append.mp hq with hq | hq
      · have := h2 q hq
        omega
      · rw [List.mem_singleton.mp hq]
        exact Nat.le_refl _
    · have := h2 q' hq'
      omega
  · intro c
    refine ⟨h1, fun q hq => ?_, ?_⟩
    · rw [htk] at hq
      rcases List.mem_append.mp hq with hq | hq
      · exact h2 q hq
      · rw [List.mem_singleton.mp hq]
        omega
    · rcases h3 with h3 | ⟨h3, h4⟩
      · exact .inl h3
      · exact .inr ⟨by omega, h4⟩
theorem lowF_low {ps : List PL.Pr} {row : List Nat} {low place : Nat} (nd : ps.Nodup) (h : ∀ q ∈ PL.prs row, low ≤ ps.idxOf q) : PL.Low ps row low := fun i q hi hq hm => by
  obtain ⟨hl, e⟩ := List.getElem?_eq_some_iff.mp hq
  have h2 := h q hm
  rw [← e, nd.idxOf_getElem] at h2
  omega
def spJR (K : PySem.W.Frag) : Sp := fun vs H Q _ => ∃ (pp : Addr) (z t : Str) (ps : List PL.Pr) (xs : List V), vs = [.str z, .ref pp, .str t] ∧ AlphaOk z 4 ∧ SqL K H pp xs ∧ PrL H xs ps ∧ ps.length ≤ 10 ∧ PL.WF z.cps.toList.length ps ∧ ps.Nodup ∧ t.cps.toList.length ≤ 100 ∧ (∀ c ∈ t.cps.toList, c ∈ z.cps.toList) ∧
  ∀ (q : Addr) (H' : Hp), H q = none → Same H H' → H' q = some (.lst (natV (PL.cutJ z.cps.toList.length ps (PL.lets z.cps.toList t.cps.toList)))) → Q (.ref q) H'
theorem ok__law_join_row (T : Ev fa fx fn K mg base) : Dn P w K mg base 1 (He.ga K "_law_join_row") ["letters", "pairs", "text"] (spJR K) := by
  refine dn_of (d__law_join_row T) sc__law_join_row bo__law_join_row (fun vs H Q E h => ?_) (fun cdv A outer s0 H vs Q E hr h => ?_)
  · obtain ⟨pp, z, t, ps, xs, rfl, _⟩ := h
    rfl
  · obtain ⟨pp, z, t, ps, xs, rfl, al, hpp, hprs, few, wf, nd, htl, hov, k⟩ := h
    have zlo := al.lo
    have zhi := al.hi
    have znd : z.cps.toList.Nodup := al.up.imp (fun h => Nat.ne_of_lt h)
    have hxl := hprs.1
    refine ⟨_, (PSs.nox (pss_cons (ps_set (i := 3) sc__law_join_row.nd rfl (.inl rfl) pe_dnewT)
      (pss_cons (ps_for PassesOwn.never rfl (pi_range1 rfl (f_range T) (pa_cons (pe_callB (call_lenK (K := K) rfl) (by rfl) (f_len T) bb_len (pa_cons (pv 1) pa_nil)) pa_nil)) (pg_name (i := 4) sc__law_join_row.nd rfl (.inl rfl))
        (pss_one (ps_dput hr.hu (pv 3) (pe_ix (ix_listK (K := K) rfl) (pv 1) (pv 4) (fun _ _ => rfl)) (pv 4) rfl)))
      (pss_cons (ps_setLc (i := 5) (own := [("sign", 6)]) rfl sc__law_join_row.nd rfl rfl (sw_true rfl rfl rfl (by decide +kernel)) (pi_str (pv 2)) (blkOk_by (own := [("sign", 6)]) (N := ["letters", "pairs", "text", "ranks", "rank", "row", "sign", "k", "low", "place", "at"]) (sc := defScope s__law_join_row) (by decide +kernel)) (fun _ _ _ _ _ => (pg_name (i := 6) sc__law_join_row.nd rfl (.inl rfl))) (fun _ _ _ _ _ => pts_nil) (fun _ _ _ _ _ => (pe_m1 PySem.F.slot_str_index PySem.F.type_str_index mt_sindex1 (pv 0) (pv 6))))
      (pss_cons (ps_for PassesOwn.never rfl (pi_range1 rfl (f_range T) (pa_cons (pe_callB (call_lenK (K := K) rfl) (by rfl) (f_len T) bb_len (pa_cons (pv 2) pa_nil)) pa_nil)) (pg_name (i := 7) sc__law_join_row.nd rfl (.inl rfl))
        (pss_cons (ps_set (i := 8) sc__law_join_row.nd rfl (.inl rfl) (pe_callB (call_lenK (K := K) rfl) (by rfl) (f_len T) bb_len (pa_cons (pv 1) pa_nil)))
      (pss_cons (ps_set (i := 9) sc__law_join_row.nd rfl (.inl rfl) pe_int)
      (pss_cons (ps_for PassesOwn.never rfl (pi_range1 rfl (f_range T) (pa_cons (pe_op op_sub (pe_callB (call_lenK (K := K) rfl) (by rfl) (f_len T) bb_len (pa_cons (pv 5) pa_nil)) pe_int) pa_nil)) (pg_name (i := 10) sc__law_join_row.nd rfl (.inl rfl))
        (pss_cons (ps_set (i := 4) sc__law_join_row.nd rfl (.inl rfl) (pe_dget2 hr.hu (pv 3) (pe_tup (pa_cons (pe_ix (ix_listK (K := K) rfl) (pv 5) (pv 10) (fun _ _ => rfl)) (pa_cons (pe_ix (ix_listK (K := K) rfl) (pv 5) (pe_op op_add (pv 10) pe_int) (fun _ _ => rfl)) pa_nil))) (pe_callB (call_lenK (K := K) rfl) (by rfl) (f_len T) bb_len (pa_cons (pv 1) pa_nil)) ⟨rfl, rfl, rfl, rfl⟩))
      (pss_one (ps_if (pt_cmpR op_lt (pv 4) (pv 8) (nomark _))
        (pss_cons (ps_set (i := 8) sc__law_join_row.nd rfl (.inl rfl) (pv 4))
      (pss_one (ps_set (i := 9) sc__law_join_row.nd rfl (.inl rfl) (pv 10)))) pss_nil))))
      (pss_cons (ps_if (pt_cmpR op_eq (pv 8) (pe_callB (call_lenK (K := K) rfl) (by rfl) (f_len T) bb_len (pa_cons (pv 1) pa_nil)) (nomark _))
        (pss_one (ps_ret (pv 5))) pss_nil)
      (pss_one (ps_set (i := 5) sc__law_join_row.nd rfl (.inl rfl) (pe_op op_cat (pe_op op_cat (pe_slice sl_list (pv 5) po_none (po_some (pv 9))) (pe_lst (pa_cons (pe_op op_add (pe_callB (call_lenK (K := K) rfl) (by rfl) (f_len T) bb_len (pa_cons (pv 0) pa_nil)) (pv 8)) pa_nil))) (pe_slice sl_list (pv 5) (po_some (pe_op op_add (pv 9) pe_int)) po_none)))))))))
      (pss_one (ps_ret (pv 5)))))))), ?_⟩
    walk_at "cl"
    walk_at "y"
    intro rp hrp
    walk_at "x"
    refine v_lenL (sqL_same (same_new hrp) hpp) ?_
    rw [hxl]
    walk_at "x"
    refine ⟨_, rfl, by omega, by omega, ?_⟩
    rw [show ((ps.length : Nat) : Int).toNat = ps.length by omega]
    refine for_it walk_range (fun i σ' H' => (∃ x4, σ' = [some (.str z), some (.ref pp), some (.str t), some (.ref rp), x4, none, none, none, none, none, none]) ∧ Same H H' ∧ RanksAt H' rp (ps.take i)) ?_ ?_ ?_ ?_
    · exact ⟨⟨_, rfl⟩, same_new hrp, ⟨[], upd_same, Nat.zero_le _, fun a b => rfl⟩⟩
    · intros
      trivial
    · rintro i x σ' H1 H2 hi ⟨⟨x4, rfl⟩, hS, hR⟩ ⟨rfl, hx⟩
      obtain rfl : x = .int (i : Nat) := hx.trans (congrArg V.int (by omega))
      obtain ⟨q, hq1, hq2⟩ := hprs.2 i hi
      obtain ⟨kvs, hk1, hk2, hk3⟩ := hR
      have htk : ps.take (i + 1) = ps.take i ++ [ps[i]] := by
        rw [List.take_succ, List.getElem?_eq_getElem hi]
        rfl
      have htl2 : (ps.take i).length = i := by rw [List.length_take]; omega
      walk_at "y"
      refine v_ixL (sqL_same hS hpp) (atI_nat hq1) ?_
      refine ⟨rp, _, rfl, .inr ⟨kvs, [.inl (ps[i].1 : Int), .inl (ps[i].2 : Int)], q, hk1, rfl, hS _ _ hq2, smallL (by omega), rfl⟩, ?_⟩
      refine ⟨⟨_, rfl⟩, same_mut hS hrp, ?_⟩
      rw [htk]
      refine RanksAt.put hk2 hk3 (fun hm => ?_) (by rw [htl2]; exact upd_same)
      obtain ⟨j, hj, e⟩ := List.mem_iff_getElem.mp hm
      rw [List.length_take] at hj
      rw [List.getElem_take] at e
      have := (List.getElem_inj nd).1 e
      omega
    rintro σ' H1 ⟨⟨x4, rfl⟩, hS1, hR⟩
    rw [List.take_length] at hR
    walk_at "y"
    refine ⟨t, rfl, fun D hD => ?_⟩
    have ezl : t.cps.size = t.cps.toList.length := by simp
    refine lc_it (walk_str (z := t)) (fun j H' => Same H1 H' ∧ H' D = some (.lst (natV (PL.lets z.cps.toList (t.cps.toList.take j))))) ?_ ?_ ?_ ?_
    · exact ⟨same_new hD, upd_same⟩
    · intros
      trivial
    · rintro j x H5 H6 hj ⟨h5, hd5⟩ ⟨rfl, c, hc, rfl⟩
      have hc : t.cps.toList[j]? = some c := by rw [Array.getElem?_toList]; exact hc
      have hcm := hov c (List.mem_of_getElem? hc)
      walk_at "y"
      refine ⟨rfl, ?_⟩
      walk_at "y"
      refine ⟨⟨_, rfl⟩, ?_⟩
      walk_at "y"
      refine ⟨z, c, z.cps.toList.idxOf c, rfl, rfl, znd, List.getElem?_eq_some_iff.mpr ⟨List.idxOf_lt_length_of_mem hcm, List.getElem_idxOf _⟩, ?_⟩
      refine ⟨_, hd5, smallL (by rw [natV_len]; unfold PL.lets; rw [List.length_map, List.length_take]; omega), same_mut h5 hD, ?_⟩
      rw [upd_same, List.take_add_one, hc]
      unfold PL.lets
      rw [List.map_append, natV_snoc]
      rfl
    rintro H2 ⟨hS2, hd2⟩
    rw [ezl, List.take_length] at hd2
    obtain ⟨row0, hrow0⟩ : ∃ row0, row0 = PL.lets z.cps.toList t.cps.toList := ⟨_, rfl⟩
    have hr0l : row0.length = t.cps.toList.length := by
      rw [hrow0]
      unfold PL.lets
      rw [List.length_map]
    rw [← hrow0] at hd2 k
    have hS02 := hS1.trans hS2
    walk_at "x"
    refine v_lenS (small (by rw [tl_len]; omega)) ?_
    rw [tl_len]
    walk_at "x"
    refine ⟨_, rfl, by omega, by omega, ?_⟩
    rw [show ((t.cps.toList.length : Nat) : Int).toNat = t.cps.toList.length by omega]
    refine for_it walk_range (fun i σ' H' => (∃ (x4 x7 x8 x9 x10 : Option V) (rq : Addr) (row : List Nat), σ' = [some (.str z), some (.ref pp), some (.str t), some (.ref rp), x4, some (.ref rq), none, x7, x8, x9, x10] ∧ H rq = none ∧ H' rq = some (.lst (natV row)) ∧ row.length + i = t.cps.toList.length ∧ PL.cutJ z.cps.toList.length ps row = PL.cutJ z.cps.toList.length ps row0) ∧ Same H H' ∧ RanksAt H' rp ps) ?_ ?_ ?_ ?_
    · exact ⟨⟨_, _, _, _, _, D, row0, rfl, none_same hS1 hD, hd2, by omega, rfl⟩, hS02, hR.same hS2⟩
    · intros
      trivial
    · rintro i x σ' H3 H3' hi ⟨⟨x4', x7, x8, x9, x10, rq, row, rfl, hrqn, hrq, hlen, hcut⟩, hS3, hR3⟩ ⟨rfl, hx⟩
      walk_at "y"
      refine v_lenL (sqL_same hS3 hpp) ?_
      rw [hxl]
      walk_at "x"
      refine v_lenL (sqL_of hrq) ?_
      rw [natV_len]
      walk_at "x"
      refine ⟨_, rfl, by omega, by omega, ?_⟩
      rw [show (((row.length : Nat) : Int) - 1).toNat = row.length - 1 by omega]
      refine for_it walk_range (fun i2 σ' H' => (∃ (x4 x10 : Option V) (low place : Nat), σ' = [some (.str z), some (.ref pp), some (.str t), some (.ref rp), x4, some (.ref rq), none, some x, some (.int (low : Nat)), some (.int (place : Nat)), x10] ∧ LowF ps row i2 low place) ∧ Same H3' H') ?_ ?_ ?_ ?_
      · exact ⟨⟨_, _, ps.length, 0, rfl, Nat.le_refl _, (fun q hq => by cases hq), .inl rfl⟩, Same.refl _⟩
      · intros
        trivial
      · rintro i2 x2 σ' H4 H4' hi2 ⟨⟨x4, x10', low, place, rfl, hlow⟩, hS4⟩ ⟨rfl, hx2⟩
        obtain rfl : x2 = .int (i2 : Nat) := hx2.trans (congrArg V.int (by omega))
        have hi1 : i2 + 1 < row.length := by omega
        have hrq4 := hS4 _ _ hrq
        have hR4 := hR3.same hS4
        obtain ⟨kvs4, hk4, _, _⟩ := id hR4
        walk_at "y"
        refine ⟨rp, rfl, .inr ⟨_, .inl hk4⟩, ?_⟩
        walk_at "y"
        refine v_ixL (sqL_of hrq4) (atI_nat (natV_at' (by omega))) ?_
        walk_at "y"
        rw [show (i2 : Int) + 1 = ((i2 + 1 : Nat) : Int) by omega]
        refine v_ixL (sqL_of hrq4) (atI_nat (natV_at' hi1)) ?_
        walk_at "y"
        refine ⟨small (show 2 ≤ 16000000 by decide), fun c1 hc1 => ?_⟩
        obtain ⟨s1', s2'⟩ := lowF_step hlow (prs_at hi1)
        generalize hab : (row[i2], row[i2 + 1]) = ab at s1' s2'
        have eab : [V.int (row[i2] : Nat), V.int (row[i2 + 1] : Nat)] = prV ab := by rw [← hab]; rfl
        rw [eab]
        have r1 := same_new (o := .tup (prV ab)) hc1
        have g1 : upd H4' c1 (.tup (prV ab)) c1 = some (.tup (prV ab)) := upd_same
        generalize upd H4' c1 (.tup (prV ab)) = H5 at r1 g1
        walk_at "y"
        refine v_lenL (sqL_same (hS3.trans (hS4.trans r1)) hpp) ?_
        rw [hxl]
        refine ⟨_, (hR4.same r1).get g1, ?_⟩
        have eget : (if ab ∈ ps then some (V.int (ps.idxOf ab : Nat)) else none).getD (.int (ps.length : Nat)) = .int (ps.idxOf ab : Nat) := by
          by_cases hm : ab ∈ ps
          · rw [if_pos hm]
            rfl
          · rw [if_neg hm]
            have h1 := List.idxOf_le_length (a := ab) (l := ps)
            have h2 : ¬ ps.idxOf ab < ps.length := fun h => hm (List.idxOf_lt_length_iff.mp h)
            show V.int _ = V.int _
            congr 2
            omega
        rw [eget]
        walk_at "y"
        refine if_dec (fun c => ?_) (fun c => ?_)
        · walk_at "y"
          exact ⟨⟨_, _, _, i2, rfl, s1' (by omega)⟩, hS4.trans r1⟩
        · walk_at "y"
          exact ⟨⟨_, _, low, place, rfl, s2' (by omega)⟩, hS4.trans r1⟩
      · rintro σ' H4 ⟨⟨x4, x10', low, place, rfl, hlow⟩, hS4⟩
        have hfull : (PL.prs row).take (row.length - 1) = PL.prs row := by rw [← prs_len, List.take_length]
        obtain ⟨hl1, hl2, hl3⟩ := hlow
        rw [hfull] at hl2
        have hrq4 := hS4 _ _ hrq
        have hS34 := hS3.trans hS4
        walk_at "y"
        refine v_lenL (sqL_same hS34 hpp) ?_
        rw [hxl]
        walk_at "y"
        refine if_dec (fun c => ?_) (fun c => ?_)
        · have c : low = ps.length := by omega
          have e : PL.cutJ z.cps.toList.length ps row = row := PL.cut_none fun p hp hm => by
            have h1 := hl2 p hm
            have h2 := List.idxOf_lt_length_of_mem hp
            omega
          walk_at "y"
          exact k rq _ hrqn hS34 (by rw [← hcut, e]; exact hrq4)
        · have c : low ≠ ps.length := fun e => c (by rw [e])
          rcases hl3 with hl3 | ⟨hpl, hll, q, hq1, hq2, hq3⟩
          · exact absurd hl3 c
          have hp2 : place + 1 < row.length := by omega
          rw [prs_at hp2] at hq1
          have hq1 : (row[place], row[place + 1]) = q := Option.some.inj hq1
          have hsp : row = row.take place ++ row[place] :: row[place + 1] :: row.drop (place + 2) := by
            have q := List.take_append_drop place row
            rw [List.drop_eq_getElem_cons (by omega : place < row.length), List.drop_eq_getElem_cons hp2] at q
            exact q.symm
          have hps : ps[low]? = some (row[place], row[place + 1]) := by
            rw [hq1, hq2]
            exact List.getElem?_eq_some_iff.mpr ⟨by omega, List.getElem_idxOf _⟩
          have hnew : PL.cutJ z.cps.toList.length ps (row.take place ++ (z.cps.toList.length + low) :: row.drop (place + 2)) = PL.cutJ z.cps.toList.length ps row := by
            have hlow2 := lowF_low (place := place) nd hl2
            rw [hsp] at hlow2
            have q := PL.cut_first wf hps hlow2 (fun hm => by
              have e : row.take place ++ [row[place]] = row.take (place + 1) := by
                rw [List.take_succ, List.getElem?_eq_getElem (by omega)]
                rfl
              rw [e, prs_take, hq1] at hm
              have := hq3 _ hm
              omega)
            rw [← hsp] at q
            exact q
          walk_at "y"
          refine ⟨rq, _, rfl, sqL_of hrq4, fun a1 ha1 => ?_⟩
          rw [cut_take]
          have et1 : (natV row).take place = natV (row.take place) := by
            unfold natV
            rw [List.map_take]
          rw [et1]
          have r1 := same_new (o := .lst (natV (row.take place))) ha1
          have g1 : upd H4 a1 (.lst (natV (row.take place))) a1 = some (.lst (natV (row.take place))) := upd_same
          generalize upd H4 a1 (.lst (natV (row.take place))) = H5 at r1 g1
          walk_at "y"
          refine v_lenS (small (by rw [tl_len]; omega)) ?_
          rw [tl_len]
          walk_at "y"
          refine ⟨small (show 1 ≤ 16000000 by decide), fun a2 ha2 => ?_⟩
          rw [show ((z.cps.toList.length : Nat) : Int) + ((low : Nat) : Int) = ((z.cps.toList.length + low : Nat) : Int) by omega]
          have r2 := same_new (o := .lst [.int (z.cps.toList.length + low : Nat)]) ha2
          have g2 : upd H5 a2 (.lst [.int (z.cps.toList.length + low : Nat)]) a2 = some (.lst [.int (z.cps.toList.length + low : Nat)]) := upd_same
          generalize upd H5 a2 (.lst [.int (z.cps.toList.length + low : Nat)]) = H6 at r2 g2
          walk_at "y"
          refine ⟨a1, a2, _, _, rfl, rfl, r2 _ _ g1, g2, small (by rw [natV_len, List.length_take]; show _ + 1 ≤ _; omega), fun a3 ha3 => ?_⟩
          have r3 := same_new (o := .lst (natV (row.take place) ++ [.int (z.cps.toList.length + low : Nat)])) ha3
          have g3 : upd H6 a3 (.lst (natV (row.take place) ++ [.int (z.cps.toList.length + low : Nat)])) a3 = some (.lst (natV (row.take place) ++ [.int (z.cps.toList.length + low : Nat)])) := upd_same
          generalize upd H6 a3 (.lst (natV (row.take place) ++ [.int (z.cps.toList.length + low : Nat)])) = H7 at r3 g3
          walk_at "y"
          rw [show ((place : Nat) : Int) + 2 = ((place + 2 : Nat) : Int) by omega]
          refine ⟨rq, _, rfl, sqL_of ((r1.trans (r2.trans r3)) _ _ hrq4), fun a4 ha4 => ?_⟩
          rw [cut_drop]
          have et2 : (natV row).drop (place + 2) = natV (row.drop (place + 2)) := by
            unfold natV
            rw [List.map_drop]
          rw [et2]
          have r4 := same_new (o := .lst (natV (row.drop (place + 2)))) ha4
          have g4 : upd H7 a4 (.lst (natV (row.drop (place + 2)))) a4 = some (.lst (natV (row.drop (place + 2)))) := upd_same
          generalize upd H7 a4 (.lst (natV (row.drop (place + 2)))) = H8 at r4 g4
          walk_at "y"
          refine ⟨a3, a4, _, _, rfl, rfl, r4 _ _ g3, g4, small (by rw [List.length_append, natV_len, natV_len, List.length_take, List.length_drop]; show _ + 1 + _ ≤ _; omega), fun a5 ha5 => ?_⟩
          have r14 := r1.trans (r2.trans (r3.trans r4))
          walk_at "y"
          refine ⟨⟨_, _, _, _, _, a5, _, rfl, none_same (hS34.trans r14) ha5, ?_, ?_, hnew.trans hcut⟩, same_upd (hS34.trans r14) ha5, (hR3.same (hS4.trans r14)).same (same_new ha5)⟩
          · rw [upd_same]
            unfold natV
            rw [List.map_append, List.map_cons, List.append_assoc]
            rfl
          · rw [List.length_append, List.length_cons, List.length_take, List.length_drop]
            omega
    · rintro σ' H3 ⟨⟨x4', x7, x8, x9, x10, rq, row, rfl, hrqn, hrq, hlen, hcut⟩, hS3, hR3⟩
      have e : row = [] := List.eq_nil_of_length_eq_zero (by omega)
      subst e
      have e2 : PL.cutJ z.cps.toList.length ps [] = [] := PL.cut_none fun q _ => by rw [PL.prs_nil]; exact fun h => by cases h
      rw [e2] at hcut
      walk_at "y"
      exact k rq _ hrqn hS3 (by rw [← hcut]; exact hrq)
end

end K80

namespace K80
open PySem PySem.Spec L2 PH
open C8 (tCut pss_cut)
section
variable {P : Program} {w : World} {K : PySem.W.Frag} {mg : Str → Option Value} {base : Heap}
/-- w ends u -/
def suf (u w : PL.T) : Bool := decide (w.length ≤ u.length ∧ u.drop (u.length - w.length) = w)
theorem suf_iff {u w : PL.T} : suf u w = true ↔ w.length ≤ u.length ∧ u.drop (u.length - w.length) = w := by
  unfold suf
  exact decide_eq_true_iff
theorem ends_mk (u v : PL.T) : Txt.endswith (mkS u) (mkS v) = suf u v := by
  unfold Txt.endswith suf
  rw [StrLaws.subAt_eq, tl_len, tl_len, mkS_cps, mkS_cps, Nat.zero_add]
  rw [Bool.eq_iff_iff]
  rw [Bool.and_eq_true, decide_eq_true_iff, decide_eq_true_iff, beq_iff_eq]
  constructor
  · rintro ⟨h1, h2⟩
    refine ⟨h1, ?_⟩
    rw [List.take_of_length_le (by rw [List.length_drop]; omega)] at h2
    exact h2
  · rintro ⟨h1, h2⟩
    refine ⟨h1, ?_⟩
    rw [List.take_of_length_le (by rw [List.length_drop]; omega)]
    exact h2
theorem max_pre {z : Str} {ws : List Str} {u : PL.T} {m : Int} (hm : m ∈ (((wl z ws).filter (PL.pre u)).map List.length).map (fun (c : Nat) => (c : Int))) (hx : ∀ y, y ∈ (((wl z ws).filter (PL.pre u)).map List.length).map (fun (c : Nat) => (c : Int)) → y ≤ m) :
    ∃ s : Nat, m = (s : Int) ∧ PL.MaxPre (WW z ws) u s := by
  obtain ⟨s, hs, rfl⟩ := List.mem_map.mp hm
  obtain ⟨w, hw, rfl⟩ := List.mem_map.mp hs
  have hw := List.mem_filter.mp hw
  refine ⟨w.length, rfl, (PL.pre_Pre wl_iff hw.1 hw.2).1, fun s' hs' => ?_⟩
  obtain ⟨h1, h2, h3⟩ := PL.Pre_pre wl_iff hs'
  have q := hx (s' : Int) (List.mem_map.mpr ⟨s', List.mem_map.mpr ⟨_, List.mem_filter.mpr ⟨h1, h2⟩, h3⟩, rfl⟩)
  omega
theorem max_suf {z : Str} {ws : List Str} {u : PL.T} {m : Int} (hm : m ∈ (((wl z ws).filter (suf u)).map List.length).map (fun (c : Nat) => (c : Int))) (hx : ∀ y, y ∈ (((wl z ws).filter (suf u)).map List.length).map (fun (c : Nat) => (c : Int)) → y ≤ m) :
    ∃ s : Nat, m = (s : Int) ∧ PL.MaxSuf (WW z ws) u s := by
  obtain ⟨s, hs, rfl⟩ := List.mem_map.mp hm
  obtain ⟨w, hw, rfl⟩ := List.mem_map.mp hs
  have hw := List.mem_filter.mp hw
  obtain ⟨q1, q2⟩ := suf_iff.1 hw.2
  refine ⟨w.length, rfl, ⟨q1, by rw [q2]; exact (wl_iff w).2 hw.1⟩, fun s' hs' => ?_⟩
  have e : (u.drop (u.length - s')).length = s' := by
    have := hs'.1
    rw [List.length_drop]
    omega
  have q := hx (s' : Int) (List.mem_map.mpr ⟨s', List.mem_map.mpr ⟨_, List.mem_filter.mpr ⟨(wl_iff _).1 hs'.2, suf_iff.2 ⟨by rw [e]; exact hs'.1, by rw [e]⟩⟩, e⟩, rfl⟩)
  omega
theorem cutS_any (t : Str) (i j : Nat) (h : i ≤ t.cps.toList.length) : cutS t (some (i : Int)) (some (j : Int)) = mkS ((t.cps.toList.drop i).take (j - i)) := by
  by_cases hj : j ≤ t.cps.toList.length
  · exact cutS_mid t i j hj
  · unfold cutS mkS
    rw [HT.sIx_nat, HT.sIx_nat]
    have e : t.length = t.cps.toList.length := tl_len
    rw [e, Nat.min_eq_right (by omega), Nat.min_eq_left h, List.take_of_length_le (by rw [List.length_drop]; omega), List.take_of_length_le (by rw [List.length_drop]; omega)]
def spTx (K : PySem.W.Frag) : Sp := fun vs H Q _ => ∃ (pp : Addr) (z : Str) (ps : List PL.Pr) (xs : List V), vs = [.str z, .ref pp] ∧ PsOk z ps ∧ SqL K H pp xs ∧ PrL H xs ps ∧
  ∀ (q : Addr) (H' : Hp), H q = none → Same H H' → H' q = some (.lst (rowV (tbl z ps))) → Q (.ref q) H'
theorem ok__law_texts (T : Ev fa fx fn K mg base) : Dn P w K mg base 1 (He.ga K "_law_texts") ["letters", "pairs"] (spTx K) := by
  refine dn_of (d__law_texts T) sc__law_texts bo__law_texts (fun vs H Q E h => ?_) (fun cdv A outer s0 H vs Q E hr h => ?_)
  · obtain ⟨pp, z, ps, xs, rfl, _⟩ := h
    rfl
  · obtain ⟨pp, z, ps, xs, rfl, po, hpp, hprs, k⟩ := h
    have zlo := po.al.lo
    have zhi := po.al.hi
    have few := po.few
    have hxl := hprs.1
    refine ⟨_, (PSs.nox (pss_cons (ps_setLc (i := 2) (own := [("sign", 3)]) rfl sc__law_texts.nd rfl rfl (sw_true rfl rfl rfl (by decide +kernel)) (pi_str (pv 0)) (blkOk_by (own := [("sign", 3)]) (N := ["letters", "pairs", "texts", "sign", "pair"]) (sc := defScope s__law_texts) (by decide +kernel)) (fun _ _ _ _ _ => (pg_name (i := 3) sc__law_texts.nd rfl (.inl rfl))) (fun _ _ _ _ _ => pts_nil) (fun _ _ _ _ _ => (pv 3)))
      (pss_cons (ps_for PassesOwn.never rfl (pi_list (pv 1)) (pg_name (i := 4) sc__law_texts.nd rfl (.inl rfl))
        (pss_one (ps_expr (pe_bmK (K := K) rfl PySem.F.plainAttrs_list PySem.F.slot_list_append PySem.F.type_list_append mt_append (pv 2) (pa_cons (pe_op op_add_str (pe_ix (ix_listK (K := K) rfl) (pv 2) (pe_ix (ix_tupK (K := K) rfl) (pv 4) pe_int (fun _ _ => rfl)) (fun _ _ => rfl)) (pe_ix (ix_listK (K := K) rfl) (pv 2) (pe_ix (ix_tupK (K := K) rfl) (pv 4) pe_int (fun _ _ => rfl)) (fun _ _ => rfl))) pa_nil)))))
      (pss_one (ps_ret (pv 2)))))), ?_⟩
    walk_at "cl"
    walk_at "y"
    refine ⟨z, rfl, fun D hD => ?_⟩
    have ezl : z.cps.size = z.cps.toList.length := by simp
    refine lc_it (walk_str (z := z)) (fun j H' => Same H H' ∧ H' D = some (.lst (rowV ((PL.baseT z.cps.toList).take j)))) ?_ ?_ ?_ ?_
    · exact ⟨same_new hD, upd_same⟩
    · intros
      trivial
    · rintro j x H5 H6 hj ⟨h5, hd5⟩ ⟨rfl, c, hc, rfl⟩
      have hc : z.cps.toList[j]? = some c := by rw [Array.getElem?_toList]; exact hc
      walk_at "y"
      refine ⟨rfl, ?_⟩
      walk_at "y"
      refine ⟨_, hd5, smallL (by rw [rowV_len, List.length_take, PL.baseT_len]; omega), same_mut h5 hD, ?_⟩
      rw [upd_same, List.take_add_one]
      unfold PL.baseT rowV
      rw [List.getElem?_map, hc, List.map_append]
      rfl
    rintro H5 ⟨h5, hd5⟩
    have e5 : (PL.baseT z.cps.toList).take z.cps.size = PL.baseT z.cps.toList := List.take_of_length_le (by rw [PL.baseT_len]; omega)
    rw [e5] at hd5
    walk_at "x"
    refine ⟨pp, rfl, ⟨_, sqL_same h5 hpp⟩, ?_⟩
    refine for_it (walk_list (xs := xs)) (fun i σ' H' => (∃ y, σ' = [some (.str z), some (.ref pp), some (.ref D), none, y]) ∧ Same H H' ∧ H' D = some (.lst (rowV (tbl z (ps.take i))))) ?_ ?_ ?_ ?_
    · exact ⟨⟨_, rfl⟩, h5, hd5⟩
    · rintro i σ' H' _ ⟨_, h, _⟩
      exact sqL_same h hpp
    · rintro i x σ' H6 H7 hi ⟨⟨y, rfl⟩, hS, hd⟩ ⟨rfl, hx⟩
      have hi2 : i < ps.length := by omega
      obtain ⟨q, hq1, hq2⟩ := hprs.2 i hi2
      rw [hq1] at hx
      cases hx
      have hq7 := hS _ _ hq2
      have htk : ps.take (i + 1) = ps.take i ++ [ps[i]] := by
        rw [List.take_succ, List.getElem?_eq_getElem hi2]
        rfl
      have hwf := po.wf i ps[i] (List.getElem?_eq_getElem hi2)
      have hl := tbl_len (z := z) (ps := ps.take i)
      rw [List.length_take, Nat.min_eq_left (by omega)] at hl
      have hpre : ∀ j, j < (tbl z (ps.take i)).length → ((tbl z (ps.take i)).getD j []).length ≤ 40 := fun j hj => by
        have e : tbl z ps = PL.txs (tbl z (ps.take i)) (ps.drop i) := by
          unfold tbl
          rw [← PL.txs_app, List.take_append_drop]
        have e2 : (tbl z ps).getD j [] = (tbl z (ps.take i)).getD j [] := by rw [e, PL.txs_pre hj]
        have hl2 := tbl_len (z := z) (ps := ps)
        rw [← e2]
        have hm : (tbl z ps).getD j [] ∈ tbl z ps := by
          rw [List.getD_eq_getElem?_getD, List.getElem?_eq_getElem (by omega)]
          exact List.getElem_mem _
        exact (po.ov _ hm).2.1
      walk_at "y"
      refine ⟨ty_list (sqL_of hd), ?_⟩
      walk_at "y"
      refine v_ixT (xs := [.int (ps[i].1 : Nat), .int (ps[i].2 : Nat)]) (sqT_of hq7) (atI_nat (j := 0) rfl) ?_
      refine v_ixL (sqL_of hd) (atI_nat (tbl_at (by omega))) ?_
      walk_at "y"
      refine v_ixT (xs := [.int (ps[i].1 : Nat), .int (ps[i].2 : Nat)]) (sqT_of hq7) (atI_nat (j := 1) rfl) ?_
      refine v_ixL (sqL_of hd) (atI_nat (tbl_at (by omega))) ?_
      have t1 := hpre ps[i].1 (by omega)
      have t2 := hpre ps[i].2 (by omega)
      refine ⟨_, _, rfl, rfl, small (by rw [tl_len, tl_len, mkS_cps, mkS_cps]; omega), ?_⟩
      walk_at "y"
      refine v_append hd (smallL (by rw [rowV_len]; omega)) ?_
      walk_at "y"
      refine ⟨⟨_, rfl⟩, same_mut hS hD, ?_⟩
      rw [upd_same, htk]
      unfold tbl
      rw [PL.txs_snoc]
      unfold rowV
      rw [List.map_append]
      refine congrArg (fun x => some (HO.lst (_ ++ [V.str x]))) ?_
      rw [← mkS_of (mkS _ ++ mkS _), app_cps, mkS_cps, mkS_cps]
    · rintro σ' H6 ⟨⟨y, rfl⟩, hS, hd⟩
      rw [hxl, List.take_length] at hd
      walk_at "y"
      exact k D H6 hD hS hd
def spLAh (K : PySem.W.Frag) : Sp := fun vs H Q _ => ∃ (p : Addr) (z t : Str) (ws : List Str), vs = [.ref p, .str t] ∧ SqL K H p (rowV (wl z ws)) ∧ AlphaOk z 4 ∧ FurtherOk z 10 6 ws ∧ t.cps.toList.length ≤ 100 ∧ (∀ c ∈ t.cps.toList, c ∈ z.cps.toList) ∧
  ∀ (q : Addr) (r : List PL.T) (H' : Hp), H q = none → Same H H' → H' q = some (.lst (rowV r)) → PL.AheadR (WW z ws) t.cps.toList r → Q (.ref q) H'
theorem ok__law_ahead (T : Ev fa fx fn K mg base) : Dn P w K mg base 1 (He.ga K "_law_ahead") ["words", "text"] (spLAh K) := by
  refine dn_of (d__law_ahead T) sc__law_ahead bo__law_ahead (fun vs H Q E h => ?_) (fun cdv A outer s H vs Q E hr h => ?_)
  · obtain ⟨p, z, t, ws, rfl, _⟩ := h
    rfl
  · obtain ⟨p, z, t, ws, rfl, hp, al, fu, htl, hov, k⟩ := h
    have zl : t.length = t.cps.toList.length := tl_len
    have hwl := wl_le al fu
    refine ⟨_, (PSs.nox (pss_cons (ps_set (i := 2) sc__law_ahead.nd rfl (.inl rfl) (pe_lst pa_nil))
      (pss_cons (ps_set (i := 3) sc__law_ahead.nd rfl (.inr rfl) pe_int)
      (pss_cons (ps_for PassesOwn.never rfl (pi_range1 rfl (f_range T) (pa_cons (pe_callB (call_lenK (K := K) rfl) (by rfl) (f_len T) bb_len (pa_cons (pv 1) pa_nil)) pa_nil)) (pg_name (i := 4) sc__law_ahead.nd rfl (.inl rfl))
        (pss_one (ps_if (pt_cmpR op_lt (pv 3) (pe_callB (call_lenK (K := K) rfl) (by rfl) (f_len T) bb_len (pa_cons (pv 1) pa_nil)) (nomark _))
        (pss_cons (ps_set (i := 5) sc__law_ahead.nd rfl (.inl rfl) (pe_callB (cr_max rfl) (by rfl) (f_max T) bb_max (pa_cons (pe_lc (own := [("word", 6)]) rfl sc__law_ahead.nd (pi_list (pv 0)) (blkOk_by (own := [("word", 6)]) (N := ["words", "text", "row", "at", "k", "size", "word"]) (sc := defScope s__law_ahead) (by decide +kernel)) (fun _ _ _ _ _ => (pg_name (i := 6) sc__law_ahead.nd rfl (.inl rfl))) (fun _ _ _ _ _ => pts_one (pt_cmpR op_eq (pe_slice sl_str (pv 1) (po_some (pv 3)) (po_some (pe_op op_add (pv 3) (pe_callB (call_lenK (K := K) rfl) (by rfl) (f_len T) bb_len (pa_cons (pv 6) pa_nil))))) (pv 6) (nomark _))) (fun _ _ _ _ _ => (pe_callB (call_lenK (K := K) rfl) (by rfl) (f_len T) bb_len (pa_cons (pv 6) pa_nil)))) pa_nil)))
      (pss_cons (ps_expr (pe_bmK (K := K) rfl PySem.F.plainAttrs_list PySem.F.slot_list_append PySem.F.type_list_append mt_append (pv 2) (pa_cons (pe_slice sl_str (pv 1) (po_some (pv 3)) (po_some (pe_op op_add (pv 3) (pv 5)))) pa_nil)))
      (pss_one (ps_set (i := 3) sc__law_ahead.nd rfl (.inr rfl) (pe_op op_add (pv 3) (pv 5)))))) pss_nil)))
      (pss_one (ps_ret (pv 2))))))), ?_⟩
    walk_at "cl"
    walk_at "y"
    refine ⟨Nat.zero_le _, fun C hC => ?_⟩
    walk_at "x"
    refine v_lenS (small (by omega)) ?_
    walk_at "x"
    refine ⟨_, rfl, by omega, by omega, ?_⟩
    rw [show ((t.length : Nat) : Int).toNat = t.cps.toList.length by omega]
    refine for_it walk_range (fun i σ' H' => ∃ (x4 x5 : Option V) (b : Nat) (r : List PL.T), σ' = [some (.ref p), some (.str t), some (.ref C), some (.int (b : Nat)), x4, x5, none] ∧ Same H H' ∧ H' C = some (.lst (rowV r)) ∧ i ≤ b ∧ b ≤ t.cps.toList.length ∧ r.length ≤ i ∧
      (∀ m, PL.AheadR (WW z ws) (t.cps.toList.drop b) m → PL.AheadR (WW z ws) t.cps.toList (r ++ m))) ?_ ?_ ?_ ?_
    · exact ⟨_, _, 0, [], rfl, same_new hC, upd_same, Nat.le_refl _, Nat.zero_le _, Nat.le_refl _, fun m hm => hm⟩
    · intros
      trivial
    · rintro i x σ' H1 H1' hi ⟨x4, x5, b, r, rfl, hS1, hC1, hib, hbn, hrl, hA⟩ ⟨rfl, rfl⟩
      walk_at "y"
      refine v_lenS (small (by omega)) ?_
      walk_at "y"
      refine if_dec (fun c => ?_) (fun c => ?_)
      · have hb : b < t.cps.toList.length := by omega
        walk_at "y"
        refine ⟨p, rfl, ⟨_, sqL_same hS1 hp⟩, fun D hD => ?_⟩
        refine lc_it (walk_list (xs := rowV (wl z ws))) (fun j H' => Same H1' H' ∧ H' D = some (.lst (natV ((((wl z ws).take j).filter (PL.pre (t.cps.toList.drop b))).map List.length)))) ?_ ?_ ?_ ?_
        · exact ⟨same_new hD, upd_same⟩
        · rintro j H' _ ⟨h, _⟩
          exact sqL_same (hS1.trans h) hp
        · rintro j x H4 H5 hj ⟨hS4, hd4⟩ ⟨rfl, hx⟩
          rw [rowV_len] at hj
          rw [rowV_at hj] at hx
          cases hx
          have hw6 := wl_six al fu _ (List.getElem_mem hj)
          have htk : (wl z ws).take (j + 1) = (wl z ws).take j ++ [(wl z ws)[j]] := by
            rw [List.take_succ, List.getElem?_eq_getElem hj]
            rfl
          have hll : ((((wl z ws).take j).filter (PL.pre (t.cps.toList.drop b))).map List.length).length ≤ 14 := by
            rw [List.length_map]
            refine Nat.le_trans (List.length_filter_le _ _) ?_
            rw [List.length_take]
            omega
          walk_at "y"
          refine ⟨rfl, ?_⟩
          walk_at "y"
          refine v_lenS (small (by rw [tl_len, mkS_cps]; omega)) ?_
          rw [tl_len, mkS_cps]
          walk_at "y"
          rw [show (b : Int) + (((wl z ws)[j].length : Nat) : Int) = ((b + (wl z ws)[j].length : Nat) : Int) by omega]
          refine ⟨t, rfl, small (by omega), ?_⟩
          rw [cutS_any t _ _ hbn, Nat.add_sub_cancel_left]
          walk_at "y"
          refine if_dec (fun c => ?_) (fun c => ?_)
          · have cp : PL.pre (t.cps.toList.drop b) (wl z ws)[j] = true := by
              have c2 := mkS_inj c
              refine PL.pre_iff.2 ⟨?_, c2⟩
              have := congrArg List.length c2
              rw [List.length_take] at this
              omega
            walk_at "y"
            refine v_lenS (small (by rw [tl_len, mkS_cps]; omega)) ?_
            refine ⟨_, hd4, smallL (by rw [natV_len]; omega), same_mut hS4 hD, ?_⟩
            rw [upd_same, tl_len, mkS_cps, natV_snoc, htk, List.filter_append, List.map_append, List.filter_cons, if_pos cp]
            rfl
          · have cp : ¬ PL.pre (t.cps.toList.drop b) (wl z ws)[j] = true := fun h => c (by rw [(PL.pre_iff.1 h).2])
            refine ⟨hS4, ?_⟩
            rw [hd4, htk, List.filter_append, List.map_append, List.filter_cons, if_neg cp]
            simp
        · rintro H4 ⟨hS4, hd4⟩
          rw [rowV_len, List.take_length, natV_int] at hd4
          have hpo := pre_one (ws := ws) hov hb
          obtain ⟨o1, o2, o3⟩ := PL.Pre_pre wl_iff hpo
          refine ⟨D, _, rfl, sqL_of hd4, ?_, fun m hm hmx => ?_⟩
          · rw [List.length_map, List.length_map]
            exact List.length_pos_of_mem (List.mem_filter.mpr ⟨o1, o2⟩)
          · obtain ⟨s, rfl, hmp⟩ := max_pre hm hmx
            have hs1 := hmp.1.1
            have hs2 := hmp.2 1 hpo
            rw [List.length_drop] at hs1
            have hC4 := hS4 _ _ hC1
            walk_at "y"
            refine ⟨ty_list (sqL_of hC4), ?_⟩
            walk_at "y"
            refine ⟨t, rfl, small (by omega), ?_⟩
            rw [show (b : Int) + (s : Int) = ((b + s : Nat) : Int) by omega, cutS_mid t b (b + s) (by omega), Nat.add_sub_cancel_left]
            walk_at "y"
            refine v_append hC4 (smallL (by rw [rowV_len]; omega)) ?_
            walk_at "y"
            refine ⟨some (.int (0 + (i : Nat))), some (.int (s : Nat)), b + s, r ++ [(t.cps.toList.drop b).take s], ?_, same_mut (hS1.trans hS4) hC, ?_, by omega, by omega, by rw [List.length_append]; show r.length + 1 ≤ _; omega, fun m hm => ?_⟩
            · rw [show (((b + s : Nat)) : Int) = (b : Int) + (s : Int) by omega]
              rfl
            · rw [upd_same]
              unfold rowV
              rw [List.map_append]
              rfl
            · rw [List.append_assoc]
              refine hA _ (.step ?_ hmp ?_)
              · intro e
                have := congrArg List.length e
                rw [List.length_drop, List.length_nil] at this
                omega
              · rw [List.drop_drop]
                exact hm
      · walk_at "y"
        exact ⟨_, _, b, r, rfl, hS1, hC1, by omega, hbn, by omega, hA⟩
    · rintro σ' H1 ⟨x4, x5, b, r, rfl, hS1, hC1, hib, hbn, hrl, hA⟩
      walk_at "y"
      refine k C r H1 hC hS1 hC1 ?_
      have q := hA [] (by rw [List.drop_of_length_le hib]; exact .nil)
      rw [List.append_nil] at q
      exact q
def spLBh (K : PySem.W.Frag) : Sp := fun vs H Q _ => ∃ (p : Addr) (z t : Str) (ws : List Str), vs = [.ref p, .str t] ∧ SqL K H p (rowV (wl z ws)) ∧ AlphaOk z 4 ∧ FurtherOk z 10 6 ws ∧ t.cps.toList.length ≤ 100 ∧ (∀ c ∈ t.cps.toList, c ∈ z.cps.toList) ∧
  ∀ (q : Addr) (r : List PL.T) (H' : Hp), H q = none → Same H H' → H' q = some (.lst (rowV r)) → PL.BehindR (WW z ws) t.cps.toList r → Q (.ref q) H'
theorem ok__law_behind (T : Ev fa fx fn K mg base) : Dn P w K mg base 1 (He.ga K "_law_behind") ["words", "text"] (spLBh K) := by
  refine dn_of (d__law_behind T) sc__law_behind bo__law_behind (fun vs H Q E h => ?_) (fun cdv A outer s H vs Q E hr h => ?_)
  · obtain ⟨p, z, t, ws, rfl, _⟩ := h
    rfl
  · obtain ⟨p, z, t, ws, rfl, hp, al, fu, htl, hov, k⟩ := h
    have zl : t.length = t.cps.toList.length := tl_len
    have hwl := wl_le al fu
    refine ⟨_, (PSs.nox (pss_cons (ps_set (i := 2) sc__law_behind.nd rfl (.inl rfl) (pe_lst pa_nil))
      (pss_cons (ps_set (i := 3) sc__law_behind.nd rfl (.inr rfl) (pe_callB (call_lenK (K := K) rfl) (by rfl) (f_len T) bb_len (pa_cons (pv 1) pa_nil)))
      (pss_cons (ps_for PassesOwn.never rfl (pi_range1 rfl (f_range T) (pa_cons (pe_callB (call_lenK (K := K) rfl) (by rfl) (f_len T) bb_len (pa_cons (pv 1) pa_nil)) pa_nil)) (pg_name (i := 4) sc__law_behind.nd rfl (.inl rfl))
        (pss_one (ps_if (pt_cmpR op_gt (pv 3) pe_int (nomark _))
        (pss_cons (ps_set (i := 5) sc__law_behind.nd rfl (.inl rfl) (pe_callB (cr_max rfl) (by rfl) (f_max T) bb_max (pa_cons (pe_lc (own := [("word", 6)]) rfl sc__law_behind.nd (pi_list (pv 0)) (blkOk_by (own := [("word", 6)]) (N := ["words", "text", "row", "end", "k", "size", "word"]) (sc := defScope s__law_behind) (by decide +kernel)) (fun _ _ _ _ _ => (pg_name (i := 6) sc__law_behind.nd rfl (.inl rfl))) (fun _ _ _ _ _ => pts_one (pt_val (pe_m1 PySem.F.slot_str_endswith PySem.F.type_str_endswith mt_endswith (pe_slice sl_str (pv 1) po_none (po_some (pv 3))) (pv 6)))) (fun _ _ _ _ _ => (pe_callB (call_lenK (K := K) rfl) (by rfl) (f_len T) bb_len (pa_cons (pv 6) pa_nil)))) pa_nil)))
      (pss_cons (ps_set (i := 2) sc__law_behind.nd rfl (.inl rfl) (pe_op op_cat (pe_lst (pa_cons (pe_slice sl_str (pv 1) (po_some (pe_op op_sub (pv 3) (pv 5))) (po_some (pv 3))) pa_nil)) (pv 2)))
      (pss_one (ps_set (i := 3) sc__law_behind.nd rfl (.inr rfl) (pe_op op_sub (pv 3) (pv 5)))))) pss_nil)))
      (pss_one (ps_ret (pv 2))))))), ?_⟩
    walk_at "cl"
    walk_at "y"
    refine ⟨Nat.zero_le _, fun C0 hC0 => ?_⟩
    walk_at "y"
    refine v_lenS (small (by omega)) ?_
    walk_at "x"
    refine v_lenS (small (by omega)) ?_
    walk_at "x"
    refine ⟨_, rfl, by omega, by omega, ?_⟩
    rw [show ((t.length : Nat) : Int).toNat = t.cps.toList.length by omega]
    refine for_it walk_range (fun i σ' H' => ∃ (x4 x5 : Option V) (e : Nat) (C : Addr) (r : List PL.T), σ' = [some (.ref p), some (.str t), some (.ref C), some (.int (e : Nat)), x4, x5, none] ∧ Same H H' ∧ H C = none ∧ H' C = some (.lst (rowV r)) ∧ e ≤ t.cps.toList.length - i ∧ r.length ≤ i ∧
      (∀ m, PL.BehindR (WW z ws) (t.cps.toList.take e) m → PL.BehindR (WW z ws) t.cps.toList (m ++ r))) ?_ ?_ ?_ ?_
    · refine ⟨none, none, t.cps.toList.length, C0, [], ?_, same_new hC0, hC0, upd_same, by omega, Nat.le_refl _, fun m hm => ?_⟩
      · rw [tl_len]
        rfl
      · rw [List.take_length] at hm
        rw [List.append_nil]
        exact hm
    · intros
      trivial
    · rintro i x σ' H2 H2' hi ⟨x4, x5, e, C, r, rfl, hS2, hCn, hC2, hen, hrl, hB⟩ ⟨rfl, rfl⟩
      walk_at "y"
      refine if_dec (fun c => ?_) (fun c => ?_)
      · have he : 0 < e := by omega
        have hlt : (t.cps.toList.take e).length = e := by
          rw [List.length_take]
          omega
        walk_at "y"
        refine ⟨p, rfl, ⟨_, sqL_same hS2 hp⟩, fun D hD => ?_⟩
        refine lc_it (walk_list (xs := rowV (wl z ws))) (fun j H' => Same H2' H' ∧ H' D = some (.lst (natV ((((wl z ws).take j).filter (suf (t.cps.toList.take e))).map List.length)))) ?_ ?_ ?_ ?_
        · exact ⟨same_new hD, upd_same⟩
        · rintro j H' _ ⟨h, _⟩
          exact sqL_same (hS2.trans h) hp
        · rintro j x H4 H5 hj ⟨hS4, hd4⟩ ⟨rfl, hx⟩
          rw [rowV_len] at hj
          rw [rowV_at hj] at hx
          cases hx
          have hw6 := wl_six al fu _ (List.getElem_mem hj)
          have htk : (wl z ws).take (j + 1) = (wl z ws).take j ++ [(wl z ws)[j]] := by
            rw [List.take_succ, List.getElem?_eq_getElem hj]
            rfl
          have hll : ((((wl z ws).take j).filter (suf (t.cps.toList.take e))).map List.length).length ≤ 14 := by
            rw [List.length_map]
            refine Nat.le_trans (List.length_filter_le _ _) ?_
            rw [List.length_take]
            omega
          walk_at "y"
          refine ⟨rfl, ?_⟩
          walk_at "y"
          refine ⟨t, rfl, small (by omega), ?_⟩
          rw [cutS_to t]
          refine ⟨⟨_, rfl⟩, ?_⟩
          walk_at "y"
          refine ⟨_, _, rfl, rfl, ?_⟩
          rw [ends_mk]
          walk_at "y"
          refine if_b (fun c => ?_) (fun c => ?_)
          · walk_at "y"
            refine v_lenS (small (by rw [tl_len, mkS_cps]; omega)) ?_
            refine ⟨_, hd4, smallL (by rw [natV_len]; omega), same_mut hS4 hD, ?_⟩
            rw [upd_same, tl_len, mkS_cps, natV_snoc, htk, List.filter_append, List.map_append, List.filter_cons, if_pos c]
            rfl
          · refine ⟨hS4, ?_⟩
            rw [hd4, htk, List.filter_append, List.map_append, List.filter_cons, if_neg (by rw [c]; decide)]
            simp
        · rintro H4 ⟨hS4, hd4⟩
          rw [rowV_len, List.take_length, natV_int] at hd4
          have hpo := suf_one (ws := ws) hov he (by omega)
          have ho := hpo.2
          refine ⟨D, _, rfl, sqL_of hd4, ?_, fun m hm hmx => ?_⟩
          · rw [List.length_map, List.length_map]
            refine List.length_pos_of_mem (List.mem_filter.mpr ⟨(wl_iff _).1 hpo.2, suf_iff.2 ?_⟩)
            rw [List.length_drop, hlt]
            have e1 : e - (e - 1) = 1 := by omega
            rw [e1]
            exact ⟨by omega, rfl⟩
          · obtain ⟨s, rfl, hmp⟩ := max_suf hm hmx
            have hs1 := hmp.1.1
            have hs2 := hmp.2 1 hpo
            rw [hlt] at hs1
            have hC4 := hS4 _ _ hC2
            have hS24 := hS2.trans hS4
            walk_at "y"
            refine ⟨t, rfl, small (by omega), ?_⟩
            rw [show (e : Int) - (s : Int) = ((e - s : Nat) : Int) by omega, cutS_mid t (e - s) e (by omega), show e - (e - s) = s by omega]
            walk_at "y"
            refine ⟨small (show 1 ≤ 16000000 by decide), fun a1 ha1 => ?_⟩
            have r1 := same_new (o := .lst [.str (mkS ((t.cps.toList.drop (e - s)).take s))]) ha1
            have g1 : upd H4 a1 (.lst [.str (mkS ((t.cps.toList.drop (e - s)).take s))]) a1 = some (.lst [.str (mkS ((t.cps.toList.drop (e - s)).take s))]) := upd_same
            generalize upd H4 a1 (.lst [.str (mkS ((t.cps.toList.drop (e - s)).take s))]) = H6 at r1 g1
            walk_at "y"
            refine ⟨a1, C, _, _, rfl, rfl, g1, r1 _ _ hC4, small (by rw [rowV_len]; show 1 + _ ≤ _; omega), fun a2 ha2 => ?_⟩
            walk_at "y"
            refine ⟨some (.int (0 + (i : Nat))), some (.int (s : Nat)), e - s, a2, (t.cps.toList.drop (e - s)).take s :: r, ?_, same_upd (hS24.trans r1) ha2, none_same (hS24.trans r1) ha2, upd_same, by omega, by rw [List.length_cons]; omega, fun m hm => ?_⟩
            · rw [show (((e - s : Nat)) : Int) = (e : Int) - (s : Int) by omega]
              rfl
            · have ecut : (t.cps.toList.take e).drop ((t.cps.toList.take e).length - s) = (t.cps.toList.drop (e - s)).take s := by
                rw [hlt, List.drop_take, show e - (e - s) = s by omega]
              have q := hB (m ++ [(t.cps.toList.drop (e - s)).take s]) (by
                rw [← ecut]
                refine .step ?_ hmp ?_
                · intro e'
                  rw [e'] at hlt
                  simp at hlt
                  omega
                · rw [hlt, List.take_take, Nat.min_eq_left (by omega)]
                  exact hm)
              rw [List.append_assoc] at q
              exact q
      · walk_at "y"
        exact ⟨_, _, e, C, r, rfl, hS2, hCn, hC2, by omega, by omega, hB⟩
    · rintro σ' H1 ⟨x4, x5, e, C, r, rfl, hS1, hCn, hC1, hen, hrl, hB⟩
      walk_at "y"
      refine k C r H1 hCn hS1 hC1 ?_
      have q := hB [] (by rw [show e = 0 by omega]; exact .nil)
      exact q
end

end K80

namespace K80
open PySem PySem.Spec L2 PH
open C8 (tCut pss_cut)
section
variable {P : Program} {w : World} {K : PySem.W.Frag} {mg : Str → Option Value} {base : Heap}
theorem dp_ints {H : Hp} {x : V} {ns : List Int} (h : Dp K H x (.tuple (ns.map .int))) : ∃ p, x = .ref p ∧ SqT K H p (ns.map V.int) := by
  cases h with
  | tup hs ha =>
    rw [dpAll_ints_inv ha] at hs
    exact ⟨_, rfl, hs⟩
theorem dp_encS {pr : PL.T → Nat} {H : Hp} {x : V} {r : List PL.T} (h : Dp K H x (PL.encS pr r)) : ∃ q q2, x = .ref q ∧ SqT K H q [.int (PL.cost pr r : Nat), .ref q2] ∧ SqT K H q2 ((PL.shape r).map V.int) := by
  unfold PL.encS at h
  cases h with
  | tup hs ha =>
    cases ha with
    | cons h1 ha =>
      cases ha with
      | cons h2 ha =>
        cases ha
        cases h1
        obtain ⟨q2, rfl, e2⟩ := dp_ints h2
        exact ⟨_, q2, rfl, hs, e2⟩
theorem encS_dp {pr : PL.T → Nat} {H : Hp} {q q2 : Addr} {c : Nat} {r : List PL.T} (hc : c = PL.cost pr r) (h : SqT K H q [.int (c : Nat), .ref q2]) (h2 : SqT K H q2 ((PL.shape r).map V.int)) : Dp K H (.ref q) (PL.encS pr r) := by
  subst hc
  exact .tup h (.cons (.int _) (.cons (.tup h2 (dpAll_ints _)) .nil))
theorem alike_encS {pr : PL.T → Nat} (a b : List PL.T) : PySem.W.alike (PL.encS pr a) (PL.encS pr b) = true := by
  unfold PL.encS
  rw [PySem.W.alike, PySem.W.alikeAll, PySem.W.alikeAll, PySem.W.alikeAll, PL.alike_tup, PySem.W.alike]
  rfl
theorem row_piece {W : PL.T → Prop} {t : PL.T} {r : List PL.T} (h : PL.Row W t r) {i : Nat} (hi : i < r.length) : (t.drop (r.take i).flatten.length).take r[i].length = r[i] ∧ (r.take i).flatten.length + r[i].length ≤ t.length := by
  have e : t = (r.take i).flatten ++ (r[i] ++ (r.drop (i + 1)).flatten) := by
    have q := List.take_append_drop i r
    rw [List.drop_eq_getElem_cons hi] at q
    rw [← h.1, ← List.flatten_cons, ← List.flatten_append, q]
  constructor
  · rw [e, List.drop_left, List.take_left]
  · have q := congrArg List.length e
    rw [List.length_append, List.length_append] at q
    omega
theorem minD_encS {pr : PL.T → Nat} : ∀ (l : List (List PL.T)) (a : List PL.T), PySem.W.minD (PL.encS pr a) (l.map (PL.encS pr)) = PL.encS pr (l.foldl (fun a y => if PL.klt pr y a then y else a) a)
  | [], a => rfl
  | b :: l, a => by
    have ih := minD_encS (pr := pr) l (if PL.klt pr b a then b else a)
    unfold PySem.W.minD at ih ⊢
    rw [List.map_cons, List.foldl_cons, List.foldl_cons, PL.dlt_encS]
    by_cases c : PL.klt pr b a = true
    · rw [if_pos c] at ih ⊢
      rw [if_pos c]
      exact ih
    · rw [if_neg c] at ih ⊢
      rw [if_neg c]
      exact ih
theorem klt_kle {pr : PL.T → Nat} {a b : List PL.T} (h : PL.klt pr a b = true) : PL.kle pr a b = true := by
  rcases (PL.kle_tot pr).total a b with e | e
  · exact e
  · unfold PL.kle at e
    rw [h] at e
    cases e
theorem fold_min {pr : PL.T → Nat} : ∀ (l : List (List PL.T)) (a : List PL.T), (l.foldl (fun a y => if PL.klt pr y a then y else a) a) ∈ a :: l ∧ ∀ y ∈ a :: l, PL.kle pr (l.foldl (fun a y => if PL.klt pr y a then y else a) a) y = true
  | [], a => ⟨List.mem_cons_self, fun y hy => by
    rw [List.mem_singleton.mp hy]
    rcases (PL.kle_tot pr).total a a with e | e <;> exact e⟩
  | b :: l, a => by
    obtain ⟨h1, h2⟩ := fold_min (pr := pr) l (if PL.klt pr b a then b else a)
    rw [List.foldl_cons]
    by_cases c : PL.klt pr b a = true
    · rw [if_pos c] at h1 h2 ⊢
      refine ⟨List.mem_cons_of_mem _ h1, fun y hy => ?_⟩
      rcases List.mem_cons.mp hy with rfl | hy
      · exact (PL.kle_tot pr).trans _ _ _ (h2 b List.mem_cons_self) (klt_kle c)
      · exact h2 y hy
    · rw [if_neg c] at h1 h2 ⊢
      refine ⟨?_, fun y hy => ?_⟩
      · rcases List.mem_cons.mp h1 with e | e
        · rw [e]; exact List.mem_cons_self
        · exact List.mem_cons_of_mem _ (List.mem_cons_of_mem _ e)
      · rcases List.mem_cons.mp hy with rfl | hy
        · exact h2 _ List.mem_cons_self
        · rcases List.mem_cons.mp hy with rfl | hy
          · refine (PL.kle_tot pr).trans _ _ _ (h2 a List.mem_cons_self) ?_
            unfold PL.kle
            rw [Bool.not_eq_true] at c
            rw [c]
            rfl
          · exact h2 y (List.mem_cons_of_mem _ hy)
theorem top_pick {wl : List PL.T} {pr : PL.T → Nat} (hne : ∀ w ∈ wl, 1 ≤ w.length) {u : PL.T} (hu : u ≠ []) {tp : PL.T → List PL.T} (htp : ∀ w ∈ wl, PL.pre u w = true → PL.IsTop wl pr (u.drop w.length) (tp w)) {m : List PL.T} (hm : m ∈ (wl.filter (PL.pre u)).map fun w => w :: tp w) (hle : ∀ y ∈ (wl.filter (PL.pre u)).map fun w => w :: tp w, PL.kle pr m y = true) : PL.IsTop wl pr u m := by
  obtain ⟨w, hw, rfl⟩ := List.mem_map.mp hm
  obtain ⟨hw1, hw2⟩ := PL.mem_pre hw
  have hp := PL.pre_iff.1 hw2
  have ht := htp w hw1 hw2
  have hrow : PL.Row (· ∈ wl) u (w :: tp w) := by
    have q := PL.row_step (W := (· ∈ wl)) (t := u) hp.1 (by rw [hp.2]; exact hw1) ht.1
    rw [hp.2] at q
    exact q
  refine ⟨hrow, fun o ho => ?_⟩
  cases o with
  | nil => exact absurd ho.1.symm hu
  | cons v o =>
    obtain ⟨hv1, hv2, hv3⟩ := PL.row_inv ho
    have hpv : PL.pre u v = true := by
      obtain ⟨a1, a2⟩ := PL.pre_of ho
      exact PL.pre_iff.2 ⟨a1.1, a2.symm⟩
    have q1 := hle _ (List.mem_map.mpr ⟨v, List.mem_filter.mpr ⟨hv1, hpv⟩, rfl⟩)
    have q2 := (htp v hv1 hpv).2 o hv3
    exact (PL.kle_tot pr).trans _ _ _ q1 (PL.kle_cons q2)
def spLBt (K : PySem.W.Frag) : Sp := fun vs H Q _ => ∃ (p c : Addr) (z t : Str) (ws : List Str) (cs : List Int), vs = [.ref p, .ref c, .str t] ∧ SqL K H p (rowV (wl z ws)) ∧ SqL K H c (cs.map V.int) ∧ AlphaOk z 4 ∧ FurtherOk z 10 6 ws ∧ cs.length = (allW z ws).length ∧ (∀ c ∈ cs, 1 ≤ c ∧ c ≤ 9) ∧ t.cps.toList.length ≤ 100 ∧ (∀ c ∈ t.cps.toList, c ∈ z.cps.toList) ∧
  ∀ (q : Addr) (r : List PL.T) (H' : Hp), H q = none → Same H H' → H' q = some (.lst (rowV r)) → PL.IsTop (wl z ws) (prW z ws cs) t.cps.toList r → Q (.ref q) H'
theorem ok__law_best (T : Ev fa fx fn K mg base) : Dn P w K mg base 1 (He.ga K "_law_best") ["words", "costs", "text"] (spLBt K) := by
  refine dn_of (d__law_best T) sc__law_best bo__law_best (fun vs H Q E h => ?_) (fun cdv A outer s H vs Q E hr h => ?_)
  · obtain ⟨p, c, z, t, ws, cs, rfl, _⟩ := h
    rfl
  · obtain ⟨p, c, z, t, ws, cs, rfl, hp, hc, al, fu, hcl, hbd, htl, hov, k⟩ := h
    rw [← wl_len] at hcl
    have zl : t.length = t.cps.toList.length := tl_len
    have hwl := wl_le al fu
    have hne1 : ∀ w ∈ wl z ws, 1 ≤ w.length := fun w hw => (wl_six al fu w hw).1
    refine ⟨_, (PSs.nox (pss_cons (ps_set (i := 3) sc__law_best.nd rfl (.inl rfl) (pe_lst (pa_cons (pe_tup (pa_cons pe_int (pa_cons (pe_tup pa_nil) pa_nil))) pa_nil)))
      (pss_cons (ps_for PassesOwn.never rfl (pi_range2 rfl (f_range T) (pa_cons pe_int (pa_cons (pe_op op_add (pe_callB (call_lenK (K := K) rfl) (by rfl) (f_len T) bb_len (pa_cons (pv 2) pa_nil)) pe_int) pa_nil))) (pg_name (i := 4) sc__law_best.nd rfl (.inl rfl))
        (pss_cons (ps_set (i := 5) sc__law_best.nd rfl (.inl rfl) (pe_op op_sub (pe_callB (call_lenK (K := K) rfl) (by rfl) (f_len T) bb_len (pa_cons (pv 2) pa_nil)) (pv 4)))
      (pss_cons (ps_set (i := 6) sc__law_best.nd rfl (.inl rfl) (pe_lst pa_nil))
      (pss_cons (ps_for PassesOwn.never rfl (pi_range1 rfl (f_range T) (pa_cons (pe_callB (call_lenK (K := K) rfl) (by rfl) (f_len T) bb_len (pa_cons (pv 0) pa_nil)) pa_nil)) (pg_name (i := 7) sc__law_best.nd rfl (.inl rfl))
        (pss_one (ps_if (pt_cmpR op_eq (pe_slice sl_str (pv 2) (po_some (pv 5)) (po_some (pe_op op_add (pv 5) (pe_callB (call_lenK (K := K) rfl) (by rfl) (f_len T) bb_len (pa_cons (pe_ix (ix_listK (K := K) rfl) (pv 0) (pv 7) (fun _ _ => rfl)) pa_nil))))) (pe_ix (ix_listK (K := K) rfl) (pv 0) (pv 7) (fun _ _ => rfl)) (nomark _))
        (pss_cons (ps_set (i := 8) sc__law_best.nd rfl (.inl rfl) (pe_ix (ix_listK (K := K) rfl) (pv 3) (pe_op op_sub (pv 4) (pe_callB (call_lenK (K := K) rfl) (by rfl) (f_len T) bb_len (pa_cons (pe_ix (ix_listK (K := K) rfl) (pv 0) (pv 7) (fun _ _ => rfl)) pa_nil))) (fun _ _ => rfl)))
      (pss_one (ps_expr (pe_bmK (K := K) rfl PySem.F.plainAttrs_list PySem.F.slot_list_append PySem.F.type_list_append mt_append (pv 6) (pa_cons (pe_tup (pa_cons (pe_op op_add (pe_ix (ix_listK (K := K) rfl) (pv 1) (pv 7) (fun _ _ => rfl)) (pe_ix (ix_tupK (K := K) rfl) (pv 8) pe_int (fun _ _ => rfl))) (pa_cons (pe_op op_catA (pe_tup (pa_cons (pe_un un_neg (pe_callB (call_lenK (K := K) rfl) (by rfl) (f_len T) bb_len (pa_cons (pe_ix (ix_listK (K := K) rfl) (pv 0) (pv 7) (fun _ _ => rfl)) pa_nil))) pa_nil)) (pe_ix (ix_tupK (K := K) rfl) (pv 8) pe_int (fun _ _ => rfl))) pa_nil))) pa_nil))))) pss_nil)))
      (pss_one (ps_expr (pe_bmK (K := K) rfl PySem.F.plainAttrs_list PySem.F.slot_list_append PySem.F.type_list_append mt_append (pv 3) (pa_cons (pe_callB (cr_minD (K := K) rfl rfl hr.units) (by rfl) (f_min T) bb_min (pa_cons (pv 6) pa_nil)) pa_nil))))))))
      (pss_cons (ps_set (i := 9) sc__law_best.nd rfl (.inl rfl) (pe_lst pa_nil))
      (pss_cons (ps_set (i := 5) sc__law_best.nd rfl (.inl rfl) pe_int)
      (pss_cons (ps_for PassesOwn.never rfl (pi_tup (pe_ix (ix_tupK (K := K) rfl) (pe_ix (ix_listK (K := K) rfl) (pv 3) (pe_callB (call_lenK (K := K) rfl) (by rfl) (f_len T) bb_len (pa_cons (pv 2) pa_nil)) (fun _ _ => rfl)) pe_int (fun _ _ => rfl))) (pg_name (i := 4) sc__law_best.nd rfl (.inl rfl))
        (pss_cons (ps_expr (pe_bmK (K := K) rfl PySem.F.plainAttrs_list PySem.F.slot_list_append PySem.F.type_list_append mt_append (pv 9) (pa_cons (pe_slice sl_str (pv 2) (po_some (pv 5)) (po_some (pe_op op_sub (pv 5) (pv 4)))) pa_nil)))
      (pss_one (ps_set (i := 5) sc__law_best.nd rfl (.inl rfl) (pe_op op_sub (pv 5) (pv 4))))))
      (pss_one (ps_ret (pv 9))))))))), ?_⟩
    walk_at "cl"
    walk_at "y"
    refine ⟨small (Nat.zero_le _), fun e1 he1 => ?_⟩
    have q1 := same_new (o := .tup []) he1
    have ge1 : upd H e1 (.tup []) e1 = some (.tup []) := upd_same
    generalize upd H e1 (.tup []) = H1 at q1 ge1
    walk_at "y"
    refine ⟨small (show 2 ≤ 16000000 by decide), fun e2 he2 => ?_⟩
    have q2 := same_new (o := .tup [.int (0 : Nat), .ref e1]) he2
    have ge2 : upd H1 e2 (.tup [.int (0 : Nat), .ref e1]) e2 = some (.tup [.int (0 : Nat), .ref e1]) := upd_same
    generalize hH2 : upd H1 e2 (.tup [.int (0 : Nat), .ref e1]) = H2 at q2 ge2
    have hH2' : upd H1 e2 (.tup [.int 0, .ref e1]) = H2 := hH2
    try rw [hH2']
    walk_at "y"
    refine ⟨small (show 1 ≤ 16000000 by decide), fun F hF => ?_⟩
    have hS12 := q1.trans q2
    have hHF : H F = none := none_same hS12 hF
    have gF : upd H2 F (.lst [.ref e2]) F = some (.lst [.ref e2]) := upd_same
    have hS13 := same_upd (o := .lst [.ref e2]) hS12 hF
    have hd0 : DpAll K (PH.hid [F] (upd H2 F (.lst [.ref e2]))) [.ref e2] ([([] : List PL.T)].map (PL.encS (prW z ws cs))) := by
      rw [hid_in (by simp)]
      have k1 := q2 _ _ ge1
      have inF : ∀ {p : Addr} {o : HO}, H2 p = some o → PH.hid [F] H2 p = some o := fun h => hid_at h (by
        intro hm
        rw [List.mem_singleton.mp hm, hF] at h
        cases h)
      exact .cons (encS_dp (c := 0) (r := []) rfl (sqT_of (inF ge2)) (sqT_of (inF k1))) .nil
    generalize upd H2 F (.lst [.ref e2]) = H3 at gF hS13 hd0
    walk_at "x"
    refine v_lenS (small (by omega)) ?_
    walk_at "x"
    refine ⟨_, _, rfl, ⟨by omega, by omega, by omega, by omega⟩, ?_⟩
    rw [show (((t.length : Nat) : Int) + 1 - 1).toNat = t.cps.toList.length by omega]
    refine for_it walk_range (fun i σ' H' => (∃ x4 x5 x6 x7 x8 : Option V, σ' = [some (.ref p), some (.ref c), some (.str t), some (.ref F), x4, x5, x6, x7, x8, none]) ∧ Same H H' ∧ ∃ (xs : List V) (rs : List (List PL.T)), H' F = some (.lst xs) ∧ rs.length = i + 1 ∧ DpAll K (PH.hid [F] H') xs (rs.map (PL.encS (prW z ws cs))) ∧
      ∀ j r, rs[j]? = some r → PL.IsTop (wl z ws) (prW z ws cs) (t.cps.toList.drop (t.cps.toList.length - j)) r) ?_ ?_ ?_ ?_
    · refine ⟨⟨_, _, _, _, _, rfl⟩, hS13, _, [[]], gF, rfl, hd0, fun j r hj => ?_⟩
      cases j with
      | zero =>
        cases hj
        rw [Nat.sub_zero, List.drop_length]
        exact PL.top_nil hne1
      | succ j => cases hj
    · intros
      trivial
    · rintro i x σ' H5 H5' hi ⟨⟨x4, x5, x6, x7, x8, rfl⟩, hS5, xs, rs, hF5, hrl, hK5, hT5⟩ ⟨rfl, rfl⟩
      have hxl := dpAll_length hK5
      rw [List.length_map, hrl] at hxl
      walk_at "y"
      refine v_lenS (small (by omega)) ?_
      walk_at "y"
      rw [show ((t.length : Nat) : Int) - (1 + (i : Nat)) = ((t.cps.toList.length - (i + 1) : Nat) : Int) by omega]
      obtain ⟨at_, hat⟩ : ∃ at_, at_ = t.cps.toList.length - (i + 1) := ⟨_, rfl⟩
      rw [← hat]
      have hul : (t.cps.toList.drop at_).length = i + 1 := by rw [List.length_drop]; omega
      have hdd : ∀ s, s ≤ i + 1 → (t.cps.toList.drop at_).drop s = t.cps.toList.drop (t.cps.toList.length - (i + 1 - s)) := fun s hs => by
        rw [List.drop_drop]
        congr 1
        omega
      have hun : t.cps.toList.drop at_ ≠ [] := by
        intro e
        rw [e] at hul
        cases hul
      walk_at "y"
      refine ⟨Nat.zero_le _, fun G hG => ?_⟩
      have nFG : F ≠ G := ne_of_none hF5 hG
      walk_at "x"
      refine v_lenL (sqL_same (same_upd hS5 hG) hp) ?_
      rw [rowV_len]
      refine ⟨_, rfl, by omega, by omega, ?_⟩
      rw [show (((wl z ws).length : Nat) : Int).toNat = (wl z ws).length by omega]
      refine for_it walk_range (fun i2 σ' H' => ∃ (x7 x8 : Option V) (ys : List V), σ' = [some (.ref p), some (.ref c), some (.str t), some (.ref F), some (.int (1 + (i : Nat))), some (.int (at_ : Nat)), some (.ref G), x7, x8, none] ∧ Same H5' H' ∧ H' G = some (.lst ys) ∧ DpAll K (PH.hid [G, F] H') ys (((((wl z ws).take i2).filter (PL.pre (t.cps.toList.drop at_))).map fun w => w :: rs.getD (i + 1 - w.length) []).map (PL.encS (prW z ws cs)))) ?_ ?_ ?_ ?_
      · exact ⟨_, _, [], rfl, same_new hG, upd_same, .nil⟩
      · intros
        trivial
      · rintro i2 x σ' H6 H6' hi2 ⟨x7', x8', ys, rfl, hS6, hGy, hR⟩ ⟨rfl, hx⟩
        obtain rfl : x = .int (i2 : Nat) := hx.trans (congrArg V.int (by omega))
        have hwat : (wl z ws)[i2]? = some (wl z ws)[i2] := List.getElem?_eq_getElem hi2
        have hcat : cs[i2]? = some cs[i2] := List.getElem?_eq_getElem (by omega)
        have hwm : (wl z ws)[i2] ∈ wl z ws := List.getElem_mem hi2
        have hw6 := wl_six al fu _ hwm
        have hpr := prW_at al fu hbd hwat hcat
        have htk : (wl z ws).take (i2 + 1) = (wl z ws).take i2 ++ [(wl z ws)[i2]] := by
          rw [List.take_succ, hwat]
          rfl
        have hrw := rowV_at hi2
        generalize hwd : (wl z ws)[i2] = wd at hwm hw6 htk hpr hrw hwat
        have hS56 := hS5.trans hS6
        have hF6 := hS6 _ _ hF5
        have hyl := dpAll_length hR
        have hyl14 : ys.length ≤ 14 := by
          rw [hyl, List.length_map, List.length_map]
          refine Nat.le_trans (List.length_filter_le _ _) ?_
          rw [List.length_take]
          omega
        walk_at "y"
        refine v_ixL (sqL_same hS56 hp) (atI_nat hrw) ?_
        walk_at "y"
        refine v_lenS (small (by rw [tl_len, mkS_cps]; omega)) ?_
        rw [tl_len, mkS_cps]
        walk_at "y"
        rw [show (at_ : Int) + ((wd.length : Nat) : Int) = ((at_ + wd.length : Nat) : Int) by omega]
        refine ⟨t, rfl, small (by omega), ?_⟩
        rw [cutS_any t _ _ (by omega), Nat.add_sub_cancel_left]
        walk_at "y"
        refine v_ixL (sqL_same hS56 hp) (atI_nat hrw) ?_
        walk_at "y"
        refine if_dec (fun c => ?_) (fun c => ?_)
        · have c2 := mkS_inj c
          have hle : wd.length ≤ i + 1 := by
            have := congrArg List.length c2
            rw [List.length_take] at this
            omega
          have cp : PL.pre (t.cps.toList.drop at_) wd = true := PL.pre_iff.2 ⟨by omega, c2⟩
          obtain ⟨o, ho⟩ : ∃ o, rs[i + 1 - wd.length]? = some o := ⟨_, List.getElem?_eq_getElem (by omega)⟩
          obtain ⟨v, hv⟩ : ∃ v, xs[i + 1 - wd.length]? = some v := ⟨_, List.getElem?_eq_getElem (by omega)⟩
          have hvo : Dp K (PH.hid [F] H5') v (PL.encS (prW z ws cs) o) := by
            obtain ⟨e, he, hdd⟩ := dpAll_get hK5 hv
            rw [List.getElem?_map, ho] at he
            cases he
            exact hdd
          have hto := hT5 _ _ ho
          have hol : o.length ≤ 100 := by
            have q := PL.row_len (fun w hw e => by have := hne1 w hw; rw [e] at this; cases this) hto.1
            rw [List.length_drop] at q
            omega
          obtain ⟨q, qs, rfl, hq, hqs⟩ := dp_encS hvo
          have hS57 : Same (PH.hid [F] H5') H6' := hid_sub.trans hS6
          walk_at "y"
          refine v_ixL (sqL_same hS56 hp) (atI_nat hrw) ?_
          walk_at "y"
          refine v_lenS (small (by rw [tl_len, mkS_cps]; omega)) ?_
          rw [tl_len, mkS_cps]
          walk_at "y"
          rw [show (1 + (i : Nat)) - ((wd.length : Nat) : Int) = ((i + 1 - wd.length : Nat) : Int) by omega]
          refine v_ixL (v := .ref q) (sqL_of hF6) (atI_nat hv) ?_
          walk_at "y"
          refine ⟨ty_list (sqL_of hGy), ?_⟩
          walk_at "y"
          refine v_ixL (v := .int cs[i2]) (sqL_same hS56 hc) (atI_nat (by rw [List.getElem?_map, hcat]; rfl)) ?_
          walk_at "y"
          refine v_ixT (v := .int (PL.cost (prW z ws cs) o : Nat)) (sqT_same hS57 hq) (atI_nat (j := 0) rfl) ?_
          walk_at "y"
          refine v_ixL (sqL_same hS56 hp) (atI_nat hrw) ?_
          walk_at "y"
          refine v_lenS (small (by rw [tl_len, mkS_cps]; omega)) ?_
          rw [tl_len, mkS_cps]
          walk_at "y"
          refine ⟨small (show 1 ≤ 16000000 by decide), fun c1 hc1 => ?_⟩
          have r1 := same_new (o := .tup [.int (-(wd.length : Int))]) hc1
          have gc1 : upd H6' c1 (.tup [.int (-(wd.length : Int))]) c1 = some (.tup [.int (-(wd.length : Int))]) := upd_same
          generalize upd H6' c1 (.tup [.int (-(wd.length : Int))]) = K1 at r1 gc1
          walk_at "y"
          refine v_ixT (v := .ref qs) (sqT_same (hS57.trans r1) hq) (atI_nat (j := 1) rfl) ?_
          refine v_catA (sqT_same (hS57.trans r1) hqs) (sqT_of gc1) (small (by rw [List.length_map]; unfold PL.shape; rw [List.length_map]; omega)) fun pS K2 r2 hpS => ?_
          walk_at "y"
          rw [← hpr, show ((prW z ws cs wd : Nat) : Int) + ((PL.cost (prW z ws cs) o : Nat) : Int) = ((prW z ws cs wd + PL.cost (prW z ws cs) o : Nat) : Int) by omega]
          refine ⟨small (show 2 ≤ 16000000 by decide), fun c3 hc3 => ?_⟩
          have r3 := same_new (o := .tup [.int ((prW z ws cs wd + PL.cost (prW z ws cs) o : Nat) : Int), .ref pS]) hc3
          have gc3 : upd K2 c3 (.tup [.int ((prW z ws cs wd + PL.cost (prW z ws cs) o : Nat) : Int), .ref pS]) c3 = some (.tup [.int ((prW z ws cs wd + PL.cost (prW z ws cs) o : Nat) : Int), .ref pS]) := upd_same
          generalize upd K2 c3 (.tup [.int ((prW z ws cs wd + PL.cost (prW z ws cs) o : Nat) : Int), .ref pS]) = K3 at r3 gc3
          have r13 := r1.trans (r2.trans r3)
          have hG8 := r13 _ _ hGy
          have hF8 := r13 _ _ hF6
          have hM5 : ∀ mm ∈ [G, F], ∃ u, K3 mm = some u ∧ (∀ xs, u ≠ .tup xs) ∧ ∀ o v, u ≠ .frz o v := fun mm hmm => by
            rcases List.mem_cons.mp hmm with rfl | hmm
            · exact ⟨_, hG8, (fun _ e => nomatch e), fun _ _ e => nomatch e⟩
            · rw [List.mem_singleton.mp hmm]
              exact ⟨_, hF8, (fun _ e => nomatch e), fun _ _ e => nomatch e⟩
          walk_at "y"
          refine v_append hG8 (smallL (by omega)) ?_
          walk_at "y"
          have hgd : rs.getD (i + 1 - wd.length) [] = o := by
            rw [List.getD_eq_getElem?_getD, ho]
            rfl
          refine ⟨_, _, _, rfl, same_mut (hS6.trans r13) hG, upd_same, ?_⟩
          rw [hid_in (by simp), htk, List.filter_append, List.map_append, List.map_append, List.filter_cons, if_pos cp, List.filter_nil, List.map_cons, List.map_nil, hgd]
          refine dpAll_snoc (dpAll_same (hid_same r13) _ _ hR) ?_
          refine encS_dp (c := prW z ws cs wd + PL.cost (prW z ws cs) o) PL.cost_cons.symm (sqT_hidN hM5 (sqT_of gc3)) ?_
          have es : (PL.shape (wd :: o)).map V.int = V.int (-(wd.length : Int)) :: (PL.shape o).map V.int := rfl
          rw [es]
          exact sqT_hidN hM5 (sqT_same r3 hpS)
        · have cp : ¬ PL.pre (t.cps.toList.drop at_) wd = true := fun h => c (by rw [(PL.pre_iff.1 h).2])
          walk_at "y"
          refine ⟨_, _, _, rfl, hS6, hGy, ?_⟩
          rw [htk, List.filter_append, List.filter_cons, if_neg cp, List.filter_nil, List.append_nil]
          exact hR
      · rintro σ' H6 ⟨x7', x8', ys, rfl, hS6, hGy, hR⟩
        rw [List.take_length] at hR
        have hF6 := hS6 _ _ hF5
        obtain ⟨o1, o2, o3⟩ := PL.Pre_pre wl_iff (pre_one (ws := ws) hov (show at_ < t.cps.toList.length by omega))
        have hmem : ∃ w0 l0, (wl z ws).filter (PL.pre (t.cps.toList.drop at_)) = w0 :: l0 := by
          cases hfl : (wl z ws).filter (PL.pre (t.cps.toList.drop at_)) with
          | nil => exact absurd (List.mem_filter.mpr ⟨o1, o2⟩) (by rw [hfl]; simp)
          | cons w0 l0 => exact ⟨w0, l0, rfl⟩
        obtain ⟨w0, l0, hwl0⟩ := hmem
        have hpick : ∀ m ∈ ((wl z ws).filter (PL.pre (t.cps.toList.drop at_))).map (fun w => w :: rs.getD (i + 1 - w.length) []), (∀ y ∈ ((wl z ws).filter (PL.pre (t.cps.toList.drop at_))).map (fun w => w :: rs.getD (i + 1 - w.length) []), PL.kle (prW z ws cs) m y = true) → PL.IsTop (wl z ws) (prW z ws cs) (t.cps.toList.drop at_) m := fun m hm hle => by
          refine top_pick hne1 hun (tp := fun w => rs.getD (i + 1 - w.length) []) (fun w hw hpw => ?_) hm hle
          have hpl := (PL.pre_iff.1 hpw).1
          rw [hul] at hpl
          have h1 := hne1 w hw
          obtain ⟨o, ho⟩ : ∃ o, rs[i + 1 - w.length]? = some o := ⟨_, List.getElem?_eq_getElem (by omega)⟩
          have q := hT5 _ _ ho
          rw [← hdd _ (by omega)] at q
          rw [List.getD_eq_getElem?_getD, ho]
          exact q
        walk_at "y"
        refine ⟨ty_list (sqL_of hF6), ?_⟩
        walk_at "y"
        rw [hwl0, List.map_cons] at hpick
        rw [hwl0, List.map_cons, List.map_cons] at hR
        refine ⟨G, ys, _, _, PH.hid [G, F] H6, rfl, sqL_of hGy, hid_sub, hR, ⟨fun x hx y hy => ?_, fun x hx => ?_⟩, fun e he => ?_, fun v hv => ?_⟩
        · rw [← List.map_cons (f := PL.encS (prW z ws cs))] at hx hy
          obtain ⟨a, _, rfl⟩ := List.mem_map.mp hx
          obtain ⟨b, _, rfl⟩ := List.mem_map.mp hy
          exact alike_encS a b
        · rw [← List.map_cons (f := PL.encS (prW z ws cs))] at hx
          obtain ⟨a, _, rfl⟩ := List.mem_map.mp hx
          exact fun e => nomatch e
        · rw [← List.map_cons (f := PL.encS (prW z ws cs))] at he
          obtain ⟨a, _, rfl⟩ := List.mem_map.mp he
          have h1 := PySem.W.depth_ints (PL.shape a)
          unfold PL.encS
          simp only [PyData.depth, PyData.depthAll, h1]
          decide
        rw [minD_encS] at hv
        obtain ⟨m1, m2⟩ := fold_min (pr := prW z ws cs) (l0.map fun w => w :: rs.getD (i + 1 - w.length) []) (w0 :: rs.getD (i + 1 - w0.length) [])
        have htop := hpick _ m1 m2
        generalize List.foldl (fun a y => if PL.klt (prW z ws cs) y a then y else a) (w0 :: rs.getD (i + 1 - w0.length) []) (l0.map fun w => w :: rs.getD (i + 1 - w.length) []) = mr at hv htop
        walk_at "y"
        refine v_append hF6 (smallL (by omega)) ?_
        walk_at "y"
        refine ⟨⟨_, _, _, _, _, rfl⟩, same_mut (hS5.trans hS6) hHF, _, rs ++ [mr], upd_same, by rw [List.length_append, hrl]; rfl, ?_, fun j r hj => ?_⟩
        · rw [hid_in (by simp), List.map_append]
          exact dpAll_snoc (dpAll_same (hid_same hS6) _ _ hK5) (dp_same hid_more _ _ hv)
        · rcases Nat.lt_or_ge j rs.length with h | h
          · rw [List.getElem?_append_left h] at hj
            exact hT5 j r hj
          · have e : j = i + 1 := by
              have := (List.getElem?_eq_some_iff.mp hj).1
              rw [List.length_append, List.length_singleton] at this
              omega
            subst e
            rw [List.getElem?_append_right h, hrl, Nat.sub_self] at hj
            cases hj
            rw [← hat]
            exact htop
    · rintro σ' H5 ⟨⟨x4, x5, x6, x7, x8, rfl⟩, hS5, xs, rs, hF5, hrl, hK5, hT5⟩
      have hxl := dpAll_length hK5
      rw [List.length_map, hrl] at hxl
      obtain ⟨o, ho⟩ : ∃ o, rs[t.cps.toList.length]? = some o := ⟨_, List.getElem?_eq_getElem (by omega)⟩
      obtain ⟨v, hv⟩ : ∃ v, xs[t.cps.toList.length]? = some v := ⟨_, List.getElem?_eq_getElem (by omega)⟩
      have hvo : Dp K (PH.hid [F] H5) v (PL.encS (prW z ws cs) o) := by
        obtain ⟨e, he, hdd⟩ := dpAll_get hK5 hv
        rw [List.getElem?_map, ho] at he
        cases he
        exact hdd
      have htop := hT5 _ _ ho
      rw [Nat.sub_self, List.drop_zero] at htop
      have hrow := htop.1
      have hol : o.length ≤ 100 := by
        have q := PL.row_len (fun w hw e => by have := hne1 w hw; rw [e] at this; cases this) hrow
        omega
      obtain ⟨q, qs, rfl, hq, hqs⟩ := dp_encS hvo
      have hshl : ((PL.shape o).map V.int).length = o.length := by
        unfold PL.shape
        rw [List.length_map, List.length_map]
      walk_at "y"
      refine ⟨Nat.zero_le _, fun R hR => ?_⟩
      walk_at "x"
      refine v_lenS (small (by omega)) ?_
      rw [tl_len]
      have hSR := same_new (o := .lst []) hR
      refine v_ixL (v := .ref q) (sqL_of (hSR _ _ hF5)) (atI_nat hv) ?_
      walk_at "x"
      refine v_ixT (v := .ref qs) (sqT_same (hid_sub.trans hSR) hq) (atI_nat (j := 1) rfl) ?_
      refine ⟨qs, rfl, ⟨_, sqT_same (hid_sub.trans hSR) hqs⟩, ?_⟩
      refine for_it (walk_tup (xs := (PL.shape o).map V.int)) (fun i2 σ' H' => (∃ x4 : Option V, σ' = [some (.ref p), some (.ref c), some (.str t), some (.ref F), x4, some (.int (((o.take i2).flatten.length : Nat) : Int)), x6, x7, x8, some (.ref R)]) ∧ Same H5 H' ∧ H' R = some (.lst (rowV (o.take i2)))) ?_ ?_ ?_ ?_
      · exact ⟨⟨_, rfl⟩, same_new hR, upd_same⟩
      · rintro i2 σ' H' _ ⟨_, h, _⟩
        exact sqT_same (hid_sub.trans h) hqs
      · rintro i2 x σ' H7 H7' hi2 ⟨⟨x4'', rfl⟩, hS7, hR7⟩ ⟨rfl, hx⟩
        rw [hshl] at hi2
        obtain ⟨hp1, hp2⟩ := row_piece hrow hi2
        have ex : x = .int (-((o[i2].length : Nat) : Int)) := by
          unfold PL.shape at hx
          rw [List.getElem?_map, List.getElem?_map, List.getElem?_eq_getElem hi2] at hx
          exact (Option.some.inj hx).symm
        subst ex
        walk_at "y"
        refine ⟨ty_list (sqL_of hR7), ?_⟩
        walk_at "y"
        refine ⟨t, rfl, small (by omega), ?_⟩
        rw [show (((o.take i2).flatten.length : Nat) : Int) - (-((o[i2].length : Nat) : Int)) = (((o.take i2).flatten.length + o[i2].length : Nat) : Int) by omega, cutS_mid t _ _ (by omega), Nat.add_sub_cancel_left, hp1]
        walk_at "y"
        refine v_append hR7 (smallL (by rw [rowV_len, List.length_take]; omega)) ?_
        walk_at "y"
        have htk : o.take (i2 + 1) = o.take i2 ++ [o[i2]] := by
          rw [List.take_succ, List.getElem?_eq_getElem hi2]
          rfl
        refine ⟨⟨some (.int (-((o[i2].length : Nat) : Int))), ?_⟩, same_mut hS7 hR, ?_⟩
        · rw [htk, List.flatten_append, List.length_append, List.flatten_singleton]
          rw [show (((o.take i2).flatten.length : Nat) : Int) - (-((o[i2].length : Nat) : Int)) = (((o.take i2).flatten.length + o[i2].length : Nat) : Int) by omega]
          rfl
        · rw [upd_same, htk]
          unfold rowV
          rw [List.map_append]
          rfl
      · rintro σ' H7 ⟨⟨x4'', rfl⟩, hS7, hR7⟩
        rw [hshl, List.take_length] at hR7
        walk_at "y"
        exact k R o H7 (none_same hS5 hR) (hS5.trans hS7) hR7 htop
end

end K80

namespace K80
open PySem PySem.Spec L2 PH
open C8 (tCut pss_cut)
section
variable {P : Program} {w : World} {K : PySem.W.Frag} {mg : Str → Option Value} {base : Heap}
def spLPl (K : PySem.W.Frag) : Sp := fun vs H Q _ => ∃ (q : Addr) (r : List PL.T), vs = [.ref q] ∧ SqL K H q (rowV r) ∧ r.length ≤ 100 ∧ r.flatten.length ≤ 10000 ∧ ∀ (p : Addr) (H' : Hp), Same H H' → SqT K H' p (natV (plc r)) → Q (.ref p) H'
theorem ok__law_places (T : Ev fa fx fn K mg base) : Dn P w K mg base 1 (He.ga K "_law_places") ["row"] (spLPl K) := by
  refine dn_of (d__law_places T) sc__law_places bo__law_places (fun vs H Q E h => ?_) (fun cdv A outer s H vs Q E hr h => ?_)
  · obtain ⟨q, r, rfl, _⟩ := h
    rfl
  · obtain ⟨q, r, rfl, hq, hrl, hfl, k⟩ := h
    refine ⟨_, (PSs.nox (pss_cons (ps_set (i := 1) sc__law_places.nd rfl (.inl rfl) (pe_lst pa_nil))
      (pss_cons (ps_for PassesOwn.never rfl (pi_range2 rfl (f_range T) (pa_cons pe_int (pa_cons (pe_callB (call_lenK (K := K) rfl) (by rfl) (f_len T) bb_len (pa_cons (pv 0) pa_nil)) pa_nil))) (pg_name (i := 2) sc__law_places.nd rfl (.inl rfl))
        (pss_one (ps_expr (pe_bmK (K := K) rfl PySem.F.plainAttrs_list PySem.F.slot_list_append PySem.F.type_list_append mt_append (pv 1) (pa_cons (pe_callB (cr_sum rfl) (by rfl) (f_sum T) bb_sum (pa_cons (pe_lc (own := [("piece", 3)]) rfl sc__law_places.nd (pi_list (pe_slice sl_list (pv 0) po_none (po_some (pv 2)))) (blkOk_by (own := [("piece", 3)]) (N := ["row", "told", "k", "piece"]) (sc := defScope s__law_places) (by decide +kernel)) (fun _ _ _ _ _ => (pg_name (i := 3) sc__law_places.nd rfl (.inl rfl))) (fun _ _ _ _ _ => pts_nil) (fun _ _ _ _ _ => (pe_callB (call_lenK (K := K) rfl) (by rfl) (f_len T) bb_len (pa_cons (pv 3) pa_nil)))) pa_nil)) pa_nil)))))
      (pss_one (ps_ret (pe_callTy call_tuple_of (by rfl) (f_tuple T) bb_tuple (pa_cons (pv 1) pa_nil))))))), ?_⟩
    walk_at "cl"
    walk_at "y"
    refine ⟨Nat.zero_le _, fun F hF => ?_⟩
    have gF : upd H F (.lst []) F = some (.lst []) := upd_same
    have hS1 := same_new (o := .lst []) hF
    generalize upd H F (.lst []) = H1 at gF hS1
    walk_at "x"
    refine v_lenL (sqL_same hS1 hq) ?_
    rw [rowV_len]
    refine ⟨_, _, rfl, ⟨by omega, by omega, by omega, by omega⟩, ?_⟩
    rw [show (((r.length : Nat) : Int) - 1).toNat = r.length - 1 by omega]
    refine for_it walk_range (fun i σ' H' => (∃ x, σ' = [some (.ref q), some (.ref F), x, none]) ∧ Same H H' ∧ H' F = some (.lst (natV ((plc r).take i)))) ?_ ?_ ?_ ?_
    · exact ⟨⟨_, rfl⟩, hS1, gF⟩
    · intros
      trivial
    · rintro i x σ' H3 H4 hi ⟨⟨x4, rfl⟩, hS3, hF3⟩ ⟨rfl, rfl⟩
      have hpl : (plc r)[i]? = some (r.take (i + 1)).flatten.length := by
        unfold plc
        rw [List.getElem?_map, List.getElem?_range (by omega)]
        rfl
      walk_at "y"
      refine ⟨ty_list (sqL_of hF3), ?_⟩
      walk_at "y"
      rw [show (1 + (i : Nat) : Int) = ((i + 1 : Nat) : Int) by omega]
      refine ⟨q, _, rfl, sqL_same hS3 hq, fun a1 ha1 => ?_⟩
      rw [cut_take]
      have ert : (rowV r).take (i + 1) = rowV (r.take (i + 1)) := by
        unfold rowV
        rw [List.map_take]
      rw [ert]
      have r1 := same_new (o := .lst (rowV (r.take (i + 1)))) ha1
      have g1 : upd H4 a1 (.lst (rowV (r.take (i + 1)))) a1 = some (.lst (rowV (r.take (i + 1)))) := upd_same
      generalize upd H4 a1 (.lst (rowV (r.take (i + 1)))) = H5 at r1 g1
      refine ⟨a1, rfl, ⟨_, sqL_of g1⟩, fun D hD => ?_⟩
      refine lc_it (walk_list (xs := rowV (r.take (i + 1)))) (fun j H' => Same H5 H' ∧ H' D = some (.lst (natV (((r.take (i + 1)).take j).map List.length)))) ?_ ?_ ?_ ?_
      · exact ⟨same_new hD, upd_same⟩
      · rintro j H' _ ⟨h, _⟩
        exact sqL_of (h _ _ g1)
      · rintro j y H6 H7 hj ⟨hS6, hd6⟩ ⟨rfl, hy⟩
        rw [rowV_len] at hj
        rw [rowV_at hj] at hy
        cases hy
        have hjr : ((r.take (i + 1))[j]).length ≤ 10000 := by
          have q1 := flat_take (r := r.take (i + 1)) hj
          have q2 := flat_le (r := r.take (i + 1)) (j + 1)
          have q3 := flat_le (r := r) (i + 1)
          omega
        rw [List.length_take] at hj
        walk_at "y"
        refine ⟨rfl, ?_⟩
        walk_at "y"
        refine v_lenS (small (by rw [tl_len, mkS_cps]; exact Nat.le_trans hjr (by decide))) ?_
        rw [tl_len, mkS_cps]
        refine ⟨_, hd6, smallL (by rw [natV_len, List.length_map, List.length_take, List.length_take]; omega), same_mut hS6 hD, ?_⟩
        rw [upd_same, natV_snoc]
        have e : (r.take (i + 1)).take (j + 1) = (r.take (i + 1)).take j ++ [(r.take (i + 1))[j]'(by rw [List.length_take]; exact hj)] := by
          rw [List.take_succ, List.getElem?_eq_getElem (by rw [List.length_take]; exact hj)]
          rfl
        rw [e, List.map_append]
        rfl
      · rintro H6 ⟨hS6, hd6⟩
        rw [rowV_len, List.take_length, natV_int] at hd6
        refine ⟨D, _, rfl, sqL_of hd6, ?_⟩
        rw [PL.sum_cast, ← List.length_flatten]
        have hF6 := (r1.trans hS6) _ _ hF3
        walk_at "y"
        refine v_append hF6 (smallL (by rw [natV_len, List.length_take]; omega)) ?_
        walk_at "y"
        refine ⟨⟨_, rfl⟩, same_mut (hS3.trans (r1.trans hS6)) hF, ?_⟩
        rw [upd_same, List.take_succ (l := plc r), hpl, natV_snoc]
        rfl
    · rintro σ' H3 ⟨⟨x4, rfl⟩, hS3, hF3⟩
      have hfull : (plc r).take (r.length - 1) = plc r := by
        refine List.take_of_length_le ?_
        unfold plc
        rw [List.length_map, List.length_range]
        omega
      rw [hfull] at hF3
      walk_at "y"
      refine ⟨F, _, rfl, .inl ⟨sqL_of hF3, fun p hp => ?_⟩⟩
      exact k p _ (same_upd hS3 hp) (sqT_of upd_same)
def costsOf (z : Str) : Kd → Src → List Int
  | _, .W ws => List.replicate (allW z ws).length 1
  | _, .C _ cs => cs
  | _, _ => []
/-- how the law keeps a cutter -/
structure PlainAt (K : PySem.W.Frag) (H : Hp) (p : Addr) (kd : Kd) (z : Str) (s : Src) : Prop where
  ex : ∃ wp cp pp, H p = some (.lst [.str kd.nm, .str z, .ref wp, .ref cp, .ref pp]) ∧ H wp = some (.lst (rowV (pcs z s))) ∧
    (kd = .fewest ∨ kd = .best → H cp = some (.lst ((costsOf z kd s).map V.int))) ∧ (∀ ps, s = .J ps → ∃ xs, H pp = some (.lst xs) ∧ PrL H xs ps)
theorem PlainAt.same {H H' : Hp} {p : Addr} {kd : Kd} {z : Str} {s : Src} (e : Same H H') (h : PlainAt K H p kd z s) : PlainAt K H' p kd z s := by
  obtain ⟨wp, cp, pp, h1, h2, h3, h4⟩ := h
  refine ⟨wp, cp, pp, e _ _ h1, e _ _ h2, fun hk => e _ _ (h3 hk), fun ps hps => ?_⟩
  obtain ⟨xs, h5, h6⟩ := h4 ps hps
  exact ⟨xs, e _ _ h5, h6.same e⟩
/-- what the law knows of its pieces -/
def SrcOk (z : Str) : Src → Prop
  | .J ps => PsOk z ps
  | .W ws => FurtherOk z 10 6 ws
  | .C ws cs => FurtherOk z 10 6 ws ∧ cs.length = (allW z ws).length ∧ ∀ c ∈ cs, 1 ≤ c ∧ c ≤ 9
theorem SrcAt.ok {H : Hp} {a : Addr} {z : Str} {s : Src} (h : SrcAt K H a z s) : SrcOk z s := by
  cases s with
  | J ps =>
    obtain ⟨_, _, _, _, h⟩ := h
    exact h.ok
  | W ws => exact h.1.fu
  | C ws cs =>
    obtain ⟨wa, h1, h2⟩ := h
    exact ⟨h1.wo.fu, h1.len, h1.bd⟩
def LRel (z : Str) : Kd → Src → PL.T → List PL.T → Prop
  | .fewest, .W ws, t, r => PL.IsTop (wl z ws) (prW z ws (List.replicate (allW z ws).length 1)) t r
  | kd, s, t, r => RowRel z kd s t r
theorem ones_bd {n : Nat} : ∀ c ∈ List.replicate n (1 : Int), 1 ≤ c ∧ c ≤ 9 := fun c hc => by
  rw [(List.mem_replicate.mp hc).2]
  decide
theorem prW_one {z : Str} {ws : List Str} (al : AlphaOk z 4) (fu : FurtherOk z 10 6 ws) : ∀ u ∈ wl z ws, prW z ws (List.replicate (allW z ws).length 1) u = 1 := fun u hu => by
  obtain ⟨i, hi, rfl⟩ := List.mem_iff_getElem.mp hu
  have hi2 : i < (List.replicate (allW z ws).length (1 : Int)).length := by
    rw [List.length_replicate, ← wl_len]
    exact hi
  have q := prW_at al fu ones_bd (List.getElem?_eq_getElem hi) (List.getElem?_eq_getElem hi2)
  rw [List.getElem_replicate] at q
  omega
theorem rel_eq {z : Str} {kd : Kd} {s : Src} {t : PL.T} {r o : List PL.T} (al : AlphaOk z 4) (hs : SrcOk z s) (h1 : RowRel z kd s t r) (h2 : LRel z kd s t o) : r = o := by
  cases s with
  | J ps =>
    cases kd <;> first | (exact h1.elim) | skip
    have h1 : r = (PL.cutJ z.cps.toList.length ps (PL.lets z.cps.toList t)).map fun i => (tbl z ps).getD i [] := h1
    have h2 : o = (PL.cutJ z.cps.toList.length ps (PL.lets z.cps.toList t)).map fun i => (tbl z ps).getD i [] := h2
    rw [h1, h2]
  | W ws =>
    cases kd <;> first | (exact h1.elim) | skip
    · exact PL.aheadR_unique (show PL.AheadR (WW z ws) t r from h1) h2
    · exact PL.behindR_unique (show PL.BehindR (WW z ws) t r from h1) h2
    · have q := show PL.IsBest (WW z ws) t r from h1
      rw [WW_eq] at q
      have q1 := PL.best_top (prW_one al hs) (Nat.le_refl 1) q
      have q2 := show PL.IsTop (wl z ws) (prW z ws (List.replicate (allW z ws).length 1)) t o from h2
      exact PL.kle_anti q1.1 q2.1 (q1.2 o q2.1) (q2.2 r q1.1)
  | C ws cs =>
    cases kd <;> first | (exact h1.elim) | skip
    have q1 := show PL.IsTop (wl z ws) (prW z ws cs) t r from h1
    have q2 := show PL.IsTop (wl z ws) (prW z ws cs) t o from h2
    exact PL.kle_anti q1.1 q2.1 (q1.2 o q2.1) (q2.2 r q1.1)
def spLCt (K : PySem.W.Frag) : Sp := fun vs H Q _ => ∃ (p : Addr) (kd : Kd) (z t : Str) (s : Src), vs = [.ref p, .str t] ∧ PlainAt K H p kd z s ∧ AlphaOk z 4 ∧ SrcOk z s ∧ goes kd s = true ∧ t.cps.toList.length ≤ 100 ∧ (∀ c ∈ t.cps.toList, c ∈ z.cps.toList) ∧
  ∀ (q : Addr) (r : List PL.T) (H' : Hp), Same H H' → H' q = some (.lst (rowV r)) → LRel z kd s t.cps.toList r → Q (.ref q) H'
theorem ok__law_cut (T : Ev fa fx fn K mg base) : Dn P w K mg base 2 (He.ga K "_law_cut") ["cutter", "text"] (spLCt K) := by
  refine dn_of (d__law_cut T) sc__law_cut bo__law_cut (fun vs H Q E h => ?_) (fun cdv A outer s0 H vs Q E hr h => ?_)
  · obtain ⟨p, kd, z, t, s, rfl, _⟩ := h
    rfl
  · obtain ⟨p, kd, z, t, s, rfl, ⟨wp, cp, pp, h1, h2, h3, h4⟩, al, hs, hg, htl, hov, k⟩ := h
    refine ⟨_, (PSs.nox (pss_cons (ps_if (pt_cmpR op_eq (pe_ix (ix_listK (K := K) rfl) (pv 0) pe_int (fun _ _ => rfl)) pe_str (nomark _))
        (pss_one (ps_ret (pe_d (ok__law_ahead T) (hr.mono (by decide)) (g__law_ahead T) passL (pa_cons (pe_ix (ix_listK (K := K) rfl) (pv 0) pe_int (fun _ _ => rfl)) (pa_cons (pv 1) pa_nil))))) pss_nil)
      (pss_cons (ps_if (pt_cmpR op_eq (pe_ix (ix_listK (K := K) rfl) (pv 0) pe_int (fun _ _ => rfl)) pe_str (nomark _))
        (pss_one (ps_ret (pe_d (ok__law_behind T) (hr.mono (by decide)) (g__law_behind T) passL (pa_cons (pe_ix (ix_listK (K := K) rfl) (pv 0) pe_int (fun _ _ => rfl)) (pa_cons (pv 1) pa_nil))))) pss_nil)
      (pss_cons (ps_if (pt_cmpR op_eq (pe_ix (ix_listK (K := K) rfl) (pv 0) pe_int (fun _ _ => rfl)) pe_str (nomark _))
        (pss_one (ps_ret (pe_lc (own := [("piece", 2)]) rfl sc__law_cut.nd (pi_list (pe_d (ok__law_join_row T) (hr.mono (by decide)) (g__law_join_row T) passL (pa_cons (pe_ix (ix_listK (K := K) rfl) (pv 0) pe_int (fun _ _ => rfl)) (pa_cons (pe_ix (ix_listK (K := K) rfl) (pv 0) pe_int (fun _ _ => rfl)) (pa_cons (pv 1) pa_nil))))) (blkOk_by (own := [("piece", 2)]) (N := ["cutter", "text", "piece"]) (sc := defScope s__law_cut) (by decide +kernel)) (fun _ _ _ _ _ => (pg_name (i := 2) sc__law_cut.nd rfl (.inl rfl))) (fun _ _ _ _ _ => pts_nil) (fun _ _ _ _ _ => (pe_ix (ix_listK (K := K) rfl) (pe_ix (ix_listK (K := K) rfl) (pv 0) pe_int (fun _ _ => rfl)) (pv 2) (fun _ _ => rfl)))))) pss_nil)
      (pss_one (ps_ret (pe_d (ok__law_best T) (hr.mono (by decide)) (g__law_best T) passL (pa_cons (pe_ix (ix_listK (K := K) rfl) (pv 0) pe_int (fun _ _ => rfl)) (pa_cons (pe_ix (ix_listK (K := K) rfl) (pv 0) pe_int (fun _ _ => rfl)) (pa_cons (pv 1) pa_nil)))))))))), ?_⟩
    walk_at "cl"
    walk_at "y"
    cases s with
    | J ps =>
      cases kd <;> first | (exact absurd hg Bool.false_ne_true) | skip
      obtain ⟨xs, hx1, hx2⟩ := h4 ps rfl
      have po : PsOk z ps := hs
      refine if_dec_f (by decide +kernel) ?_
      walk_at "y"
      refine if_dec_f (by decide +kernel) ?_
      walk_at "y"
      refine if_dec_t (by decide +kernel) ?_
      walk_at "y"
      refine ⟨pp, z, t, ps, xs, rfl, al, sqL_of hx1, hx2, po.few, po.wf, po.nd, htl, hov, fun q H1 hqn hS1 hq => ?_⟩
      have hcl : (PL.cutJ z.cps.toList.length ps (PL.lets z.cps.toList t.cps.toList)).length ≤ 100 := by
        refine Nat.le_trans PL.cut_len ?_
        unfold PL.lets
        rw [List.length_map]
        exact htl
      have hl := tbl_len (z := z) (ps := ps)
      have hcm : ∀ i ∈ PL.cutJ z.cps.toList.length ps (PL.lets z.cps.toList t.cps.toList), i < (tbl z ps).length := fun i hi => by
        rcases PL.cut_mem hi with e | e
        · obtain ⟨c, hc, rfl⟩ := List.mem_map.mp e
          have := List.idxOf_lt_length_of_mem (hov c hc)
          omega
        · omega
      generalize hrow : PL.cutJ z.cps.toList.length ps (PL.lets z.cps.toList t.cps.toList) = row at hq hcl hcm
      refine ⟨q, rfl, ⟨_, sqL_of hq⟩, fun D hD => ?_⟩
      refine lc_it (walk_list (xs := natV row)) (fun j H' => Same H1 H' ∧ H' D = some (.lst (rowV ((row.take j).map fun i => (tbl z ps).getD i [])))) ?_ ?_ ?_ ?_
      · exact ⟨same_new hD, upd_same⟩
      · rintro j H' _ ⟨h, _⟩
        exact sqL_of (h _ _ hq)
      · rintro j x H5 H6 hj ⟨h5, hd5⟩ ⟨rfl, hx⟩
        rw [natV_len] at hj
        rw [natV_at' hj] at hx
        cases hx
        walk_at "y"
        refine ⟨rfl, ?_⟩
        walk_at "y"
        have hS5 := hS1.trans h5
        refine v_ixL (v := .ref wp) (sqL_of (hS5 _ _ h1)) (atI_nat (j := 2) rfl) ?_
        walk_at "y"
        refine v_ixL (sqL_of (hS5 _ _ h2)) (atI_nat (tbl_at (hcm _ (List.getElem_mem hj)))) ?_
        refine ⟨_, hd5, smallL (by rw [rowV_len, List.length_map, List.length_take]; omega), same_mut h5 hD, ?_⟩
        rw [upd_same, List.take_succ, List.getElem?_eq_getElem hj, List.map_append]
        unfold rowV
        rw [List.map_append]
        rfl
      · rintro H5 ⟨h5, hd5⟩
        rw [natV_len, List.take_length] at hd5
        exact k D _ _ (hS1.trans h5) hd5 (by show _ = _; rw [hrow])
    | W ws =>
      have fu : FurtherOk z 10 6 ws := hs
      cases kd with
      | joins => exact absurd hg Bool.false_ne_true
      | best => exact absurd hg Bool.false_ne_true
      | ahead =>
        refine if_dec_t (by decide +kernel) ?_
        walk_at "y"
        exact ⟨wp, z, t, ws, rfl, sqL_of h2, al, fu, htl, hov, fun q r H1 _ hS hq hr => k q r H1 hS hq hr⟩
      | behind =>
        refine if_dec_f (by decide +kernel) ?_
        walk_at "y"
        refine if_dec_t (by decide +kernel) ?_
        walk_at "y"
        exact ⟨wp, z, t, ws, rfl, sqL_of h2, al, fu, htl, hov, fun q r H1 _ hS hq hr => k q r H1 hS hq hr⟩
      | fewest =>
        refine if_dec_f (by decide +kernel) ?_
        walk_at "y"
        refine if_dec_f (by decide +kernel) ?_
        walk_at "y"
        refine if_dec_f (by decide +kernel) ?_
        walk_at "y"
        exact ⟨wp, cp, z, t, ws, _, rfl, sqL_of h2, sqL_of (h3 (.inl rfl)), al, fu, List.length_replicate, ones_bd, htl, hov, fun q r H1 _ hS hq hr => k q r H1 hS hq hr⟩
    | C ws cs =>
      obtain ⟨fu, hcl, hbd⟩ := (show FurtherOk z 10 6 ws ∧ cs.length = (allW z ws).length ∧ ∀ c ∈ cs, 1 ≤ c ∧ c ≤ 9 from hs)
      cases kd <;> first | (exact absurd hg Bool.false_ne_true) | skip
      refine if_dec_f (by decide +kernel) ?_
      walk_at "y"
      refine if_dec_f (by decide +kernel) ?_
      walk_at "y"
      refine if_dec_f (by decide +kernel) ?_
      walk_at "y"
      exact ⟨wp, cp, z, t, ws, cs, rfl, sqL_of h2, sqL_of (h3 (.inr rfl)), al, fu, hcl, hbd, htl, hov, fun q r H1 _ hS hq hr => k q r H1 hS hq hr⟩
end

end K80

namespace K80
open PySem PySem.Spec L2 PH
open C8 (tCut pss_cut)
section
variable {P : Program} {w : World} {K : PySem.W.Frag} {mg : Str → Option Value} {base : Heap}
/-- two neighbors of a cut may be the next join -/
theorem prOk_of {z t : Str} {ps : List PL.Pr} (po : PsOk z ps) (ht : t.cps.toList.length ≤ 40) (hov : ∀ c ∈ t.cps.toList, c ∈ z.cps.toList) {row : List Nat} (hrow : PL.cutJ z.cps.toList.length ps (PL.lets z.cps.toList t.cps.toList) = row) {i : Nat} (hi : i + 1 < row.length) : PrOk z ps (row[i], row[i + 1]) := by
  have znd : z.cps.toList.Nodup := po.al.up.imp (fun h => Nat.ne_of_lt h)
  have hl := tbl_len (z := z) (ps := ps)
  have hcm : ∀ j ∈ row, j < z.cps.toList.length + ps.length := fun j hj => by
    rw [← hrow] at hj
    rcases PL.cut_mem hj with e | e
    · obtain ⟨c, hc, rfl⟩ := List.mem_map.mp e
      have := List.idxOf_lt_length_of_mem (hov c hc)
      omega
    · omega
  have hsp : row = row.take i ++ ([row[i], row[i + 1]] ++ row.drop (i + 2)) := by
    have q := List.take_append_drop i row
    rw [List.drop_eq_getElem_cons (by omega : i < row.length), List.drop_eq_getElem_cons hi] at q
    exact q.symm
  have eE : PL.expR (fun i => (PL.txs (PL.baseT z.cps.toList) ps).getD i []) [row[i], row[i + 1]] = (tbl z ps).getD row[i] [] ++ (tbl z ps).getD row[i + 1] [] := by
    unfold PL.expR
    rw [List.flatMap_cons, List.flatMap_cons, List.flatMap_nil, List.append_nil]
    rfl
  refine ⟨⟨hcm _ (List.getElem_mem _), hcm _ (List.getElem_mem _)⟩, ?_, fun hm => ?_, ?_⟩
  · have q := PL.stretch (U := row.take i) (M := [row[i], row[i + 1]]) (V := row.drop (i + 2)) po.wf znd hov (hrow.trans hsp)
    rw [eE] at q
    exact q
  · refine PL.cut_done po.wf _ (PL.lets z.cps.toList t.cps.toList) (Nat.le_refl _) _ hm ?_
    rw [hrow]
    exact List.mem_of_getElem? (prs_at hi)
  · have wf' : PL.WF (PL.baseT z.cps.toList).length ps := by rw [PL.baseT_len]; exact po.wf
    have q := PL.exp_cut wf' (row := PL.lets z.cps.toList t.cps.toList)
    rw [PL.exp_lets hov, PL.baseT_len, hrow, hsp] at q
    have q2 := congrArg List.length q
    unfold PL.expR at q2 eE
    rw [List.flatMap_append, List.flatMap_append, eE, List.length_append, List.length_append] at q2
    show ((tbl z ps).getD row[i] [] ++ (tbl z ps).getD row[i + 1] []).length ≤ 40
    omega
theorem steps_snoc {z : Str} {ps : List PL.Pr} {pr : PL.Pr} (h : Steps z ps) (p : PrOk z ps pr) (few : ps.length < 10) : Steps z (ps ++ [pr]) := by
  refine ⟨h.1, by rw [List.length_append]; show ps.length + 1 ≤ 10; omega, fun i hi => ?_⟩
  rw [List.length_append, List.length_singleton] at hi
  by_cases e : i < ps.length
  · rw [List.take_append_of_le_length (by omega), List.getElem_append_left e]
    exact h.2.2 i e
  · have e2 : i = ps.length := by omega
    subst e2
    rw [List.take_left, List.getElem_append_right (Nat.le_refl _)]
    simpa using p
def spPr (K : PySem.W.Frag) : Sp := fun vs H Q _ => ∃ (b l : Addr) (z : Str) (m n : Nat), vs = [.ref b, .str z, .int (m : Nat), .int (n : Nat)] ∧ BagAt H b l ∧ AlphaOk z 4 ∧ m ≤ 10 ∧ 1 ≤ n ∧ n ≤ 6 ∧
  ∀ (q : Addr) (ps : List PL.Pr) (xs : List V) (H' : Hp), H q = none → Steps z ps → PsOk z ps → H' q = some (.lst xs) → PrL H' xs ps → BagAt H' b l → Same (hid [b] H) (hid [b] H') → Q (.ref q) H'
theorem PrL.hsame {H H' : Hp} {b : Addr} {xs : List V} {ps : List PL.Pr} (hb : ∃ ys, H b = some (.lst ys)) (e : Same (hid [b] H) (hid [b] H')) (h : PrL H xs ps) : PrL H' xs ps := ⟨h.1, fun i hi => by
  obtain ⟨q, h1, h2⟩ := h.2 i hi
  refine ⟨q, h1, hid_get e h2 ?_⟩
  intro hm
  obtain ⟨ys, hb⟩ := hb
  rw [List.mem_singleton.mp hm, hb] at h2
  cases h2⟩
theorem bag_lst {H : Hp} {b l : Addr} (h : BagAt H b l) : ∃ ys, H b = some (.lst ys) := by
  obtain ⟨_, _, _, _, e, _⟩ := h
  exact ⟨_, e⟩
theorem ok__law_pairs (T : Ev fa fx fn K mg base) : Dn P w K mg base 2 (He.ga K "_law_pairs") ["bag", "letters", "most", "longest"] (spPr K) := by
  refine dn_of (d__law_pairs T) sc__law_pairs bo__law_pairs (fun vs H Q E h => ?_) (fun cdv A outer s H vs Q E hr h => ?_)
  · obtain ⟨b, l, z, m, n, rfl, _⟩ := h
    rfl
  · obtain ⟨b, l, z, m, n, rfl, hB, al, hm10, hn1, hn6, k⟩ := h
    have zlo := al.lo
    have zhi := al.hi
    refine ⟨_, (PSs.nox (pss_cons (ps_set (i := 4) sc__law_pairs.nd rfl (.inl rfl) (pe_lst pa_nil))
      (pss_cons (ps_for PassesOwn.never rfl (pi_range1 rfl (f_range T) (pa_cons (pe_d (ok__law_draw T) (hr.mono (by decide)) (g__law_draw T) passL (pa_cons (pv 0) (pa_cons (pe_op op_add (pv 2) pe_int) pa_nil))) pa_nil)) (pg_name (i := 5) sc__law_pairs.nd rfl (.inl rfl))
        (pss_cons (ps_set (i := 6) sc__law_pairs.nd rfl (.inl rfl) (pe_join pe_str (pe_lc (own := [("i", 7)]) rfl sc__law_pairs.nd (pi_range1 rfl (f_range T) (pa_cons (pv 3) pa_nil)) (blkOk_by (own := [("i", 7)]) (N := ["bag", "letters", "most", "longest", "pairs", "k", "text", "i", "row", "at"]) (sc := defScope s__law_pairs) (by decide +kernel)) (fun _ _ _ _ _ => (pg_name (i := 7) sc__law_pairs.nd rfl (.inl rfl))) (fun _ _ _ _ _ => pts_nil) (fun _ _ _ _ _ => (pe_ix ix_str (pv 1) (pe_d (ok__law_draw T) (hr.mono (by decide)) (g__law_draw T) passL (pa_cons (pv 0) (pa_cons (pe_callB (call_lenK (K := K) rfl) (by rfl) (f_len T) bb_len (pa_cons (pv 1) pa_nil)) pa_nil))) (fun _ _ => rfl))))))
      (pss_cons (ps_set (i := 8) sc__law_pairs.nd rfl (.inl rfl) (pe_d (ok__law_join_row T) (hr.mono (by decide)) (g__law_join_row T) passL (pa_cons (pv 1) (pa_cons (pv 4) (pa_cons (pv 6) pa_nil)))))
      (pss_one (ps_if (pt_cmpR op_gt (pe_callB (call_lenK (K := K) rfl) (by rfl) (f_len T) bb_len (pa_cons (pv 8) pa_nil)) pe_int (nomark _))
        (pss_cons (ps_set (i := 9) sc__law_pairs.nd rfl (.inl rfl) (pe_d (ok__law_draw T) (hr.mono (by decide)) (g__law_draw T) passL (pa_cons (pv 0) (pa_cons (pe_op op_sub (pe_callB (call_lenK (K := K) rfl) (by rfl) (f_len T) bb_len (pa_cons (pv 8) pa_nil)) pe_int) pa_nil))))
      (pss_one (ps_expr (pe_bmK (K := K) rfl PySem.F.plainAttrs_list PySem.F.slot_list_append PySem.F.type_list_append mt_append (pv 4) (pa_cons (pe_tup (pa_cons (pe_ix (ix_listK (K := K) rfl) (pv 8) (pv 9) (fun _ _ => rfl)) (pa_cons (pe_ix (ix_listK (K := K) rfl) (pv 8) (pe_op op_add (pv 9) pe_int) (fun _ _ => rfl)) pa_nil))) pa_nil))))) pss_nil)))))
      (pss_one (ps_ret (pv 4)))))), ?_⟩
    walk_at "cl"
    walk_at "y"
    refine ⟨Nat.zero_le _, fun t ht => ?_⟩
    obtain ⟨tb, tl⟩ := hB.ne ht
    walk_at "x"
    refine draw_step (hB.new ht) (by omega) (by omega) fun k1 H1 h1 hB1 hS1 => ?_
    walk_at "x"
    refine ⟨(k1 : Int), rfl, by omega, by omega, ?_⟩
    rw [Int.toNat_natCast]
    refine for_it walk_range (fun i σ' H' => ∃ (x5 x6 x8 x9 : Option V) (ps : List PL.Pr) (xs : List V), σ' = [some (.ref b), some (.str z), some (.int (m : Nat)), some (.int (n : Nat)), some (.ref t), x5, x6, none, x8, x9] ∧ ps.length ≤ i ∧ Steps z ps ∧ PsOk z ps ∧ H' t = some (.lst xs) ∧ PrL H' xs ps ∧ BagAt H' b l ∧ Same (hid [b] H) (hid [b] H')) ?_ ?_ ?_ ?_
    · refine ⟨none, none, none, none, [], [], rfl, Nat.le_refl _, ⟨al, Nat.zero_le _, fun i hi => by cases hi⟩, ⟨al, Nat.zero_le _, (fun i q h => by cases h), List.nodup_nil, fun u hu => ?_⟩, hid_get hS1 upd_same (by simpa using tb), ⟨rfl, fun i hi => by cases hi⟩, hB1, (hsame_new hsame_refl ht).trans hS1⟩
      have hu : u ∈ PL.baseT z.cps.toList := hu
      obtain ⟨c, hc, rfl⟩ := List.mem_map.mp hu
      exact ⟨fun d hd => by rw [List.mem_singleton.mp hd]; exact hc, by show 1 ≤ 40; decide, Nat.le_refl _⟩
    · intros
      trivial
    · rintro i x σ' H2 H3 hi ⟨x5, x6, x8, x9, ps, xs, rfl, hpl, hst, po, ht2, hP2, hB2, hS2⟩ ⟨rfl, rfl⟩
      have hxl := hP2.1
      walk_at "y"
      refine ⟨⟨_, rfl⟩, ?_⟩
      walk_at "y"
      refine ⟨(n : Int), rfl, by omega, by omega, fun D hD => ?_⟩
      rw [Int.toNat_natCast]
      obtain ⟨nb, nl⟩ := hB2.ne hD
      have nt : t ≠ D := ne_of_none ht2 hD
      refine lc_it walk_range (fun j H' => ∃ cs : List Nat, cs.length = j ∧ (∀ c ∈ cs, c ∈ z.cps.toList) ∧ H' D = some (.lst ((cs.map s1).map V.str)) ∧ BagAt H' b l ∧ Same (hid [b] H3) (hid [b] H')) ?_ ?_ ?_ ?_
      · exact ⟨[], rfl, (fun c hc => by cases hc), upd_same, hB2.new hD, hsame_new hsame_refl hD⟩
      · intros
        trivial
      · rintro j x H5 H6 hj ⟨cs, hl, hm, hd, hB5, hS5⟩ ⟨rfl, rfl⟩
        walk_at "x"
        refine ⟨rfl, ?_⟩
        walk_at "x"
        have hzz : z.length ≤ sizeLine := small (by rw [tl_len]; omega)
        refine v_lenS hzz ?_
        walk_at "x"
        refine draw_step hB5 (by rw [tl_len]; omega) (by rw [tl_len]; omega) fun k3 H7 h7 hB7 hS7 => ?_
        walk_at "x"
        have hk3 : k3 < z.cps.toList.length := by rw [← tl_len]; omega
        refine v_ixS (c := z.cps.toList[k3]) hzz (atI_nat (by rw [List.getElem?_eq_getElem hk3])) ?_
        have hd7 : H7 D = some (.lst ((cs.map s1).map V.str)) := hid_get hS7 hd (by simpa using nb)
        refine ⟨_, hd7, smallL (by simp; omega), cs ++ [z.cps.toList[k3]], by simp [hl], fun c hc => ?_, ?_, hB7.mut nb nl, hsame_mut (hS5.trans hS7) hD⟩
        · rcases List.mem_append.mp hc with hc | hc
          · exact hm c hc
          · rw [List.mem_singleton.mp hc]
            exact List.getElem_mem hk3
        · rw [upd_same]
          simp [s1]
      · rintro H' ⟨cs, hl, hm, hd, hB', hS'⟩
        have hl : cs.length = n := hl
        have hsum : ∀ l : List Nat, ((l.map s1).map (·.length)).sum = l.length := by
          intro l
          induction l with
          | nil => rfl
          | cons x r ih =>
            rw [List.map_cons, List.map_cons, List.sum_cons, ih, List.length_cons, Nat.add_comm]
            rfl
        refine ⟨_, D, cs.map s1, rfl, rfl, .inl (sqL_of hd), ?_, ?_⟩
        · rw [hsum]
          simp
          show cs.length + cs.length * 0 ≤ _
          exact small (by omega)
        have et : (Txt.join (Str.ofString "") (cs.map s1)).cps.toList = cs := join_signs cs
        generalize Txt.join (Str.ofString "") (cs.map s1) = tx at et
        have ht' := hid_get hS' ht2 (by simpa using tb)
        have hP' := hP2.hsame (bag_lst hB2) hS'
        walk_at "y"
        refine ⟨t, z, tx, ps, xs, rfl, al, sqL_of ht', hP', po.few, po.wf, po.nd, by rw [et, hl]; omega, by rw [et]; exact hm, fun q H4 hqn hS4 hq => ?_⟩
        have hov : ∀ c ∈ tx.cps.toList, c ∈ z.cps.toList := by rw [et]; exact hm
        have hcl : (PL.cutJ z.cps.toList.length ps (PL.lets z.cps.toList tx.cps.toList)).length ≤ 6 := by
          refine Nat.le_trans PL.cut_len ?_
          unfold PL.lets
          rw [List.length_map, et, hl]
          omega
        have hB4 := hB'.same hS4
        have hqb : q ≠ b := by
          obtain ⟨ys, e⟩ := (bag_lst hB')
          exact (ne_of_none e hqn).symm
        generalize hrow : PL.cutJ z.cps.toList.length ps (PL.lets z.cps.toList tx.cps.toList) = row at hq hcl
        have ht4 := hS4 _ _ ht'
        have hP4 := hP'.same hS4
        have hS24 := hS2.trans (hS'.trans (hid_same hS4))
        walk_at "y"
        refine v_lenL (sqL_of hq) ?_
        rw [natV_len]
        walk_at "y"
        refine if_dec (fun c => ?_) (fun c => ?_)
        · walk_at "y"
          refine v_lenL (sqL_of hq) ?_
          rw [natV_len]
          walk_at "y"
          refine draw_step hB4 (by omega) (by omega) fun at_ H5 hat hB5 hS5 => ?_
          have hq5 := hid_get hS5 hq (by simpa using hqb)
          have ht5 := hid_get hS5 ht4 (by simpa using tb)
          have hP5 := hP4.hsame (bag_lst hB4) hS5
          have hi1 : at_ + 1 < row.length := by omega
          have hpr := prOk_of po (by rw [et, hl]; omega) hov hrow hi1
          walk_at "y"
          refine ⟨ty_list (sqL_of ht5), ?_⟩
          walk_at "y"
          refine v_ixL (sqL_of hq5) (atI_nat (natV_at' (by omega))) ?_
          walk_at "y"
          rw [show (at_ : Int) + 1 = ((at_ + 1 : Nat) : Int) by omega]
          refine v_ixL (sqL_of hq5) (atI_nat (natV_at' hi1)) ?_
          walk_at "y"
          refine ⟨small (show 2 ≤ 16000000 by decide), fun c1 hc1 => ?_⟩
          have r1 := same_new (o := .tup (prV (row[at_], row[at_ + 1]))) hc1
          have g1 : upd H5 c1 (.tup (prV (row[at_], row[at_ + 1]))) c1 = some (.tup (prV (row[at_], row[at_ + 1]))) := upd_same
          have eab : [V.int (row[at_] : Nat), V.int (row[at_ + 1] : Nat)] = prV (row[at_], row[at_ + 1]) := rfl
          rw [eab]
          generalize upd H5 c1 (.tup (prV (row[at_], row[at_ + 1]))) = H6 at r1 g1
          have ht6 := r1 _ _ ht5
          have hP6 := hP5.same r1
          have nct : c1 ≠ t := ne_of g1 ht6 (fun e => nomatch e)
          walk_at "y"
          refine v_append ht6 (smallL (by omega)) ?_
          walk_at "y"
          refine ⟨_, _, _, _, ps ++ [(row[at_], row[at_ + 1])], xs ++ [.ref c1], rfl, by rw [List.length_append]; show ps.length + 1 ≤ _; omega, steps_snoc hst hpr (by omega), psOk_snoc po hpr (by omega), upd_same, ⟨?_, fun j hj => ?_⟩, (hB5.same r1).mut tb tl, hsame_mut (hS24.trans (hS5.trans (hid_same r1))) ht⟩
          · rw [List.length_append, List.length_append, hxl]
            rfl
          · rw [List.length_append, List.length_singleton] at hj
            by_cases e : j < ps.length
            · obtain ⟨q2, e1, e2⟩ := hP6.2 j e
              refine ⟨q2, by rw [List.getElem?_append_left (by omega)]; exact e1, ?_⟩
              rw [upd_ne (ne_of e2 ht6 (fun e => nomatch e)), List.getElem_append_left e]
              exact e2
            · have e2 : j = ps.length := by omega
              subst e2
              refine ⟨c1, by rw [List.getElem?_append_right (by omega), hxl, Nat.sub_self]; rfl, ?_⟩
              rw [upd_ne nct, List.getElem_append_right (Nat.le_refl _)]
              simpa using g1
        · walk_at "y"
          exact ⟨_, _, _, _, ps, xs, rfl, by omega, hst, po, ht4, hP4, hB4, hS24⟩
    · rintro σ' H2 ⟨x5, x6, x8, x9, ps, xs, rfl, hpl, hst, po, ht2, hP2, hB2, hS2⟩
      walk_at "y"
      exact k t ps xs H2 ht hst po ht2 hP2 hB2 hS2
end

end K80

namespace K80
open PySem PySem.Spec L2 PH
open C8 (tCut pss_cut)
section
variable {P : Program} {w : World} {K : PySem.W.Frag} {mg : Str → Option Value} {base : Heap}
theorem strs_shaped {r : List PL.T} (h : ∀ u ∈ r, ∀ c ∈ u, c ≤ 126) : SeqAt.shaped (.tuple ((r.map mkS).map PyData.str)) = true ∧ SeqAt.shaped (.list ((r.map mkS).map PyData.str)) = true := by
  refine shaped_strs fun x hx c hc => ?_
  obtain ⟨u, hu, rfl⟩ := List.mem_map.mp hx
  rw [mkS_cps] at hc
  exact h u hu c hc
theorem row_codes {H : Hp} {sa : Addr} {z : Str} {kd : Kd} {s : Src} {t : PL.T} {r : List PL.T} (hs : SrcAt K H sa z s) (hov : ∀ c ∈ t, c ∈ z.cps.toList) (h : RowRel z kd s t r) : r.length ≤ t.length ∧ ∀ u ∈ r, ∀ c ∈ u, c ≤ 126 := by
  have hrow := rel_row hs hov h
  have hpc := pcs_len hs
  refine ⟨PL.row_len (fun w hw e => by have := (hpc.2.2 w hw).1; rw [e] at this; cases this) hrow, fun u hu c hc => ?_⟩
  refine (hs.al.sg c (hov c ?_)).2
  rw [← hrow.1]
  exact List.mem_flatten.mpr ⟨u, hu, hc⟩
theorem pcs_codes {H : Hp} {sa : Addr} {z : Str} {s : Src} (hs : SrcAt K H sa z s) : ∀ u ∈ pcs z s, ∀ c ∈ u, c ≤ 126 := fun u hu c hc => by
  refine (hs.al.sg c ?_).2
  cases s with
  | J ps =>
    obtain ⟨_, _, _, _, h⟩ := hs
    exact (h.ok.ov u hu).1 c hc
  | W ws => exact wl_ov hs.1.fu u hu c hc
  | C ws cs =>
    obtain ⟨wa, h1, h2⟩ := hs
    exact wl_ov h1.wo.fu u hu c hc
theorem rel_l {z : Str} {kd : Kd} {s : Src} {t : PL.T} {r : List PL.T} (al : AlphaOk z 4) (hs : SrcOk z s) (h1 : RowRel z kd s t r) : LRel z kd s t r := by
  cases s with
  | J ps => cases kd <;> first | (exact h1.elim) | exact h1
  | W ws =>
    cases kd <;> first | (exact h1.elim) | skip
    · exact h1
    · exact h1
    · have q := show PL.IsBest (WW z ws) t r from h1
      rw [WW_eq] at q
      exact PL.best_top (prW_one al hs) (Nat.le_refl 1) q
  | C ws cs => cases kd <;> first | (exact h1.elim) | exact h1
theorem l_uniq {z : Str} {kd : Kd} {s : Src} {t : PL.T} {r o : List PL.T} (h1 : LRel z kd s t r) (h2 : LRel z kd s t o) : r = o := by
  cases s with
  | J ps =>
    cases kd <;> first | (exact (show False from h1).elim) | skip
    have h1 : r = (PL.cutJ z.cps.toList.length ps (PL.lets z.cps.toList t)).map fun i => (tbl z ps).getD i [] := h1
    have h2 : o = (PL.cutJ z.cps.toList.length ps (PL.lets z.cps.toList t)).map fun i => (tbl z ps).getD i [] := h2
    rw [h1, h2]
  | W ws =>
    cases kd <;> first | (exact (show False from h1).elim) | skip
    · exact PL.aheadR_unique (show PL.AheadR (WW z ws) t r from h1) h2
    · exact PL.behindR_unique (show PL.BehindR (WW z ws) t r from h1) h2
    · have q1 := show PL.IsTop (wl z ws) (prW z ws (List.replicate (allW z ws).length 1)) t r from h1
      have q2 := show PL.IsTop (wl z ws) (prW z ws (List.replicate (allW z ws).length 1)) t o from h2
      exact PL.kle_anti q1.1 q2.1 (q1.2 o q2.1) (q2.2 r q1.1)
  | C ws cs =>
    cases kd <;> first | (exact (show False from h1).elim) | skip
    have q1 := show PL.IsTop (wl z ws) (prW z ws cs) t r from h1
    have q2 := show PL.IsTop (wl z ws) (prW z ws cs) t o from h2
    exact PL.kle_anti q1.1 q2.1 (q1.2 o q2.1) (q2.2 r q1.1)
/-- the row of a text -/
noncomputable def rowOf (z : Str) (kd : Kd) (s : Src) (t : PL.T) : List PL.T := Classical.epsilon (LRel z kd s t)
theorem rowOf_l {z : Str} {kd : Kd} {s : Src} {t : PL.T} {r : List PL.T} (h : LRel z kd s t r) : rowOf z kd s t = r := l_uniq (Classical.epsilon_spec ⟨r, h⟩) h
theorem rowOf_r {z : Str} {kd : Kd} {s : Src} {t : PL.T} {r : List PL.T} (al : AlphaOk z 4) (hs : SrcOk z s) (h : RowRel z kd s t r) : rowOf z kd s t = r := rowOf_l (rel_l al hs h)
/-- its places -/
noncomputable def plO (z : Str) (kd : Kd) (s : Src) (t : PL.T) : List Nat := plc (rowOf z kd s t)
def plI (l : List Nat) : List PyData := (l.map fun (n : Nat) => (n : Int)).map .int
theorem dp_nats {H : Hp} {p : Addr} {l : List Nat} (h : SqT K H p (natV l)) : Dp K H (.ref p) (.tuple (plI l)) := by
  rw [natV_int] at h
  exact .tup h (dpAll_ints _)
theorem plI_inj {a b : List Nat} (h : plI a = plI b) : a = b := by
  induction a generalizing b with
  | nil => cases b with
    | nil => rfl
    | cons y b => cases h
  | cons x a ih => cases b with
    | nil => cases h
    | cons y b =>
      have h : (PyData.int (x : Nat) :: plI a) = PyData.int (y : Nat) :: plI b := h
      injection h with h1 h2
      injection h1 with h1
      rw [Int.ofNat.inj h1, ih h2]
theorem plI_at {l : List Nat} {i : Nat} {e : PyData} (h : (plI l)[i]? = some e) : ∃ n ∈ l, e = .int (n : Nat) := by
  unfold plI at h
  rw [List.getElem?_map, List.getElem?_map] at h
  cases hn : l[i]? with
  | none => rw [hn] at h; cases h
  | some n =>
    rw [hn] at h
    cases h
    exact ⟨n, List.mem_of_getElem? hn, rfl⟩
theorem nats_of {m : Nat} : ∀ {es : List PyData}, (∀ e ∈ es, ∃ n : Nat, e = .int (n : Nat) ∧ 1 ≤ n ∧ n + 1 ≤ m) → ∃ l : List Nat, es = plI l ∧ ∀ n ∈ l, 1 ≤ n ∧ n + 1 ≤ m
  | [], _ => ⟨[], rfl, fun n hn => by cases hn⟩
  | e :: es, h => by
    obtain ⟨n, rfl, h1, h2⟩ := h e (by simp)
    obtain ⟨l, rfl, hl⟩ := nats_of fun x hx => h x (List.mem_cons_of_mem _ hx)
    refine ⟨n :: l, rfl, fun k hk => ?_⟩
    rcases List.mem_cons.mp hk with rfl | hk
    · exact ⟨h1, h2⟩
    · exact hl k hk
def Mark (z : Str) (kd : Kd) (s : Src) (d : PyData) : Prop := ∃ t : Str, d = .tuple [.str t, .tuple (plI (plO z kd s t.cps.toList))] ∧ (∀ c ∈ t.cps.toList, c ∈ z.cps.toList) ∧ ∀ n ∈ plO z kd s t.cps.toList, 1 ≤ n ∧ n + 1 ≤ t.cps.toList.length
theorem plc_bd {t : PL.T} {r : List PL.T} (hne : ∀ u ∈ r, 1 ≤ u.length) (h : r.flatten = t) : ∀ n ∈ plc r, 1 ≤ n ∧ n + 1 ≤ t.length := fun n hn => by
  unfold plc at hn
  obtain ⟨k, hk, rfl⟩ := List.mem_map.mp hn
  rw [List.mem_range] at hk
  have e := congrArg (fun l : List PL.T => l.flatten.length) (List.take_append_drop (k + 1) r)
  have e : (r.take (k + 1) ++ r.drop (k + 1)).flatten.length = r.flatten.length := e
  rw [List.flatten_append, List.length_append, h] at e
  have h1 : 1 ≤ (r.take (k + 1)).flatten.length := by
    cases r with
    | nil => simp at hk
    | cons u r =>
      rw [List.take_succ_cons, List.flatten_cons, List.length_append]
      have := hne u (by simp)
      omega
  have h2 : 1 ≤ (r.drop (k + 1)).flatten.length := by
    cases hd : r.drop (k + 1) with
    | nil =>
      have := congrArg List.length hd
      rw [List.length_drop] at this
      simp at this
      omega
    | cons u q =>
      rw [List.flatten_cons, List.length_append]
      have := hne u (List.mem_of_mem_drop (by rw [hd]; simp))
      omega
  omega
theorem row_ne {H : Hp} {sa : Addr} {z : Str} {kd : Kd} {s : Src} {t : PL.T} {r : List PL.T} (hs : SrcAt K H sa z s) (hov : ∀ c ∈ t, c ∈ z.cps.toList) (h : RowRel z kd s t r) : (∀ u ∈ r, 1 ≤ u.length) ∧ r.flatten = t := by
  have hrow := rel_row hs hov h
  exact ⟨fun u hu => ((pcs_len hs).2.2 u (hrow.2 u hu)).1, hrow.1⟩
def spMk (K : PySem.W.Frag) : Sp := fun vs H Q _ => ∃ (a : Addr) (kd : Kd) (sa : Addr) (z : Str) (s : Src) (x : V) (d : PyData), vs = [.ref a, x] ∧ CutAt K H a kd sa z s ∧ Dp K H x d ∧ (∀ t p, d = .tuple [.str t, p] → t.cps.toList.length ≤ 100) ∧
  ∀ (b : Bool) H', Same H H' → (b = true ↔ Mark z kd s d) → Q (.bl b) H'
theorem dBet_int {a b : Int} {d : PyData} (h : dBet a b d = true) : ∃ i : Int, d = .int i ∧ a ≤ i ∧ i ≤ b := by
  cases d with
  | int i => exact ⟨i, rfl, of_decide_eq_true h⟩
  | _ => cases h
theorem ok_is_marked (T : Ev fa fx fn K mg base) : Dn P w K mg base 8 (He.ga K "is_marked") ["cutter", "value"] (spMk K) := by
  refine dn_of (d_is_marked T) sc_is_marked bo_is_marked (fun vs H Q E h => ?_) (fun cdv A outer s0 H vs Q E hr h => ?_)
  · obtain ⟨a, kd, sa, z, s, x, d, rfl, _⟩ := h
    rfl
  · obtain ⟨a, kd, sa, z, s, x, d, rfl, hC, hx, hsm, k⟩ := h
    have ⟨⟨dx, fs, tq, a1, a2, a3, a4, a5, a6, a7⟩, hs, hg⟩ := hC
    refine ⟨_, (PSs.nox (pss_cons (ps_if (pw_or (pt_not (pt_val (pe_callB (call_isiK' (K := K) rfl) (by rfl) (f_isinstance T) bb_isinstance (pa_cons (pv 1) (pa_cons (pe_ty (f_tuple T) bb_tuple) pa_nil))))) (pw_or1 (pt_cmpR op_ne (pe_callB (call_lenK (K := K) rfl) (by rfl) (f_len T) bb_len (pa_cons (pv 1) pa_nil)) pe_int (nomark _)))).pt
        (pss_one (ps_ret pe_bl)) pss_nil)
      (pss_cons (ps_asg (pv 1) (pg_two (K := K) (i := 2) (j := 3) rfl rfl sc_is_marked.nd rfl rfl (.inl rfl) (.inl rfl)))
      (pss_cons (ps_if (pw_or (pt_not (pt_val (pe_d (ok_is_text_over T) (hr.mono (by decide)) (g_is_text_over T) passL (pa_cons (pe_fldK (K := K) rfl (pv 0) rfl) (pa_cons (pv 2) pa_nil))))) (pw_or1 (pt_not (pt_val (pe_callB (call_isiK' (K := K) rfl) (by rfl) (f_isinstance T) bb_isinstance (pa_cons (pv 3) (pa_cons (pe_ty (f_tuple T) bb_tuple) pa_nil))))))).pt
        (pss_one (ps_ret pe_bl)) pss_nil)
      (pss_cons (ps_for PassesOwn.never rfl (pi_tup (pv 3)) (pg_name (i := 4) sc_is_marked.nd rfl (.inl rfl))
        (pss_one (ps_if (pt_not (pt_val (pe_d (ok_is_between T) (hr.mono (by decide)) (g_is_between T) passL (pa_cons (pv 4) (pa_cons pe_int (pa_cons (pe_op op_sub (pe_callB (call_lenK (K := K) rfl) (by rfl) (f_len T) bb_len (pa_cons (pv 2) pa_nil)) pe_int) pa_nil))))))
        (pss_one (ps_ret pe_bl)) pss_nil)))
      (pss_one (ps_ret (pe_cmpR (op_eqDK (K := K) rfl hr.units) (pv 3) (pe_m (ok_Cutter_places T) (hr.mono (by decide)) (cls_Cutter T) (me_Cutter_places T) passL (pv 0) (pa_cons (pv 2) pa_nil)) (nomark _))))))))), ?_⟩
    walk_at "cl"
    walk_at "y"
    refine isi_tuple hx ?_
    generalize hb : dIs "tuple" d = b0
    cases b0 with
    | false =>
      refine ⟨_, rfl, ?_⟩
      refine iteT_of rfl ?_
      walk_at "y"
      exact k false H (Same.refl _) ⟨fun e => Bool.noConfusion e, fun ⟨t, e, _⟩ => by rw [e] at hb; cases hb⟩
    | true =>
      cases hx with
      | non => cases hb
      | bl _ => cases hb
      | int _ => cases hb
      | str _ => cases hb
      | lst _ _ => cases hb
      | @tup p ys ds hs1 ha =>
        refine ⟨_, rfl, ?_⟩
        refine iteF_of rfl ?_
        walk_at "y"
        refine v_lenT hs1 ?_
        walk_at "y"
        refine if_bnot (fun c => ?_) (fun c => ?_)
        · walk_at "y"
          refine k false H (Same.refl _) ⟨fun e => Bool.noConfusion e, fun ⟨t, e, _⟩ => ?_⟩
          injection e with e
          have := dpAll_length ha
          rw [e] at this
          simp at this
          omega
        · have hl : ys.length = 2 := by omega
          obtain ⟨v1, v2, rfl⟩ : ∃ v1 v2, ys = [v1, v2] := by
            match ys, hl with
            | [v1, v2], _ => exact ⟨v1, v2, rfl⟩
          obtain ⟨d1, d2, rfl, h1, h2⟩ : ∃ d1 d2, ds = [d1, d2] ∧ Dp K H v1 d1 ∧ Dp K H v2 d2 := by
            cases ha with
            | cons h1 ha =>
              cases ha with
              | cons h2 ha =>
                cases ha
                exact ⟨_, _, rfl, h1, h2⟩
          walk_at "y"
          refine v_gtup hs1 rfl ?_
          walk_at "y"
          refine ⟨_, _, _, _, _, rfl, a1, (cls_Cutter T), (no_Cutter_alphabet T), a4, ?_⟩
          walk_at "y"
          refine ⟨z, v1, d1, rfl, h1, ?_⟩
          have no : (dOver z d1 = false ∨ dIs "tuple" d2 = false) → ∀ b : Bool, b = false → (b = true ↔ Mark z kd s (.tuple [d1, d2])) := by
            rintro hh b rfl
            refine ⟨fun e => Bool.noConfusion e, fun ⟨t, e, ho, _⟩ => ?_⟩
            injection e with e
            injection e with e1 e
            injection e with e2 e
            rcases hh with hh | hh
            · rw [e1] at hh
              rw [show dOver z (.str t) = true from decide_eq_true ho] at hh
              cases hh
            · rw [e2] at hh
              cases hh
          generalize ho : dOver z d1 = b1
          cases b1 with
          | false =>
            walk_at "y"
            refine iteT_of rfl ?_
            walk_at "y"
            exact k false H (Same.refl _) (no (.inl ho) _ rfl)
          | true =>
            walk_at "y"
            refine iteF_of rfl ?_
            walk_at "y"
            refine isi_tuple h2 ?_
            walk_at "y"
            generalize ht2 : dIs "tuple" d2 = b2
            cases b2 with
            | false =>
              refine iteT_of rfl ?_
              walk_at "y"
              exact k false H (Same.refl _) (no (.inr ht2) _ rfl)
            | true =>
              refine iteF_of rfl ?_
              obtain ⟨t, rfl, hov⟩ : ∃ t, d1 = .str t ∧ ∀ c ∈ t.cps.toList, c ∈ z.cps.toList := by
                cases d1 with
                | str t => exact ⟨t, rfl, of_decide_eq_true ho⟩
                | _ => cases ho
              have htl := hsm t d2 rfl
              cases h1
              cases h2 with
              | non => cases ht2
              | bl _ => cases ht2
              | int _ => cases ht2
              | str _ => cases ht2
              | lst _ _ => cases ht2
              | @tup q ps es hq hps =>
                walk_at "x"
                refine ⟨q, rfl, ⟨_, hq⟩, ?_⟩
                refine for_it (walk_tup (xs := ps)) (fun i σ' H' => (∃ y, σ' = [some (.ref a), some (.ref p), some (.str t), some (.ref q), y]) ∧ H' = H ∧ ∀ (j : Nat) (e : PyData), j < i → es[j]? = some e → dBet 1 ((t.cps.toList.length : Int) - 1) e = true) ?_ ?_ ?_ ?_
                · exact ⟨⟨_, rfl⟩, rfl, fun j e hj => by omega⟩
                · rintro i σ' H' _ ⟨_, rfl, _⟩
                  exact hq
                · rintro i x σ' H1 H2 hi ⟨⟨y, rfl⟩, rfl, hall⟩ ⟨rfl, hx⟩
                  obtain ⟨e, he, hxe⟩ := dpAll_get hps hx
                  walk_at "y"
                  refine v_lenS (small (by rw [tl_len]; omega)) ?_
                  rw [tl_len]
                  walk_at "y"
                  refine ⟨x, 1, _, e, rfl, hxe, ?_⟩
                  generalize hbe : dBet 1 ((t.cps.toList.length : Int) - 1) e = be
                  cases be with
                  | true =>
                    walk_at "y"
                    refine iteF_of rfl ?_
                    walk_at "y"
                    refine ⟨⟨_, rfl⟩, rfl, fun j e' hj he' => ?_⟩
                    by_cases hji : j < i
                    · exact hall j e' hji he'
                    · obtain rfl : j = i := by omega
                      rw [he] at he'
                      cases he'
                      exact hbe
                  | false =>
                    walk_at "y"
                    refine iteT_of rfl ?_
                    walk_at "y"
                    refine k false H2 (Same.refl _) ⟨fun e => Bool.noConfusion e, fun ⟨t', e', _, hbd⟩ => ?_⟩
                    injection e' with e'
                    injection e' with e1 e'
                    injection e' with e2 e'
                    injection e1 with e1
                    injection e2 with e2
                    subst e1
                    rw [e2] at he
                    obtain ⟨n, hn, rfl⟩ := plI_at he
                    have hn2 := hbd n hn
                    exact Bool.noConfusion (hbe.symm.trans (show dBet 1 ((t.cps.toList.length : Int) - 1) (.int (n : Nat)) = true from decide_eq_true ⟨by omega, by omega⟩))
                · rintro σ' H1 ⟨⟨y, rfl⟩, rfl, hall⟩
                  obtain ⟨l, hl⟩ : ∃ l : List Nat, es = plI l ∧ ∀ n ∈ l, 1 ≤ n ∧ n + 1 ≤ t.cps.toList.length := by
                    refine nats_of fun e he => ?_
                    obtain ⟨j, hj, rfl⟩ := List.mem_iff_getElem.mp he
                    obtain ⟨i, hi, b1, b2⟩ := dBet_int (hall j _ (by rw [dpAll_length hps]; exact hj) (List.getElem?_eq_getElem hj))
                    exact ⟨i.toNat, by rw [hi, Int.toNat_of_nonneg (by omega)], by omega, by omega⟩
                  obtain ⟨rfl, hbd⟩ := hl
                  walk_at "y"
                  refine ⟨a, dx, fs, rfl, a1, a6 _ (by simp), ?_⟩
                  walk_at "y"
                  refine ⟨a, kd, sa, z, t, s, rfl, hC, htl, .inl ⟨hov, fun q2 r H2 hS2 hq2 hr2 => ?_⟩⟩
                  have hd2 := dp_nats hq2
                  refine ⟨_, _, dp_same hS2 _ _ (.tup hq hps), hd2, (shaped_ints _).1, (shaped_ints _).1, ?_⟩
                  rw [show PyData.eqv (.tuple (plI l)) (.tuple (plI (plc r))) = decide ((l.map fun (n : Nat) => (n : Int)) = (plc r).map fun (n : Nat) => (n : Int)) from PL.eqv_ints _ _]
                  obtain ⟨hne, hfl⟩ := row_ne hs hov hr2
                  have ero := rowOf_r hs.al hs.ok hr2
                  have epl : plO z kd s t.cps.toList = plc r := by unfold plO; rw [ero]
                  refine k _ H2 hS2 ?_
                  rw [decide_eq_true_iff]
                  constructor
                  · intro e
                    have e : l = plc r := plI_inj (by unfold plI; rw [e])
                    refine ⟨t, by rw [epl, e], hov, ?_⟩
                    rw [epl, ← e]
                    exact hbd
                  · rintro ⟨t', e', _, _⟩
                    injection e' with e'
                    injection e' with e1 e'
                    injection e' with e2 e'
                    injection e1 with e1
                    injection e2 with e2
                    subst e1
                    rw [plI_inj (e2.trans (by rw [epl]))]
end

end K80

namespace K80
open PySem PySem.Spec L2 PH
open C8 (tCut pss_cut)
section
variable {P : Program} {w : World} {K : PySem.W.Frag} {mg : Str → Option Value} {base : Heap}
theorem hid_two {H : Hp} {b : Addr} {ys : List V} (hb : H b = some (.lst ys)) {M : List Addr} {q : Addr} {o : HO} (h : hid M H q = some o) (ho : ∀ l, o ≠ .lst l) : hid M (hid [b] H) q = some o := by
  have nM : q ∉ M := fun hm => by rw [hid_none hm] at h; cases h
  have h1 := hid_sub _ _ h
  refine hid_at (hid_at h1 fun hm => ?_) nM
  rw [List.mem_singleton.mp hm, hb] at h1
  exact ho _ (Option.some.inj h1).symm
theorem sqT_two {H : Hp} {b : Addr} {ys : List V} (hb : H b = some (.lst ys)) {M : List Addr} {q : Addr} {xs : List V} (h : SqT K (hid M H) q xs) : SqT K (hid M (hid [b] H)) q xs := by
  rcases h with (h | ⟨o, h⟩) | h
  · exact .inl (.inl (hid_two hb h fun _ e => nomatch e))
  · exact .inl (.inr ⟨o, hid_two hb h fun _ e => nomatch e⟩)
  · exact .inr h
theorem for_itB {J : It} {n : Nat} {G : Hp → Prop} {Y : Nat → Hp → V → Hp → Prop} (w : Walk J n G Y) {g : TG} {B : (L2.St → Hp → Prop) → L2.St → Hp → Prop} {E : L2.St → Hp → Prop} {σ : L2.St} {H : Hp} (Pv : Nat → L2.St → Hp → Prop) (h0 : Pv 0 σ H) (hG : ∀ i σ H, i ≤ n → Pv i σ H → G H)
    (hs : ∀ i x σ H H1, i < n → Pv i σ H → Y i H x H1 → g x σ H1 fun σ2 H2 => B (Pv (i + 1)) σ2 H2) (hd : ∀ σ H, Pv n σ H → E σ H) :
    ∃ W : Nat → Nat → L2.St → Hp → Prop, (∃ m, W 0 m σ H) ∧ ∀ i m σ H, W i m σ H → (J.stop i H ∧ E σ H) ∨ (J.go i H ∧ ∃ N : L2.St → Hp → Prop, (∀ σ' H', N σ' H' → ∃ m', m' < m ∧ W (i + 1) m' σ' H') ∧ ∀ x H', J.yld i H x H' → g x σ H' fun σ2 H2 => B N σ2 H2) := by
  refine ⟨fun i m σ H => m = n - i ∧ i ≤ n ∧ Pv i σ H, ⟨n, by simp, Nat.zero_le _, h0⟩, ?_⟩
  rintro i m σ H ⟨rfl, hi, p⟩
  have q := hG i σ H hi p
  by_cases hlt : i < n
  · exact .inr ⟨w.goes i H hlt q, Pv (i + 1), fun σ' H' p' => ⟨n - (i + 1), by omega, rfl, hlt, p'⟩, fun x H' y => hs i x σ H H' hlt p (w.yields i H x H' hlt q y)⟩
  · have e : i = n := by omega
    subst e
    exact .inl ⟨w.stops H q, hd σ H p⟩
def allT (zl : List Nat) : Nat → List PL.T
  | 0 => [[]]
  | n + 1 => (allT zl n).flatMap fun t => zl.map fun c => t ++ [c]
theorem allT_len {zl : List Nat} : ∀ n, (allT zl n).length = zl.length ^ n
  | 0 => rfl
  | n + 1 => by
    show ((allT zl n).flatMap fun t => zl.map fun c => t ++ [c]).length = _
    rw [List.length_flatMap, Nat.pow_succ, ← allT_len n]
    generalize allT zl n = L
    induction L with
    | nil => simp
    | cons t L ih =>
      rw [List.map_cons, List.sum_cons, ih, List.length_map, List.length_cons, Nat.add_mul, Nat.one_mul, Nat.add_comm]
theorem allT_small {zl : List Nat} {n : Nat} (h : zl.length ≤ 4) (hn : n ≤ 8) : (allT zl n).length ≤ 65536 := by
  rw [allT_len]
  have h1 : zl.length ^ n ≤ 4 ^ n := Nat.pow_le_pow_left h n
  have h2 : 4 ^ n ≤ 4 ^ 8 := Nat.pow_le_pow_right (by decide) hn
  have h3 : (4 : Nat) ^ 8 = 65536 := by decide
  omega
theorem allT_ok {zl : List Nat} : ∀ {n : Nat} {t : PL.T}, t ∈ allT zl n → t.length = n ∧ ∀ c ∈ t, c ∈ zl
  | 0, t, h => by
    rw [show t = [] by simpa [allT] using h]
    exact ⟨rfl, fun c hc => by cases hc⟩
  | n + 1, t, h => by
    obtain ⟨u, hu, h⟩ := List.mem_flatMap.mp h
    obtain ⟨c, hc, rfl⟩ := List.mem_map.mp h
    obtain ⟨h1, h2⟩ := allT_ok hu
    refine ⟨by rw [List.length_append, h1]; rfl, fun d hd => ?_⟩
    rcases List.mem_append.mp hd with hd | hd
    · exact h2 d hd
    · rw [List.mem_singleton.mp hd]
      exact hc
/-- a text with its places, as data -/
noncomputable def mkD (z : Str) (kd : Kd) (s : Src) (t : PL.T) : PyData := .tuple [.str (mkS t), .tuple (plI (plO z kd s t))]
theorem flat_part {zl : List Nat} {L : List PL.T} {i j : Nat} (hi : i < L.length) (hj : j < zl.length) : ((L.take i).flatMap fun t => zl.map fun c => t ++ [c]) ++ (zl.take j).map (fun c => L[i] ++ [c]) ++ [L[i] ++ [zl[j]]] = ((L.take i).flatMap fun t => zl.map fun c => t ++ [c]) ++ (zl.take (j + 1)).map (fun c => L[i] ++ [c]) := by
  rw [List.append_assoc, List.take_add_one, List.getElem?_eq_getElem hj, List.map_append]
  rfl
theorem flat_full {zl : List Nat} {L : List PL.T} {i : Nat} (hi : i < L.length) : ((L.take i).flatMap fun t => zl.map fun c => t ++ [c]) ++ (zl.take zl.length).map (fun c => L[i] ++ [c]) = (L.take (i + 1)).flatMap fun t => zl.map fun c => t ++ [c] := by
  rw [List.take_length, List.take_add_one, List.getElem?_eq_getElem hi, List.flatMap_append]
  simp
theorem flat_len {zl : List Nat} {L : List PL.T} {i j : Nat} (hi : i < L.length) (hj : j ≤ zl.length) : (((L.take i).flatMap fun t => zl.map fun c => t ++ [c]) ++ (zl.take j).map (fun c => L[i] ++ [c])).length ≤ L.length * zl.length := by
  have e : ((L.take i).flatMap fun t => zl.map fun c => t ++ [c]).length = i * zl.length := by
    rw [List.length_flatMap]
    have : ((L.take i).map fun a => (zl.map fun c => a ++ [c]).length) = List.replicate i zl.length := by
      rw [List.eq_replicate_iff]
      refine ⟨by rw [List.length_map, List.length_take]; omega, fun b hb => ?_⟩
      obtain ⟨t, _, rfl⟩ := List.mem_map.mp hb
      rw [List.length_map]
    rw [this]
    simp
  rw [List.length_append, e, List.length_map, List.length_take]
  have : i * zl.length + zl.length ≤ L.length * zl.length := by
    rw [← Nat.succ_mul]
    exact Nat.mul_le_mul_right _ hi
  omega
theorem mkS_snoc (t : PL.T) (c : Nat) : mkS t ++ s1 c = mkS (t ++ [c]) := by
  apply PyProof.Rows.ext_toList
  rw [mkS_cps]
  show ((mkS t).cps ++ (s1 c).cps).toList = _
  rw [Array.toList_append, mkS_cps]
  rfl
theorem z_at {z : Str} {j c : Nat} (h : z.cps[j]? = some c) : ∃ hj : j < z.cps.toList.length, c = z.cps.toList[j] := by
  rw [← Array.getElem?_toList] at h
  obtain ⟨h1, h2⟩ := List.getElem?_eq_some_iff.mp h
  exact ⟨h1, h2.symm⟩
def spMS (K : PySem.W.Frag) : Sp := fun vs H Q E => ∃ (a : Addr) (kd : Kd) (sa : Addr) (z : Str) (s : Src) (x : V) (d : PyData), vs = [.ref a, x] ∧ CutAt K H a kd sa z s ∧ Dp K H x d ∧
  ((dBet 0 8 d = false ∧ ∀ dd H', Same H H' → H' dd = none → E (.ref (He.ga K "InvalidNumber")) (some dd) (upd H' dd (.xd [("number", x)]))) ∨
   ∃ n : Nat, d = .int (n : Nat) ∧ n ≤ 8 ∧ ∀ q H', Same H H' → Dp K H' (.ref q) (.tuple ((allT z.cps.toList n).map (mkD z kd s))) → (∀ t ∈ allT z.cps.toList n, ∃ r, RowRel z kd s t r) → Q (.ref q) H')
theorem ok_marked_of_size (T : Ev fa fx fn K mg base) : Dn P w K mg base 8 (He.ga K "marked_of_size") ["cutter", "many"] (spMS K) := by
  refine dn_of (d_marked_of_size T) sc_marked_of_size bo_marked_of_size (fun vs H Q E h => ?_) (fun cdv A outer s0 H vs Q E hr h => ?_)
  · obtain ⟨a, kd, sa, z, s, x, d, rfl, _⟩ := h
    rfl
  · obtain ⟨a, kd, sa, z, s, x, d, rfl, hC, hx, h⟩ := h
    have ⟨⟨dx, fs, tq, a1, a2, a3, a4, a5, a6, a7⟩, hs, hg⟩ := hC
    have zlo := hs.al.lo
    have zhi := hs.al.hi
    refine ⟨_, (pss_cons (ps_if (pt_not (pt_val (pe_d (ok_is_between T) (hr.mono (by decide)) (g_is_between T) passL (pa_cons (pv 1) (pa_cons pe_int (pa_cons (pe_gi (c_MOST_MARKED T)) pa_nil))))))
        (pss_one (ps_raise rfl (takes_of rfl rfl rfl rfl) (pmk_x1 (exc_InvalidNumber T) (ok_InvalidNumber___init__ T) (hr.mono (by decide)) (g_InvalidNumber T) (pv 1)))) pss_nil)
      (pss_cons (ps_set (i := 2) sc_marked_of_size.nd rfl (.inl rfl) (pe_lst (pa_cons pe_str pa_nil)))
      (pss_cons (ps_for (passes_of rfl) rfl (pi_range1 rfl (f_range T) (pa_cons (pv 1) pa_nil)) (pg_name (i := 3) sc_marked_of_size.nd rfl (.inl rfl))
        (pss_one (ps_setLc2 (i := 2) (own := [("text", 4), ("letter", 5)]) (vs1 := [5]) rfl sc_marked_of_size.nd rfl rfl (sw_true rfl rfl rfl (by decide +kernel)) (pi_list (pv 2)) (blkOk_by (own := [("text", 4), ("letter", 5)]) (N := ["cutter", "many", "texts", "_", "text", "letter"]) (sc := defScope s_marked_of_size) (by decide +kernel)) (by decide) (fun _ _ _ _ _ => (pg_name (i := 4) sc_marked_of_size.nd rfl (.inl rfl))) (fun _ _ _ _ _ => pts_nil) (fun _ _ _ _ _ => (pi_str (pe_fldK (K := K) rfl (pv 0) rfl))) (fun _ _ _ _ _ => (pg_name (i := 5) sc_marked_of_size.nd rfl (.inl rfl))) (fun _ _ _ _ _ => pts_nil) (fun _ _ _ _ _ => (pe_op op_add_str (pv 4) (pv 5))))))
      (pss_one (ps_ret (pe_callTy call_tuple_of (by rfl) (f_tuple T) bb_tuple (pa_cons (pe_lc (own := [("text", 4)]) rfl sc_marked_of_size.nd (pi_list (pv 2)) (blkOk_by (own := [("text", 4)]) (N := ["cutter", "many", "texts", "_", "text", "letter"]) (sc := defScope s_marked_of_size) (by decide +kernel)) (fun _ _ _ _ _ => (pg_name (i := 4) sc_marked_of_size.nd rfl (.inl rfl))) (fun _ _ _ _ _ => pts_nil) (fun _ _ _ _ _ => (pe_tup (pa_cons (pv 4) (pa_cons (pe_m (ok_Cutter_places T) (hr.mono (by decide)) (cls_Cutter T) (me_Cutter_places T) passL (pv 0) (pa_cons (pv 4) pa_nil)) pa_nil))))) pa_nil))))))), ?_⟩
    walk_at "cl"
    walk_at "y"
    refine ⟨x, 0, 8, d, rfl, hx, ?_⟩
    rcases h with ⟨hb, k⟩ | ⟨n, rfl, hn, k⟩
    · rw [hb]
      walk_at "y"
      refine iteT_of rfl ?_
      walk_at "y"
      intro dd hdd
      exact k dd H (Same.refl _) hdd
    · cases hx
      rw [show dBet 0 8 (.int (n : Nat)) = true from decide_eq_true ⟨by omega, by omega⟩]
      walk_at "y"
      refine iteF_of rfl ?_
      walk_at "y"
      refine ⟨small (show 1 ≤ 16000000 by decide), fun L hL => ?_⟩
      walk_at "x"
      refine ⟨(n : Int), rfl, by omega, by omega, ?_⟩
      rw [Int.toNat_natCast]
      refine for_it walk_range (fun i σ' H' => (∃ (L : Addr) (y : Option V), σ' = [some (.ref a), some (.int (n : Nat)), some (.ref L), y, none, none] ∧ H' L = some (.lst (rowV (allT z.cps.toList i)))) ∧ Same H H') ?_ ?_ ?_ ?_
      · exact ⟨⟨_, _, rfl, upd_same⟩, same_new hL⟩
      · intros
        trivial
      · rintro i x σ' H1 H2 hi ⟨⟨L, y, rfl, hL1⟩, hS1⟩ ⟨rfl, hx⟩
        have hLn := allT_small (n := i) zhi (by omega)
        have hLn1 := allT_small (n := i + 1) zhi (by omega)
        have hLm : (allT z.cps.toList i).length * z.cps.toList.length = (allT z.cps.toList (i + 1)).length := by
          rw [allT_len, allT_len, Nat.pow_succ]
        walk_at "y"
        refine v_lc2 ?_
        walk_at "y"
        refine ⟨L, rfl, ⟨_, sqL_of hL1⟩, fun D hD => ?_⟩
        have nLD : L ≠ D := ne_of_none hL1 hD
        refine lc2_it (walk_list (xs := rowV (allT z.cps.toList i))) (fun j H' => Same H2 H' ∧ H' D = some (.lst (rowV (((allT z.cps.toList i).take j).flatMap fun t => z.cps.toList.map fun c => t ++ [c])))) ?_ ?_ ?_ ?_
        · exact ⟨same_new hD, upd_same⟩
        · rintro j H' _ ⟨h, _⟩
          exact sqL_of (h _ _ hL1)
        · rintro j x H3 H4 hj ⟨hS3, hD3⟩ ⟨rfl, hx⟩
          rw [rowV_len] at hj
          rw [rowV_at hj] at hx
          cases hx
          have htl := (allT_ok (List.getElem_mem hj)).1
          walk_at "y"
          refine ⟨rfl, ?_⟩
          walk_at "y"
          refine ⟨_, _, _, _, _, rfl, (hS1.trans hS3) _ _ a1, (cls_Cutter T), (no_Cutter_alphabet T), a4, ?_⟩
          refine ⟨z, rfl, ?_⟩
          refine lc2_it (walk_str (z := z)) (fun q H' => Same H2 H' ∧ H' D = some (.lst (rowV ((((allT z.cps.toList i).take j).flatMap fun t => z.cps.toList.map fun c => t ++ [c]) ++ (z.cps.toList.take q).map fun c => (allT z.cps.toList i)[j] ++ [c])))) ?_ ?_ ?_ ?_
          · exact ⟨hS3, by simpa using hD3⟩
          · intros
            trivial
          · rintro q x H5 H6 hq ⟨hS5, hD5⟩ ⟨rfl, c, hc, rfl⟩
            obtain ⟨hq2, rfl⟩ := z_at hc
            walk_at "y"
            refine ⟨rfl, ?_⟩
            walk_at "y"
            refine ⟨_, _, rfl, rfl, small (by rw [tl_len, tl_len, mkS_cps, htl]; show _ + 1 ≤ _; omega), ?_⟩
            have hfl := flat_len (zl := z.cps.toList) hj (Nat.le_of_lt hq2)
            refine ⟨_, hD5, smallL (by rw [rowV_len]; omega), same_mut hS5 hD, ?_⟩
            rw [upd_same, ← flat_part hj hq2]
            show some (HO.lst (rowV _ ++ [V.str (mkS _ ++ s1 _)])) = _
            rw [mkS_snoc]
            unfold rowV
            rw [List.map_append (l₂ := [_])]
            rfl
          · rintro H5 ⟨hS5, hD5⟩
            rw [show z.cps.size = z.cps.toList.length by simp, flat_full hj] at hD5
            exact ⟨hS5, hD5⟩
        · rintro H3 ⟨hS3, hD3⟩
          rw [rowV_len, List.take_length] at hD3
          walk_at "y"
          exact ⟨⟨D, _, rfl, hD3⟩, hS1.trans hS3⟩
      · rintro σ' H1 ⟨⟨L, y, rfl, hL1⟩, hS1⟩
        have hLn := allT_small (n := n) zhi (by omega)
        walk_at "y"
        refine ⟨L, rfl, ⟨_, sqL_of hL1⟩, fun D hD => ?_⟩
        have nLD : L ≠ D := ne_of_none hL1 hD
        refine lc_it (walk_list (xs := rowV (allT z.cps.toList n))) (fun j H' => Same H1 H' ∧ ∃ xs, H' D = some (.lst xs) ∧ DpAll K (hid [D] H') xs (((allT z.cps.toList n).take j).map (mkD z kd s)) ∧ ∀ t ∈ (allT z.cps.toList n).take j, ∃ r, RowRel z kd s t r) ?_ ?_ ?_ ?_
        · exact ⟨same_new hD, [], upd_same, .nil, fun t ht => by simp at ht⟩
        · rintro j H' _ ⟨h, _⟩
          exact sqL_of (h _ _ hL1)
        · rintro j x H3 H4 hj ⟨hS3, xs, hD3, hx3, hex3⟩ ⟨rfl, hx⟩
          rw [rowV_len] at hj
          rw [rowV_at hj] at hx
          cases hx
          obtain ⟨htl, hov⟩ := allT_ok (List.getElem_mem hj)
          have hS13 := hS1.trans hS3
          walk_at "y"
          refine ⟨rfl, ?_⟩
          walk_at "y"
          refine ⟨a, dx, fs, rfl, hS13 _ _ a1, a6 _ (by simp), ?_⟩
          walk_at "y"
          refine ⟨a, kd, sa, z, _, s, rfl, hC.same hS13, by rw [mkS_cps, htl]; omega, .inl ⟨by rw [mkS_cps]; exact hov, fun q2 r H5 hS5 hq2 hr2 => ?_⟩⟩
          rw [mkS_cps] at hr2
          have ero := rowOf_r hs.al hs.ok hr2
          walk_at "y"
          refine ⟨small (show 2 ≤ 16000000 by decide), fun p hp => ?_⟩
          have hD5 := hS5 _ _ hD3
          have r6 := same_new (o := .tup [.str (mkS (allT z.cps.toList n)[j]), .ref q2]) hp
          have g6 : upd H5 p (.tup [.str (mkS (allT z.cps.toList n)[j]), .ref q2]) p = some (.tup [.str (mkS (allT z.cps.toList n)[j]), .ref q2]) := upd_same
          generalize upd H5 p (.tup [.str (mkS (allT z.cps.toList n)[j]), .ref q2]) = H6 at r6 g6
          have hD6 := r6 _ _ hD5
          have hxl : xs.length = j := by
            rw [dpAll_length hx3, List.length_map, List.length_take]
            omega
          refine ⟨_, hD6, smallL (by omega), same_mut (hS3.trans (hS5.trans r6)) hD, _, upd_same, ?_, fun t ht => ?_⟩
          rotate_left
          · rw [List.take_add_one, List.getElem?_eq_getElem hj] at ht
            rcases List.mem_append.mp ht with ht | ht
            · exact hex3 t ht
            · rw [show t = (allT z.cps.toList n)[j] by simpa using ht]
              exact ⟨r, hr2⟩
          rw [hid_in (by simp), List.take_add_one, List.getElem?_eq_getElem hj, List.map_append]
          refine dpAll_snoc (dpAll_same (hid_same (hS5.trans r6)) _ _ hx3) ?_
          show Dp K _ _ (.tuple [.str (mkS _), .tuple (plI (plc (rowOf z kd s _)))])
          rw [ero]
          exact .tup (sqT_hidL hD6 (sqT_of g6)) (.cons (.str _) (.cons (dp_nats (sqT_hidL hD6 (sqT_same r6 hq2))) .nil))
        · rintro H3 ⟨hS3, xs, hD3, hx3, hex3⟩
          rw [rowV_len, List.take_length] at hx3 hex3
          refine ⟨D, _, rfl, .inl ⟨sqL_of hD3, fun r hr => ?_⟩⟩
          have r4 := same_new (o := .tup xs) hr
          exact k r _ (hS1.trans (hS3.trans r4)) (.tup (sqT_of upd_same) (dpAll_same (hid_sub.trans r4) _ _ hx3)) hex3
end

end K80

namespace K80
open PySem PySem.Spec L2 PH
open C8 (tCut pss_cut)
section
variable {P : Program} {w : World} {K : PySem.W.Frag} {mg : Str → Option Value} {base : Heap}
theorem dp_plI {H : Hp} {x : V} {l : List Nat} (h : Dp K H x (.tuple (plI l))) : ∃ p, x = .ref p ∧ SqT K H p (natV l) := by
  obtain ⟨p, e, h2⟩ := dp_ints h
  refine ⟨p, e, ?_⟩
  rw [natV_int]
  exact h2
def spAT (_ : PySem.W.Frag) : Sp := fun vs H Q _ => ∃ (z : Str) (n : Nat), vs = [.str z, .int (n : Nat)] ∧ z.cps.toList.length ≤ 4 ∧ n ≤ 8 ∧ ∀ q H', Same H H' → H' q = some (.lst (rowV (allT z.cps.toList n))) → H q = none → Q (.ref q) H'
theorem ok__law_all_texts (T : Ev fa fx fn K mg base) : Dn P w K mg base 1 (He.ga K "_law_all_texts") ["letters", "many"] (spAT K) := by
  refine dn_of (d__law_all_texts T) sc__law_all_texts bo__law_all_texts (fun vs H Q E h => ?_) (fun cdv A outer s0 H vs Q E hr h => ?_)
  · obtain ⟨z, n, rfl, _⟩ := h
    rfl
  · obtain ⟨z, n, rfl, zhi, hn, k⟩ := h
    refine ⟨_, (PSs.nox (pss_cons (ps_set (i := 2) sc__law_all_texts.nd rfl (.inl rfl) (pe_lst (pa_cons pe_str pa_nil)))
      (pss_cons (ps_for PassesOwn.never rfl (pi_range1 rfl (f_range T) (pa_cons (pv 1) pa_nil)) (pg_name (i := 3) sc__law_all_texts.nd rfl (.inl rfl))
        (pss_cons (ps_set (i := 4) sc__law_all_texts.nd rfl (.inl rfl) (pe_lst pa_nil))
      (pss_cons (ps_for PassesOwn.never rfl (pi_list (pv 2)) (pg_name (i := 5) sc__law_all_texts.nd rfl (.inr rfl))
        (pss_one (ps_set (i := 4) sc__law_all_texts.nd rfl (.inl rfl) (pe_op op_cat (pv 4) (pe_lc (own := [("sign", 6)]) rfl sc__law_all_texts.nd (pi_str (pv 0)) (blkOk_by (own := [("sign", 6)]) (N := ["letters", "many", "told", "k", "longer", "text", "sign"]) (sc := defScope s__law_all_texts) (by decide +kernel)) (fun _ _ _ _ _ => (pg_name (i := 6) sc__law_all_texts.nd rfl (.inl rfl))) (fun _ _ _ _ _ => pts_nil) (fun _ _ _ _ _ => (pe_op op_add_str (pv 5) (pv 6))))))))
      (pss_one (ps_set (i := 2) sc__law_all_texts.nd rfl (.inl rfl) (pv 4))))))
      (pss_one (ps_ret (pv 2)))))), ?_⟩
    walk_at "cl"
    walk_at "y"
    refine ⟨small (show 1 ≤ 16000000 by decide), fun L hL => ?_⟩
    walk_at "x"
    refine ⟨(n : Int), rfl, by omega, by omega, ?_⟩
    rw [Int.toNat_natCast]
    refine for_it walk_range (fun i σ' H' => (∃ (L : Addr) (y3 y4 y5 : Option V), σ' = [some (.str z), some (.int (n : Nat)), some (.ref L), y3, y4, y5, none] ∧ H' L = some (.lst (rowV (allT z.cps.toList i))) ∧ H L = none) ∧ Same H H') ?_ ?_ ?_ ?_
    · exact ⟨⟨_, _, _, _, rfl, upd_same, hL⟩, same_new hL⟩
    · intros
      trivial
    · rintro i x σ' H1 H2 hi ⟨⟨L, y3, y4, y5, rfl, hL1, hL0⟩, hS1⟩ ⟨rfl, hx⟩
      have hLn1 := allT_small (n := i + 1) zhi (by omega)
      have hLm : (allT z.cps.toList i).length * z.cps.toList.length = (allT z.cps.toList (i + 1)).length := by
        rw [allT_len, allT_len, Nat.pow_succ]
      walk_at "y"
      refine ⟨Nat.zero_le _, fun M hM => ?_⟩
      have hM0 := none_same hS1 hM
      walk_at "x"
      have r1 := same_new (o := .lst []) hM
      have g1 : upd H2 M (.lst []) M = some (.lst []) := upd_same
      generalize upd H2 M (.lst []) = H3 at r1 g1
      have hL3 := r1 _ _ hL1
      refine ⟨L, rfl, ⟨_, sqL_of hL3⟩, ?_⟩
      refine for_it (walk_list (xs := rowV (allT z.cps.toList i))) (fun j σ' H' => (∃ (M : Addr) (y5 : Option V), σ' = [some (.str z), some (.int (n : Nat)), some (.ref L), some x, some (.ref M), y5, none] ∧ H' M = some (.lst (rowV (((allT z.cps.toList i).take j).flatMap fun t => z.cps.toList.map fun c => t ++ [c]))) ∧ H M = none) ∧ Same H3 H') ?_ ?_ ?_ ?_
      · exact ⟨⟨_, _, rfl, g1, hM0⟩, Same.refl _⟩
      · rintro j σ' H' _ ⟨_, h⟩
        exact sqL_of (h _ _ hL3)
      · rintro j y σ' H4 H5 hj ⟨⟨M, y5, rfl, hM4, hMn⟩, hS4⟩ ⟨rfl, hx⟩
        rw [rowV_len] at hj
        rw [rowV_at hj] at hx
        cases hx
        obtain ⟨htl, hov⟩ := allT_ok (List.getElem_mem hj)
        walk_at "y"
        refine ⟨z, rfl, fun D hD => ?_⟩
        refine lc_it (walk_str (z := z)) (fun q H' => Same H5 H' ∧ H' D = some (.lst (rowV ((z.cps.toList.take q).map fun c => (allT z.cps.toList i)[j] ++ [c])))) ?_ ?_ ?_ ?_
        · exact ⟨same_new hD, upd_same⟩
        · intros
          trivial
        · rintro q x H6 H7 hq ⟨hS6, hD6⟩ ⟨rfl, c, hc, rfl⟩
          obtain ⟨hq2, rfl⟩ := z_at hc
          walk_at "y"
          refine ⟨rfl, ?_⟩
          walk_at "y"
          refine ⟨_, _, rfl, rfl, small (by rw [tl_len, tl_len, mkS_cps, htl]; show _ + 1 ≤ _; omega), ?_⟩
          refine ⟨_, hD6, smallL (by rw [rowV_len, List.length_map, List.length_take]; omega), same_mut hS6 hD, ?_⟩
          rw [upd_same, List.take_add_one, List.getElem?_eq_getElem hq2, List.map_append]
          show some (HO.lst (rowV _ ++ [V.str (mkS _ ++ s1 _)])) = _
          rw [mkS_snoc]
          unfold rowV
          rw [List.map_append (l₂ := List.map _ _)]
          rfl
        rintro H6 ⟨hS6, hD6⟩
        rw [show z.cps.size = z.cps.toList.length by simp] at hD6
        have hfl := flat_len (zl := z.cps.toList) hj (Nat.le_refl _)
        have hff := flat_full (zl := z.cps.toList) hj
        have hM6 := hS6 _ _ hM4
        refine ⟨M, D, _, _, rfl, rfl, hM6, hD6, small (by rw [rowV_len, rowV_len, ← List.length_append]; exact Nat.le_trans hfl (by omega)), fun p hp => ?_⟩
        walk_at "y"
        refine ⟨⟨p, _, rfl, ?_, none_same (hS1.trans (r1.trans (hS4.trans hS6))) hp⟩, hS4.trans (hS6.trans (same_new hp))⟩
        rw [upd_same, ← hff]
        unfold rowV
        rw [List.map_append (l₂ := List.map _ _)]
      · rintro σ' H4 ⟨⟨M, y5, rfl, hM4, hMn⟩, hS4⟩
        rw [rowV_len, List.take_length] at hM4
        walk_at "y"
        exact ⟨⟨M, _, _, _, rfl, hM4, hMn⟩, hS1.trans (r1.trans hS4)⟩
    · rintro σ' H1 ⟨⟨L, y3, y4, y5, rfl, hL1, hL0⟩, hS1⟩
      walk_at "y"
      exact k L H1 hS1 hL1 hL0
def allP : Nat → List (List Nat)
  | 0 => [[]]
  | k + 1 => allP k ++ (allP k).map fun l => l ++ [k + 1]
theorem allP_len : ∀ k, (allP k).length = 2 ^ k
  | 0 => rfl
  | k + 1 => by
    show (allP k ++ (allP k).map fun l => l ++ [k + 1]).length = _
    rw [List.length_append, List.length_map, allP_len k, Nat.pow_succ]
    omega
theorem allP_short : ∀ {k : Nat} {l : List Nat}, l ∈ allP k → l.length ≤ k
  | 0, l, h => by rw [show l = [] by simpa [allP] using h]; exact Nat.le_refl _
  | k + 1, l, h => by
    rcases List.mem_append.mp h with h | h
    · exact Nat.le_succ_of_le (allP_short h)
    · obtain ⟨u, hu, rfl⟩ := List.mem_map.mp h
      rw [List.length_append]
      exact Nat.succ_le_succ (allP_short hu)
def tpD (l : List Nat) : PyData := .tuple (plI l)
def spAP2 (K : PySem.W.Frag) : Sp := fun vs H Q _ => ∃ (n : Nat), vs = [.int (n : Nat)] ∧ n ≤ 8 ∧ ∀ q xs H', Same H H' → H' q = some (.lst xs) → DpAll K (hid [q] H') xs ((allP (n - 1)).map tpD) → H q = none → Q (.ref q) H'
theorem ok__law_all_places (T : Ev fa fx fn K mg base) : Dn P w K mg base 1 (He.ga K "_law_all_places") ["size"] (spAP2 K) := by
  refine dn_of (d__law_all_places T) sc__law_all_places bo__law_all_places (fun vs H Q E h => ?_) (fun cdv A outer s0 H vs Q E hr h => ?_)
  · obtain ⟨n, rfl, _⟩ := h
    rfl
  · obtain ⟨n, rfl, hn, k⟩ := h
    refine ⟨_, (PSs.nox (pss_cons (ps_set (i := 1) sc__law_all_places.nd rfl (.inl rfl) (pe_lst (pa_cons (pe_tup pa_nil) pa_nil)))
      (pss_cons (ps_for PassesOwn.never rfl (pi_range2 rfl (f_range T) (pa_cons pe_int (pa_cons (pv 0) pa_nil))) (pg_name (i := 2) sc__law_all_places.nd rfl (.inr rfl))
        (pss_one (ps_set (i := 1) sc__law_all_places.nd rfl (.inl rfl) (pe_op op_cat (pv 1) (pe_lc (own := [("places", 3)]) rfl sc__law_all_places.nd (pi_list (pv 1)) (blkOk_by (own := [("places", 3)]) (N := ["size", "told", "place", "places"]) (sc := defScope s__law_all_places) (by decide +kernel)) (fun _ _ _ _ _ => (pg_name (i := 3) sc__law_all_places.nd rfl (.inl rfl))) (fun _ _ _ _ _ => pts_nil) (fun _ _ _ _ _ => (pe_op (op_catAK (K := K) rfl) (pv 3) (pe_tup (pa_cons (pv 2) pa_nil)))))))))
      (pss_one (ps_ret (pv 1)))))), ?_⟩
    walk_at "cl"
    walk_at "y"
    refine ⟨Nat.zero_le _, fun e he => ?_⟩
    have r0 := same_new (o := .tup []) he
    have g0 : upd H e (.tup []) e = some (.tup []) := upd_same
    generalize upd H e (.tup []) = H0 at r0 g0
    walk_at "y"
    refine ⟨small (show 1 ≤ 16000000 by decide), fun L hL => ?_⟩
    have r1 := same_new (o := .lst [.ref e]) hL
    have g1 : upd H0 L (.lst [.ref e]) L = some (.lst [.ref e]) := upd_same
    have ge := r1 _ _ g0
    generalize upd H0 L (.lst [.ref e]) = H1 at r1 g1 ge
    have neL : e ≠ L := ne_of ge g1 (fun z => nomatch z)
    walk_at "x"
    refine ⟨1, _, rfl, ⟨by decide, by decide, by omega, by omega⟩, ?_⟩
    rw [show ((n : Int) - 1).toNat = n - 1 by omega]
    refine for_it walk_range (fun i σ' H' => (∃ (L : Addr) (y : Option V) (xs : List V), σ' = [some (.int (n : Nat)), some (.ref L), y, none] ∧ H' L = some (.lst xs) ∧ DpAll K (hid [L] H') xs ((allP i).map tpD) ∧ H L = none) ∧ Same H H') ?_ ?_ ?_ ?_
    · exact ⟨⟨_, _, _, rfl, g1, .cons (.tup (ds := []) (sqT_of (hid_at ge (by simpa using neL))) .nil) .nil, none_same r0 hL⟩, r0.trans r1⟩
    · intros
      trivial
    · rintro i x σ' H2 H3 hi ⟨⟨L, y, xs, rfl, hL2, hx2, hL0⟩, hS2⟩ ⟨rfl, hx⟩
      obtain rfl : x = .int ((i + 1 : Nat) : Int) := hx.trans (congrArg V.int (by omega))
      have hpl := allP_len i
      have hp8 : 2 ^ i ≤ 2 ^ 7 := Nat.pow_le_pow_right (by decide) (by omega)
      have h128 : 2 ^ 7 = 128 := by decide
      have hxl : xs.length = (allP i).length := by rw [dpAll_length hx2, List.length_map]
      walk_at "y"
      refine ⟨L, rfl, ⟨_, sqL_of hL2⟩, fun D hD => ?_⟩
      have nLD : L ≠ D := ne_of_none hL2 hD
      refine lc_it (walk_list (xs := xs)) (fun j H' => Same H3 H' ∧ ∃ ys, H' D = some (.lst ys) ∧ DpAll K (hid [D] H') ys (((allP i).take j).map fun l => tpD (l ++ [i + 1]))) ?_ ?_ ?_ ?_
      · exact ⟨same_new hD, [], upd_same, .nil⟩
      · rintro j H' _ ⟨h, _⟩
        exact sqL_of (h _ _ hL2)
      · rintro j x H4 H5 hj ⟨hS4, ys, hD4, hy4⟩ ⟨rfl, hx⟩
        obtain ⟨e, he, hxe⟩ := dpAll_get hx2 hx
        rw [hxl] at hj
        rw [List.getElem?_map, List.getElem?_eq_getElem hj] at he
        cases he
        obtain ⟨p, rfl, hp⟩ := dp_plI (l := (allP i)[j]) (dp_same (hid_sub.trans hS4) _ _ hxe)
        have hyl : ys.length = j := by
          rw [dpAll_length hy4, List.length_map, List.length_take]
          omega
        walk_at "y"
        refine ⟨rfl, ?_⟩
        walk_at "y"
        refine ⟨small (show 1 ≤ 16000000 by decide), fun q hq => ?_⟩
        have r5 := same_new (o := .tup [.int ((i + 1 : Nat) : Int)]) hq
        have g5 : upd H5 q (.tup [.int ((i + 1 : Nat) : Int)]) q = some (.tup [.int ((i + 1 : Nat) : Int)]) := upd_same
        generalize upd H5 q (.tup [.int ((i + 1 : Nat) : Int)]) = H6 at r5 g5
        have hlj : ((allP i)[j]).length ≤ i := allP_short (List.getElem_mem hj)
        refine v_catB (sqT_same r5 hp) (sqT_of g5) (small (by rw [natV_len]; omega)) fun u H7 hS7 hu => ?_
        rw [natV_snoc] at hu
        have hD7 := hS7 _ _ (r5 _ _ hD4)
        refine ⟨_, hD7, smallL (by omega), same_mut (hS4.trans (r5.trans hS7)) hD, _, upd_same, ?_⟩
        rw [hid_in (by simp), List.take_add_one, List.getElem?_eq_getElem hj, List.map_append]
        exact dpAll_snoc (dpAll_same (hid_same (r5.trans hS7)) _ _ hy4) (dp_nats (sqT_hidL hD7 hu))
      rintro H4 ⟨hS4, ys, hD4, hy4⟩
      rw [hxl, List.take_length] at hy4
      have hyl : ys.length = (allP i).length := by rw [dpAll_length hy4, List.length_map]
      refine ⟨L, D, _, _, rfl, rfl, hS4 _ _ hL2, hD4, small (by rw [hxl, hyl]; omega), fun p hp => ?_⟩
      walk_at "y"
      have npL : p ≠ L := (ne_of_none (hS4 _ _ hL2) hp).symm
      refine ⟨⟨p, _, _, rfl, upd_same, ?_, none_same (hS2.trans hS4) hp⟩, hS2.trans (hS4.trans (same_new hp))⟩
      show DpAll K _ _ ((allP i ++ (allP i).map fun l => l ++ [i + 1]).map tpD)
      rw [hid_in (by simp), List.map_append, List.map_map]
      have hp4 : Same H4 (hid [p] H4) := fun a o ha => hid_at ha (by simpa using ne_of_none ha hp)
      refine dpAll_append (dpAll_same (hid_sub.trans (hS4.trans hp4)) _ _ hx2) ?_
      exact dpAll_same (hid_sub.trans hp4) _ _ hy4
    · rintro σ' H2 ⟨⟨L, y, xs, rfl, hL2, hx2, hL0⟩, hS2⟩
      walk_at "y"
      exact k L xs H2 hS2 hL2 hx2 hL0
end

end K80

namespace K80
open PySem PySem.Spec L2 PH
open C8 (tCut pss_cut)
section
variable {P : Program} {w : World} {K : PySem.W.Frag} {mg : Str → Option Value} {base : Heap}
def itD (x : Str × List Nat) : PyData := .tuple [.str x.1, .tuple (plI x.2)]
theorem it_dp {H : Hp} {v : V} {x : Str × List Nat} (h : Dp K H v (itD x)) : ∃ a b, v = .ref a ∧ SqT K H a [.str x.1, .ref b] ∧ SqT K H b (natV x.2) := by
  unfold itD at h
  cases h with
  | tup hs ha =>
    cases ha with
    | cons h1 ha =>
      cases ha with
      | cons h2 ha =>
        cases ha
        cases h1
        obtain ⟨b, rfl, hb⟩ := dp_plI h2
        exact ⟨_, b, rfl, hs, hb⟩
theorem dpAll_at {α : Type} {f : α → PyData} {L : List α} {H : Hp} {xs : List V} (h : DpAll K H xs (L.map f)) {i : Nat} (hi : i < L.length) : ∃ v, xs[i]? = some v ∧ Dp K H v (f L[i]) := by
  have hl := dpAll_length h
  rw [List.length_map] at hl
  have hx : xs[i]? = some xs[i] := List.getElem?_eq_getElem (by omega)
  obtain ⟨e, he, hd⟩ := dpAll_get h hx
  rw [List.getElem?_map, List.getElem?_eq_getElem hi] at he
  cases he
  exact ⟨_, hx, hd⟩
def spSm (K : PySem.W.Frag) : Sp := fun vs H Q _ => ∃ (p q : Addr) (xs ys : List V) (L : List (Str × List Nat)), vs = [.ref p, .ref q] ∧ SqT K H p xs ∧ DpAll K H xs (L.map itD) ∧ SqL K H q ys ∧ DpAll K H ys (L.map itD) ∧ L.length ≤ 100000 ∧ ∀ H', Same H H' → Q (.bl true) H'
theorem ok__law_same (T : Ev fa fx fn K mg base) : Dn P w K mg base 1 (He.ga K "_law_same") ["value", "due"] (spSm K) := by
  refine dn_of (d__law_same T) sc__law_same bo__law_same (fun vs H Q E h => ?_) (fun cdv A outer s H vs Q E hr h => ?_)
  · obtain ⟨p, q, xs, ys, L, rfl, _⟩ := h
    rfl
  · obtain ⟨p, q, xs, ys, L, rfl, hp, hxs, hq, hys, hL, k⟩ := h
    have hxl : xs.length = L.length := by rw [dpAll_length hxs, List.length_map]
    have hyl : ys.length = L.length := by rw [dpAll_length hys, List.length_map]
    refine ⟨_, (PSs.nox (pss_cons (ps_if (pw_or (pt_not (pt_val (pe_callB (call_isiK' (K := K) rfl) (by rfl) (f_isinstance T) bb_isinstance (pa_cons (pv 0) (pa_cons (pe_ty (f_tuple T) bb_tuple) pa_nil))))) (pw_or1 (pt_cmpR op_ne (pe_callB (call_lenK (K := K) rfl) (by rfl) (f_len T) bb_len (pa_cons (pv 0) pa_nil)) (pe_callB (call_lenK (K := K) rfl) (by rfl) (f_len T) bb_len (pa_cons (pv 1) pa_nil)) (nomark _)))).pt
        (pss_one (ps_ret pe_bl)) pss_nil)
      (pss_cons (ps_for PassesOwn.never rfl (pi_range1 rfl (f_range T) (pa_cons (pe_callB (call_lenK (K := K) rfl) (by rfl) (f_len T) bb_len (pa_cons (pv 1) pa_nil)) pa_nil)) (pg_name (i := 2) sc__law_same.nd rfl (.inl rfl))
        (pss_cons (ps_set (i := 3) sc__law_same.nd rfl (.inl rfl) (pe_ix (ix_tupK (K := K) rfl) (pv 0) (pv 2) (fun _ _ => rfl)))
      (pss_cons (ps_if (pw_or (pt_not (pt_val (pe_callB (call_isiK' (K := K) rfl) (by rfl) (f_isinstance T) bb_isinstance (pa_cons (pv 3) (pa_cons (pe_ty (f_tuple T) bb_tuple) pa_nil))))) (pw_or (pt_cmpR op_ne (pe_callB (call_lenK (K := K) rfl) (by rfl) (f_len T) bb_len (pa_cons (pv 3) pa_nil)) pe_int (nomark _)) (pw_or1 (pt_not (pt_val (pe_callB (call_isiK' (K := K) rfl) (by rfl) (f_isinstance T) bb_isinstance (pa_cons (pe_ix (ix_tupK (K := K) rfl) (pv 3) pe_int (fun _ _ => rfl)) (pa_cons (pe_ty (f_str T) bb_str) pa_nil)))))))).pt
        (pss_one (ps_ret pe_bl)) pss_nil)
      (pss_cons (ps_if (pw_or (pt_not (pt_val (pe_callB (call_isiK' (K := K) rfl) (by rfl) (f_isinstance T) bb_isinstance (pa_cons (pe_ix (ix_tupK (K := K) rfl) (pv 3) pe_int (fun _ _ => rfl)) (pa_cons (pe_ty (f_tuple T) bb_tuple) pa_nil))))) (pw_or (pt_cmpR op_ne (pe_ix (ix_tupK (K := K) rfl) (pv 3) pe_int (fun _ _ => rfl)) (pe_ix (ix_tupK (K := K) rfl) (pe_ix (ix_listK (K := K) rfl) (pv 1) (pv 2) (fun _ _ => rfl)) pe_int (fun _ _ => rfl)) (nomark _)) (pw_or1 (pt_cmpR op_ne (pe_callB (call_lenK (K := K) rfl) (by rfl) (f_len T) bb_len (pa_cons (pe_ix (ix_tupK (K := K) rfl) (pv 3) pe_int (fun _ _ => rfl)) pa_nil)) (pe_callB (call_lenK (K := K) rfl) (by rfl) (f_len T) bb_len (pa_cons (pe_ix (ix_tupK (K := K) rfl) (pe_ix (ix_listK (K := K) rfl) (pv 1) (pv 2) (fun _ _ => rfl)) pe_int (fun _ _ => rfl)) pa_nil)) (nomark _))))).pt
        (pss_one (ps_ret pe_bl)) pss_nil)
      (pss_cons (ps_for PassesOwn.never rfl (pi_tup (pe_ix (ix_tupK (K := K) rfl) (pv 3) pe_int (fun _ _ => rfl))) (pg_name (i := 4) sc__law_same.nd rfl (.inl rfl))
        (pss_one (ps_if (pw_or (pt_not (pt_val (pe_callB (call_isiK' (K := K) rfl) (by rfl) (f_isinstance T) bb_isinstance (pa_cons (pv 4) (pa_cons (pe_ty (f_int T) bb_int) pa_nil))))) (pw_or1 (pt_val (pe_callB (call_isiK' (K := K) rfl) (by rfl) (f_isinstance T) bb_isinstance (pa_cons (pv 4) (pa_cons (pe_ty (f_bool T) bb_bool) pa_nil)))))).pt
        (pss_one (ps_ret pe_bl)) pss_nil)))
      (pss_one (ps_if (pt_cmpR (op_neDK (K := K) rfl hr.units) (pe_ix (ix_tupK (K := K) rfl) (pv 3) pe_int (fun _ _ => rfl)) (pe_ix (ix_tupK (K := K) rfl) (pe_ix (ix_listK (K := K) rfl) (pv 1) (pv 2) (fun _ _ => rfl)) pe_int (fun _ _ => rfl)) (nomark _))
        (pss_one (ps_ret pe_bl)) pss_nil)))))))
      (pss_one (ps_ret pe_bl))))), ?_⟩
    walk_at "cl"
    walk_at "x"
    refine isi_tuple (.tup hp hxs) ?_
    refine ⟨_, rfl, ?_⟩
    refine iteF_of rfl ?_
    walk_at "x"
    refine v_lenT hp ?_
    walk_at "x"
    refine v_lenL hq ?_
    walk_at "x"
    refine if_bnot (fun c => absurd (by rw [hxl, hyl]) c) (fun _ => ?_)
    walk_at "x"
    refine v_lenL hq ?_
    rw [hyl]
    refine ⟨(L.length : Int), rfl, by omega, by omega, ?_⟩
    rw [Int.toNat_natCast]
    refine for_it walk_range (fun i σ' H' => (∃ y2 y3 y4, σ' = [some (.ref p), some (.ref q), y2, y3, y4]) ∧ Same H H') ?_ ?_ ?_ ?_
    · exact ⟨⟨_, _, _, rfl⟩, Same.refl _⟩
    · intros
      trivial
    · rintro i x σ' H1 H2 hi ⟨⟨y2, y3, y4, rfl⟩, hS⟩ ⟨rfl, hx⟩
      obtain rfl : x = .int (i : Nat) := hx.trans (congrArg V.int (by omega))
      obtain ⟨v, hv, dv⟩ := dpAll_at hxs hi
      obtain ⟨a, b, rfl, ha, hb⟩ := it_dp dv
      obtain ⟨v2, hv2, dv2⟩ := dpAll_at hys hi
      obtain ⟨a2, b2, rfl, ha2, hb2⟩ := it_dp dv2
      have ha := sqT_same hS ha
      have hb := sqT_same hS hb
      have ha2 := sqT_same hS ha2
      have hb2 := sqT_same hS hb2
      have hp := sqT_same hS hp
      have hq := sqL_same hS hq
      walk_at "y"
      refine v_ixT hp (atI_nat hv) ?_
      walk_at "y"
      refine isi_tuple (dp_same hS _ _ dv) ?_
      refine ⟨_, rfl, ?_⟩
      refine iteF_of rfl ?_
      walk_at "y"
      refine v_lenT ha ?_
      walk_at "y"
      refine if_bnot (fun c => absurd rfl c) (fun _ => ?_)
      walk_at "y"
      refine v_ixT ha (atI_nat (j := 0) rfl) ?_
      walk_at "y"
      refine isi_str (.str _) ?_
      walk_at "y"
      refine iteF_of rfl ?_
      walk_at "y"
      refine v_ixT ha (atI_nat (j := 1) rfl) ?_
      walk_at "y"
      refine isi_tuple (dp_nats hb) ?_
      refine ⟨_, rfl, ?_⟩
      refine iteF_of rfl ?_
      walk_at "y"
      refine v_ixT ha (atI_nat (j := 0) rfl) ?_
      walk_at "y"
      refine v_ixL hq (atI_nat hv2) ?_
      walk_at "y"
      refine v_ixT ha2 (atI_nat (j := 0) rfl) ?_
      walk_at "y"
      refine if_bnot (fun c => absurd rfl c) (fun _ => ?_)
      walk_at "y"
      refine v_ixT ha (atI_nat (j := 1) rfl) ?_
      walk_at "y"
      refine v_lenT hb ?_
      walk_at "y"
      refine v_ixL hq (atI_nat hv2) ?_
      walk_at "y"
      refine v_ixT ha2 (atI_nat (j := 1) rfl) ?_
      walk_at "y"
      refine v_lenT hb2 ?_
      walk_at "y"
      refine if_bnot (fun c => absurd rfl c) (fun _ => ?_)
      walk_at "x"
      refine v_ixT ha (atI_nat (j := 1) rfl) ?_
      refine ⟨b, rfl, ⟨_, hb⟩, ?_⟩
      refine for_it (walk_tup (xs := natV L[i].2)) (fun j σ' H' => (∃ y, σ' = [some (.ref p), some (.ref q), some (.int (i : Nat)), some (.ref a), y]) ∧ H' = H2) ?_ ?_ ?_ ?_
      · exact ⟨⟨_, rfl⟩, rfl⟩
      · rintro j σ' H' _ ⟨_, rfl⟩
        exact hb
      · rintro j x σ' H3 H4 hj ⟨⟨y, rfl⟩, rfl⟩ ⟨rfl, hx⟩
        rw [natV_len] at hj
        rw [natV_at' hj] at hx
        cases hx
        walk_at "y"
        refine isi_int (.int _) ?_
        walk_at "y"
        refine iteF_of rfl ?_
        walk_at "y"
        refine isi_bool (.int _) ?_
        walk_at "y"
        refine iteF_of rfl ?_
        walk_at "y"
        exact ⟨⟨_, rfl⟩, rfl⟩
      · rintro σ' H3 ⟨⟨y, rfl⟩, rfl⟩
        walk_at "y"
        refine v_ixT ha (atI_nat (j := 1) rfl) ?_
        walk_at "y"
        refine v_ixL hq (atI_nat hv2) ?_
        walk_at "y"
        refine v_ixT ha2 (atI_nat (j := 1) rfl) ?_
        refine ⟨_, _, dp_nats hb, dp_nats hb2, (shaped_ints _).1, (shaped_ints _).1, ?_⟩
        rw [show PyData.eqv (.tuple (plI L[i].2)) (.tuple (plI L[i].2)) = true from PySem.SeqAt.eqv_refl _ (SeqAt.canLay_of_shaped (shaped_ints _).1)]
        walk_at "y"
        refine iteF_of rfl ?_
        walk_at "y"
        exact ⟨⟨_, _, _, rfl⟩, hS⟩
    · rintro σ' H1 ⟨⟨y2, y3, y4, rfl⟩, hS⟩
      walk_at "y"
      exact k H1 hS
def spRf (K : PySem.W.Frag) : Sp := fun vs H Q _ => ∃ (a : Addr) (kd : Kd) (sa : Addr) (z : Str) (s : Src) (x : V) (d : PyData), vs = [.ref a, x] ∧ CutAt K H a kd sa z s ∧ Dp K H x d ∧ dBet 0 8 d = false ∧ SeqAt.shaped d = true ∧ ∀ H', Same H H' → Q (.bl true) H'
theorem ok__law_refused (T : Ev fa fx fn K mg base) : Dn P w K mg base 9 (He.ga K "_law_refused") ["made", "many"] (spRf K) := by
  refine dn_of (d__law_refused T) sc__law_refused bo__law_refused (fun vs H Q E h => ?_) (fun cdv A outer s0 H vs Q E hr h => ?_)
  · obtain ⟨a, kd, sa, z, s, x, d, rfl, _⟩ := h
    rfl
  · obtain ⟨a, kd, sa, z, s, x, d, rfl, hC, hx, hb, hsh, k⟩ := h
    refine ⟨_, (PSs.nox (pss_cons (ps_try_A rfl rfl sc__law_refused.nd takes0 (fun W pn xe tk _ => (pss_one (ps_expr (pe_dW (ok_marked_of_size T) (hr.mono (by decide)) (g_marked_of_size T) tk (pa_cons (pv 0) (pa_cons (pv 1) pa_nil)))))) (.cons ⟨rfl, by decide, .inl (g_InvalidNumber T)⟩ (i := 2) rfl rfl (fun a oe cls d pn hz hf => (pss_cons (ps_if (pw_or (pt_val (pe_callB (call_isX hz hf) (by rfl) (f_isinstance T) bb_isinstance (pa_cons (pv 2) (pa_cons (pe_cv (g_TooMany T)) pa_nil)))) (pw_or1 (pt_cmpR op_ne (pe_callB (call_isiK' (K := K) rfl) (by rfl) (f_isinstance T) bb_isinstance (pa_cons (pe_xf (exc_InvalidNumber T).xf (no_InvalidNumber_number T) hz hf (pv 2)) (pa_cons (pe_ty (f_bool T) bb_bool) pa_nil))) (pe_callB (call_isiK' (K := K) rfl) (by rfl) (f_isinstance T) bb_isinstance (pa_cons (pv 1) (pa_cons (pe_ty (f_bool T) bb_bool) pa_nil))) (nomark _)))).pt
        (pss_one (ps_ret pe_bl)) pss_nil)
      (pss_one (ps_ret (pe_cmpR (op_eqDK (K := K) rfl hr.units) (pe_xf (exc_InvalidNumber T).xf (no_InvalidNumber_number T) hz hf (pv 2)) (pv 1) (nomark _)))))) .nil))
      (pss_one (ps_ret pe_bl)))), ?_⟩
    walk_at "cl"
    walk_at "y"
    refine ⟨a, kd, sa, z, s, x, d, rfl, hC, hx, .inl ⟨hb, fun dd H' hS hdd => ?_⟩⟩
    refine ⟨true, exm_InvalidNumber_InvalidNumber T, fun _ e1 he => ?_, (fun h => by cases h)⟩
    have r1 := same_new (o := .xd [("number", x)]) hdd
    have g1 : upd H' dd (.xd [("number", x)]) dd = some (.xd [("number", x)]) := upd_same
    have hx1 := dp_same (hS.trans r1) _ _ hx
    walk_at "y"
    refine isx_own upd_same (exc_InvalidNumber T) (kit_InvalidNumber_TooMany T) ?_
    generalize upd H' dd (.xd [("number", x)]) = H1 at r1 g1 hx1
    refine ⟨_, rfl, ?_⟩
    refine iteF_of rfl ?_
    walk_at "y"
    refine ⟨rfl, rfl, dd, _, _, rfl, g1, rfl, ?_⟩
    walk_at "y"
    refine isi_bool hx1 ?_
    walk_at "y"
    refine isi_bool hx1 ?_
    walk_at "y"
    refine iteF_of (by simp) ?_
    walk_at "y"
    refine ⟨rfl, rfl, dd, _, _, rfl, g1, rfl, ?_⟩
    walk_at "y"
    refine ⟨_, _, hx1, hx1, hsh, hsh, ?_⟩
    rw [PySem.SeqAt.eqv_refl _ (SeqAt.canLay_of_shaped hsh)]
    exact k _ (hS.trans r1)
def spET (K : PySem.W.Frag) : Sp := fun vs H Q _ => ∃ (p a : Addr) (kd : Kd) (sa : Addr) (z : Str) (s : Src) (n : Nat), vs = [.ref p, .ref a, .int (n : Nat)] ∧ CutAt K H a kd sa z s ∧ PlainAt K H p kd z s ∧ n ≤ 8 ∧ ∀ H', Same H H' → Q (.bl true) H'
theorem mark_iff {z : Str} {kd : Kd} {s : Src} {t : PL.T} {r : List PL.T} {l : List Nat} (al : AlphaOk z 4) (hr : LRel z kd s t r) (hov : ∀ c ∈ t, c ∈ z.cps.toList) (hrow : (∀ u ∈ r, 1 ≤ u.length) ∧ r.flatten = t) : Mark z kd s (.tuple [.str (mkS t), .tuple (plI l)]) ↔ l = plc r := by
  have e : plO z kd s (mkS t).cps.toList = plc r := by
    rw [mkS_cps]
    unfold plO
    rw [rowOf_l hr]
  constructor
  · rintro ⟨t', e', _, _⟩
    injection e' with e'
    injection e' with e1 e'
    injection e' with e2 e'
    injection e1 with e1
    injection e2 with e2
    subst e1
    exact plI_inj (e2.trans (by rw [e]))
  · rintro rfl
    refine ⟨mkS t, by rw [e], by rw [mkS_cps]; exact hov, ?_⟩
    rw [e, mkS_cps]
    exact plc_bd hrow.1 hrow.2
theorem l_row {H : Hp} {sa : Addr} {z : Str} {kd : Kd} {s : Src} {t : PL.T} {r : List PL.T} (hs : SrcAt K H sa z s) (hg : goes kd s = true) (hov : ∀ c ∈ t, c ∈ z.cps.toList) (h : LRel z kd s t r) : (∀ u ∈ r, 1 ≤ u.length) ∧ r.flatten = t := by
  by_cases hf : kd = .fewest
  · subst hf
    cases s with
    | J ps => cases hg
    | C ws cs => cases hg
    | W ws =>
      have q := (show PL.IsTop (wl z ws) (prW z ws (List.replicate (allW z ws).length 1)) t r from h).1
      exact ⟨fun u hu => ((pcs_len hs).2.2 u (q.2 u hu)).1, q.1⟩
  · refine row_ne hs hov (kd := kd) ?_
    cases s <;> cases kd <;> first | exact h | exact absurd rfl hf
end

end K80

namespace K80
open PySem PySem.Spec L2 PH
open C8 (tCut pss_cut)
section
variable {P : Program} {w : World} {K : PySem.W.Frag} {mg : Str → Option Value} {base : Heap}
noncomputable def itO (z : Str) (kd : Kd) (s : Src) (t : PL.T) : Str × List Nat := (mkS t, plO z kd s t)
theorem mkD_it {z : Str} {kd : Kd} {s : Src} {L : List PL.T} : L.map (mkD z kd s) = (L.map (itO z kd s)).map itD := by
  rw [List.map_map]
  rfl
theorem row_short {t : PL.T} {r : List PL.T} (h : (∀ u ∈ r, 1 ≤ u.length) ∧ r.flatten = t) : r.length ≤ t.length :=
  PL.row_len (W := fun u => 1 ≤ u.length) (fun w hw e => by rw [e] at hw; cases hw) ⟨h.2, h.1⟩
theorem plc_len {r : List PL.T} : (plc r).length = r.length - 1 := by
  unfold plc
  rw [List.length_map, List.length_range]
theorem eqv_nats (a b : List Nat) : PyData.eqv (.tuple (plI a)) (.tuple (plI b)) = decide (a = b) := by
  rw [show PyData.eqv (.tuple (plI a)) (.tuple (plI b)) = decide ((a.map fun (n : Nat) => (n : Int)) = b.map fun (n : Nat) => (n : Int)) from PL.eqv_ints _ _]
  congr 1
  exact propext ⟨fun e => plI_inj (by unfold plI; rw [e]), fun e => by rw [e]⟩
theorem dp_tup {H : Hp} {v : V} {ds : List PyData} (h : Dp K H v (.tuple ds)) : ∃ p xs, v = .ref p ∧ SqT K H p xs ∧ DpAll K H xs ds := by
  cases h with
  | tup hs ha => exact ⟨_, _, rfl, hs, ha⟩
theorem ok__law_every_text (T : Ev fa fx fn K mg base) : Dn P w K mg base 9 (He.ga K "_law_every_text") ["cutter", "made", "many"] (spET K) := by
  refine dn_of (d__law_every_text T) sc__law_every_text bo__law_every_text (fun vs H Q E h => ?_) (fun cdv A outer s0 H vs Q E hr h => ?_)
  · obtain ⟨p, a, kd, sa, z, s, n, rfl, _⟩ := h
    rfl
  · obtain ⟨p, a, kd, sa, z, s, n, rfl, hC, hP, hn, k⟩ := h
    have ⟨⟨dx, fs, tq, a1, a2, a3, a4, a5, a6, a7⟩, hs, hg⟩ := hC
    have ⟨wp, cp, pp, p1, p2, p3, p4⟩ := hP
    have zhi := hs.al.hi
    have hTn := allT_small (n := n) zhi hn
    refine ⟨_, (PSs.nox (pss_cons (ps_set (i := 3) sc__law_every_text.nd rfl (.inl rfl) (pe_lst pa_nil))
      (pss_cons (ps_for PassesOwn.never rfl (pi_list (pe_d (ok__law_all_texts T) (hr.mono (by decide)) (g__law_all_texts T) passL (pa_cons (pe_ix (ix_listK (K := K) rfl) (pv 0) pe_int (fun _ _ => rfl)) (pa_cons (pv 2) pa_nil)))) (pg_name (i := 4) sc__law_every_text.nd rfl (.inl rfl))
        (pss_cons (ps_set (i := 5) sc__law_every_text.nd rfl (.inl rfl) (pe_d (ok__law_places T) (hr.mono (by decide)) (g__law_places T) passL (pa_cons (pe_d (ok__law_cut T) (hr.mono (by decide)) (g__law_cut T) passL (pa_cons (pv 0) (pa_cons (pv 4) pa_nil))) pa_nil)))
      (pss_cons (ps_expr (pe_bmK (K := K) rfl PySem.F.plainAttrs_list PySem.F.slot_list_append PySem.F.type_list_append mt_append (pv 3) (pa_cons (pe_tup (pa_cons (pv 4) (pa_cons (pv 5) pa_nil))) pa_nil)))
      (pss_one (ps_for PassesOwn.never rfl (pi_list (pe_d (ok__law_all_places T) (hr.mono (by decide)) (g__law_all_places T) passL (pa_cons (pe_callB (call_lenK (K := K) rfl) (by rfl) (f_len T) bb_len (pa_cons (pv 4) pa_nil)) pa_nil))) (pg_name (i := 6) sc__law_every_text.nd rfl (.inl rfl))
        (pss_cons (ps_set (i := 7) sc__law_every_text.nd rfl (.inl rfl) (pe_d (ok_is_marked T) (hr.mono (by decide)) (g_is_marked T) passL (pa_cons (pv 1) (pa_cons (pe_tup (pa_cons (pv 4) (pa_cons (pv 6) pa_nil))) pa_nil))))
      (pss_one (ps_if (pw_or (pt_not (pt_val (pe_callB (call_isiK' (K := K) rfl) (by rfl) (f_isinstance T) bb_isinstance (pa_cons (pv 7) (pa_cons (pe_ty (f_bool T) bb_bool) pa_nil))))) (pw_or1 (pt_cmpR op_ne (pv 7) (pe_cmpR (op_eqDK (K := K) rfl hr.units) (pv 6) (pv 5) (nomark _)) (nomark _)))).pt
        (pss_one (ps_ret pe_bl)) pss_nil))))))))
      (pss_one (ps_ret (pe_d (ok__law_same T) (hr.mono (by decide)) (g__law_same T) passL (pa_cons (pe_d (ok_marked_of_size T) (hr.mono (by decide)) (g_marked_of_size T) passL (pa_cons (pv 1) (pa_cons (pv 2) pa_nil))) (pa_cons (pv 3) pa_nil)))))))), ?_⟩
    walk_at "cl"
    walk_at "y"
    refine ⟨Nat.zero_le _, fun F hF => ?_⟩
    have r1 := same_new (o := .lst []) hF
    have g1 : upd H F (.lst []) F = some (.lst []) := upd_same
    generalize upd H F (.lst []) = H1 at r1 g1
    walk_at "x"
    refine v_ixL (v := .str z) (sqL_of (r1 _ _ p1)) (atI_nat (j := 1) rfl) ?_
    walk_at "x"
    refine ⟨z, n, rfl, zhi, hn, fun q H2 hS2 hq hqn => ?_⟩
    have nqF : q ≠ F := (ne_of_none g1 hqn).symm
    refine ⟨q, rfl, ⟨_, sqL_of hq⟩, ?_⟩
    refine for_it (walk_list (xs := rowV (allT z.cps.toList n))) (fun i σ' H' => (∃ y4 y5 y6 y7, σ' = [some (.ref p), some (.ref a), some (.int (n : Nat)), some (.ref F), y4, y5, y6, y7]) ∧ Same H H' ∧ H' q = some (.lst (rowV (allT z.cps.toList n))) ∧ ∃ xs, H' F = some (.lst xs) ∧ DpAll K (hid [F] H') xs ((((allT z.cps.toList n).take i).map (itO z kd s)).map itD)) ?_ ?_ ?_ ?_
    · exact ⟨⟨_, _, _, _, rfl⟩, r1.trans hS2, hq, [], hS2 _ _ g1, .nil⟩
    · rintro i σ' H' _ ⟨_, _, h, _⟩
      exact sqL_of h
    · rintro i x σ' H3 H4 hi ⟨⟨y4, y5, y6, y7, rfl⟩, hS3, hq3, xs, hF3, hx3⟩ ⟨rfl, hx⟩
      rw [rowV_len] at hi
      rw [rowV_at hi] at hx
      cases hx
      obtain ⟨htl, hov⟩ := allT_ok (List.getElem_mem hi)
      have hxl : xs.length = i := by
        rw [dpAll_length hx3, List.length_map, List.length_map, List.length_take]
        omega
      generalize htt : (allT z.cps.toList n)[i] = t at htl hov
      walk_at "y"
      refine ⟨p, kd, z, mkS t, s, rfl, hP.same hS3, hs.al, hs.ok, hg, by rw [mkS_cps]; omega, by rw [mkS_cps]; exact hov, fun q2 r H5 hS5 hq2 hr2 => ?_⟩
      rw [mkS_cps] at hr2
      have hrow := l_row hs hg hov hr2
      have hrl := row_short hrow
      have ero : itO z kd s t = (mkS t, plc r) := by
        unfold itO plO
        rw [rowOf_l hr2]
      walk_at "y"
      refine ⟨q2, r, rfl, sqL_of hq2, by omega, by rw [hrow.2]; omega, fun q5 H6 hS6 hq5 => ?_⟩
      have hS36 := hS5.trans hS6
      have hF6 := hS36 _ _ hF3
      walk_at "y"
      refine ⟨ty_list (sqL_of hF6), ?_⟩
      walk_at "y"
      refine ⟨small (show 2 ≤ 16000000 by decide), fun tp htp => ?_⟩
      have r7 := same_new (o := .tup [.str (mkS t), .ref q5]) htp
      have g7 : upd H6 tp (.tup [.str (mkS t), .ref q5]) tp = some (.tup [.str (mkS t), .ref q5]) := upd_same
      generalize upd H6 tp (.tup [.str (mkS t), .ref q5]) = H7 at r7 g7
      have hF7 := r7 _ _ hF6
      have hS37 := hS36.trans r7
      walk_at "y"
      refine v_append hF7 (smallL (by omega)) ?_
      walk_at "y"
      have hS8 : Same H (upd H7 F (.lst (xs ++ [.ref tp]))) := same_mut (hS3.trans hS37) hF
      have hF8 : upd H7 F (.lst (xs ++ [.ref tp])) F = some (.lst (xs ++ [.ref tp])) := upd_same
      have hq8 : upd H7 F (.lst (xs ++ [.ref tp])) q = some (.lst (rowV (allT z.cps.toList n))) := by
        rw [upd_ne nqF]
        exact hS37 _ _ hq3
      have hx8 : DpAll K (hid [F] (upd H7 F (.lst (xs ++ [.ref tp])))) (xs ++ [.ref tp]) ((((allT z.cps.toList n).take (i + 1)).map (itO z kd s)).map itD) := by
        rw [hid_in (by simp), List.take_add_one, List.getElem?_eq_getElem hi, List.map_append, List.map_append]
        refine dpAll_snoc (dpAll_same (hid_same hS37) _ _ hx3) ?_
        rw [htt, ero]
        exact .tup (sqT_hidL hF7 (sqT_of g7)) (.cons (.str _) (.cons (dp_nats (sqT_hidL hF7 (sqT_same r7 hq5))) .nil))
      have hr8 : SqT K (upd H7 F (.lst (xs ++ [.ref tp]))) q5 (natV (plc r)) := sqT_listed hF7 (sqT_same r7 hq5)
      generalize upd H7 F (.lst (xs ++ [.ref tp])) = H8 at hS8 hF8 hq8 hx8 hr8
      walk_at "x"
      refine v_lenS (small (by rw [tl_len, mkS_cps, htl]; omega)) ?_
      rw [tl_len, mkS_cps, htl]
      walk_at "x"
      refine ⟨n, rfl, hn, fun q3 ys H9 hS9 hq9 hys hqn9 => ?_⟩
      refine ⟨q3, rfl, ⟨_, sqL_of hq9⟩, ?_⟩
      refine for_it (walk_list (xs := ys)) (fun j σ' H' => (∃ y6 y7, σ' = [some (.ref p), some (.ref a), some (.int (n : Nat)), some (.ref F), some (.str (mkS t)), some (.ref q5), y6, y7]) ∧ Same H9 H') ?_ ?_ ?_ ?_
      · exact ⟨⟨_, _, rfl⟩, Same.refl _⟩
      · rintro j σ' H' _ ⟨_, h⟩
        exact sqL_of (h _ _ hq9)
      · rintro j x σ' Ha Hb hj ⟨⟨y6, y7, rfl⟩, hSa⟩ ⟨rfl, hx⟩
        obtain ⟨e, he, hxe⟩ := dpAll_get hys hx
        rw [List.getElem?_map] at he
        obtain ⟨l, hl, rfl⟩ := Option.map_eq_some_iff.mp he
        obtain ⟨bq, rfl, hbq⟩ := dp_plI (l := l) (dp_same (hid_sub.trans hSa) _ _ hxe)
        have hSH := hS8.trans (hS9.trans hSa)
        walk_at "y"
        refine ⟨small (show 2 ≤ 16000000 by decide), fun tp2 htp2 => ?_⟩
        have rb := same_new (o := .tup [.str (mkS t), .ref bq]) htp2
        have gb : upd Hb tp2 (.tup [.str (mkS t), .ref bq]) tp2 = some (.tup [.str (mkS t), .ref bq]) := upd_same
        generalize upd Hb tp2 (.tup [.str (mkS t), .ref bq]) = Hc at rb gb
        walk_at "y"
        refine ⟨a, kd, sa, z, s, .ref tp2, .tuple [.str (mkS t), .tuple (plI l)], rfl, hC.same (hSH.trans rb), .tup (sqT_of gb) (.cons (.str _) (.cons (dp_nats (sqT_same rb hbq)) .nil)), fun t' p' e' => ?_, fun b Hd hSd hb => ?_⟩
        · injection e' with e'
          injection e' with e1 e'
          injection e1 with e1
          rw [← e1, mkS_cps]
          omega
        rw [mark_iff hs.al hr2 hov hrow] at hb
        walk_at "y"
        refine isi_bool (.bl b) ?_
        walk_at "y"
        refine iteF_of rfl ?_
        walk_at "y"
        refine ⟨_, _, dp_nats (sqT_same (rb.trans hSd) hbq), dp_nats (sqT_same ((hS9.trans hSa).trans (rb.trans hSd)) hr8), (shaped_ints _).1, (shaped_ints _).1, ?_⟩
        rw [eqv_nats]
        walk_at "y"
        refine if_bnot (fun c => absurd (Bool.eq_iff_iff.mpr (by rw [hb, decide_eq_true_iff])) c) (fun _ => ?_)
        walk_at "y"
        exact ⟨⟨_, _, rfl⟩, hSa.trans (rb.trans hSd)⟩
      · rintro σ' Ha ⟨⟨y6, y7, rfl⟩, hSa⟩
        exact ⟨⟨_, _, _, _, rfl⟩, hS8.trans (hS9.trans hSa), (hS9.trans hSa) _ _ hq8, _, (hS9.trans hSa) _ _ hF8, dpAll_same (hid_same (hS9.trans hSa)) _ _ hx8⟩
    · rintro σ' H3 ⟨⟨y4, y5, y6, y7, rfl⟩, hS3, hq3, xs, hF3, hx3⟩
      rw [rowV_len, List.take_length] at hx3
      walk_at "y"
      refine ⟨a, kd, sa, z, s, .int (n : Nat), .int (n : Nat), rfl, hC.same hS3, .int _, .inr ⟨n, rfl, hn, fun q4 H4 hS4 hq4 _ => ?_⟩⟩
      obtain ⟨p4', ys, e4, hp4, hys⟩ := dp_tup hq4
      cases e4
      rw [mkD_it] at hys
      walk_at "y"
      exact ⟨_, F, ys, xs, (allT z.cps.toList n).map (itO z kd s), rfl, hp4, hys, sqL_of (hS4 _ _ hF3), dpAll_same (hid_sub.trans hS4) _ _ hx3, by rw [List.length_map]; omega, fun H5 hS5 => k _ (hS3.trans (hS4.trans hS5))⟩
end

end K80

namespace K80
open PySem PySem.Spec L2 PH
open C8 (tCut pss_cut)
section
variable {P : Program} {w : World} {K : PySem.W.Frag} {mg : Str → Option Value} {base : Heap}
theorem call_list_ofK {X : Cx} {K : PySem.W.Frag} (h : X.K = K) : CallR X (.type "list") (fun xs H Q => ∃ p ys, xs = [V.ref p] ∧ (SqL K H p ys ∨ SqT K H p ys) ∧ ∀ l, H l = none → Q (.ref l) (upd H l (.lst ys))) := by
  subst h
  exact call_list_of
/-- what a source may be made of -/
def SrcSt (z : Str) : Src → Prop
  | .J ps => Steps z ps ∧ PsOk z ps
  | .W ws => FurtherOk z 10 6 ws
  | .C ws cs => FurtherOk z 10 6 ws ∧ cs.length = (allW z ws).length ∧ ∀ c ∈ cs, 1 ≤ c ∧ c ≤ 9
theorem goes_W {kd : Kd} (h1 : kd ≠ .joins) (h2 : kd ≠ .best) (ws : List Str) : goes kd (.W ws) = true := by
  cases kd <;> first | rfl | exact absurd rfl h1 | exact absurd rfl h2
def spDn (K : PySem.W.Frag) : Sp := fun vs H Q _ => ∃ (b l : Addr) (z : Str) (kd : Kd), vs = [.ref b, .str z, .str kd.nm, .int 4, .int 4] ∧ BagAt H b l ∧ AlphaOk z 4 ∧
  ∀ (p : Addr) (s : Src) (H' : Hp), PlainAt K H' p kd z s → SrcSt z s → goes kd s = true → BagAt H' b l → Same (hid [b] H) (hid [b] H') → Q (.ref p) H'
theorem ok__law_drawn (T : Ev fa fx fn K mg base) : Dn P w K mg base 3 (He.ga K "_law_drawn") ["bag", "letters", "kind", "most", "longest"] (spDn K) := by
  refine dn_of (d__law_drawn T) sc__law_drawn bo__law_drawn (fun vs H Q E h => ?_) (fun cdv A outer s H vs Q E hr h => ?_)
  · obtain ⟨b, l, z, kd, rfl, _⟩ := h
    rfl
  · obtain ⟨b, l, z, kd, rfl, hB, al, k⟩ := h
    have zlo := al.lo
    have zh := al.hi
    refine ⟨_, (PSs.nox (pss_cons (ps_if (pt_cmpR op_eq (pv 2) pe_str (nomark _))
        (pss_cons (ps_set (i := 5) sc__law_drawn.nd rfl (.inl rfl) (pe_d (ok__law_pairs T) (hr.mono (by decide)) (g__law_pairs T) passL (pa_cons (pv 0) (pa_cons (pv 1) (pa_cons (pv 3) (pa_cons (pv 4) pa_nil))))))
      (pss_one (ps_ret (pe_lst (pa_cons (pv 2) (pa_cons (pv 1) (pa_cons (pe_d (ok__law_texts T) (hr.mono (by decide)) (g__law_texts T) passL (pa_cons (pv 1) (pa_cons (pv 5) pa_nil))) (pa_cons (pe_lst pa_nil) (pa_cons (pv 5) pa_nil))))))))) pss_nil)
      (pss_cons (ps_set (i := 6) sc__law_drawn.nd rfl (.inl rfl) (pe_op op_cat (pe_lc (own := [("sign", 7)]) rfl sc__law_drawn.nd (pi_str (pv 1)) (blkOk_by (own := [("sign", 7)]) (N := ["bag", "letters", "kind", "most", "longest", "pairs", "words", "sign", "costs", "word"]) (sc := defScope s__law_drawn) (by decide +kernel)) (fun _ _ _ _ _ => (pg_name (i := 7) sc__law_drawn.nd rfl (.inl rfl))) (fun _ _ _ _ _ => pts_nil) (fun _ _ _ _ _ => (pv 7))) (pe_d (ok__law_further T) (hr.mono (by decide)) (g__law_further T) passL (pa_cons (pv 0) (pa_cons (pv 1) (pa_cons (pv 3) (pa_cons (pv 4) pa_nil)))))))
      (pss_cons (ps_setLc (i := 8) (own := [("word", 9)]) rfl sc__law_drawn.nd rfl rfl (sw_true rfl rfl rfl (by decide +kernel)) (pi_list (pv 6)) (blkOk_by (own := [("word", 9)]) (N := ["bag", "letters", "kind", "most", "longest", "pairs", "words", "sign", "costs", "word"]) (sc := defScope s__law_drawn) (by decide +kernel)) (fun _ _ _ _ _ => (pg_name (i := 9) sc__law_drawn.nd rfl (.inl rfl))) (fun _ _ _ _ _ => pts_nil) (fun _ _ _ _ _ => (pe_op op_add pe_int (pe_d (ok__law_draw T) (hr.mono (by decide)) (g__law_draw T) passL (pa_cons (pv 0) (pa_cons pe_int pa_nil))))))
      (pss_cut (ps_if (pt_cmpR op_eq (pv 2) pe_str (nomark _))
        (pss_one (ps_setLc (i := 8) (own := [("word", 9)]) rfl sc__law_drawn.nd rfl rfl (sw_true rfl rfl rfl (by decide +kernel)) (pi_list (pv 6)) (blkOk_by (own := [("word", 9)]) (N := ["bag", "letters", "kind", "most", "longest", "pairs", "words", "sign", "costs", "word"]) (sc := defScope s__law_drawn) (by decide +kernel)) (fun _ _ _ _ _ => (pg_name (i := 9) sc__law_drawn.nd rfl (.inl rfl))) (fun _ _ _ _ _ => pts_nil) (fun _ _ _ _ _ => pe_int))) pss_nil)
      (pss_one (ps_ret (pe_lst (pa_cons (pv 2) (pa_cons (pv 1) (pa_cons (pv 6) (pa_cons (pv 8) (pa_cons (pe_lst pa_nil) pa_nil))))))))))))), ?_⟩
    walk_at "cl"
    walk_at "y"
    by_cases hk : kd = .joins
    · subst hk
      refine if_dec_t (by decide +kernel) ?_
      walk_at "y"
      refine ⟨b, l, z, 4, 4, rfl, hB, al, by decide, by decide, by decide, fun q ps xs H1 hqn hst po hq hP hB1 hS1 => ?_⟩
      walk_at "y"
      refine ⟨q, z, ps, xs, rfl, po, sqL_of hq, hP, fun q2 H2 hqn2 hS2 hq2 => ?_⟩
      walk_at "y"
      refine ⟨Nat.zero_le _, fun e he => ?_⟩
      have r1 := same_new (o := .lst []) he
      generalize upd H2 e (.lst []) = H3 at r1
      walk_at "y"
      refine ⟨small (show 5 ≤ 16000000 by decide), fun p hp => ?_⟩
      have r2 := same_new (o := .lst [.str Kd.joins.nm, .str z, .ref q2, .ref e, .ref q]) hp
      have g2 : upd H3 p (.lst [.str Kd.joins.nm, .str z, .ref q2, .ref e, .ref q]) p = some (.lst [.str Kd.joins.nm, .str z, .ref q2, .ref e, .ref q]) := upd_same
      have r12 := r1.trans r2
      exact k p (.J ps) _ ⟨q2, e, q, g2, r12 _ _ hq2, (fun h => by cases h <;> rename_i h <;> cases h), fun ps0 h => by cases h; exact ⟨xs, (hS2.trans r12) _ _ hq, hP.same (hS2.trans r12)⟩⟩ ⟨hst, po⟩ rfl (hB1.same (hS2.trans r12)) (hS1.trans (hid_same (hS2.trans r12)))
    · refine if_dec_f (by cases kd <;> first | exact absurd rfl hk | decide +kernel) ?_
      walk_at "y"
      refine ⟨z, rfl, fun D hD => ?_⟩
      have ezl : z.cps.size = z.cps.toList.length := by simp
      refine lc_it (walk_str (z := z)) (fun j H' => Same H H' ∧ H' D = some (.lst (((z.cps.toList.map s1).take j).map V.str))) ?_ ?_ ?_ ?_
      · exact ⟨same_new hD, upd_same⟩
      · intros
        trivial
      · rintro j x H5 H6 hj ⟨h5, hd5⟩ ⟨rfl, c, hc, rfl⟩
        have hc : z.cps.toList[j]? = some c := by rw [Array.getElem?_toList]; exact hc
        walk_at "y"
        refine ⟨rfl, ?_⟩
        walk_at "y"
        refine ⟨_, hd5, smallL (by simp at zh ⊢; omega), same_mut h5 hD, ?_⟩
        rw [upd_same, List.take_add_one, List.getElem?_map, hc, List.map_append]
        rfl
      rintro H5 ⟨h5, hd5⟩
      have e5 : (z.cps.toList.map s1).take z.cps.size = z.cps.toList.map s1 := List.take_of_length_le (by simp)
      rw [e5] at hd5
      have nDb := (hB.ne hD).1
      have hB5 := hB.same h5
      walk_at "y"
      refine ⟨b, l, z, 4, 4, rfl, hB5, al, by decide, by decide, by decide, fun fl ws H6 hfl0 fu0 hfl hB6 hS6 => ?_⟩
      have fu : FurtherOk z 10 6 ws := ⟨fun x hx => ⟨(fu0.ok x hx).lo, by have := (fu0.ok x hx).hi; omega, (fu0.ok x hx).ov⟩, fu0.nd, by have := fu0.few; omega⟩
      have hfew := fu.few
      have hd6 := hid_get hS6 hd5 (by simpa using nDb)
      walk_at "y"
      refine ⟨D, fl, _, _, rfl, rfl, hd6, hfl, small (by simp at zh ⊢; omega), fun wl' hwl0 => ?_⟩
      have eW : (z.cps.toList.map s1).map V.str ++ ws.map V.str = rowV (wl z ws) := by
        rw [← wl_str]
        unfold allW
        rw [List.map_append]
      rw [eW]
      have r7 := same_new (o := .lst (rowV (wl z ws))) hwl0
      have hwl7 : upd H6 wl' (.lst (rowV (wl z ws))) wl' = some (.lst (rowV (wl z ws))) := upd_same
      have nwb := (hB6.ne hwl0).1
      have hB7 := hB6.new (o := .lst (rowV (wl z ws))) hwl0
      generalize upd H6 wl' (.lst (rowV (wl z ws))) = H7 at r7 hwl7 hB7
      have hS7 : Same (hid [b] H) (hid [b] H7) := (hid_same h5).trans (hS6.trans (hid_same r7))
      have hwn : (allW z ws).length ≤ 14 ∧ 1 ≤ (allW z ws).length := by
        unfold allW
        simp at zh zlo ⊢
        omega
      have hwll : (wl z ws).length = (allW z ws).length := wl_len
      walk_at "y"
      refine ⟨wl', rfl, ⟨_, sqL_of hwl7⟩, fun cl hcl0 => ?_⟩
      obtain ⟨ncb, ncl⟩ := hB7.ne hcl0
      refine lc_it (walk_list (xs := rowV (wl z ws))) (fun j H' => ∃ cs : List Int, cs.length = j ∧ (∀ c ∈ cs, 1 ≤ c ∧ c ≤ 9) ∧ H' cl = some (.lst (cs.map V.int)) ∧ BagAt H' b l ∧ Same (PH.hid [b] H7) (PH.hid [b] H')) ?_ ?_ ?_ ?_
      · exact ⟨[], rfl, (fun c hc => by cases hc), upd_same, hB7.new hcl0, hsame_mut hsame_refl hcl0⟩
      · rintro j H' _ ⟨_, _, _, _, _, h⟩
        exact sqL_of (hid_get h hwl7 (by simpa using nwb))
      · rintro j x H8 H9 hj ⟨cs, hcl, hbd, hd8, hB8, hS8⟩ ⟨rfl, hx⟩
        rw [rowV_len] at hj
        walk_at "y"
        refine ⟨rfl, ?_⟩
        walk_at "y"
        refine draw_step hB8 (by decide) (by decide) fun q H9 hq hB9 hS9 => ?_
        walk_at "y"
        have hd9 := hid_get hS9 hd8 (by simpa using ncb)
        refine ⟨_, hd9, smallL (by simp; omega), cs ++ [1 + (q : Int)], by simp [hcl], fun c hc => ?_, by rw [upd_same, List.map_append]; rfl, hB9.mut ncb ncl, hsame_mut (hS8.trans hS9) hcl0⟩
        rcases List.mem_append.mp hc with hc | hc
        · exact hbd c hc
        · rw [List.mem_singleton.mp hc]
          omega
      rintro H8 ⟨cs, hcn, hbd, hcl8, hB8, hS8⟩
      rw [rowV_len, hwll] at hcn
      have hwl8 := hid_get hS8 hwl7 (by simpa using nwb)
      have hS08 := hS7.trans hS8
      walk_at "y"
      refine v_cut (fun σ' H' => ∃ (cl : Addr) (cs : List Int), σ' = [some (.ref b), some (.str z), some (.str kd.nm), some (.int 4), some (.int 4), none, some (.ref wl'), none, some (.ref cl), none] ∧ cs.length = (allW z ws).length ∧ (∀ c ∈ cs, 1 ≤ c ∧ c ≤ 9) ∧ (kd = .fewest → cs = List.replicate (allW z ws).length 1) ∧ H' cl = some (.lst (cs.map V.int)) ∧ H' wl' = some (.lst (rowV (wl z ws))) ∧ BagAt H' b l ∧ Same (hid [b] H) (hid [b] H')) ?_ ?_
      · walk_at "y"
        by_cases hf : kd = .fewest
        · subst hf
          refine if_dec_t (by decide +kernel) ?_
          walk_at "y"
          refine ⟨wl', rfl, ⟨_, sqL_of hwl8⟩, fun cd hcd => ?_⟩
          refine lc_it (walk_list (xs := rowV (wl z ws))) (fun j H' => Same H8 H' ∧ H' cd = some (.lst ((List.replicate j (1 : Int)).map V.int))) ?_ ?_ ?_ ?_
          · exact ⟨same_new hcd, upd_same⟩
          · rintro j H' _ ⟨h, _⟩
            exact sqL_of (h _ _ hwl8)
          · rintro j x H9 H10 hj ⟨hS9, hd9⟩ ⟨rfl, hx⟩
            rw [rowV_len] at hj
            walk_at "y"
            refine ⟨rfl, ?_⟩
            walk_at "y"
            refine ⟨_, hd9, smallL (by rw [List.length_map, List.length_replicate]; omega), same_mut hS9 hcd, ?_⟩
            rw [upd_same, List.replicate_succ', List.map_append]
            rfl
          · rintro H9 ⟨hS9, hd9⟩
            rw [rowV_len, hwll] at hd9
            walk_at "y"
            exact ⟨cd, _, rfl, List.length_replicate, ones_bd, fun _ => rfl, hd9, hS9 _ _ hwl8, hB8.same hS9, hS08.trans (hid_same hS9)⟩
        · refine if_dec_f (by cases kd <;> first | exact absurd rfl hf | decide +kernel) ?_
          walk_at "y"
          exact ⟨cl, cs, rfl, hcn, hbd, fun h => absurd h hf, hcl8, hwl8, hB8, hS08⟩
      · rintro σ' H9 ⟨cl, cs, rfl, hcn, hbd, hone, hcl9, hwl9, hB9, hS9⟩
        walk_at "y"
        refine ⟨Nat.zero_le _, fun e he => ?_⟩
        have r1 := same_new (o := .lst []) he
        generalize upd H9 e (.lst []) = Ha at r1
        walk_at "y"
        refine ⟨small (show 5 ≤ 16000000 by decide), fun p hp => ?_⟩
        have r2 := same_new (o := .lst [.str kd.nm, .str z, .ref wl', .ref cl, .ref e]) hp
        have g2 : upd Ha p (.lst [.str kd.nm, .str z, .ref wl', .ref cl, .ref e]) p = some (.lst [.str kd.nm, .str z, .ref wl', .ref cl, .ref e]) := upd_same
        have r12 := r1.trans r2
        by_cases hbt : kd = .best
        · subst hbt
          exact k p (.C ws cs) _ ⟨wl', cl, e, g2, r12 _ _ hwl9, (fun _ => r12 _ _ hcl9), fun ps0 h => by cases h⟩ ⟨fu, hcn, hbd⟩ rfl (hB9.same r12) (hS9.trans (hid_same r12))
        · exact k p (.W ws) _ ⟨wl', cl, e, g2, r12 _ _ hwl9, (fun h => by
            rcases h with h | h
            · have e := hone h
              subst e
              exact r12 _ _ hcl9
            · exact absurd h hbt), fun ps0 h => by cases h⟩ fu (goes_W hk hbt ws) (hB9.same r12) (hS9.trans (hid_same r12))
theorem prs_two_dp {H : Hp} {b : Addr} {ys : List V} (hb : H b = some (.lst ys)) {M : List Addr} : ∀ {xs : List V} {ps : List PL.Pr}, DpAll K (hid M H) xs (ps.map prD) → DpAll K (hid M (hid [b] H)) xs (ps.map prD)
  | _, [], h => by
    cases h
    exact .nil
  | _, p :: ps, h => by
    rw [List.map_cons] at h ⊢
    cases h with
    | cons h1 h2 =>
      refine .cons ?_ (prs_two_dp hb h2)
      unfold prD at h1 ⊢
      cases h1 with
      | tup hs ha =>
        cases ha with
        | cons a1 ha =>
          cases ha with
          | cons a2 ha =>
            cases a1
            cases a2
            cases ha
            exact .tup (sqT_two hb hs) (.cons (.int _) (.cons (.int _) .nil))
theorem JoinsX.hidD {H : Hp} {a dx tp rp np b : Addr} {z : Str} {ps : List PL.Pr} {ys : List V} (hb : H b = some (.lst ys)) (hne : ys ≠ rowV (tbl z ps)) (h : JoinsX K H a dx tp rp np z ps) : JoinsX K (hid [b] H) a dx tp rp np z ps := by
  obtain ⟨po, ne, ⟨fs, pp, xs, lg, h1, h2, h3, h4, h5, h6, h7, h8, h8', h9, h10, h11⟩, ht, ⟨rk, r1, r2⟩, ⟨kvs, hn1, hn2⟩⟩ := h
  have one : ∀ {q : Addr} {o : HO}, H q = some o → o ≠ .lst ys → hid [b] H q = some o := fun {q o} e ho => hid_at e fun hm => by
    rw [List.mem_singleton.mp hm, hb] at e
    exact ho (Option.some.inj e).symm
  refine ⟨po, ne, ⟨fs, pp, xs, lg, one h1 (fun e => nomatch e), h2, h3, h4, h5, h6, h7, h8, h8', h9, sqT_two hb h10, prs_two_dp hb h11⟩, one ht (fun e => ?_), ⟨rk, one r1 (fun e => nomatch e), r2⟩, ⟨kvs, one hn1 (fun e => nomatch e), hn2⟩⟩
  injection e with e
  exact hne e.symm
theorem CutAt.hidS {H : Hp} {D a : Addr} {kd : Kd} {sa : Addr} {z : Str} {s : Src} {ys : List V} (hD : H D = some (.lst ys)) (hs : SrcAt K (hid [D] H) sa z s) (h : CutAt K H a kd sa z s) : CutAt K (hid [D] H) a kd sa z s := by
  obtain ⟨⟨dx, fs, tq, h1, h2, h3, h4, h5, h6, h7⟩, h8, h9⟩ := h
  exact ⟨⟨dx, fs, tq, hid_at h1 (fun hm => by rw [List.mem_singleton.mp hm, hD] at h1; cases h1), h2, h3, h4, h5, h6, sqT_two hD h7⟩, hs, h9⟩
theorem one_lst {G : Hp} {p : Addr} {ys : List V} (h : G p = some (.lst ys)) : ∀ m ∈ [p], ∃ xs, G m = some (.lst xs) := fun m hm => by
  obtain rfl := List.mem_singleton.mp hm
  exact ⟨_, h⟩
theorem drop_wl {z : Str} {ws : List Str} : (rowV (wl z ws)).drop z.cps.toList.length = ws.map V.str := by
  rw [← wl_str]
  unfold allW
  rw [List.map_append, List.drop_left' (by rw [List.length_map, List.length_map])]
def spMd (K : PySem.W.Frag) : Sp := fun vs H Q _ => ∃ (p : Addr) (kd : Kd) (z : Str) (s : Src), vs = [.ref p] ∧ PlainAt K H p kd z s ∧ AlphaOk z 4 ∧ SrcSt z s ∧ goes kd s = true ∧
  ∀ (a sa : Addr) (H' : Hp), Same H H' → CutAt K H' a kd sa z s → Q (.ref a) H'
theorem ok__law_made (T : Ev fa fx fn K mg base) : Dn P w K mg base 7 (He.ga K "_law_made") ["cutter"] (spMd K) := by
  refine dn_of (d__law_made T) sc__law_made bo__law_made (fun vs H Q E h => ?_) (fun cdv A outer s H vs Q E hr h => ?_)
  · obtain ⟨p, kd, z, s, rfl, _⟩ := h
    rfl
  · obtain ⟨p, kd, z, s, rfl, ⟨wp, cp, pp, p1, p2, p3, p4⟩, al, hst, hg, k⟩ := h
    have zlo := al.lo
    have zh := al.hi
    refine ⟨_, (PSs.nox (pss_cons (ps_set (i := 1) sc__law_made.nd rfl (.inl rfl) (pe_ix (ix_listK (K := K) rfl) (pv 0) pe_int (fun _ _ => rfl)))
      (pss_cons (ps_if (pt_cmpR op_eq (pe_ix (ix_listK (K := K) rfl) (pv 0) pe_int (fun _ _ => rfl)) pe_str (nomark _))
        (pss_cons (ps_setLc (i := 2) (own := [("pair", 3)]) rfl sc__law_made.nd rfl rfl (sw_true rfl rfl rfl (by decide +kernel)) (pi_list (pe_ix (ix_listK (K := K) rfl) (pv 0) pe_int (fun _ _ => rfl))) (blkOk_by (own := [("pair", 3)]) (N := ["cutter", "letters", "pairs", "pair", "made", "further", "words", "costs", "priced"]) (sc := defScope s__law_made) (by decide +kernel)) (fun _ _ _ _ _ => (pg_name (i := 3) sc__law_made.nd rfl (.inl rfl))) (fun _ _ _ _ _ => pts_nil) (fun _ _ _ _ _ => (pe_callTy (call_list_ofK (K := K) rfl) (by rfl) (f_list T) bb_list (pa_cons (pv 3) pa_nil))))
      (pss_cons (ps_set (i := 4) sc__law_made.nd rfl (.inl rfl) (pe_mk' (ok_Cutter___init__ T) (mkr_Cutter T) (hr.mono (by decide)) (g_Cutter T) passL (pa_cons pe_str (pa_cons (pe_mk' (ok_Joins___init__ T) (mkr_Joins T) (hr.mono (by decide)) (g_Joins T) passL (pa_cons (pv 1) (pa_cons (pv 2) pa_nil))) pa_nil))))
      (pss_cons (ps_expr (pe_bmK (K := K) rfl PySem.F.plainAttrs_list PySem.F.slot_list_append PySem.F.type_list_append mt_append (pv 2) (pa_cons (pe_lst (pa_cons pe_int (pa_cons pe_int pa_nil))) pa_nil)))
      (pss_one (ps_ret (pv 4)))))) pss_nil)
      (pss_cons (ps_set (i := 5) sc__law_made.nd rfl (.inl rfl) (pe_callTy call_list_of (by rfl) (f_list T) bb_list (pa_cons (pe_slice sl_list (pe_ix (ix_listK (K := K) rfl) (pv 0) pe_int (fun _ _ => rfl)) (po_some (pe_callB (call_lenK (K := K) rfl) (by rfl) (f_len T) bb_len (pa_cons (pv 1) pa_nil))) po_none) pa_nil)))
      (pss_cons (ps_set (i := 6) sc__law_made.nd rfl (.inl rfl) (pe_mk' (ok_Words___init__ T) (mkr_Words T) (hr.mono (by decide)) (g_Words T) passL (pa_cons (pv 1) (pa_cons (pv 5) pa_nil))))
      (pss_cons (ps_expr (pe_bmK (K := K) rfl PySem.F.plainAttrs_list PySem.F.slot_list_append PySem.F.type_list_append mt_append (pv 5) (pa_cons (pe_ix ix_str (pv 1) pe_int (fun _ _ => rfl)) pa_nil)))
      (pss_cons (ps_if (pt_cmpR op_ne (pe_ix (ix_listK (K := K) rfl) (pv 0) pe_int (fun _ _ => rfl)) pe_str (nomark _))
        (pss_one (ps_ret (pe_mk' (ok_Cutter___init__ T) (mkr_Cutter T) (hr.mono (by decide)) (g_Cutter T) passL (pa_cons (pe_ix (ix_listK (K := K) rfl) (pv 0) pe_int (fun _ _ => rfl)) (pa_cons (pv 6) pa_nil))))) pss_nil)
      (pss_cons (ps_set (i := 7) sc__law_made.nd rfl (.inl rfl) (pe_callTy call_list_of (by rfl) (f_list T) bb_list (pa_cons (pe_ix (ix_listK (K := K) rfl) (pv 0) pe_int (fun _ _ => rfl)) pa_nil)))
      (pss_cons (ps_set (i := 8) sc__law_made.nd rfl (.inl rfl) (pe_mk' (ok_Costs___init__ T) (mkr_Costs T) (hr.mono (by decide)) (g_Costs T) passL (pa_cons (pv 6) (pa_cons (pv 7) pa_nil))))
      (pss_cons (ps_asg (pe_op op_sub pe_int (pe_ix (ix_listK (K := K) rfl) (pv 7) pe_int (fun _ _ => rfl))) (pg_sub (pv 7) pe_int set_list))
      (pss_one (ps_ret (pe_mk' (ok_Cutter___init__ T) (mkr_Cutter T) (hr.mono (by decide)) (g_Cutter T) passL (pa_cons pe_str (pa_cons (pv 8) pa_nil))))))))))))))), ?_⟩
    walk_at "cl"
    walk_at "y"
    have wcase : ∀ ws : List Str, (s = .W ws ∨ ∃ cs, s = .C ws cs) → kd ≠ .joins := fun ws h e => by
      subst e
      rcases h with rfl | ⟨cs, rfl⟩ <;> cases hg
    cases s with
    | J ps =>
      cases kd <;> first | (exact absurd hg Bool.false_ne_true) | skip
      obtain ⟨hst, po⟩ := (show Steps z ps ∧ PsOk z ps from hst)
      have ten := hst.2.1
      obtain ⟨xs, hx1, hP⟩ := p4 ps rfl
      have hxl := hP.1
      refine if_dec_t (by decide +kernel) ?_
      walk_at "y"
      refine ⟨pp, rfl, ⟨_, sqL_of hx1⟩, fun D hD => ?_⟩
      refine lc_it (walk_list (xs := xs)) (fun n H' => Same H H' ∧ ∃ ys, H' D = some (.lst ys) ∧ ys.length = n ∧ ∀ i (hi : i < n) (hp : i < ps.length), ∃ q, ys[i]? = some (.ref q) ∧ H' q = some (.lst (prV ps[i]))) ?_ ?_ ?_ ?_
      · exact ⟨same_new hD, [], upd_same, rfl, fun i hi => by omega⟩
      · rintro n H' _ ⟨h, _⟩
        exact sqL_of (h _ _ hx1)
      · rintro n y H5 H6 hn ⟨hS5, ys, hd5, hyl, hys⟩ ⟨rfl, hy⟩
        obtain ⟨q, hq1, hq2⟩ := hP.2 n (by omega)
        rw [hq1] at hy
        cases hy
        have hq6 := hS5 _ _ hq2
        walk_at "y"
        refine ⟨rfl, ?_⟩
        walk_at "y"
        refine ⟨q, _, rfl, .inr (sqT_of hq6), fun l1 hl1 => ?_⟩
        have r2 := same_new (o := .lst (prV ps[n])) hl1
        have g2 : upd H6 l1 (.lst (prV ps[n])) l1 = some (.lst (prV ps[n])) := upd_same
        generalize upd H6 l1 (.lst (prV ps[n])) = H7 at r2 g2
        have nDl : D ≠ l1 := ne_of_none hd5 hl1
        refine ⟨ys, r2 _ _ hd5, smallL (by omega), same_mut (hS5.trans r2) hD, _, upd_same, by rw [List.length_append, hyl]; rfl, fun i hi hp => ?_⟩
        by_cases e : i < n
        · obtain ⟨q', e1, e2⟩ := hys i e hp
          have nq : q' ≠ D := fun e' => by
            rw [e', hd5] at e2
            injection e2 with e2
            injection e2 with e2
            rw [e2] at e1
            unfold prV at e1
            rcases i with _ | _ | i
            · cases e1
            · cases e1
            · cases e1
          refine ⟨q', by rw [List.getElem?_append_left (by omega)]; exact e1, ?_⟩
          rw [upd_ne nq]
          exact r2 _ _ e2
        · have e' : i = n := by omega
          subst e'
          refine ⟨l1, by rw [List.getElem?_append_right (by omega), hyl, Nat.sub_self]; rfl, ?_⟩
          rw [upd_ne nDl.symm]
          exact g2
      rintro H5 ⟨hS5, ys, hd5, hyl, hys⟩
      walk_at "y"
      intro y dy hy hdy hney
      have m2 : Same H5 (upd (upd H5 dy (.own y)) y (.ins (He.ga K "Joins") dy [])) := same_upd (same_new hdy) (by rw [upd_ne (Ne.symm hney)]; exact hy)
      refine ⟨y, dy, D, z, ps, ys, rfl, upd_same, sqL_of (m2 _ _ hd5), by omega, (fun i x1 pr hx1 hpr => ?_), hst, fun G2 hJ hSj => ⟨rfl, ?_⟩⟩
      · obtain ⟨hi, e⟩ := List.getElem?_eq_some_iff.mp hpr
        obtain ⟨q, e1, e2⟩ := hys i (by omega) hi
        rw [e1] at hx1
        cases hx1
        rw [e] at e2
        exact ⟨q, rfl, .inl (sqL_of (m2 _ _ e2))⟩
      have s2 := make_same hSj hy hdy hney
      walk_at "y"
      intro x dx hx hdx hnex
      have m1 : Same G2 (upd (upd G2 dx (.own x)) x (.ins (He.ga K "Cutter") dx [])) := same_upd (same_new hdx) (by rw [upd_ne (Ne.symm hnex)]; exact hx)
      have m1h : Same G2 (hid [x] (upd (upd G2 dx (.own x)) x (.ins (He.ga K "Cutter") dx []))) := fun q o hq => hid_at (m1 q o hq) (by simpa using ne_of_none hq hx)
      refine ⟨x, dx, .str "joins", .ref y, .str "joins", rfl, upd_same, .str _, .inr ⟨.joins, rfl, .inr ⟨y, z, .J ps, rfl, JoinsAt.same m1h hJ, rfl, fun G3 hC hSc => ⟨rfl, ?_⟩⟩⟩⟩
      have s3 := make_same hSc hx hdx hnex
      have hd3 := (s2.trans s3) _ _ hd5
      walk_at "y"
      refine ⟨ty_list (sqL_of hd3), ?_⟩
      walk_at "y"
      refine ⟨small (show 2 ≤ 16000000 by decide), fun e he => ?_⟩
      have r4 := same_new (o := .lst [.int 0, .int 0]) he
      generalize upd G3 e (.lst [.int 0, .int 0]) = G4 at r4
      have hd4 := r4 _ _ hd3
      walk_at "y"
      refine v_append hd4 (smallL (by omega)) ?_
      walk_at "y"
      have hyne : ys ≠ rowV (tbl z ps) := fun e => by
        have hl := tbl_len (z := z) (ps := ps)
        have e2 := congrArg List.length e
        rw [rowV_len] at e2
        omega
      have hJ4 : SrcAt K (hid [D] G4) y z (.J ps) := by
        obtain ⟨dx', tp, rp, np, hJ⟩ := JoinsAt.same (s3.trans r4) hJ
        exact ⟨dx', tp, rp, np, hJ.hidD hd4 hyne⟩
      have hC4 := CutAt.hidS hd4 hJ4 (hC.same r4)
      refine k x y _ (same_mut (hS5.trans (s2.trans (s3.trans r4))) hD) (CutAt.same hid_sub (?_ : CutAt K (hid [D] _) x .joins y z (.J ps)))
      rw [hid_in (by simp)]
      exact hC4
    | W ws =>
      have fu : FurtherOk z 10 6 ws := hst
      have hkj := wcase ws (.inl rfl)
      have hkb : kd ≠ .best := fun e => by subst e; cases hg
      refine if_dec_f (by cases kd <;> first | exact absurd rfl hkj | decide +kernel) ?_
      walk_at "y"
      refine v_lenS (small (by rw [tl_len]; omega)) ?_
      rw [tl_len]
      refine ⟨_, rfl, ?_⟩
      refine ⟨wp, _, rfl, sqL_of p2, fun a1 ha1 => ?_⟩
      rw [cut_drop, show (rowV (pcs z (.W ws))).drop z.cps.toList.length = ws.map V.str from drop_wl]
      have r1 := same_new (o := .lst (ws.map V.str)) ha1
      have g1 : upd H a1 (.lst (ws.map V.str)) a1 = some (.lst (ws.map V.str)) := upd_same
      generalize upd H a1 (.lst (ws.map V.str)) = H1 at r1 g1
      refine ⟨a1, ws.map V.str, rfl, .inl (sqL_of g1), fun hd hhd => ?_⟩
      have r2 := same_new (o := .lst (ws.map V.str)) hhd
      have ghd : upd H1 hd (.lst (ws.map V.str)) hd = some (.lst (ws.map V.str)) := upd_same
      have hhd0 := none_same r1 hhd
      generalize upd H1 hd (.lst (ws.map V.str)) = H2 at r2 ghd
      walk_at "y"
      intro x dx hx hdx hne
      have m1 : Same H2 (upd (upd H2 dx (.own x)) x (.ins (He.ga K "Words") dx [])) := same_upd (same_new hdx) (by rw [upd_ne (Ne.symm hne)]; exact hx)
      refine ⟨x, dx, z, hd, ws, rfl, upd_same, .inl (sqL_of (m1 _ _ ghd)), al, fu, fun G1 hW1 hL1 hSw => ⟨rfl, ?_⟩⟩
      have s1' := make_same hSw hx hdx hne
      have ghd1 := s1' _ _ ghd
      have few := fu.few
      walk_at "y"
      refine ⟨ty_list (sqL_of ghd1), ?_⟩
      walk_at "y"
      refine v_ixS (c := z.cps.toList[0]) (small (by rw [tl_len]; omega)) (atI_nat (j := 0) (List.getElem?_eq_getElem (by omega))) ?_
      walk_at "y"
      refine v_append ghd1 (smallL (by rw [List.length_map]; omega)) ?_
      walk_at "y"
      have hM := one_lst ghd1
      have hW2 := hW1.hidL hM
      have hL2 := hL1.hidL hM
      have rG : Same H (upd G1 hd (.lst (ws.map V.str ++ [.str ⟨#[z.cps.toList[0]]⟩]))) := same_mut (r1.trans (r2.trans s1')) hhd0
      rw [← (hid_in (H := G1) (o := .lst (ws.map V.str ++ [.str ⟨#[z.cps.toList[0]]⟩])) (by simp) : hid [hd] (upd G1 hd _) = _)] at hW2 hL2
      have hW2 := hW2.same hid_sub
      have hL2 := hL2.same hid_sub
      generalize upd G1 hd (.lst (ws.map V.str ++ [.str ⟨#[z.cps.toList[0]]⟩])) = G2 at rG hW2 hL2
      have p1' := rG _ _ p1
      walk_at "y"
      refine if_bnot (fun c => ?_) (fun c => by cases kd <;> first | exact absurd rfl hkj | exact absurd rfl hkb | exact absurd c (by decide +kernel))
      walk_at "y"
      intro x2 dx2 hx2 hdx2 hne2
      have m2 : Same G2 (upd (upd G2 dx2 (.own x2)) x2 (.ins (He.ga K "Cutter") dx2 [])) := same_upd (same_new hdx2) (by rw [upd_ne (Ne.symm hne2)]; exact hx2)
      have m2h : Same G2 (hid [x2] (upd (upd G2 dx2 (.own x2)) x2 (.ins (He.ga K "Cutter") dx2 []))) := fun q o hq => hid_at (m2 q o hq) (by simpa using ne_of_none hq hx2)
      refine ⟨x2, dx2, .str kd.nm, .ref x, .str kd.nm, rfl, upd_same, .str _, .inr ⟨kd, rfl, .inr ⟨x, z, .W ws, rfl, SrcAt.same m2h ⟨hW2, hL2⟩, goes_W hkj hkb ws, fun G3 hC hSc => ⟨rfl, ?_⟩⟩⟩⟩
      have s3 := make_same hSc hx2 hdx2 hne2
      exact k x2 x _ (rG.trans s3) hC
    | C ws cs =>
      obtain ⟨fu, hcn, hbd⟩ := (show FurtherOk z 10 6 ws ∧ cs.length = (allW z ws).length ∧ ∀ c ∈ cs, 1 ≤ c ∧ c ≤ 9 from hst)
      cases kd <;> first | (exact absurd hg Bool.false_ne_true) | skip
      have hcp : H cp = some (.lst (cs.map V.int)) := p3 (.inr rfl)
      refine if_dec_f (by decide +kernel) ?_
      walk_at "y"
      refine v_lenS (small (by rw [tl_len]; omega)) ?_
      rw [tl_len]
      refine ⟨_, rfl, ?_⟩
      refine ⟨wp, _, rfl, sqL_of p2, fun a1 ha1 => ?_⟩
      rw [cut_drop, show (rowV (pcs z (.C ws cs))).drop z.cps.toList.length = ws.map V.str from drop_wl]
      have r1 := same_new (o := .lst (ws.map V.str)) ha1
      have g1 : upd H a1 (.lst (ws.map V.str)) a1 = some (.lst (ws.map V.str)) := upd_same
      generalize upd H a1 (.lst (ws.map V.str)) = H1 at r1 g1
      refine ⟨a1, ws.map V.str, rfl, .inl (sqL_of g1), fun hd hhd => ?_⟩
      have r2 := same_new (o := .lst (ws.map V.str)) hhd
      have ghd : upd H1 hd (.lst (ws.map V.str)) hd = some (.lst (ws.map V.str)) := upd_same
      have hhd0 := none_same r1 hhd
      generalize upd H1 hd (.lst (ws.map V.str)) = H2 at r2 ghd
      walk_at "y"
      intro x dx hx hdx hne
      have m1 : Same H2 (upd (upd H2 dx (.own x)) x (.ins (He.ga K "Words") dx [])) := same_upd (same_new hdx) (by rw [upd_ne (Ne.symm hne)]; exact hx)
      refine ⟨x, dx, z, hd, ws, rfl, upd_same, .inl (sqL_of (m1 _ _ ghd)), al, fu, fun G1 hW1 hL1 hSw => ⟨rfl, ?_⟩⟩
      have s1' := make_same hSw hx hdx hne
      have ghd1 := s1' _ _ ghd
      have few := fu.few
      walk_at "y"
      refine ⟨ty_list (sqL_of ghd1), ?_⟩
      walk_at "y"
      refine v_ixS (c := z.cps.toList[0]) (small (by rw [tl_len]; omega)) (atI_nat (j := 0) (List.getElem?_eq_getElem (by omega))) ?_
      walk_at "y"
      refine v_append ghd1 (smallL (by rw [List.length_map]; omega)) ?_
      walk_at "y"
      have hM := one_lst ghd1
      have hW2 := hW1.hidL hM
      have hL2 := hL1.hidL hM
      have rG : Same H (upd G1 hd (.lst (ws.map V.str ++ [.str ⟨#[z.cps.toList[0]]⟩]))) := same_mut (r1.trans (r2.trans s1')) hhd0
      rw [← (hid_in (H := G1) (o := .lst (ws.map V.str ++ [.str ⟨#[z.cps.toList[0]]⟩])) (by simp) : hid [hd] (upd G1 hd _) = _)] at hW2 hL2
      have hW2 := hW2.same hid_sub
      have hL2 := hL2.same hid_sub
      generalize upd G1 hd (.lst (ws.map V.str ++ [.str ⟨#[z.cps.toList[0]]⟩])) = G2 at rG hW2 hL2
      have p1' := rG _ _ p1
      walk_at "y"
      refine if_bnot (fun c => absurd rfl c) (fun c => ?_)
      walk_at "y"
      refine ⟨cp, cs.map V.int, rfl, .inl (sqL_of (rG _ _ hcp)), fun hc hhc => ?_⟩
      have r7 := same_new (o := .lst (cs.map V.int)) hhc
      have ghc : upd G2 hc (.lst (cs.map V.int)) hc = some (.lst (cs.map V.int)) := upd_same
      generalize upd G2 hc (.lst (cs.map V.int)) = H7 at r7 ghc
      walk_at "y"
      intro u du hu hdu hneu
      have m3 : Same H7 (upd (upd H7 du (.own u)) u (.ins (He.ga K "Costs") du [])) := same_upd (same_new hdu) (by rw [upd_ne (Ne.symm hneu)]; exact hu)
      refine ⟨u, du, .ref x, .ref hc, rfl, upd_same, .inr ⟨x, z, ws, .list (cs.map .int), rfl, hW2.same (r7.trans m3), .lst (sqL_of (m3 _ _ ghc)) (dpAll_ints cs), .inl ⟨cs, ⟨.inl rfl, hcn, hbd⟩, fun E1 hC1 hSy => ⟨rfl, ?_⟩⟩⟩⟩
      have s3 := make_same hSy hu hdu hneu
      have ghc3 := s3 _ _ ghc
      have hwn : 1 ≤ (allW z ws).length := by
        unfold allW
        simp at zlo ⊢
        omega
      obtain ⟨c0, cr, rfl⟩ : ∃ c0 cr, cs = c0 :: cr := by
        cases cs with
        | nil => simp at hcn; omega
        | cons c0 cr => exact ⟨c0, cr, rfl⟩
      walk_at "y"
      have hC2 : SrcAt K (hid [hc] E1) u z (.C ws (c0 :: cr)) := by
        have hM := one_lst ghc3
        exact ⟨x, hC1.hidL hM, (hL2.same (r7.trans s3)).hidL hM⟩
      have hC3 : ∀ o, SrcAt K (upd E1 hc o) u z (.C ws (c0 :: cr)) := fun o => by
        have e : hid [hc] (upd E1 hc o) = hid [hc] E1 := hid_in (by simp)
        rw [← e] at hC2
        exact hC2.same hid_sub
      have hS3 : ∀ o, Same H (upd E1 hc o) := fun o => same_mut (rG.trans (r7.trans s3)) (none_same rG hhc)
      refine v_ixL (v := .int c0) (sqL_of ghc3) (atI_nat (j := 0) rfl) ?_
      walk_at "y"
      refine v_setL ghc3 (j := 0) ?_ ?_
      · exact ixN_nat' (j := 0) (by rw [List.length_map]; exact Nat.succ_pos _)
      walk_at "y"
      intro x2 dx2 hx2 hdx2 hne2
      generalize hu4 : upd E1 hc _ = G4 at hx2 hdx2
      have hC4 : SrcAt K G4 u z (.C ws (c0 :: cr)) := hu4 ▸ hC3 _
      have hS4 : Same H G4 := hu4 ▸ hS3 _
      have m2 : Same G4 (upd (upd G4 dx2 (.own x2)) x2 (.ins (He.ga K "Cutter") dx2 [])) := same_upd (same_new hdx2) (by rw [upd_ne (Ne.symm hne2)]; exact hx2)
      have m2h : Same G4 (hid [x2] (upd (upd G4 dx2 (.own x2)) x2 (.ins (He.ga K "Cutter") dx2 []))) := fun q o hq => hid_at (m2 q o hq) (by simpa using ne_of_none hq hx2)
      refine ⟨x2, dx2, .str "best", .ref u, .str "best", rfl, upd_same, .str _, .inr ⟨.best, rfl, .inr ⟨u, z, .C ws (c0 :: cr), rfl, SrcAt.same m2h hC4, rfl, fun G5 hC hSc => ⟨rfl, ?_⟩⟩⟩⟩
      have s5 := make_same hSc hx2 hdx2 hne2
      exact k x2 u _ (hS4.trans s5) hC
end

end K80

namespace K80
open PySem PySem.Spec L2 PH
open C8 (tCut pss_cut)
section
variable {P : Program} {w : World} {K : PySem.W.Frag} {mg : Str → Option Value} {base : Heap}
theorem plc_lt {r : List PL.T} (hne : ∀ u ∈ r, 1 ≤ u.length) {i j : Nat} {a b : Nat} (hij : i < j) (ha : (plc r)[i]? = some a) (hb : (plc r)[j]? = some b) : a < b := by
  unfold plc at ha hb
  rw [List.getElem?_map] at ha hb
  obtain ⟨i', hi, rfl⟩ := Option.map_eq_some_iff.mp ha
  obtain ⟨j', hj, rfl⟩ := Option.map_eq_some_iff.mp hb
  obtain ⟨hi1, rfl⟩ := List.getElem?_eq_some_iff.mp hi
  obtain ⟨hj1, rfl⟩ := List.getElem?_eq_some_iff.mp hj
  rw [List.length_range] at hi1 hj1
  rw [List.getElem_range, List.getElem_range]
  have e : (r.take (j + 1)) = r.take (i + 1) ++ (r.take (j + 1)).drop (i + 1) := by
    have q := (List.take_append_drop (i + 1) (r.take (j + 1))).symm
    rw [List.take_take, Nat.min_eq_left (by omega)] at q
    exact q
  rw [e, List.flatten_append, List.length_append]
  have h1 : 1 ≤ ((r.take (j + 1)).drop (i + 1)).flatten.length := by
    cases hd : (r.take (j + 1)).drop (i + 1) with
    | nil =>
      have := congrArg List.length hd
      rw [List.length_drop, List.length_take] at this
      simp at this
      omega
    | cons u q =>
      rw [List.flatten_cons, List.length_append]
      have := hne u (List.mem_of_mem_take (List.mem_of_mem_drop (by rw [hd]; simp)))
      omega
  omega
/-- values that are marked texts of nothing -/
def Bad (z : Str) (kd : Kd) (s : Src) (d : PyData) : Prop := ¬ Mark z kd s d ∧ ∀ t p, d = .tuple [.str t, p] → t.cps.toList.length ≤ 100
theorem bad_form {z : Str} {kd : Kd} {s : Src} {d : PyData} (h : ∀ t ps, d ≠ .tuple [.str t, .tuple ps]) (h2 : ∀ t p, d = .tuple [.str t, p] → t.cps.toList.length ≤ 100) : Bad z kd s d := ⟨fun ⟨t, e, _⟩ => h t _ e, h2⟩
theorem bad_not {z : Str} {kd : Kd} {s : Src} {d : PyData} (h : ∀ t p, d ≠ .tuple [.str t, p]) : Bad z kd s d := bad_form (fun t ps => h t _) fun t p e => absurd e (h t p)
theorem bad_text {z : Str} {kd : Kd} {s : Src} {t : PL.T} {p : PyData} (ht : t.length ≤ 100) (h : ∀ ps, p ≠ .tuple ps) : Bad z kd s (.tuple [.str (mkS t), p]) := bad_form (fun t' ps e => by
  injection e with e
  injection e with _ e
  injection e with e _
  exact h ps e) fun t' p' e => by
  injection e with e
  injection e with e _
  injection e with e
  rw [← e, mkS_cps]
  exact ht
theorem bad_places {z : Str} {kd : Kd} {s : Src} {t : PL.T} {r : List PL.T} {es : List PyData} (hr : LRel z kd s t r) (ht : t.length ≤ 100) (h : es ≠ plI (plc r)) : Bad z kd s (.tuple [.str (mkS t), .tuple es]) := by
  refine ⟨fun ⟨t', e, _⟩ => ?_, fun t' p' e => ?_⟩
  · injection e with e
    injection e with e1 e
    injection e with e2 e
    injection e1 with e1
    injection e2 with e2
    subst e1
    refine h (e2.trans ?_)
    rw [mkS_cps]
    unfold plO
    rw [rowOf_l hr]
  · injection e with e
    injection e with e _
    injection e with e
    rw [← e, mkS_cps]
    exact ht
theorem plI_len (l : List Nat) : (plI l).length = l.length := by
  unfold plI
  rw [List.length_map, List.length_map]
theorem plI_head {l : List Nat} {d : PyData} {es : List PyData} (h : d :: es = plI l) : ∃ n : Nat, d = .int (n : Nat) := by
  cases l with
  | nil => cases h
  | cons n l =>
    injection h with h _
    exact ⟨n, h⟩
theorem bad_foreign {z : Str} {kd : Kd} {s : Src} {t : PL.T} {c : Nat} {p : PyData} (ht : t.length ≤ 99) (hc : c ∉ z.cps.toList) : Bad z kd s (.tuple [.str (mkS t ++ s1 c), p]) := by
  rw [mkS_snoc]
  refine ⟨fun ⟨t', e, ho, _⟩ => ?_, fun t' p' e => ?_⟩
  · injection e with e
    injection e with e _
    injection e with e
    subst e
    rw [mkS_cps] at ho
    exact hc (ho c (by simp))
  · injection e with e
    injection e with e _
    injection e with e
    rw [← e, mkS_cps, List.length_append]
    show _ + 1 ≤ 100
    omega
/-- the bad ones in a list that is made on the way -/
def BadL (K : PySem.W.Frag) (H : Hp) (u : Addr) (z : Str) (kd : Kd) (s : Src) (n : Nat) : Prop := ∃ xs ds, H u = some (.lst xs) ∧ DpAll K (hid [u] H) xs ds ∧ (∀ d ∈ ds, Bad z kd s d) ∧ xs.length ≤ n
theorem BadL.same {H H' : Hp} {u : Addr} {z : Str} {kd : Kd} {s : Src} {n : Nat} (e : Same H H') (h : BadL K H u z kd s n) : BadL K H' u z kd s n := by
  obtain ⟨xs, ds, h1, h2, h3, h4⟩ := h
  exact ⟨xs, ds, e _ _ h1, dpAll_same (hid_same e) _ _ h2, h3, h4⟩
/-- a new list of them -/
theorem BadL.new {H : Hp} {u : Addr} {z : Str} {kd : Kd} {s : Src} {n : Nat} {xs : List V} {ds : List PyData} (hu : H u = none) (h : DpAll K H xs ds) (hb : ∀ d ∈ ds, Bad z kd s d) (hl : xs.length ≤ n) : BadL K (upd H u (.lst xs)) u z kd s n :=
  ⟨xs, ds, upd_same, dpAll_same (fun a o ha => by rw [hid_in (by simp)]; exact hid_at ha (by simpa using ne_of_none ha hu)) _ _ h, hb, hl⟩
/-- two lists of them together -/
theorem BadL.cat {H : Hp} {u v : Addr} {z : Str} {kd : Kd} {s : Src} {n m : Nat} (h1 : BadL K H u z kd s n) (h2 : BadL K H v z kd s m) {Q : VK} (hn : n + m ≤ 1000) (q : ∀ p H', Same H H' → H p = none → BadL K H' p z kd s (n + m) → Q (.ref p) H') : rCat (.ref u) (.ref v) H Q := by
  obtain ⟨xs, ds, a1, a2, a3, a4⟩ := h1
  obtain ⟨ys, es, b1, b2, b3, b4⟩ := h2
  refine ⟨u, v, xs, ys, rfl, rfl, a1, b1, small (by omega), fun p hp => q p _ (same_new hp) hp ?_⟩
  refine BadL.new hp (dpAll_append (dpAll_same hid_sub _ _ a2) (dpAll_same hid_sub _ _ b2)) (fun d hd => ?_) (by rw [List.length_append]; omega)
  rcases List.mem_append.mp hd with hd | hd
  · exact a3 d hd
  · exact b3 d hd
theorem dpN {H : Hp} (l : List Nat) : DpAll K H (natV l) (plI l) := by
  rw [natV_int]
  exact dpAll_ints _
theorem plI_ne {a b : List Nat} (h : a.length ≠ b.length) : plI a ≠ plI b := fun e => h (by rw [plI_inj e])
/-- one more behind -/
theorem BadL.push {H : Hp} {u p q : Addr} {z : Str} {kd : Kd} {s : Src} {n : Nat} {x : Str} {ys : List V} {es : List PyData} (h : BadL K H u z kd s n) (hp : SqT K H p [.str x, .ref q]) (hq : SqT K H q ys) (hy : ∀ H, DpAll K H ys es) (hb : Bad z kd s (.tuple [.str x, .tuple es])) :
    ∃ xs, H u = some (.lst xs) ∧ xs.length ≤ n ∧ BadL K (upd H u (.lst (xs ++ [.ref p]))) u z kd s (n + 1) := by
  obtain ⟨xs, ds, a1, a2, a3, a4⟩ := h
  refine ⟨xs, a1, a4, xs ++ [.ref p], ds ++ [.tuple [.str x, .tuple es]], upd_same, ?_, fun d hd => ?_, by rw [List.length_append]; show _ + 1 ≤ _; omega⟩
  · rw [hid_in (by simp)]
    exact dpAll_snoc a2 (.tup (sqT_hidL a1 hp) (.cons (.str _) (.cons (.tup (sqT_hidL a1 hq) (hy _)) .nil)))
  · rcases List.mem_append.mp hd with hd | hd
    · exact a3 d hd
    · rw [List.mem_singleton.mp hd]
      exact hb
def signsV (x : Str) : List V := x.cps.toList.map fun c => .str ⟨#[c]⟩
def signsD (x : Str) : List PyData := x.cps.toList.map fun c => .str ⟨#[c]⟩
theorem dp_signs {H : Hp} (x : Str) : DpAll K H (signsV x) (signsD x) := by
  have e1 : signsV x = (x.cps.toList.map fun c => (⟨#[c]⟩ : Str)).map V.str := by unfold signsV; rw [List.map_map]; rfl
  have e2 : signsD x = (x.cps.toList.map fun c => (⟨#[c]⟩ : Str)).map PyData.str := by unfold signsD; rw [List.map_map]; rfl
  rw [e1, e2]
  exact dpAll_strs _
theorem v_catG {H : Hp} {Q : VK} {c q : Addr} {xs ys : List V} (hc : SqT K H c xs) (hq : SqT K H q ys) (hl : xs.length + ys.length ≤ sizeLine) (h : ∀ p H', Same H H' → SqT K H' p (xs ++ ys) → Q (.ref p) H') : rCatA K (.ref c) (.ref q) H Q := by
  refine ⟨c, q, _, _, rfl, rfl, hc, hq, hl, fun he => ?_, fun _ he => ?_, fun _ _ c2 hc2 => ?_⟩
  · refine h q H (Same.refl _) ?_
    rw [he]
    exact hq
  · refine h c H (Same.refl _) ?_
    rw [he, List.append_nil]
    exact hc
  · exact h c2 _ (same_new hc2) (sqT_of upd_same)
theorem cut_lastD (xs : List V) : cutV xs (some (-1)) none = xs.drop (xs.length - 1) := by
  unfold cutV
  have e : HT.sIx xs.length 0 (some (-1)) = xs.length - 1 := by
    show (if (-1 : Int) < 0 then ((-1 : Int) + (xs.length : Int)).toNat else min (-1 : Int).toNat xs.length) = xs.length - 1
    rw [if_pos (by decide)]
    omega
  rw [HT.sIx_none, e, List.take_of_length_le (by rw [List.length_drop]; omega)]
theorem natV_drop (l : List Nat) (k : Nat) : (natV l).drop k = natV (l.drop k) := by
  unfold natV
  rw [List.map_drop]
theorem natV_take (l : List Nat) (k : Nat) : (natV l).take k = natV (l.take k) := by
  unfold natV
  rw [List.map_take]
theorem natV_app (a b : List Nat) : natV a ++ natV b = natV (a ++ b) := by
  unfold natV
  rw [List.map_append]
theorem plI_app (a b : List Nat) : plI a ++ plI b = plI (a ++ b) := by
  unfold plI
  rw [List.map_append, List.map_append]
theorem abcde_at {n : Nat} (h1 : 1 ≤ n) (h2 : n ≤ 4) : ∃ c, (Str.ofString "abcde").cps.toList[n]? = some c := by
  have e : (Str.ofString "abcde").cps.toList = [97, 98, 99, 100, 101] := by decide +kernel
  rw [e]
  exact ⟨_, List.getElem?_eq_getElem (by simp; omega)⟩
def spNn (K : PySem.W.Frag) : Sp := fun vs H Q _ => ∃ (p a q : Addr) (kd : Kd) (sa : Addr) (z : Str) (s : Src) (t : PL.T) (r : List PL.T), vs = [.ref p, .ref a, .str (mkS t), .ref q] ∧ CutAt K H a kd sa z s ∧ PlainAt K H p kd z s ∧ SqT K H q (natV (plc r)) ∧ LRel z kd s t r ∧ (∀ c ∈ t, c ∈ z.cps.toList) ∧ 1 ≤ t.length ∧ t.length ≤ 90 ∧
  ∀ H', Same H H' → Q (.bl true) H'
theorem ok__law_none (T : Ev fa fx fn K mg base) : Dn P w K mg base 9 (He.ga K "_law_none") ["cutter", "made", "text", "right"] (spNn K) := by
  refine dn_of (d__law_none T) sc__law_none bo__law_none (fun vs H Q E h => ?_) (fun cdv A outer s0 H vs Q E hr h => ?_)
  · obtain ⟨p, a, q, kd, sa, z, s, t, r, rfl, _⟩ := h
    rfl
  · obtain ⟨p, a, q, kd, sa, z, s, t, r, rfl, hC, hP, hq, hlr, hov, htl1, htl90, k⟩ := h
    have ⟨⟨dx, fs, tq, a1, a2, a3, a4, a5, a6, a7⟩, hs, hg⟩ := hC
    have ⟨wp, cp, pp, p1, p2, p3, p4⟩ := hP
    have zlo := hs.al.lo
    have zhi := hs.al.hi
    have hrow := l_row hs hg hov hlr
    have hrl := row_short hrow
    have htl : t.length ≤ 100 := by omega
    obtain ⟨l, hl⟩ : ∃ l, l = plc r := ⟨_, rfl⟩
    rw [← hl] at hq
    have hll : l.length + 1 ≤ 100 := by rw [hl, plc_len]; omega
    refine ⟨_, (PSs.nox (pss_cons (ps_set (i := 4) sc__law_none.nd rfl (.inl rfl) (pe_callB (call_lenK (K := K) rfl) (by rfl) (f_len T) bb_len (pa_cons (pv 2) pa_nil)))
      (pss_cons (ps_set (i := 5) sc__law_none.nd rfl (.inl rfl) (pe_lst (pa_cons (pv 2) (pa_cons pe_non (pa_cons pe_bl (pa_cons pe_int (pa_cons (pe_tup pa_nil) (pa_cons (pe_tup (pa_cons (pv 2) pa_nil)) (pa_cons (pe_lst (pa_cons (pv 2) (pa_cons (pv 3) pa_nil))) (pa_cons (pe_tup (pa_cons (pv 2) (pa_cons (pe_callTy call_list_of (by rfl) (f_list T) bb_list (pa_cons (pv 3) pa_nil)) pa_nil))) (pa_cons (pe_tup (pa_cons (pv 2) (pa_cons (pv 3) (pa_cons (pv 3) pa_nil)))) (pa_cons (pe_tup (pa_cons (pv 3) (pa_cons (pv 2) pa_nil))) pa_nil))))))))))))
      (pss_cons (ps_set (i := 5) sc__law_none.nd rfl (.inl rfl) (pe_op op_cat (pv 5) (pe_lst (pa_cons (pe_tup (pa_cons (pv 2) (pa_cons (pe_op op_catA (pv 3) (pe_tup (pa_cons (pv 4) pa_nil))) pa_nil))) (pa_cons (pe_tup (pa_cons (pv 2) (pa_cons (pe_op op_catA (pe_tup (pa_cons pe_int pa_nil)) (pv 3)) pa_nil))) (pa_cons (pe_tup (pa_cons (pv 2) (pa_cons pe_non pa_nil))) (pa_cons (pe_tup (pa_cons (pv 2) (pa_cons (pv 2) pa_nil))) (pa_cons (pe_tup (pa_cons (pe_callTy (cr_list_str rfl) (by rfl) (f_list T) bb_list (pa_cons (pv 2) pa_nil)) (pa_cons (pv 3) pa_nil))) pa_nil))))))))
      (pss_cut (ps_if (pt_cmpR op_notIn_sign (pe_ix ix_str pe_str (pe_callB (call_lenK (K := K) rfl) (by rfl) (f_len T) bb_len (pa_cons (pe_ix (ix_listK (K := K) rfl) (pv 0) pe_int (fun _ _ => rfl)) pa_nil)) (fun _ _ => rfl)) (pe_ix (ix_listK (K := K) rfl) (pv 0) pe_int (fun _ _ => rfl)) rfl)
        (pss_one (ps_expr (pe_bmK (K := K) rfl PySem.F.plainAttrs_list PySem.F.slot_list_append PySem.F.type_list_append mt_append (pv 5) (pa_cons (pe_tup (pa_cons (pe_op op_add_str (pv 2) (pe_ix ix_str pe_str (pe_callB (call_lenK (K := K) rfl) (by rfl) (f_len T) bb_len (pa_cons (pe_ix (ix_listK (K := K) rfl) (pv 0) pe_int (fun _ _ => rfl)) pa_nil)) (fun _ _ => rfl))) (pa_cons (pe_op op_catA (pv 3) (pe_tup (pa_cons (pv 4) pa_nil))) pa_nil))) pa_nil)))) pss_nil)
      (pss_cut (ps_if (pt_cmpR op_gt (pe_callB (call_lenK (K := K) rfl) (by rfl) (f_len T) bb_len (pa_cons (pv 3) pa_nil)) pe_int (nomark _))
        (pss_one (ps_set (i := 5) sc__law_none.nd rfl (.inl rfl) (pe_op op_cat (pv 5) (pe_lst (pa_cons (pe_tup (pa_cons (pv 2) (pa_cons (pe_op op_catA (pv 3) (pe_slice sl_tupA (pv 3) (po_some (pe_un un_neg pe_int)) po_none)) pa_nil))) (pa_cons (pe_tup (pa_cons (pv 2) (pa_cons (pe_slice sl_tupA (pv 3) po_none (po_some (pe_un un_neg pe_int))) pa_nil))) (pa_cons (pe_tup (pa_cons (pv 2) (pa_cons (pe_op op_catA (pe_tup (pa_cons (pe_callTy call_str_int (by rfl) (f_str T) bb_str (pa_cons (pe_ix (ix_tupK (K := K) rfl) (pv 3) pe_int (fun _ _ => rfl)) pa_nil)) pa_nil)) (pe_slice sl_tupA (pv 3) (po_some pe_int) po_none)) pa_nil))) pa_nil))))))) pss_nil)
      (pss_cut (ps_if (pt_cmpR op_gt (pe_callB (call_lenK (K := K) rfl) (by rfl) (f_len T) bb_len (pa_cons (pv 3) pa_nil)) pe_int (nomark _))
        (pss_one (ps_expr (pe_bmK (K := K) rfl PySem.F.plainAttrs_list PySem.F.slot_list_append PySem.F.type_list_append mt_append (pv 5) (pa_cons (pe_tup (pa_cons (pv 2) (pa_cons (pe_callTy call_tuple_of (by rfl) (f_tuple T) bb_tuple (pa_cons (pe_lc (own := [("k", 6)]) rfl sc__law_none.nd (pi_range1 rfl (f_range T) (pa_cons (pe_callB (call_lenK (K := K) rfl) (by rfl) (f_len T) bb_len (pa_cons (pv 3) pa_nil)) pa_nil)) (blkOk_by (own := [("k", 6)]) (N := ["cutter", "made", "text", "right", "size", "ones", "k", "one"]) (sc := defScope s__law_none) (by decide +kernel)) (fun _ _ _ _ _ => (pg_name (i := 6) sc__law_none.nd rfl (.inl rfl))) (fun _ _ _ _ _ => pts_nil) (fun _ _ _ _ _ => (pe_ix (ix_tupK (K := K) rfl) (pv 3) (pe_op op_sub (pe_op op_sub (pe_callB (call_lenK (K := K) rfl) (by rfl) (f_len T) bb_len (pa_cons (pv 3) pa_nil)) pe_int) (pv 6)) (fun _ _ => rfl)))) pa_nil)) pa_nil))) pa_nil)))) pss_nil)
      (pss_cut (ps_if (pw_and (pt_cmpR op_gt (pe_callB (call_lenK (K := K) rfl) (by rfl) (f_len T) bb_len (pa_cons (pv 3) pa_nil)) pe_int (nomark _)) (pw_and1 (pt_cmpR op_eq (pe_ix (ix_tupK (K := K) rfl) (pv 3) pe_int (fun _ _ => rfl)) pe_int (nomark _)))).pt
        (pss_one (ps_expr (pe_bmK (K := K) rfl PySem.F.plainAttrs_list PySem.F.slot_list_append PySem.F.type_list_append mt_append (pv 5) (pa_cons (pe_tup (pa_cons (pv 2) (pa_cons (pe_op op_catA (pe_tup (pa_cons pe_bl pa_nil)) (pe_slice sl_tupA (pv 3) (po_some pe_int) po_none)) pa_nil))) pa_nil)))) pss_nil)
      (pss_cons (ps_for PassesOwn.never rfl (pi_list (pv 5)) (pg_name (i := 7) sc__law_none.nd rfl (.inl rfl))
        (pss_one (ps_if (pt_cmpR op_notBl (pe_d (ok_is_marked T) (hr.mono (by decide)) (g_is_marked T) passL (pa_cons (pv 1) (pa_cons (pv 7) pa_nil))) pe_bl (nomark _))
        (pss_one (ps_ret pe_bl)) pss_nil)))
      (pss_one (ps_ret (pe_cmpR op_isBl (pe_d (ok_is_marked T) (hr.mono (by decide)) (g_is_marked T) passL (pa_cons (pv 1) (pa_cons (pe_tup (pa_cons (pv 2) (pa_cons (pv 3) pa_nil))) pa_nil))) pe_bl (nomark _))))))))))))), ?_⟩
    have hq0 := hq
    walk_at "cl"
    have hS : Same H H := Same.refl _
    walk_at "y"
    refine v_lenS (small (by rw [tl_len, mkS_cps]; omega)) ?_
    rw [tl_len, mkS_cps]
    walk_at "y"
    refine ⟨Nat.zero_le _, fun e0 n_e0 => ?_⟩
    have r_e0 := same_new (o := .tup []) n_e0
    have g_e0 : upd H e0 (.tup []) e0 = some (.tup []) := upd_same
    generalize upd H e0 (.tup []) = N1 at r_e0 g_e0
    have hq := sqT_same r_e0 hq
    have hS := hS.trans r_e0
    have d_e0 : Dp K N1 (.ref e0) (.tuple []) := .tup (sqT_of g_e0) .nil
    walk_at "y"
    refine ⟨small (by simp), fun e1 n_e1 => ?_⟩
    have r_e1 := same_new (o := .tup [.str (mkS t)]) n_e1
    have g_e1 : upd N1 e1 (.tup [.str (mkS t)]) e1 = some (.tup [.str (mkS t)]) := upd_same
    generalize upd N1 e1 (.tup [.str (mkS t)]) = N2 at r_e1 g_e1
    have d_e0 := dp_same r_e1 _ _ d_e0
    have hq := sqT_same r_e1 hq
    have hS := hS.trans r_e1
    have d_e1 : Dp K N2 (.ref e1) (.tuple [.str (mkS t)]) := .tup (sqT_of g_e1) (.cons (.str _) .nil)
    walk_at "y"
    refine ⟨small (by simp), fun e2 n_e2 => ?_⟩
    have r_e2 := same_new (o := .lst [.str (mkS t), .ref q]) n_e2
    have g_e2 : upd N2 e2 (.lst [.str (mkS t), .ref q]) e2 = some (.lst [.str (mkS t), .ref q]) := upd_same
    generalize upd N2 e2 (.lst [.str (mkS t), .ref q]) = N3 at r_e2 g_e2
    have d_e0 := dp_same r_e2 _ _ d_e0
    have d_e1 := dp_same r_e2 _ _ d_e1
    have hq := sqT_same r_e2 hq
    have hS := hS.trans r_e2
    have d_e2 : Dp K N3 (.ref e2) (.list [.str (mkS t), .tuple (plI l)]) := .lst (sqL_of g_e2) (.cons (.str _) (.cons (dp_nats hq) .nil))
    walk_at "y"
    refine ⟨q, natV l, rfl, .inr hq, fun e3 n_e3 => ?_⟩
    have r_e3 := same_new (o := .lst (natV l)) n_e3
    have g_e3 : upd N3 e3 (.lst (natV l)) e3 = some (.lst (natV l)) := upd_same
    generalize upd N3 e3 (.lst (natV l)) = N4 at r_e3 g_e3
    have d_e0 := dp_same r_e3 _ _ d_e0
    have d_e1 := dp_same r_e3 _ _ d_e1
    have d_e2 := dp_same r_e3 _ _ d_e2
    have hq := sqT_same r_e3 hq
    have hS := hS.trans r_e3
    have d_e3 : Dp K N4 (.ref e3) (.list (plI l)) := .lst (sqL_of g_e3) (dpN l)
    walk_at "y"
    refine ⟨small (by simp), fun e4 n_e4 => ?_⟩
    have r_e4 := same_new (o := .tup [.str (mkS t), .ref e3]) n_e4
    have g_e4 : upd N4 e4 (.tup [.str (mkS t), .ref e3]) e4 = some (.tup [.str (mkS t), .ref e3]) := upd_same
    generalize upd N4 e4 (.tup [.str (mkS t), .ref e3]) = N5 at r_e4 g_e4
    have d_e0 := dp_same r_e4 _ _ d_e0
    have d_e1 := dp_same r_e4 _ _ d_e1
    have d_e2 := dp_same r_e4 _ _ d_e2
    have d_e3 := dp_same r_e4 _ _ d_e3
    have hq := sqT_same r_e4 hq
    have hS := hS.trans r_e4
    have d_e4 : Dp K N5 (.ref e4) (.tuple [.str (mkS t), .list (plI l)]) := .tup (sqT_of g_e4) (.cons (.str _) (.cons d_e3 .nil))
    walk_at "y"
    refine ⟨small (by simp), fun e5 n_e5 => ?_⟩
    have r_e5 := same_new (o := .tup [.str (mkS t), .ref q, .ref q]) n_e5
    have g_e5 : upd N5 e5 (.tup [.str (mkS t), .ref q, .ref q]) e5 = some (.tup [.str (mkS t), .ref q, .ref q]) := upd_same
    generalize upd N5 e5 (.tup [.str (mkS t), .ref q, .ref q]) = N6 at r_e5 g_e5
    have d_e0 := dp_same r_e5 _ _ d_e0
    have d_e1 := dp_same r_e5 _ _ d_e1
    have d_e2 := dp_same r_e5 _ _ d_e2
    have d_e3 := dp_same r_e5 _ _ d_e3
    have d_e4 := dp_same r_e5 _ _ d_e4
    have hq := sqT_same r_e5 hq
    have hS := hS.trans r_e5
    have d_e5 : Dp K N6 (.ref e5) (.tuple [.str (mkS t), .tuple (plI l), .tuple (plI l)]) := .tup (sqT_of g_e5) (.cons (.str _) (.cons (dp_nats hq) (.cons (dp_nats hq) .nil)))
    walk_at "y"
    refine ⟨small (by simp), fun e6 n_e6 => ?_⟩
    have r_e6 := same_new (o := .tup [.ref q, .str (mkS t)]) n_e6
    have g_e6 : upd N6 e6 (.tup [.ref q, .str (mkS t)]) e6 = some (.tup [.ref q, .str (mkS t)]) := upd_same
    generalize upd N6 e6 (.tup [.ref q, .str (mkS t)]) = N7 at r_e6 g_e6
    have d_e0 := dp_same r_e6 _ _ d_e0
    have d_e1 := dp_same r_e6 _ _ d_e1
    have d_e2 := dp_same r_e6 _ _ d_e2
    have d_e3 := dp_same r_e6 _ _ d_e3
    have d_e4 := dp_same r_e6 _ _ d_e4
    have d_e5 := dp_same r_e6 _ _ d_e5
    have hq := sqT_same r_e6 hq
    have hS := hS.trans r_e6
    have d_e6 : Dp K N7 (.ref e6) (.tuple [.tuple (plI l), .str (mkS t)]) := .tup (sqT_of g_e6) (.cons (dp_nats hq) (.cons (.str _) .nil))
    walk_at "y"
    refine ⟨small (by simp), fun u n_u => ?_⟩
    have nu := none_same hS n_u
    have b_u := BadL.new (K := K) (z := z) (kd := kd) (s := s) (n := 10) n_u (.cons (.str (mkS t)) (.cons .non (.cons (.bl true) (.cons (.int 3) (.cons d_e0 (.cons d_e1 (.cons d_e2 (.cons d_e4 (.cons d_e5 (.cons d_e6 .nil)))))))))) (fun d hd => by
      simp only [List.mem_cons, List.not_mem_nil, or_false] at hd
      rcases hd with rfl | rfl | rfl | rfl | rfl | rfl | rfl | rfl | rfl | rfl
      · exact bad_not (fun t p e => nomatch e)
      · exact bad_not (fun t p e => nomatch e)
      · exact bad_not (fun t p e => nomatch e)
      · exact bad_not (fun t p e => nomatch e)
      · exact bad_not (fun t p e => nomatch e)
      · exact bad_not (fun t p e => nomatch e)
      · exact bad_not (fun t p e => nomatch e)
      · exact bad_text htl (fun ps e => nomatch e)
      · exact bad_not (fun t p e => nomatch e)
      · exact bad_not (fun t p e => nomatch e)) (Nat.le_refl _)
    have r_u := same_new (o := .lst [.str (mkS t), .non, .bl true, .int 3, .ref e0, .ref e1, .ref e2, .ref e4, .ref e5, .ref e6]) n_u
    generalize upd N7 u (.lst [.str (mkS t), .non, .bl true, .int 3, .ref e0, .ref e1, .ref e2, .ref e4, .ref e5, .ref e6]) = N8 at r_u b_u
    have d_e0 := dp_same r_u _ _ d_e0
    have d_e1 := dp_same r_u _ _ d_e1
    have d_e2 := dp_same r_u _ _ d_e2
    have d_e3 := dp_same r_u _ _ d_e3
    have d_e4 := dp_same r_u _ _ d_e4
    have d_e5 := dp_same r_u _ _ d_e5
    have d_e6 := dp_same r_u _ _ d_e6
    have hq := sqT_same r_u hq
    have hS := hS.trans r_u
    walk_at "y"
    refine ⟨small (by simp), fun f0 n_f0 => ?_⟩
    have r_f0 := same_new (o := .tup [.int (t.length : Nat)]) n_f0
    have g_f0 : upd N8 f0 (.tup [.int (t.length : Nat)]) f0 = some (.tup [.int (t.length : Nat)]) := upd_same
    generalize upd N8 f0 (.tup [.int (t.length : Nat)]) = N9 at r_f0 g_f0
    have hq := sqT_same r_f0 hq
    have hS := hS.trans r_f0
    have b_u := b_u.same r_f0
    have d_f0 : Dp K N9 (.ref f0) (.tuple [.int (t.length : Nat)]) := .tup (sqT_of g_f0) (.cons (.int _) .nil)
    refine v_catB hq (sqT_of g_f0) (small (by rw [natV_len]; omega)) fun f1 N10 r_f1 g_f1 => ?_
    have d_f0 := dp_same r_f1 _ _ d_f0
    have hq := sqT_same r_f1 hq
    have hS := hS.trans r_f1
    have b_u := b_u.same r_f1
    rw [natV_snoc] at g_f1
    have d_f1 := dp_nats g_f1
    walk_at "y"
    refine ⟨small (by simp), fun f2 n_f2 => ?_⟩
    have r_f2 := same_new (o := .tup [.str (mkS t), .ref f1]) n_f2
    have g_f2 : upd N10 f2 (.tup [.str (mkS t), .ref f1]) f2 = some (.tup [.str (mkS t), .ref f1]) := upd_same
    generalize upd N10 f2 (.tup [.str (mkS t), .ref f1]) = N11 at r_f2 g_f2
    have d_f0 := dp_same r_f2 _ _ d_f0
    have d_f1 := dp_same r_f2 _ _ d_f1
    have hq := sqT_same r_f2 hq
    have hS := hS.trans r_f2
    have b_u := b_u.same r_f2
    have d_f2 : Dp K N11 (.ref f2) (.tuple [.str (mkS t), .tuple (plI (l ++ [t.length]))]) := .tup (sqT_of g_f2) (.cons (.str _) (.cons d_f1 .nil))
    walk_at "y"
    refine ⟨small (by simp), fun f3 n_f3 => ?_⟩
    have r_f3 := same_new (o := .tup [.int 0]) n_f3
    have g_f3 : upd N11 f3 (.tup [.int 0]) f3 = some (.tup [.int 0]) := upd_same
    generalize upd N11 f3 (.tup [.int 0]) = N12 at r_f3 g_f3
    have d_f0 := dp_same r_f3 _ _ d_f0
    have d_f1 := dp_same r_f3 _ _ d_f1
    have d_f2 := dp_same r_f3 _ _ d_f2
    have hq := sqT_same r_f3 hq
    have hS := hS.trans r_f3
    have b_u := b_u.same r_f3
    have d_f3 : Dp K N12 (.ref f3) (.tuple [.int 0]) := .tup (sqT_of g_f3) (.cons (.int _) .nil)
    walk_at "y"
    refine v_catA hq (sqT_of g_f3) (small (by rw [natV_len]; omega)) fun f4 N13 r_f4 g_f4 => ?_
    have d_f0 := dp_same r_f4 _ _ d_f0
    have d_f1 := dp_same r_f4 _ _ d_f1
    have d_f2 := dp_same r_f4 _ _ d_f2
    have d_f3 := dp_same r_f4 _ _ d_f3
    have hq := sqT_same r_f4 hq
    have hS := hS.trans r_f4
    have b_u := b_u.same r_f4
    have d_f4 : Dp K N13 (.ref f4) (.tuple (plI (0 :: l))) := dp_nats g_f4
    walk_at "y"
    refine ⟨small (by simp), fun f5 n_f5 => ?_⟩
    have r_f5 := same_new (o := .tup [.str (mkS t), .ref f4]) n_f5
    have g_f5 : upd N13 f5 (.tup [.str (mkS t), .ref f4]) f5 = some (.tup [.str (mkS t), .ref f4]) := upd_same
    generalize upd N13 f5 (.tup [.str (mkS t), .ref f4]) = N14 at r_f5 g_f5
    have d_f0 := dp_same r_f5 _ _ d_f0
    have d_f1 := dp_same r_f5 _ _ d_f1
    have d_f2 := dp_same r_f5 _ _ d_f2
    have d_f3 := dp_same r_f5 _ _ d_f3
    have d_f4 := dp_same r_f5 _ _ d_f4
    have hq := sqT_same r_f5 hq
    have hS := hS.trans r_f5
    have b_u := b_u.same r_f5
    have d_f5 : Dp K N14 (.ref f5) (.tuple [.str (mkS t), .tuple (plI (0 :: l))]) := .tup (sqT_of g_f5) (.cons (.str _) (.cons d_f4 .nil))
    walk_at "y"
    refine ⟨small (by simp), fun f6 n_f6 => ?_⟩
    have r_f6 := same_new (o := .tup [.str (mkS t), .non]) n_f6
    have g_f6 : upd N14 f6 (.tup [.str (mkS t), .non]) f6 = some (.tup [.str (mkS t), .non]) := upd_same
    generalize upd N14 f6 (.tup [.str (mkS t), .non]) = N15 at r_f6 g_f6
    have d_f0 := dp_same r_f6 _ _ d_f0
    have d_f1 := dp_same r_f6 _ _ d_f1
    have d_f2 := dp_same r_f6 _ _ d_f2
    have d_f3 := dp_same r_f6 _ _ d_f3
    have d_f4 := dp_same r_f6 _ _ d_f4
    have d_f5 := dp_same r_f6 _ _ d_f5
    have hq := sqT_same r_f6 hq
    have hS := hS.trans r_f6
    have b_u := b_u.same r_f6
    have d_f6 : Dp K N15 (.ref f6) (.tuple [.str (mkS t), .none]) := .tup (sqT_of g_f6) (.cons (.str _) (.cons .non .nil))
    walk_at "y"
    refine ⟨small (by simp), fun f7 n_f7 => ?_⟩
    have r_f7 := same_new (o := .tup [.str (mkS t), .str (mkS t)]) n_f7
    have g_f7 : upd N15 f7 (.tup [.str (mkS t), .str (mkS t)]) f7 = some (.tup [.str (mkS t), .str (mkS t)]) := upd_same
    generalize upd N15 f7 (.tup [.str (mkS t), .str (mkS t)]) = N16 at r_f7 g_f7
    have d_f0 := dp_same r_f7 _ _ d_f0
    have d_f1 := dp_same r_f7 _ _ d_f1
    have d_f2 := dp_same r_f7 _ _ d_f2
    have d_f3 := dp_same r_f7 _ _ d_f3
    have d_f4 := dp_same r_f7 _ _ d_f4
    have d_f5 := dp_same r_f7 _ _ d_f5
    have d_f6 := dp_same r_f7 _ _ d_f6
    have hq := sqT_same r_f7 hq
    have hS := hS.trans r_f7
    have b_u := b_u.same r_f7
    have d_f7 : Dp K N16 (.ref f7) (.tuple [.str (mkS t), .str (mkS t)]) := .tup (sqT_of g_f7) (.cons (.str _) (.cons (.str _) .nil))
    walk_at "y"
    refine ⟨_, rfl, small (by rw [tl_len, mkS_cps]; omega), fun f8 n_f8 => ?_⟩
    have r_f8 := same_new (o := .lst (sg (mkS t))) n_f8
    have g_f8 : upd N16 f8 (.lst (sg (mkS t))) f8 = some (.lst (sg (mkS t))) := upd_same
    generalize upd N16 f8 (.lst (sg (mkS t))) = N17 at r_f8 g_f8
    have d_f0 := dp_same r_f8 _ _ d_f0
    have d_f1 := dp_same r_f8 _ _ d_f1
    have d_f2 := dp_same r_f8 _ _ d_f2
    have d_f3 := dp_same r_f8 _ _ d_f3
    have d_f4 := dp_same r_f8 _ _ d_f4
    have d_f5 := dp_same r_f8 _ _ d_f5
    have d_f6 := dp_same r_f8 _ _ d_f6
    have d_f7 := dp_same r_f8 _ _ d_f7
    have hq := sqT_same r_f8 hq
    have hS := hS.trans r_f8
    have b_u := b_u.same r_f8
    have d_f8 : Dp K N17 (.ref f8) (.list (signsD (mkS t))) := .lst (sqL_of g_f8) (dp_signs _)
    walk_at "y"
    refine ⟨small (by simp), fun f9 n_f9 => ?_⟩
    have r_f9 := same_new (o := .tup [.ref f8, .ref q]) n_f9
    have g_f9 : upd N17 f9 (.tup [.ref f8, .ref q]) f9 = some (.tup [.ref f8, .ref q]) := upd_same
    generalize upd N17 f9 (.tup [.ref f8, .ref q]) = N18 at r_f9 g_f9
    have d_f0 := dp_same r_f9 _ _ d_f0
    have d_f1 := dp_same r_f9 _ _ d_f1
    have d_f2 := dp_same r_f9 _ _ d_f2
    have d_f3 := dp_same r_f9 _ _ d_f3
    have d_f4 := dp_same r_f9 _ _ d_f4
    have d_f5 := dp_same r_f9 _ _ d_f5
    have d_f6 := dp_same r_f9 _ _ d_f6
    have d_f7 := dp_same r_f9 _ _ d_f7
    have d_f8 := dp_same r_f9 _ _ d_f8
    have hq := sqT_same r_f9 hq
    have hS := hS.trans r_f9
    have b_u := b_u.same r_f9
    have d_f9 : Dp K N18 (.ref f9) (.tuple [.list (signsD (mkS t)), .tuple (plI l)]) := .tup (sqT_of g_f9) (.cons d_f8 (.cons (dp_nats hq) .nil))
    walk_at "y"
    refine ⟨small (by simp), fun v n_v => ?_⟩
    have b_v := BadL.new (K := K) (z := z) (kd := kd) (s := s) (n := 5) n_v (.cons d_f2 (.cons d_f5 (.cons d_f6 (.cons d_f7 (.cons d_f9 .nil))))) (fun d hd => by
      simp only [List.mem_cons, List.not_mem_nil, or_false] at hd
      rcases hd with rfl | rfl | rfl | rfl | rfl
      · exact bad_places hlr htl (plI_ne (by rw [List.length_append, ← hl]; show _ + 1 ≠ _; omega))
      · exact bad_places hlr htl (plI_ne (by rw [List.length_cons, ← hl]; omega))
      · exact bad_text htl (fun ps e => nomatch e)
      · exact bad_text htl (fun ps e => nomatch e)
      · exact bad_not (fun t p e => nomatch e)) (Nat.le_refl _)
    have r_v := same_new (o := .lst [.ref f2, .ref f5, .ref f6, .ref f7, .ref f9]) n_v
    generalize upd N18 v (.lst [.ref f2, .ref f5, .ref f6, .ref f7, .ref f9]) = N19 at r_v b_v
    have hq := sqT_same r_v hq
    have hS := hS.trans r_v
    have b_u := b_u.same r_v
    refine BadL.cat b_u b_v (by decide) fun u2 N20 r_u2 n_u2 b_u => ?_
    have nu := none_same hS n_u2
    have hq := sqT_same r_u2 hq
    have hS := hS.trans r_u2
    walk_at "y"
    have p1c := hS _ _ p1
    obtain ⟨c, hc⟩ := abcde_at zlo zhi
    refine v_cut (fun σ' H' => ∃ (u : Addr), σ' = [some (.ref p), some (.ref a), some (.str (mkS t)), some (.ref q), some (.int (t.length : Nat)), some (.ref u), none, none] ∧ Same H H' ∧ H u = none ∧ BadL K H' u z kd s 16) ?_ ?_
    · walk_at "y"
      refine v_lenS (small (by rw [tl_len]; omega)) ?_
      rw [tl_len]
      walk_at "y"
      refine v_ixS (small (by decide +kernel)) (atI_nat hc) ?_
      walk_at "y"
      refine ⟨c, z, rfl, rfl, ?_⟩
      walk_at "y"
      refine if_bnot (fun hcz => ?_) (fun _ => ?_)
      · walk_at "y"
        obtain ⟨xs0, ds0, e1, e2, e3, e4⟩ := b_u
        refine ⟨ty_list (sqL_of e1), ?_⟩
        walk_at "y"
        refine v_lenS (small (by rw [tl_len]; omega)) ?_
        rw [tl_len]
        walk_at "y"
        refine v_ixS (small (by decide +kernel)) (atI_nat hc) ?_
        walk_at "y"
        refine ⟨_, _, rfl, rfl, small (by rw [tl_len, mkS_cps]; show _ + 1 ≤ _; omega), ?_⟩
        walk_at "y"
        refine ⟨small (by simp), fun x1 n1 => ?_⟩
        have r1 := same_new (o := .tup [.int (t.length : Nat)]) n1
        have g1 : upd N20 x1 (.tup [.int (t.length : Nat)]) x1 = some (.tup [.int (t.length : Nat)]) := upd_same
        generalize upd N20 x1 (.tup [.int (t.length : Nat)]) = M1 at r1 g1
        refine v_catB (sqT_same r1 hq) (sqT_of g1) (small (by rw [natV_len]; omega)) fun x2 M2 r2 g2 => ?_
        rw [natV_snoc] at g2
        walk_at "y"
        refine ⟨small (by simp), fun x3 n3 => ?_⟩
        have r3 := same_new (o := .tup [.str (mkS t ++ s1 c), .ref x2]) n3
        have g3 : upd M2 x3 (.tup [.str (mkS t ++ s1 c), .ref x2]) x3 = some (.tup [.str (mkS t ++ s1 c), .ref x2]) := upd_same
        have e0 : (⟨#[c]⟩ : Str) = s1 c := rfl
        rw [e0]
        generalize upd M2 x3 (.tup [.str (mkS t ++ s1 c), .ref x2]) = M3 at r3 g3
        have r13 := r1.trans (r2.trans r3)
        obtain ⟨xs, f1, f2, f3⟩ := BadL.push (BadL.same r13 ⟨xs0, ds0, e1, e2, e3, e4⟩) (sqT_of g3) (sqT_same r3 g2) (fun H => dpN _) (bad_foreign (p := .tuple (plI (l ++ [t.length]))) (by omega) hcz)
        walk_at "y"
        refine v_append f1 (smallL (by omega)) ?_
        walk_at "y"
        exact ⟨u2, rfl, same_mut (hS.trans r13) nu, nu, f3⟩
      · walk_at "y"
        obtain ⟨xs0, ds0, e1, e2, e3, e4⟩ := b_u
        exact ⟨u2, rfl, hS, nu, xs0, ds0, e1, e2, e3, by omega⟩
    rintro σ' G1 ⟨u, rfl, hS, nu, bu⟩
    have hq := sqT_same hS hq0
    refine v_cut (fun σ' H' => ∃ (u : Addr), σ' = [some (.ref p), some (.ref a), some (.str (mkS t)), some (.ref q), some (.int (t.length : Nat)), some (.ref u), none, none] ∧ Same H H' ∧ H u = none ∧ BadL K H' u z kd s 30) ?_ ?_
    · walk_at "y"
      refine v_lenT hq ?_
      rw [natV_len]
      walk_at "y"
      refine if_dec (fun c1 => ?_) (fun c1 => ?_)
      · have hl0 : 1 ≤ l.length := by omega
        obtain ⟨l0, hl0e⟩ : ∃ l0, l[0]? = some l0 := ⟨_, List.getElem?_eq_getElem (by omega)⟩
        have hl0m : l0 ≤ 100 := by
          have := plc_bd hrow.1 hrow.2 l0 (by rw [← hl]; exact List.mem_of_getElem? hl0e)
          omega
        walk_at "y"
        refine v_slA hq fun y1 M1 r_y1 g_y1 => ?_
        rw [cut_lastD, natV_len, natV_drop] at g_y1
        have hS := hS.trans r_y1
        have hq := sqT_same r_y1 hq
        have bu := bu.same r_y1
        refine v_catG hq g_y1 (small (by rw [natV_len, natV_len, List.length_drop]; omega)) fun y2 M2 r_y2 g_y2 => ?_
        rw [natV_app] at g_y2
        have hS := hS.trans r_y2
        have hq := sqT_same r_y2 hq
        have bu := bu.same r_y2
        walk_at "y"
        refine ⟨small (by simp), fun y3 n_y3 => ?_⟩
        have r_y3 := same_new (o := .tup [.str (mkS t), .ref y2]) n_y3
        have g_y3 : upd M2 y3 (.tup [.str (mkS t), .ref y2]) y3 = some (.tup [.str (mkS t), .ref y2]) := upd_same
        generalize upd M2 y3 (.tup [.str (mkS t), .ref y2]) = M3 at r_y3 g_y3
        have hS := hS.trans r_y3
        have hq := sqT_same r_y3 hq
        have bu := bu.same r_y3
        have g_y2 := sqT_same r_y3 g_y2
        have d_y3 : Dp K M3 (.ref y3) (.tuple [.str (mkS t), .tuple (plI (l ++ l.drop (l.length - 1)))]) := .tup (sqT_of g_y3) (.cons (.str _) (.cons (dp_nats g_y2) .nil))
        walk_at "y"
        refine v_slA hq fun y4 M4 r_y4 g_y4 => ?_
        rw [cut_last', natV_len, natV_take] at g_y4
        have hS := hS.trans r_y4
        have hq := sqT_same r_y4 hq
        have bu := bu.same r_y4
        have d_y3 := dp_same r_y4 _ _ d_y3
        walk_at "y"
        refine ⟨small (by simp), fun y5 n_y5 => ?_⟩
        have r_y5 := same_new (o := .tup [.str (mkS t), .ref y4]) n_y5
        have g_y5 : upd M4 y5 (.tup [.str (mkS t), .ref y4]) y5 = some (.tup [.str (mkS t), .ref y4]) := upd_same
        generalize upd M4 y5 (.tup [.str (mkS t), .ref y4]) = M5 at r_y5 g_y5
        have hS := hS.trans r_y5
        have hq := sqT_same r_y5 hq
        have bu := bu.same r_y5
        have g_y4 := sqT_same r_y5 g_y4
        have d_y3 := dp_same r_y5 _ _ d_y3
        have d_y5 : Dp K M5 (.ref y5) (.tuple [.str (mkS t), .tuple (plI (l.take (l.length - 1)))]) := .tup (sqT_of g_y5) (.cons (.str _) (.cons (dp_nats g_y4) .nil))
        walk_at "y"
        refine v_ixT hq (atI_nat (j := 0) (by unfold natV; rw [List.getElem?_map, hl0e]; rfl)) ?_
        refine ⟨(l0 : Int), rfl, ?_, ?_⟩
        · rw [Int.natAbs_natCast]
          exact Nat.lt_of_le_of_lt (Nat.log2_le_self _) (by omega)
        obtain ⟨S0, hS0⟩ : ∃ S0 : Str, S0 = Str.ofString (toString (l0 : Int)) := ⟨_, rfl⟩
        rw [← hS0]
        walk_at "y"
        refine ⟨small (by simp), fun y6 n_y6 => ?_⟩
        have r_y6 := same_new (o := .tup [.str S0]) n_y6
        have g_y6 : upd M5 y6 (.tup [.str S0]) y6 = some (.tup [.str S0]) := upd_same
        generalize upd M5 y6 (.tup [.str S0]) = M6 at r_y6 g_y6
        have hS := hS.trans r_y6
        have hq := sqT_same r_y6 hq
        have bu := bu.same r_y6
        walk_at "y"
        refine v_slA hq fun y7 M7 r_y7 g_y7 => ?_
        rw [show (1 : Int) = ((1 : Nat) : Int) from rfl, cut_drop, natV_drop] at g_y7
        have hS := hS.trans r_y7
        have hq := sqT_same r_y7 hq
        have bu := bu.same r_y7
        refine v_catG (sqT_same r_y7 (sqT_of g_y6)) g_y7 (small (by rw [natV_len, List.length_drop]; show 1 + _ ≤ _; omega)) fun y8 M8 r_y8 g_y8 => ?_
        have hS := hS.trans r_y8
        have hq := sqT_same r_y8 hq
        have bu := bu.same r_y8
        walk_at "y"
        refine ⟨small (by simp), fun y9 n_y9 => ?_⟩
        have r_y9 := same_new (o := .tup [.str (mkS t), .ref y8]) n_y9
        have g_y9 : upd M8 y9 (.tup [.str (mkS t), .ref y8]) y9 = some (.tup [.str (mkS t), .ref y8]) := upd_same
        generalize upd M8 y9 (.tup [.str (mkS t), .ref y8]) = M9 at r_y9 g_y9
        have hS := hS.trans r_y9
        have hq := sqT_same r_y9 hq
        have bu := bu.same r_y9
        have g_y8 := sqT_same r_y9 g_y8
        have r_a := r_y6.trans (r_y7.trans (r_y8.trans r_y9))
        have d_y3 := dp_same r_a _ _ d_y3
        have d_y5 := dp_same r_a _ _ d_y5
        have d_y9 : Dp K M9 (.ref y9) (.tuple [.str (mkS t), .tuple (.str S0 :: plI (l.drop 1))]) := .tup (sqT_of g_y9) (.cons (.str _) (.cons (.tup g_y8 (.cons (.str _) (dpN _))) .nil))
        walk_at "y"
        refine ⟨small (by simp), fun v n_v => ?_⟩
        have b_v := BadL.new (K := K) (z := z) (kd := kd) (s := s) (n := 3) n_v (.cons d_y3 (.cons d_y5 (.cons d_y9 .nil))) (fun d hd => by
          simp only [List.mem_cons, List.not_mem_nil, or_false] at hd
          rcases hd with rfl | rfl | rfl
          · exact bad_places hlr htl (plI_ne (by rw [List.length_append, List.length_drop, ← hl]; omega))
          · exact bad_places hlr htl (plI_ne (by rw [List.length_take, ← hl]; omega))
          · exact bad_places hlr htl (fun e => by obtain ⟨n, e⟩ := plI_head e; cases e)) (Nat.le_refl _)
        have r_v := same_new (o := .lst [.ref y3, .ref y5, .ref y9]) n_v
        generalize upd M9 v (.lst [.ref y3, .ref y5, .ref y9]) = Ma at r_v b_v
        have hS := hS.trans r_v
        have hq := sqT_same r_v hq
        have bu := bu.same r_v
        refine BadL.cat bu b_v (by decide) fun u2 Mb r_u2 n_u2 bu => ?_
        walk_at "y"
        have nu2 := none_same hS n_u2
        obtain ⟨xs0, ds0, e1, e2, e3, e4⟩ := bu
        exact ⟨u2, rfl, hS.trans r_u2, nu2, xs0, ds0, e1, e2, e3, by omega⟩
      · walk_at "y"
        obtain ⟨xs0, ds0, e1, e2, e3, e4⟩ := bu
        exact ⟨u, rfl, hS, nu, xs0, ds0, e1, e2, e3, by omega⟩
    rintro σ' G2 ⟨u, rfl, hS, nu, bu⟩
    have hq := sqT_same hS hq0
    refine v_cut (fun σ' H' => ∃ (u : Addr), σ' = [some (.ref p), some (.ref a), some (.str (mkS t)), some (.ref q), some (.int (t.length : Nat)), some (.ref u), none, none] ∧ Same H H' ∧ H u = none ∧ BadL K H' u z kd s 40) ?_ ?_
    · walk_at "y"
      refine v_lenT hq ?_
      rw [natV_len]
      walk_at "y"
      refine if_dec (fun c1 => ?_) (fun c1 => ?_)
      · walk_at "y"
        obtain ⟨xs0, ds0, e1, e2, e3, e4⟩ := id bu
        refine ⟨ty_list (sqL_of e1), ?_⟩
        walk_at "y"
        refine v_lenT hq ?_
        rw [natV_len]
        refine ⟨(l.length : Int), rfl, by omega, by omega, fun D hD => ?_⟩
        rw [Int.toNat_natCast]
        refine lc_it walk_range (fun j H' => Same G2 H' ∧ H' D = some (.lst (natV (l.reverse.take j)))) ?_ ?_ ?_ ?_
        · exact ⟨same_new hD, upd_same⟩
        · intros
          trivial
        · rintro j x H5 H6 hj ⟨hS5, hd5⟩ ⟨rfl, hx⟩
          obtain rfl : x = .int (j : Nat) := hx.trans (congrArg V.int (by omega))
          have hq5 := sqT_same hS5 hq
          walk_at "y"
          refine ⟨rfl, ?_⟩
          walk_at "y"
          refine v_lenT hq5 ?_
          rw [natV_len]
          walk_at "y"
          have hlt : l.length - 1 - j < l.length := by omega
          rw [show (l.length : Int) - 1 - (j : Int) = ((l.length - 1 - j : Nat) : Int) by omega]
          refine v_ixT hq5 (atI_nat (natV_at' hlt)) ?_
          refine ⟨_, hd5, smallL (by rw [natV_len, List.length_take, List.length_reverse]; omega), same_mut hS5 hD, ?_⟩
          rw [upd_same, natV_snoc, List.take_add_one (l := l.reverse), List.getElem?_reverse hj, List.getElem?_eq_getElem hlt]
          rfl
        rintro H5 ⟨hS5, hd5⟩
        rw [List.take_of_length_le (by rw [List.length_reverse]; exact Nat.le_refl _)] at hd5
        have hS := hS.trans hS5
        have hq := sqT_same hS5 hq
        have bu := bu.same hS5
        refine ⟨D, _, rfl, .inl ⟨sqL_of hd5, fun y1 n_y1 => ?_⟩⟩
        have r_y1 := same_new (o := .tup (natV l.reverse)) n_y1
        have g_y1 : upd H5 y1 (.tup (natV l.reverse)) y1 = some (.tup (natV l.reverse)) := upd_same
        generalize upd H5 y1 (.tup (natV l.reverse)) = M1 at r_y1 g_y1
        have hS := hS.trans r_y1
        have hq := sqT_same r_y1 hq
        have bu := bu.same r_y1
        walk_at "y"
        refine ⟨small (by simp), fun y2 n_y2 => ?_⟩
        have r_y2 := same_new (o := .tup [.str (mkS t), .ref y1]) n_y2
        have g_y2 : upd M1 y2 (.tup [.str (mkS t), .ref y1]) y2 = some (.tup [.str (mkS t), .ref y1]) := upd_same
        generalize upd M1 y2 (.tup [.str (mkS t), .ref y1]) = M2 at r_y2 g_y2
        have hS := hS.trans r_y2
        have hq := sqT_same r_y2 hq
        have bu := bu.same r_y2
        have hne : plI l.reverse ≠ plI (plc r) := fun e => by
          rw [← hl] at e
          have e := plI_inj e
          have h0 : l[0]? = some l[0] := List.getElem?_eq_getElem (by omega)
          have h1 : l[l.length - 1]? = some l[l.length - 1] := List.getElem?_eq_getElem (by omega)
          have q1 := plc_lt hrow.1 (i := 0) (j := l.length - 1) (by omega) (by rw [← hl]; exact h0) (by rw [← hl]; exact h1)
          have q2 : l.reverse[0]? = some l[l.length - 1] := by rw [List.getElem?_reverse (by omega)]; exact h1
          rw [e, h0] at q2
          have q2 := Option.some.inj q2
          omega
        obtain ⟨xs, f1, f2, f3⟩ := BadL.push bu (sqT_of g_y2) (sqT_same r_y2 (sqT_of g_y1)) (fun H => dpN _) (bad_places hlr htl hne)
        walk_at "y"
        refine v_append f1 (smallL (by omega)) ?_
        walk_at "y"
        obtain ⟨xs1, ds1, e1, e2, e3, e4⟩ := f3
        exact ⟨u, rfl, same_mut hS nu, nu, xs1, ds1, e1, e2, e3, by omega⟩
      · walk_at "y"
        obtain ⟨xs0, ds0, e1, e2, e3, e4⟩ := bu
        exact ⟨u, rfl, hS, nu, xs0, ds0, e1, e2, e3, by omega⟩
    rintro σ' G3 ⟨u, rfl, hS, nu, bu⟩
    have hq := sqT_same hS hq0
    refine v_cut (fun σ' H' => ∃ (u : Addr), σ' = [some (.ref p), some (.ref a), some (.str (mkS t)), some (.ref q), some (.int (t.length : Nat)), some (.ref u), none, none] ∧ Same H H' ∧ H u = none ∧ BadL K H' u z kd s 50) ?_ ?_
    · have same : ∃ (u' : Addr), ([some (.ref p), some (.ref a), some (.str (mkS t)), some (.ref q), some (.int (t.length : Nat)), some (.ref u), none, none] : L2.St) = [some (.ref p), some (.ref a), some (.str (mkS t)), some (.ref q), some (.int (t.length : Nat)), some (.ref u'), none, none] ∧ Same H G3 ∧ H u' = none ∧ BadL K G3 u' z kd s 50 := by
        obtain ⟨xs0, ds0, e1, e2, e3, e4⟩ := bu
        exact ⟨u, rfl, hS, nu, xs0, ds0, e1, e2, e3, by omega⟩
      walk_at "y"
      refine v_lenT hq ?_
      rw [natV_len]
      walk_at "y"
      refine if_dec (fun c1 => ?_) (fun c1 => ?_)
      · obtain ⟨l0, hl0e⟩ : ∃ l0, l[0]? = some l0 := ⟨_, List.getElem?_eq_getElem (by omega)⟩
        walk_at "y"
        refine v_ixT hq (atI_nat (j := 0) (by unfold natV; rw [List.getElem?_map, hl0e]; rfl)) ?_
        walk_at "y"
        refine if_dec (fun c2 => ?_) (fun c2 => ?_)
        · walk_at "y"
          obtain ⟨xs0, ds0, e1, e2, e3, e4⟩ := id bu
          refine ⟨ty_list (sqL_of e1), ?_⟩
          walk_at "y"
          refine ⟨small (by simp), fun y1 n_y1 => ?_⟩
          have r_y1 := same_new (o := .tup [.bl true]) n_y1
          have g_y1 : upd G3 y1 (.tup [.bl true]) y1 = some (.tup [.bl true]) := upd_same
          generalize upd G3 y1 (.tup [.bl true]) = M1 at r_y1 g_y1
          have hS := hS.trans r_y1
          have hq := sqT_same r_y1 hq
          have bu := bu.same r_y1
          walk_at "y"
          refine v_slA hq fun y2 M2 r_y2 g_y2 => ?_
          rw [show (1 : Int) = ((1 : Nat) : Int) from rfl, cut_drop, natV_drop] at g_y2
          have hS := hS.trans r_y2
          have hq := sqT_same r_y2 hq
          have bu := bu.same r_y2
          refine v_catG (sqT_same r_y2 (sqT_of g_y1)) g_y2 (small (by rw [natV_len, List.length_drop]; show 1 + _ ≤ _; omega)) fun y3 M3 r_y3 g_y3 => ?_
          have hS := hS.trans r_y3
          have hq := sqT_same r_y3 hq
          have bu := bu.same r_y3
          walk_at "y"
          refine ⟨small (by simp), fun y4 n_y4 => ?_⟩
          have r_y4 := same_new (o := .tup [.str (mkS t), .ref y3]) n_y4
          have g_y4 : upd M3 y4 (.tup [.str (mkS t), .ref y3]) y4 = some (.tup [.str (mkS t), .ref y3]) := upd_same
          generalize upd M3 y4 (.tup [.str (mkS t), .ref y3]) = M4 at r_y4 g_y4
          have hS := hS.trans r_y4
          have hq := sqT_same r_y4 hq
          have bu := bu.same r_y4
          have g_y3 := sqT_same r_y4 g_y3
          obtain ⟨xs, f1, f2, f3⟩ := BadL.push (es := .bool true :: plI (l.drop 1)) bu (sqT_of g_y4) g_y3 (fun H => .cons (.bl _) (dpN _)) (bad_places hlr htl (fun e => by obtain ⟨n, e⟩ := plI_head e; cases e))
          walk_at "y"
          refine v_append f1 (smallL (by omega)) ?_
          walk_at "y"
          obtain ⟨xs1, ds1, e1, e2, e3, e4⟩ := f3
          exact ⟨u, rfl, same_mut hS nu, nu, xs1, ds1, e1, e2, e3, by omega⟩
        · walk_at "y"
          exact same
      · walk_at "y"
        exact same
    rintro σ' G4 ⟨u, rfl, hS, nu, bu⟩
    obtain ⟨xs, ds, hu4, hx4, hbad, hxl⟩ := bu
    walk_at "x"
    refine ⟨u, rfl, ⟨_, sqL_of hu4⟩, ?_⟩
    refine for_it (walk_list (xs := xs)) (fun i σ' H' => (∃ y, σ' = [some (.ref p), some (.ref a), some (.str (mkS t)), some (.ref q), some (.int (t.length : Nat)), some (.ref u), none, y]) ∧ Same G4 H') ?_ ?_ ?_ ?_
    · exact ⟨⟨_, rfl⟩, Same.refl _⟩
    · rintro i σ' H' _ ⟨_, h⟩
      exact sqL_of (h _ _ hu4)
    · rintro i x σ' H5 H6 hi ⟨⟨y, rfl⟩, hS5⟩ ⟨rfl, hx⟩
      obtain ⟨d, hd, hxd⟩ := dpAll_get hx4 hx
      obtain ⟨b1, b2⟩ := hbad d (List.mem_of_getElem? hd)
      walk_at "y"
      refine ⟨a, kd, sa, z, s, x, d, rfl, hC.same (hS.trans hS5), dp_same (hid_sub.trans hS5) _ _ hxd, b2, fun b H7 hS7 hb => ?_⟩
      have hbf : b = false := by
        cases b with
        | false => rfl
        | true => exact absurd (hb.mp rfl) b1
      subst hbf
      walk_at "y"
      refine ⟨false, false, rfl, rfl, ?_⟩
      refine ⟨_, rfl, iteF_of (by decide) ?_⟩
      walk_at "y"
      exact ⟨⟨_, rfl⟩, hS5.trans hS7⟩
    · rintro σ' H5 ⟨⟨y, rfl⟩, hS5⟩
      have hS := hS.trans hS5
      walk_at "y"
      refine ⟨small (by simp), fun x1 n1 => ?_⟩
      have r1 := same_new (o := .tup [.str (mkS t), .ref q]) n1
      have g1 : upd H5 x1 (.tup [.str (mkS t), .ref q]) x1 = some (.tup [.str (mkS t), .ref q]) := upd_same
      generalize upd H5 x1 (.tup [.str (mkS t), .ref q]) = M1 at r1 g1
      have hS := hS.trans r1
      walk_at "y"
      refine ⟨a, kd, sa, z, s, .ref x1, .tuple [.str (mkS t), .tuple (plI l)], rfl, hC.same hS, .tup (sqT_of g1) (.cons (.str _) (.cons (dp_nats (sqT_same hS hq0)) .nil)), fun t' p' e' => ?_, fun b H7 hS7 hb => ?_⟩
      · injection e' with e'
        injection e' with e1 e'
        injection e1 with e1
        rw [← e1, mkS_cps]
        exact htl
      · rw [mark_iff hs.al hlr hov hrow] at hb
        have hbt : b = true := hb.mpr hl
        subst hbt
        walk_at "y"
        exact ⟨true, true, rfl, rfl, k _ (hS.trans hS7)⟩
end

end K80

namespace K80
open PySem PySem.Spec L2 PH
open C8 (tCut pss_cut)
section
variable {P : Program} {w : World} {K : PySem.W.Frag} {mg : Str → Option Value} {base : Heap}
theorem JoinsX.hidB {H : Hp} {a dx tp rp np b : Addr} {z : Str} {ps : List PL.Pr} {v : Addr} {ys : List V} (hb : H b = some (.lst (.ref v :: ys))) (h : JoinsX K H a dx tp rp np z ps) : JoinsX K (hid [b] H) a dx tp rp np z ps := by
  obtain ⟨po, ne, ⟨fs, pp, xs, lg, h1, h2, h3, h4, h5, h6, h7, h8, h8', h9, h10, h11⟩, ht, ⟨rk, r1, r2⟩, ⟨kvs, hn1, hn2⟩⟩ := h
  have one : ∀ {q : Addr} {o : HO}, H q = some o → (∀ l, o ≠ .lst (.ref v :: l)) → hid [b] H q = some o := fun {q o} e ho => hid_at e fun hm => by
    rw [List.mem_singleton.mp hm, hb] at e
    exact ho _ (Option.some.inj e).symm
  refine ⟨po, ne, ⟨fs, pp, xs, lg, one h1 (fun _ e => nomatch e), h2, h3, h4, h5, h6, h7, h8, h8', h9, sqT_two hb h10, prs_two_dp hb h11⟩, one ht (fun l e => ?_), ⟨rk, one r1 (fun _ e => nomatch e), r2⟩, ⟨kvs, one hn1 (fun _ e => nomatch e), hn2⟩⟩
  injection e with e
  unfold rowV at e
  cases htb : tbl z ps with
  | nil => rw [htb] at e; cases e
  | cons u r =>
    rw [htb] at e
    injection e with e _
    cases e
theorem SrcAt.hidB {H : Hp} {a b l : Addr} {z : Str} {s : Src} (hB : BagAt H b l) (h : SrcAt K H a z s) : SrcAt K (hid [b] H) a z s := by
  have hM : ∀ m ∈ [b], ∃ xs, H m = some (.lst xs) := fun m hm => by
    rw [List.mem_singleton.mp hm]
    exact bag_lst hB
  cases s with
  | J ps =>
    obtain ⟨dx, tp, rp, np, h⟩ := h
    obtain ⟨_, _, _, _, e, _⟩ := hB
    exact ⟨dx, tp, rp, np, h.hidB e⟩
  | W ws => exact ⟨h.1.hidL hM, h.2.hidL hM⟩
  | C ws cs =>
    obtain ⟨wa, h1, h2⟩ := h
    exact ⟨wa, h1.hidL hM, h2.hidL hM⟩
theorem PlainAt.hidB {H : Hp} {p b l : Addr} {kd : Kd} {z : Str} {s : Src} (hB : BagAt H b l) (hr : 1 ≤ (pcs z s).length) (h : PlainAt K H p kd z s) : PlainAt K (hid [b] H) p kd z s := by
  obtain ⟨_, n1, n2, n3, e, _⟩ := hB
  have one : ∀ {q : Addr} {o : List V}, H q = some (.lst o) → o ≠ [.ref l, .int n1, .int n2, .int n3] → hid [b] H q = some (.lst o) := fun {q o} h ho => hid_at h fun hm => by
    rw [List.mem_singleton.mp hm, e] at h
    injection h with h
    injection h with h
    exact ho h.symm
  have nm : ∀ {q : Addr} {o : HO}, H q = some o → (∀ xs, o ≠ .lst xs) → hid [b] H q = some o := fun {q o} h ho => hid_at h fun hm => by
    rw [List.mem_singleton.mp hm, e] at h
    exact ho _ (Option.some.inj h).symm
  obtain ⟨wp, cp, pp, h1, h2, h3, h4⟩ := h
  refine ⟨wp, cp, pp, one h1 (fun h => ?_), one h2 (fun h => ?_), fun hk => one (h3 hk) (fun h => ?_), fun ps0 hps => ?_⟩
  · injection h with h _
    cases h
  · unfold rowV at h
    cases hpc : pcs z s with
    | nil => rw [hpc] at hr; cases hr
    | cons u r =>
      rw [hpc] at h
      injection h with h _
      cases h
  · cases hc : costsOf z kd s with
    | nil => rw [hc] at h; cases h
    | cons u r =>
      rw [hc] at h
      injection h with h _
      cases h
  · obtain ⟨xs, x1, x2⟩ := h4 ps0 hps
    refine ⟨xs, one x1 (fun h => ?_), ⟨x2.1, fun i hi => ?_⟩⟩
    · have hl := x2.1
      rw [h] at hl
      obtain ⟨q, q1, _⟩ := x2.2 1 (by simp at hl; omega)
      rw [h] at q1
      simp at q1
    · obtain ⟨q, q1, q2⟩ := x2.2 i hi
      exact ⟨q, q1, nm q2 fun _ e => nomatch e⟩
theorem inV_nat (n : Nat) : ∀ l : List Nat, inV (.int (n : Nat)) (natV l) = decide (n ∈ l)
  | [] => rfl
  | y :: r => by
    have ih := inV_nat n r
    show inV (.int (n : Nat)) (.int (y : Nat) :: natV r) = _
    unfold inV at ih ⊢
    rw [List.any_cons, ih]
    show (((y : Nat) : Int) == (n : Nat) || decide (n ∈ r)) = decide (n ∈ y :: r)
    by_cases e : y = n
    · subst e
      simp
    · have e' : ¬ n = y := fun h => e h.symm
      have b : (((y : Nat) : Int) == (n : Nat)) = false := beq_eq_false_iff_ne.mpr (by omega)
      rw [b]
      simp [e']
theorem flat_nats (l : List Nat) : (natV l).all flatV = true := by
  rw [List.all_eq_true]
  intro x hx
  unfold natV at hx
  obtain ⟨n, _, rfl⟩ := List.mem_map.mp hx
  rfl
theorem v_notInN {H : Hp} {Q : VK} {p : Addr} {n : Nat} {l : List Nat} (h : SqT K H p (natV l)) (q : Q (.bl (!decide (n ∈ l))) H) : rIn K true (.int (n : Nat)) (.ref p) H Q :=
  ⟨p, natV l, rfl, .inr h, rfl, flat_nats l, by rw [inV_nat]; exact q⟩
def castI (l : List Nat) : List Int := l.map fun (n : Nat) => (n : Int)
theorem natV_cast (l : List Nat) : natV l = (castI l).map V.int := natV_int l
theorem ints_inj : ∀ {a b : List Int}, a.map PyData.int = b.map PyData.int → a = b
  | [], [], _ => rfl
  | [], _ :: _, e => by cases e
  | _ :: _, [], e => by cases e
  | x :: a, y :: b, e => by
    rw [List.map_cons, List.map_cons] at e
    injection e with e1 e2
    injection e1 with e1
    rw [e1, ints_inj e2]
theorem ints_plI {ns : List Int} {l : List Nat} (h : ns ≠ castI l) : ns.map PyData.int ≠ plI l := fun e => h (ints_inj e)
theorem castI_len (l : List Nat) : (castI l).length = l.length := List.length_map _
theorem castI_mem {l : List Nat} {n : Nat} : (n : Int) ∈ castI l ↔ n ∈ l := by
  unfold castI
  rw [List.mem_map]
  constructor
  · rintro ⟨k, hk, e⟩
    rw [← Int.ofNat.inj e]
    exact hk
  · exact fun h => ⟨n, h, rfl⟩
theorem sqT_over {H H' : Hp} {b l q : Addr} {ys : List V} (hB : BagAt H b l) (e : Same (hid [b] H) (hid [b] H')) (h : SqT K H q ys) : SqT K H' q ys := by
  obtain ⟨xs, eb⟩ := bag_lst hB
  exact sqT_same hid_sub (sqT_same e (sqT_hidL eb h))
theorem CutAt.hidB {H : Hp} {a b l : Addr} {kd : Kd} {sa : Addr} {z : Str} {s : Src} (hB : BagAt H b l) (h : CutAt K H a kd sa z s) : CutAt K (hid [b] H) a kd sa z s := by
  obtain ⟨ys, eb⟩ := bag_lst hB
  exact CutAt.hidS eb (h.src.hidB hB) h
def spLg (K : PySem.W.Frag) : Sp := fun vs H Q _ => ∃ (b l p a : Addr) (kd : Kd) (sa : Addr) (z : Str) (s : Src), vs = [.ref b, .ref p, .ref a] ∧ BagAt H b l ∧ CutAt K H a kd sa z s ∧ PlainAt K H p kd z s ∧
  ∀ H', BagAt H' b l → Same (hid [b] H) (hid [b] H') → Q (.bl true) H'
theorem ok__law_long (T : Ev fa fx fn K mg base) : Dn P w K mg base 10 (He.ga K "_law_long") ["bag", "cutter", "made"] (spLg K) := by
  refine dn_of (d__law_long T) sc__law_long bo__law_long (fun vs H Q E h => ?_) (fun cdv A outer s0 H vs Q E hr h => ?_)
  · obtain ⟨b, l, p, a, kd, sa, z, s, rfl, _⟩ := h
    rfl
  · obtain ⟨b, l, p, a, kd, sa, z, s, rfl, hB, hC, hP, k⟩ := h
    have hs := hC.src
    have hg := hC.go
    have zlo := hs.al.lo
    have zhi := hs.al.hi
    have hC0 := hC.hidB hB
    have hP0 := hP.hidB hB (pcs_len hs).1
    have hCa : ∀ {G : Hp}, Same (hid [b] H) (hid [b] G) → CutAt K G a kd sa z s := fun e => (hC0.same e).same hid_sub
    have hPa : ∀ {G : Hp}, Same (hid [b] H) (hid [b] G) → PlainAt K G p kd z s := fun e => (hP0.same e).same hid_sub
    have hPx : ∀ {G : Hp}, Same (hid [b] H) (hid [b] G) → ∃ xs, G p = some (.lst xs) ∧ xs[1]? = some (.str z) := fun e => by
      obtain ⟨_, _, _, p1, _⟩ := hPa e
      exact ⟨_, p1, rfl⟩
    refine ⟨_, (PSs.nox (pss_cons (ps_set (i := 3) sc__law_long.nd rfl (.inl rfl) (pe_op op_add (pe_op op_add pe_int (pe_d (ok__law_draw T) (hr.mono (by decide)) (g__law_draw T) passL (pa_cons (pv 0) (pa_cons pe_int pa_nil)))) (pe_op op_mul pe_int (pe_callTy call_int1 (by rfl) (f_int T) bb_int (pa_cons (pe_cmpR op_eq (pe_d (ok__law_draw T) (hr.mono (by decide)) (g__law_draw T) passL (pa_cons (pv 0) (pa_cons pe_int pa_nil))) pe_int (nomark _)) pa_nil)))))
      (pss_cons (ps_set (i := 4) sc__law_long.nd rfl (.inl rfl) (pe_join pe_str (pe_lc (own := [("k", 5)]) rfl sc__law_long.nd (pi_range1 rfl (f_range T) (pa_cons (pv 3) pa_nil)) (blkOk_by (own := [("k", 5)]) (N := ["bag", "cutter", "made", "size", "text", "k", "right", "place", "other", "at", "moved"]) (sc := defScope s__law_long) (by decide +kernel)) (fun _ _ _ _ _ => (pg_name (i := 5) sc__law_long.nd rfl (.inl rfl))) (fun _ _ _ _ _ => pts_nil) (fun _ _ _ _ _ => (pe_ix ix_str (pe_ix (ix_listK (K := K) rfl) (pv 1) pe_int (fun _ _ => rfl)) (pe_d (ok__law_draw T) (hr.mono (by decide)) (g__law_draw T) passL (pa_cons (pv 0) (pa_cons (pe_callB (call_lenK (K := K) rfl) (by rfl) (f_len T) bb_len (pa_cons (pe_ix (ix_listK (K := K) rfl) (pv 1) pe_int (fun _ _ => rfl)) pa_nil)) pa_nil))) (fun _ _ => rfl))))))
      (pss_cons (ps_set (i := 6) sc__law_long.nd rfl (.inl rfl) (pe_d (ok__law_places T) (hr.mono (by decide)) (g__law_places T) passL (pa_cons (pe_d (ok__law_cut T) (hr.mono (by decide)) (g__law_cut T) passL (pa_cons (pv 1) (pa_cons (pv 4) pa_nil))) pa_nil)))
      (pss_cons (ps_set (i := 7) sc__law_long.nd rfl (.inr rfl) (pe_op op_add pe_int (pe_d (ok__law_draw T) (hr.mono (by decide)) (g__law_draw T) passL (pa_cons (pv 0) (pa_cons (pv 3) pa_nil)))))
      (pss_cons (ps_set (i := 8) sc__law_long.nd rfl (.inl rfl) (pe_callTy call_tuple_of (by rfl) (f_tuple T) bb_tuple (pa_cons (pe_lc (own := [("at", 9)]) rfl sc__law_long.nd (pi_tup (pv 6)) (blkOk_by (own := [("at", 9)]) (N := ["bag", "cutter", "made", "size", "text", "k", "right", "place", "other", "at", "moved"]) (sc := defScope s__law_long) (by decide +kernel)) (fun _ _ _ _ _ => (pg_name (i := 9) sc__law_long.nd rfl (.inl rfl))) (fun _ _ _ _ _ => pts_one (pt_cmpR op_ne (pv 9) (pv 7) (nomark _))) (fun _ _ _ _ _ => (pv 9))) pa_nil)))
      (pss_cut (ps_if (pt_cmpR (op_notIn_seqK (K := K) rfl) (pv 7) (pv 6) rfl)
        (pss_one (ps_set (i := 8) sc__law_long.nd rfl (.inl rfl) (pe_callTy call_tuple_of (by rfl) (f_tuple T) bb_tuple (pa_cons (pe_callB cr_sorted (by rfl) (f_sorted T) bb_sorted (pa_cons (pe_op op_cat (pe_callTy call_list_of (by rfl) (f_list T) bb_list (pa_cons (pv 6) pa_nil)) (pe_lst (pa_cons (pv 7) pa_nil))) pa_nil)) pa_nil)))) pss_nil)
      (pss_cons (ps_if (pt_cmpR op_notBl (pe_d (ok_is_marked T) (hr.mono (by decide)) (g_is_marked T) passL (pa_cons (pv 2) (pa_cons (pe_tup (pa_cons (pv 4) (pa_cons (pv 8) pa_nil))) pa_nil))) pe_bl (nomark _))
        (pss_one (ps_ret pe_bl)) pss_nil)
      (pss_cut (ps_if (pt_cmpR op_gt (pe_callB (call_lenK (K := K) rfl) (by rfl) (f_len T) bb_len (pa_cons (pv 6) pa_nil)) pe_int (nomark _))
        (pss_cons (ps_set (i := 9) sc__law_long.nd rfl (.inl rfl) (pe_d (ok__law_draw T) (hr.mono (by decide)) (g__law_draw T) passL (pa_cons (pv 0) (pa_cons (pe_callB (call_lenK (K := K) rfl) (by rfl) (f_len T) bb_len (pa_cons (pv 6) pa_nil)) pa_nil))))
      (pss_cons (ps_set (i := 10) sc__law_long.nd rfl (.inl rfl) (pe_callTy call_tuple_of (by rfl) (f_tuple T) bb_tuple (pa_cons (pe_callB (cr_sortedSet rfl) (by rfl) (f_sorted T) bb_sorted (pa_cons (pe_callTy (cr_set_ints rfl) (by rfl) (f_set T) bb_set (pa_cons (pe_op op_cat (pe_op op_cat (pe_callTy call_list_of (by rfl) (f_list T) bb_list (pa_cons (pe_slice sl_tupA (pv 6) po_none (po_some (pv 9))) pa_nil)) (pe_lst (pa_cons (pe_op op_add (pe_ix (ix_tupK (K := K) rfl) (pv 6) (pv 9) (fun _ _ => rfl)) pe_int) pa_nil))) (pe_callTy call_list_of (by rfl) (f_list T) bb_list (pa_cons (pe_slice sl_tupA (pv 6) (po_some (pe_op op_add (pv 9) pe_int)) po_none) pa_nil))) pa_nil)) pa_nil)) pa_nil)))
      (pss_one (ps_if (pt_cmpR op_notBl (pe_d (ok_is_marked T) (hr.mono (by decide)) (g_is_marked T) passL (pa_cons (pv 2) (pa_cons (pe_tup (pa_cons (pv 4) (pa_cons (pv 10) pa_nil))) pa_nil))) pe_bl (nomark _))
        (pss_one (ps_ret pe_bl)) pss_nil)))) pss_nil)
      (pss_one (ps_ret (pe_d (ok__law_none T) (hr.mono (by decide)) (g__law_none T) passL (pa_cons (pv 1) (pa_cons (pv 2) (pa_cons (pv 4) (pa_cons (pv 6) pa_nil)))))))))))))))), ?_⟩
    walk_at "cl"
    walk_at "y"
    refine draw_step hB (by decide) (by decide) fun n1 H1 hn1 hB1 hS1 => ?_
    walk_at "y"
    refine draw_step hB1 (by decide) (by decide) fun n2 H2 hn2 hB2 hS2 => ?_
    walk_at "y"
    refine .inr ⟨_, rfl, ?_⟩
    walk_at "y"
    obtain ⟨n, hn, h1n, h2n⟩ : ∃ n : Nat, (1 + (n1 : Int) + 48 * (if decide ((n2 : Int) = 0) = true then 1 else 0)) = (n : Int) ∧ 1 ≤ n ∧ n ≤ 60 := by
      by_cases c : (n2 : Int) = 0
      · refine ⟨1 + n1 + 48, ?_, by omega, by omega⟩
        rw [if_pos (decide_eq_true c)]
        omega
      · refine ⟨1 + n1, ?_, by omega, by omega⟩
        rw [if_neg (by rw [decide_eq_false c]; exact Bool.false_ne_true)]
        omega
    rw [hn]
    have hS := hS1.trans hS2
    walk_at "y"
    refine ⟨⟨_, rfl⟩, ?_⟩
    walk_at "y"
    refine ⟨(n : Int), rfl, by omega, by omega, fun D hD => ?_⟩
    rw [Int.toNat_natCast]
    obtain ⟨nb, nl⟩ := hB2.ne hD
    refine lc_it walk_range (fun j H' => ∃ cs : List Nat, cs.length = j ∧ (∀ c ∈ cs, c ∈ z.cps.toList) ∧ H' D = some (.lst ((cs.map s1).map V.str)) ∧ BagAt H' b l ∧ Same (hid [b] H2) (hid [b] H')) ?_ ?_ ?_ ?_
    · exact ⟨[], rfl, (fun c hc => by cases hc), upd_same, hB2.new hD, hsame_new hsame_refl hD⟩
    · intros
      trivial
    · rintro j x H5 H6 hj ⟨cs, hl, hm, hd, hB5, hS5⟩ ⟨rfl, hx⟩
      obtain ⟨xs5, e5, e6⟩ := hPx (hS.trans hS5)
      walk_at "x"
      refine ⟨rfl, ?_⟩
      walk_at "x"
      refine v_ixL (sqL_of e5) (atI_nat (j := 1) e6) ?_
      walk_at "x"
      refine v_ixL (sqL_of e5) (atI_nat (j := 1) e6) ?_
      walk_at "x"
      have hzz : z.length ≤ sizeLine := small (by rw [tl_len]; omega)
      refine v_lenS hzz ?_
      walk_at "x"
      refine draw_step hB5 (by rw [tl_len]; omega) (by rw [tl_len]; omega) fun k3 H7 h7 hB7 hS7 => ?_
      walk_at "x"
      have hk3 : k3 < z.cps.toList.length := by rw [← tl_len]; omega
      refine v_ixS (c := z.cps.toList[k3]) hzz (atI_nat (by rw [List.getElem?_eq_getElem hk3])) ?_
      have hd7 : H7 D = some (.lst ((cs.map s1).map V.str)) := hid_get hS7 hd (by simpa using nb)
      refine ⟨_, hd7, smallL (by simp; omega), cs ++ [z.cps.toList[k3]], by simp [hl], fun c hc => ?_, ?_, hB7.mut nb nl, hsame_mut (hS5.trans hS7) hD⟩
      · rcases List.mem_append.mp hc with hc | hc
        · exact hm c hc
        · rw [List.mem_singleton.mp hc]
          exact List.getElem_mem hk3
      · rw [upd_same]
        simp [s1]
    rintro H3 ⟨t, htl, hov, hd3, hB3, hS3⟩
    have hsum : ∀ l : List Nat, ((l.map s1).map (·.length)).sum = l.length := by
      intro l
      induction l with
      | nil => rfl
      | cons x r ih =>
        rw [List.map_cons, List.map_cons, List.sum_cons, ih, List.length_cons, Nat.add_comm]
        rfl
    refine ⟨_, D, t.map s1, rfl, rfl, .inl (sqL_of hd3), ?_, ?_⟩
    · rw [hsum]
      simp
      show t.length + t.length * 0 ≤ _
      exact small (by omega)
    have et : Txt.join (Str.ofString "") (t.map s1) = mkS t := by
      apply PyProof.Rows.ext_toList
      rw [mkS_cps]
      exact join_signs t
    rw [et]
    have hS := hS.trans hS3
    walk_at "y"
    refine ⟨p, kd, z, mkS t, s, rfl, hPa hS, hs.al, hs.ok, hg, by rw [mkS_cps]; omega, by rw [mkS_cps]; exact hov, fun q2 r H5 hS5 hq2 hr2 => ?_⟩
    rw [mkS_cps] at hr2
    have hrow := l_row hs hg hov hr2
    have hrl := row_short hrow
    walk_at "y"
    refine ⟨q2, r, rfl, sqL_of hq2, by omega, by rw [hrow.2]; omega, fun q H6 hS6 hq => ?_⟩
    have hS56 := hS5.trans hS6
    have hB6 := hB3.same hS56
    have hS := hS.trans (hid_same hS56)
    obtain ⟨m, hm⟩ : ∃ m, m = plc r := ⟨_, rfl⟩
    rw [← hm] at hq
    have hml : m.length + 1 ≤ 60 := by rw [hm, plc_len]; omega
    walk_at "y"
    refine draw_step hB6 (by omega) (by omega) fun n4 H7 hn4 hB7 hS7 => ?_
    have hq7 := sqT_over hB6 hS7 hq
    have hS := hS.trans hS7
    obtain ⟨pl, hpl⟩ : ∃ pl : Nat, pl = 1 + n4 := ⟨_, rfl⟩
    have epl : V.int (1 + (n4 : Int)) = V.int (pl : Nat) := by rw [hpl]; congr 1
    refine v_I0 ?_
    show gName 7 (V.int (1 + (n4 : Int))) _ _ _
    rw [epl]
    walk_at "y"
    refine ⟨q, rfl, ⟨_, hq7⟩, fun D2 hD2 => ?_⟩
    refine lc_it (walk_tup (xs := natV m)) (fun j H' => Same H7 H' ∧ H' D2 = some (.lst (natV ((m.take j).filter (· ≠ pl))))) ?_ ?_ ?_ ?_
    · exact ⟨same_new hD2, upd_same⟩
    · rintro j H' _ ⟨h, _⟩
      exact sqT_same h hq7
    · rintro j x H8 H9 hj ⟨hS8, hd8⟩ ⟨rfl, hx⟩
      rw [natV_len] at hj
      rw [natV_at' hj] at hx
      cases hx
      have hfl : ((m.take j).filter (· ≠ pl)).length ≤ 60 := Nat.le_trans (List.length_filter_le _ _) (by rw [List.length_take]; omega)
      walk_at "y"
      refine ⟨rfl, ?_⟩
      walk_at "y"
      refine if_bnot (fun c => ?_) (fun c => ?_)
      · walk_at "y"
        refine ⟨_, hd8, smallL (by rw [natV_len]; omega), same_mut hS8 hD2, ?_⟩
        rw [upd_same, natV_snoc, List.take_add_one, List.getElem?_eq_getElem hj, List.filter_append]
        have : ([m[j]] : List Nat).filter (· ≠ pl) = [m[j]] := List.filter_cons_of_pos (decide_eq_true (fun e => c (by rw [e])))
        rw [show (some m[j]).toList = [m[j]] from rfl, this]
      · refine ⟨hS8, ?_⟩
        rw [hd8, List.take_add_one, List.getElem?_eq_getElem hj, List.filter_append]
        have c : m[j] = pl := Int.ofNat.inj c
        have : ([m[j]] : List Nat).filter (· ≠ pl) = [] := List.filter_cons_of_neg (by simpa using c)
        rw [show (some m[j]).toList = [m[j]] from rfl, this, List.append_nil]
    rintro H8 ⟨hS8, hd8⟩
    rw [natV_len, List.take_length] at hd8
    have hfl : (m.filter (· ≠ pl)).length ≤ 60 := Nat.le_trans (List.length_filter_le _ _) (by omega)
    refine ⟨D2, _, rfl, .inl ⟨sqL_of hd8, fun o0 n_o0 => ?_⟩⟩
    have r_o0 := same_new (o := .tup (natV (m.filter (· ≠ pl)))) n_o0
    have g_o0 : upd H8 o0 (.tup (natV (m.filter (· ≠ pl)))) o0 = some (.tup (natV (m.filter (· ≠ pl)))) := upd_same
    generalize upd H8 o0 (.tup (natV (m.filter (· ≠ pl)))) = H9 at r_o0 g_o0
    have hS89 := hS8.trans r_o0
    walk_at "y"
    refine v_cut (fun σ' H' => ∃ (o : Addr) (ns : List Int), σ' = [some (.ref b), some (.ref p), some (.ref a), some (.int (n : Nat)), some (.str (mkS t)), none, some (.ref q), some (.int (pl : Nat)), some (.ref o), none, none] ∧ Same H7 H' ∧ SqT K H' o (ns.map V.int) ∧ ns ≠ castI m) ?_ ?_
    · have hq9 := sqT_same hS89 hq7
      walk_at "y"
      refine v_notInN hq9 ?_
      walk_at "y"
      refine if_bnot (fun c => ?_) (fun c => ?_)
      · walk_at "y"
        refine ⟨q, natV m, rfl, .inr hq9, fun l1 n_l1 => ?_⟩
        have r1 := same_new (o := .lst (natV m)) n_l1
        have g1 : upd H9 l1 (.lst (natV m)) l1 = some (.lst (natV m)) := upd_same
        generalize upd H9 l1 (.lst (natV m)) = M1 at r1 g1
        walk_at "y"
        refine ⟨small (show 1 ≤ 16000000 by decide), fun l2 n_l2 => ?_⟩
        have r2 := same_new (o := .lst [.int (pl : Nat)]) n_l2
        have g2 : upd M1 l2 (.lst [.int (pl : Nat)]) l2 = some (.lst [.int (pl : Nat)]) := upd_same
        generalize upd M1 l2 (.lst [.int (pl : Nat)]) = M2 at r2 g2
        refine ⟨l1, l2, _, _, rfl, rfl, r2 _ _ g1, g2, small (by rw [natV_len]; show _ + 1 ≤ _; omega), fun l3 n_l3 => ?_⟩
        have e3 : natV m ++ [V.int (pl : Nat)] = (castI m ++ [(pl : Int)]).map V.int := by
          rw [List.map_append, natV_cast]
          rfl
        rw [e3]
        have r3 := same_new (o := .lst ((castI m ++ [(pl : Int)]).map V.int)) n_l3
        have g3 : upd M2 l3 (.lst ((castI m ++ [(pl : Int)]).map V.int)) l3 = some (.lst ((castI m ++ [(pl : Int)]).map V.int)) := upd_same
        generalize upd M2 l3 (.lst ((castI m ++ [(pl : Int)]).map V.int)) = M3 at r3 g3
        refine ⟨l3, castI m ++ [(pl : Int)], rfl, sqL_of g3, by rw [List.length_append, castI_len]; show _ + 1 < 64; omega, fun ns' l4 hperm hasc n_l4 => ?_⟩
        have r4 := same_new (o := .lst (ns'.map V.int)) n_l4
        have g4 : upd M3 l4 (.lst (ns'.map V.int)) l4 = some (.lst (ns'.map V.int)) := upd_same
        generalize upd M3 l4 (.lst (ns'.map V.int)) = M4 at r4 g4
        refine ⟨l4, _, rfl, .inl ⟨sqL_of g4, fun o n_o => ?_⟩⟩
        walk_at "y"
        refine ⟨o, ns', rfl, hS89.trans (r1.trans (r2.trans (r3.trans (r4.trans (same_new n_o))))), sqT_of upd_same, fun e => ?_⟩
        have q := hperm.length_eq
        rw [e, List.length_append] at q
        have q : (castI m).length = (castI m).length + 1 := q
        omega
      · walk_at "y"
        refine ⟨o0, castI (m.filter (· ≠ pl)), rfl, hS89, by rw [← natV_cast]; exact sqT_of g_o0, fun e => ?_⟩
        have q := congrArg (fun l => (pl : Int) ∈ l) e
        have q : ((pl : Int) ∈ castI (m.filter (· ≠ pl))) = ((pl : Int) ∈ castI m) := q
        rw [castI_mem, castI_mem] at q
        have q2 : pl ∈ m.filter (· ≠ pl) := by rw [q]; exact c
        have q3 := (List.mem_filter.mp q2).2
        simp at q3
    rintro σ' G1 ⟨o, ns, rfl, hSG, ho, hne⟩
    have hS := hS.trans (hid_same hSG)
    have hBG := hB7.same hSG
    have hqG := sqT_same hSG hq7
    walk_at "y"
    refine ⟨small (by simp), fun x1 n_x1 => ?_⟩
    have r_x1 := same_new (o := .tup [.str (mkS t), .ref o]) n_x1
    have g_x1 : upd G1 x1 (.tup [.str (mkS t), .ref o]) x1 = some (.tup [.str (mkS t), .ref o]) := upd_same
    generalize upd G1 x1 (.tup [.str (mkS t), .ref o]) = M1 at r_x1 g_x1
    have hS := hS.trans (hid_same r_x1)
    walk_at "y"
    refine ⟨a, kd, sa, z, s, .ref x1, .tuple [.str (mkS t), .tuple (ns.map .int)], rfl, hCa hS, .tup (sqT_of g_x1) (.cons (.str _) (.cons (.tup (sqT_same r_x1 ho) (dpAll_ints _)) .nil)), fun t' p' e' => ?_, fun b' M2 hSm hb => ?_⟩
    · injection e' with e'
      injection e' with e1 e'
      injection e1 with e1
      rw [← e1, mkS_cps]
      omega
    have hbf : b' = false := by
      cases b' with
      | false => rfl
      | true => exact absurd (hb.mp rfl) (bad_places hr2 (by omega) (ints_plI (hm ▸ hne))).1
    subst hbf
    have hS := hS.trans (hid_same hSm)
    walk_at "y"
    refine ⟨false, false, rfl, rfl, ?_⟩
    refine ⟨_, rfl, iteF_of (by decide) ?_⟩
    walk_at "y"
    have hBM := (hBG.same r_x1).same hSm
    have hqM := sqT_same (r_x1.trans hSm) hqG
    refine v_cut (fun σ' H' => ∃ (y9 y10 : Option V), σ' = [some (.ref b), some (.ref p), some (.ref a), some (.int (n : Nat)), some (.str (mkS t)), none, some (.ref q), some (.int (pl : Nat)), some (.ref o), y9, y10] ∧ BagAt H' b l ∧ SqT K H' q (natV m) ∧ Same (hid [b] H) (hid [b] H')) ?_ ?_
    · walk_at "y"
      refine v_lenT hqM ?_
      rw [natV_len]
      walk_at "y"
      refine if_dec (fun c1 => ?_) (fun c1 => ?_)
      · walk_at "y"
        refine v_lenT hqM ?_
        rw [natV_len]
        walk_at "y"
        refine draw_step hBM (by omega) (by omega) fun n5 M3 hn5 hB3' hS3' => ?_
        have hqN := sqT_over hBM hS3' hqM
        have hS := hS.trans hS3'
        have hn5' : n5 < m.length := by omega
        walk_at "y"
        refine v_slA hqN fun y1 N1 r_y1 g_y1 => ?_
        rw [cut_take, natV_take] at g_y1
        refine ⟨y1, _, rfl, .inr g_y1, fun l1 n_l1 => ?_⟩
        have r1 := same_new (o := .lst (natV (m.take n5))) n_l1
        have g1 : upd N1 l1 (.lst (natV (m.take n5))) l1 = some (.lst (natV (m.take n5))) := upd_same
        generalize upd N1 l1 (.lst (natV (m.take n5))) = N2 at r1 g1
        walk_at "y"
        refine v_ixT (sqT_same (r_y1.trans r1) hqN) (atI_nat (natV_at' hn5')) ?_
        walk_at "y"
        have eadd : ((m[n5] : Nat) : Int) + 1 = ((m[n5] + 1 : Nat) : Int) := by omega
        refine ⟨small (show 1 ≤ 16000000 by decide), fun l2 n_l2 => ?_⟩
        have ho2 : (HO.lst [(fun i j => V.int (i + j)) ((m[n5] : Nat) : Int) 1]) = .lst [.int ((m[n5] + 1 : Nat) : Int)] := by
          show HO.lst [V.int (((m[n5] : Nat) : Int) + 1)] = _
          rw [eadd]
        rw [ho2]
        have r2 := same_new (o := .lst [.int ((m[n5] + 1 : Nat) : Int)]) n_l2
        have g2 : upd N2 l2 (.lst [.int ((m[n5] + 1 : Nat) : Int)]) l2 = some (.lst [.int ((m[n5] + 1 : Nat) : Int)]) := upd_same
        generalize upd N2 l2 (.lst [.int ((m[n5] + 1 : Nat) : Int)]) = N3 at r2 g2
        refine ⟨l1, l2, _, _, rfl, rfl, r2 _ _ g1, g2, small (by rw [natV_len, List.length_take]; show _ + 1 ≤ _; omega), fun l3 n_l3 => ?_⟩
        rw [natV_snoc]
        have r3 := same_new (o := .lst (natV (m.take n5 ++ [m[n5] + 1]))) n_l3
        have g3 : upd N3 l3 (.lst (natV (m.take n5 ++ [m[n5] + 1]))) l3 = some (.lst (natV (m.take n5 ++ [m[n5] + 1]))) := upd_same
        generalize upd N3 l3 (.lst (natV (m.take n5 ++ [m[n5] + 1]))) = N4 at r3 g3
        have r14 := r_y1.trans (r1.trans (r2.trans r3))
        walk_at "y"
        refine v_slA (sqT_same r14 hqN) fun y4 N5 r_y4 g_y4 => ?_
        rw [show ((n5 : Int) + 1) = ((n5 + 1 : Nat) : Int) by omega, cut_drop, natV_drop] at g_y4
        refine ⟨y4, _, rfl, .inr g_y4, fun l4 n_l4 => ?_⟩
        have r4 := same_new (o := .lst (natV (m.drop (n5 + 1)))) n_l4
        have g4 : upd N5 l4 (.lst (natV (m.drop (n5 + 1)))) l4 = some (.lst (natV (m.drop (n5 + 1)))) := upd_same
        generalize upd N5 l4 (.lst (natV (m.drop (n5 + 1)))) = N6 at r4 g4
        walk_at "y"
        refine ⟨l3, l4, _, _, rfl, rfl, (r_y4.trans r4) _ _ g3, g4, small (by rw [natV_len, natV_len, List.length_append, List.length_take, List.length_drop]; show _ + 1 + _ ≤ _; omega), fun l5 n_l5 => ?_⟩
        obtain ⟨m', hm'⟩ : ∃ m', m' = m.take n5 ++ [m[n5] + 1] ++ m.drop (n5 + 1) := ⟨_, rfl⟩
        rw [natV_app, ← hm']
        have hm'l : m'.length ≤ 60 := by
          rw [hm', List.length_append, List.length_append, List.length_take, List.length_drop]
          show _ + 1 + _ ≤ _
          omega
        have r5 := same_new (o := .lst (natV m')) n_l5
        have g5 : upd N6 l5 (.lst (natV m')) l5 = some (.lst (natV m')) := upd_same
        generalize upd N6 l5 (.lst (natV m')) = N7 at r5 g5
        walk_at "y"
        refine ⟨l5, castI m', rfl, by rw [← natV_cast]; exact sqL_of g5, by rw [castI_len]; omega, fun sb c n_sb hc => ?_⟩
        rw [castI_len] at hc
        have r6 := same_new (o := SetO w sb (fun j => decide (j ∈ castI m')) c) n_sb
        have g6 : upd N7 sb (SetO w sb (fun j => decide (j ∈ castI m')) c) sb = some (SetO w sb (fun j => decide (j ∈ castI m')) c) := upd_same
        generalize upd N7 sb (SetO w sb (fun j => decide (j ∈ castI m')) c) = N8 at r6 g6
        walk_at "y"
        refine ⟨sb, _, c, rfl, g6, by omega, fun ns2 l6 hasc hmem hlen n_l6 => ?_⟩
        have r7 := same_new (o := .lst (ns2.map V.int)) n_l6
        have g7 : upd N8 l6 (.lst (ns2.map V.int)) l6 = some (.lst (ns2.map V.int)) := upd_same
        generalize upd N8 l6 (.lst (ns2.map V.int)) = N9 at r7 g7
        walk_at "y"
        refine ⟨l6, _, rfl, .inl ⟨sqL_of g7, fun o2 n_o2 => ?_⟩⟩
        have r8 := same_new (o := .tup (ns2.map V.int)) n_o2
        have g8 : upd N9 o2 (.tup (ns2.map V.int)) o2 = some (.tup (ns2.map V.int)) := upd_same
        generalize upd N9 o2 (.tup (ns2.map V.int)) = Na at r8 g8
        have r18 := r14.trans (r_y4.trans (r4.trans (r5.trans (r6.trans (r7.trans r8)))))
        have hS := hS.trans (hid_same r18)
        have hne2 : ns2 ≠ castI m := fun e => by
          have q1 : ((m[n5] : Nat) : Int) ∈ ns2 := by rw [e, castI_mem]; exact List.getElem_mem hn5'
          have q2 := of_decide_eq_true ((hmem _).mp q1)
          rw [castI_mem, hm'] at q2
          have lt : ∀ {i j : Nat} (hi : i < m.length) (hj : j < m.length), i < j → m[i] < m[j] := fun {i j} hi hj hij =>
            plc_lt hrow.1 hij (by rw [← hm]; exact List.getElem?_eq_getElem hi) (by rw [← hm]; exact List.getElem?_eq_getElem hj)
          rcases List.mem_append.mp q2 with q2 | q2
          · rcases List.mem_append.mp q2 with q2 | q2
            · obtain ⟨i, hi, ei⟩ := List.mem_iff_getElem.mp q2
              rw [List.length_take] at hi
              rw [List.getElem_take] at ei
              have := lt (i := i) (j := n5) (by omega) hn5' (by omega)
              omega
            · have := List.mem_singleton.mp q2
              omega
          · obtain ⟨i, hi, ei⟩ := List.mem_iff_getElem.mp q2
            rw [List.length_drop] at hi
            rw [List.getElem_drop] at ei
            have := lt (i := n5) (j := n5 + 1 + i) hn5' (by omega) (by omega)
            omega
        walk_at "y"
        refine ⟨small (by simp), fun x2 n_x2 => ?_⟩
        have r_x2 := same_new (o := .tup [.str (mkS t), .ref o2]) n_x2
        have g_x2 : upd Na x2 (.tup [.str (mkS t), .ref o2]) x2 = some (.tup [.str (mkS t), .ref o2]) := upd_same
        generalize upd Na x2 (.tup [.str (mkS t), .ref o2]) = Nb at r_x2 g_x2
        have hS := hS.trans (hid_same r_x2)
        walk_at "y"
        refine ⟨a, kd, sa, z, s, .ref x2, .tuple [.str (mkS t), .tuple (ns2.map .int)], rfl, hCa hS, .tup (sqT_of g_x2) (.cons (.str _) (.cons (.tup (sqT_same r_x2 (sqT_of g8)) (dpAll_ints _)) .nil)), fun t' p' e' => ?_, fun b' Nc hSm hb => ?_⟩
        · injection e' with e'
          injection e' with e1 e'
          injection e1 with e1
          rw [← e1, mkS_cps]
          omega
        have hbf : b' = false := by
          cases b' with
          | false => rfl
          | true => exact absurd (hb.mp rfl) (bad_places hr2 (by omega) (ints_plI (hm ▸ hne2))).1
        subst hbf
        have hS := hS.trans (hid_same hSm)
        walk_at "y"
        refine ⟨false, false, rfl, rfl, ?_⟩
        refine ⟨_, rfl, iteF_of (by decide) ?_⟩
        walk_at "y"
        exact ⟨_, _, rfl, (hB3'.same r18).same (r_x2.trans hSm), sqT_same (r18.trans (r_x2.trans hSm)) hqN, hS⟩
      · walk_at "y"
        exact ⟨_, _, rfl, hBM, hqM, hS⟩
    rintro σ' G2 ⟨y9, y10, rfl, hBz, hqz, hS⟩
    rw [hm] at hqz
    walk_at "y"
    exact ⟨p, a, q, kd, sa, z, s, t, r, rfl, hCa hS, hPa hS, hqz, hr2, hov, by omega, by omega, fun H' hS' => k _ (hBz.same hS') (hS.trans (hid_same hS'))⟩
end

end K80

namespace K80
open PySem PySem.Spec L2 PH
open C8 (tCut pss_cut)
section
variable {P : Program} {w : World} {K : PySem.W.Frag} {mg : Str → Option Value} {base : Heap}
def kdOf : Nat → Kd
  | 0 => .joins
  | 1 => .ahead
  | 2 => .behind
  | 3 => .fewest
  | _ => .best
theorem kinds_at {k : Nat} (h : k < 5) : (kinds.map V.str)[k]? = some (.str (kdOf k).nm) := by
  rcases k with _ | _ | _ | _ | _ | k
  · rfl
  · rfl
  · rfl
  · rfl
  · rfl
  · omega
theorem row_one {c : Nat} {r : List PL.T} (h : (∀ u ∈ r, 1 ≤ u.length) ∧ r.flatten = [c]) : plc r = [] := by
  have := row_short h
  have hl : r.length ≤ 1 := this
  refine List.eq_nil_of_length_eq_zero ?_
  rw [plc_len]
  omega
def spLaw (K : PySem.W.Frag) : Sp := fun vs H Q _ => ∃ (p : Addr) (ns : List Int), vs = [.ref p] ∧ SqL K H p (ns.map V.int) ∧ ns.length ≤ 63 ∧ ∀ H', Q (.bl true) H'
theorem ok_law (T : Ev fa fx fn K mg base) {fd : FuncData} (F : FunD K "law" "law" (defArgs s_law) (defBody s_law) (defScope s_law) [] [] (He.ga K "law") fd) : FnOk P w K mg base L2.CX0 11 (He.ga K "law") fd ["script"] (spLaw K) := by
  refine fn_law0 F sc_law (fun vs H Q E h => ?_) (fun cdv A outer s H vs Q E hr h => ?_)
  · obtain ⟨p, ns, rfl, _⟩ := h
    rfl
  · obtain ⟨sp, ns, rfl, hp, hl, k⟩ := h
    refine ⟨_, (PSs.nox (pss_cons (ps_set (i := 1) sc_law.nd rfl (.inl rfl) (pe_d (ok__law_bag T) (hr.mono (by decide)) (g__law_bag T) passL (pa_cons (pv 0) pa_nil)))
      (pss_cons (ps_set (i := 2) sc_law.nd rfl (.inl rfl) (pe_d (ok__law_letters T) (hr.mono (by decide)) (g__law_letters T) passL (pa_cons (pv 1) (pa_cons (pe_op op_add pe_int (pe_callTy call_int1 (by rfl) (f_int T) bb_int (pa_cons (pe_cmpR op_eq (pe_d (ok__law_draw T) (hr.mono (by decide)) (g__law_draw T) passL (pa_cons (pv 1) (pa_cons pe_int pa_nil))) pe_int (nomark _)) pa_nil))) pa_nil))))
      (pss_cons (ps_set (i := 3) sc_law.nd rfl (.inl rfl) (pe_ix (ix_listK (K := K) rfl) (pe_lst (pa_cons pe_str (pa_cons pe_str (pa_cons pe_str (pa_cons pe_str (pa_cons pe_str pa_nil)))))) (pe_d (ok__law_draw T) (hr.mono (by decide)) (g__law_draw T) passL (pa_cons (pv 1) (pa_cons pe_int pa_nil))) (fun _ _ => rfl)))
      (pss_cons (ps_set (i := 4) sc_law.nd rfl (.inr rfl) (pe_d (ok__law_drawn T) (hr.mono (by decide)) (g__law_drawn T) passL (pa_cons (pv 1) (pa_cons (pv 2) (pa_cons (pv 3) (pa_cons pe_int (pa_cons pe_int pa_nil)))))))
      (pss_cons (ps_set (i := 5) sc_law.nd rfl (.inl rfl) (pe_d (ok__law_made T) (hr.mono (by decide)) (g__law_made T) passL (pa_cons (pv 4) pa_nil)))
      (pss_cons (ps_for PassesOwn.never rfl (pi_range1 rfl (f_range T) (pa_cons (pe_ix (ix_listK (K := K) rfl) (pe_lst (pa_cons pe_int (pa_cons pe_int (pa_cons pe_int (pa_cons pe_int pa_nil))))) (pe_callB (call_lenK (K := K) rfl) (by rfl) (f_len T) bb_len (pa_cons (pv 2) pa_nil)) (fun _ _ => rfl)) pa_nil)) (pg_name (i := 6) sc_law.nd rfl (.inl rfl))
        (pss_one (ps_if (pt_not (pt_val (pe_d (ok__law_every_text T) (hr.mono (by decide)) (g__law_every_text T) passL (pa_cons (pv 4) (pa_cons (pv 5) (pa_cons (pv 6) pa_nil))))))
        (pss_one (ps_ret pe_bl)) pss_nil)))
      (pss_cut (ps_if (pw_and (pt_cmpR op_lt (pe_callB (call_lenK (K := K) rfl) (by rfl) (f_len T) bb_len (pa_cons (pv 2) pa_nil)) pe_int (nomark _)) (pw_and1 (pt_cmpR op_eq (pe_d (ok__law_draw T) (hr.mono (by decide)) (g__law_draw T) passL (pa_cons (pv 1) (pa_cons pe_int pa_nil))) pe_int (nomark _)))).pt
        (pss_cons (ps_set (i := 6) sc_law.nd rfl (.inl rfl) (pe_op op_add pe_int (pe_d (ok__law_draw T) (hr.mono (by decide)) (g__law_draw T) passL (pa_cons (pv 1) (pa_cons pe_int pa_nil)))))
      (pss_cons (ps_set (i := 7) sc_law.nd rfl (.inl rfl) (pe_d (ok__law_all_texts T) (hr.mono (by decide)) (g__law_all_texts T) passL (pa_cons (pv 2) (pa_cons (pv 6) pa_nil))))
      (pss_one (ps_if (pt_not (pt_val (pe_d (ok__law_same T) (hr.mono (by decide)) (g__law_same T) passL (pa_cons (pe_d (ok_marked_of_size T) (hr.mono (by decide)) (g_marked_of_size T) passL (pa_cons (pv 5) (pa_cons (pv 6) pa_nil))) (pa_cons (pe_lc (own := [("text", 8)]) rfl sc_law.nd (pi_list (pv 7)) (blkOk_by (own := [("text", 8)]) (N := ["script", "bag", "letters", "kind", "cutter", "made", "many", "texts", "text", "wrong", "sign"]) (sc := defScope s_law) (by decide +kernel)) (fun _ _ _ _ _ => (pg_name (i := 8) sc_law.nd rfl (.inl rfl))) (fun _ _ _ _ _ => pts_nil) (fun _ _ _ _ _ => (pe_tup (pa_cons (pv 8) (pa_cons (pe_d (ok__law_places T) (hr.mono (by decide)) (g__law_places T) passL (pa_cons (pe_d (ok__law_cut T) (hr.mono (by decide)) (g__law_cut T) passL (pa_cons (pv 4) (pa_cons (pv 8) pa_nil))) pa_nil)) pa_nil))))) pa_nil)))))
        (pss_one (ps_ret pe_bl)) pss_nil)))) pss_nil)
      (pss_cons (ps_if (pt_not (pt_val (pe_d (ok__law_long T) (hr.mono (by decide)) (g__law_long T) passL (pa_cons (pv 1) (pa_cons (pv 4) (pa_cons (pv 5) pa_nil))))))
        (pss_one (ps_ret pe_bl)) pss_nil)
      (pss_cons (ps_for PassesOwn.never rfl (pi_list (pe_lst (pa_cons pe_int (pa_cons (pe_un un_neg pe_int) (pa_cons pe_bl (pa_cons pe_bl (pa_cons pe_non (pa_cons pe_str (pa_cons (pe_tup (pa_cons pe_int pa_nil)) (pa_cons (pe_op op_add pe_int (pe_d (okW__law_draw T) (hr.mono (by decide)) (g__law_draw T) passL (pa_cons (pv 1) (pa_cons (pe_op op_pow pe_int pe_int) pa_nil)))) pa_nil)))))))))) (pg_name (i := 9) sc_law.nd rfl (.inl rfl))
        (pss_one (ps_if (pt_not (pt_val (pe_d (ok__law_refused T) (hr.mono (by decide)) (g__law_refused T) passL (pa_cons (pv 5) (pa_cons (pv 9) pa_nil)))))
        (pss_one (ps_ret pe_bl)) pss_nil)))
      (pss_one (ps_ret (pe_d (ok__law_same T) (hr.mono (by decide)) (g__law_same T) passL (pa_cons (pe_d (ok_marked_of_size T) (hr.mono (by decide)) (g_marked_of_size T) passL (pa_cons (pv 5) (pa_cons pe_int pa_nil))) (pa_cons (pe_lc (own := [("sign", 10)]) rfl sc_law.nd (pi_str (pv 2)) (blkOk_by (own := [("sign", 10)]) (N := ["script", "bag", "letters", "kind", "cutter", "made", "many", "texts", "text", "wrong", "sign"]) (sc := defScope s_law) (by decide +kernel)) (fun _ _ _ _ _ => (pg_name (i := 10) sc_law.nd rfl (.inl rfl))) (fun _ _ _ _ _ => pts_nil) (fun _ _ _ _ _ => (pe_tup (pa_cons (pv 10) (pa_cons (pe_tup pa_nil) pa_nil))))) pa_nil))))))))))))))), ?_⟩
    walk_at "cl"
    walk_at "y"
    refine ⟨sp, ns, rfl, hp, hl, fun b l H1 hb hB1 hS1 => ?_⟩
    walk_at "y"
    refine draw_step hB1 (by decide) (by decide) fun n1 H2 hn1 hB2 hS2 => ?_
    walk_at "y"
    refine .inr ⟨_, rfl, ?_⟩
    obtain ⟨n, hn, h1n, h2n⟩ : ∃ n : Nat, (2 + (if decide ((n1 : Int) = 0) = true then 1 else 0)) = (n : Int) ∧ 2 ≤ n ∧ n ≤ 3 := by
      by_cases c : (n1 : Int) = 0
      · refine ⟨3, ?_, by omega, by omega⟩
        rw [if_pos (decide_eq_true c)]
        rfl
      · refine ⟨2, ?_, by omega, by omega⟩
        rw [if_neg (by rw [decide_eq_false c]; exact Bool.false_ne_true)]
        rfl
    walk_at "y"
    rw [hn]
    refine ⟨b, l, n, rfl, hB2, by omega, by omega, fun z H3 aln hB3 hS3 => ?_⟩
    have al : AlphaOk z 4 := ⟨aln.lo, by have := aln.hi; omega, aln.sg, aln.up⟩
    have zlo := aln.lo
    have zhi := aln.hi
    have zh3 : z.cps.toList.length ≤ 3 := by omega
    walk_at "y"
    refine ⟨small (show 5 ≤ 16000000 by decide), fun kl n_kl => ?_⟩
    have r_kl := same_new (o := .lst [.str "joins", .str "ahead", .str "behind", .str "fewest", .str "best"]) n_kl
    have g_kl : upd H3 kl (.lst [.str "joins", .str "ahead", .str "behind", .str "fewest", .str "best"]) kl = some (.lst (kinds.map V.str)) := upd_same
    have nkb := (hB3.ne n_kl).1
    have hB3' := hB3.same r_kl
    generalize upd H3 kl (.lst [.str "joins", .str "ahead", .str "behind", .str "fewest", .str "best"]) = H4 at r_kl g_kl hB3'
    walk_at "y"
    refine draw_step hB3' (by decide) (by decide) fun n2 H5 hn2 hB5 hS5 => ?_
    have hn25 : n2 < 5 := by omega
    walk_at "y"
    refine v_ixL (v := .str (kdOf n2).nm) (sqL_of (hid_get hS5 g_kl (by simpa using nkb))) (atI_nat (kinds_at hn25)) ?_
    generalize kdOf n2 = kd
    walk_at "y"
    refine ⟨b, l, z, kd, rfl, hB5, al, fun p s H6 hP6 hst hg hB6 hS6 => ?_⟩
    walk_at "y"
    refine ⟨p, kd, z, s, rfl, hP6, al, hst, hg, fun a sa H7 hS7 hC7 => ?_⟩
    have hB7 := hB6.same hS7
    have hP7 := hP6.same hS7
    have hs := hC7.src
    have hC0 := hC7.hidB hB7
    have hP0 := hP7.hidB hB7 (pcs_len hs).1
    have hCa : ∀ {G : Hp}, Same (hid [b] H7) (hid [b] G) → CutAt K G a kd sa z s := fun e => (hC0.same e).same hid_sub
    have hPa : ∀ {G : Hp}, Same (hid [b] H7) (hid [b] G) → PlainAt K G p kd z s := fun e => (hP0.same e).same hid_sub
    walk_at "x"
    refine ⟨small (show 4 ≤ 16000000 by decide), fun t1 n_t1 => ?_⟩
    have r_t1 := same_new (o := .lst [.int 0, .int 7, .int 5, .int 4]) n_t1
    have g_t1 : upd H7 t1 (.lst [.int 0, .int 7, .int 5, .int 4]) t1 = some (.lst [.int 0, .int 7, .int 5, .int 4]) := upd_same
    generalize upd H7 t1 (.lst [.int 0, .int 7, .int 5, .int 4]) = H8 at r_t1 g_t1
    have hB8 := hB7.same r_t1
    have hS8 : Same (hid [b] H7) (hid [b] H8) := hid_same r_t1
    walk_at "x"
    refine v_lenS (small (by rw [tl_len]; omega)) ?_
    rw [tl_len]
    walk_at "x"
    obtain ⟨N, hN, hN7⟩ : ∃ N : Nat, ([.int 0, .int 7, .int 5, .int 4] : List V)[z.cps.toList.length]? = some (.int (N : Nat)) ∧ N ≤ 7 := by
      have h : z.cps.toList.length = 1 ∨ z.cps.toList.length = 2 ∨ z.cps.toList.length = 3 := by omega
      rcases h with h | h | h <;> rw [h]
      · exact ⟨7, rfl, by decide⟩
      · exact ⟨5, rfl, by decide⟩
      · exact ⟨4, rfl, by decide⟩
    refine v_ixL (sqL_of g_t1) (atI_nat hN) ?_
    refine ⟨(N : Int), rfl, by omega, by omega, ?_⟩
    rw [Int.toNat_natCast]
    refine for_it walk_range (fun i σ' H' => (∃ y6, σ' = [some (.ref sp), some (.ref b), some (.str z), some (.str kd.nm), some (.ref p), some (.ref a), y6, none, none, none, none]) ∧ Same H8 H') ?_ ?_ ?_ ?_
    · exact ⟨⟨_, rfl⟩, Same.refl _⟩
    · intros
      trivial
    · rintro i x σ' Ha Hb hi ⟨⟨y6, rfl⟩, hSa⟩ ⟨rfl, hx⟩
      obtain rfl : x = .int (i : Nat) := hx.trans (congrArg V.int (by omega))
      have e := hS8.trans (hid_same hSa)
      walk_at "y"
      refine ⟨p, a, kd, sa, z, s, i, rfl, hCa e, hPa e, by omega, fun Hc hSc => ?_⟩
      walk_at "y"
      refine iteF_of rfl ?_
      walk_at "y"
      exact ⟨⟨_, rfl⟩, hSa.trans hSc⟩
    · rintro σ' Ha ⟨⟨y6, rfl⟩, hSa⟩
      have hBa := hB8.same hSa
      have hSa' := hS8.trans (hid_same hSa)
      walk_at "y"
      refine v_cut (fun σ' H' => (∃ y6 y7, σ' = [some (.ref sp), some (.ref b), some (.str z), some (.str kd.nm), some (.ref p), some (.ref a), y6, y7, none, none, none]) ∧ BagAt H' b l ∧ Same (hid [b] H7) (hid [b] H')) ?_ ?_
      · walk_at "y"
        refine v_lenS (small (by rw [tl_len]; omega)) ?_
        rw [tl_len]
        walk_at "y"
        refine if_dec (fun c1 => ?_) (fun c1 => ?_)
        · walk_at "y"
          refine draw_step hBa (by decide) (by decide) fun n3 Hb hn3 hBb hSb => ?_
          have hSb' := hSa'.trans hSb
          walk_at "y"
          refine if_dec (fun c2 => ?_) (fun c2 => ?_)
          · walk_at "y"
            refine draw_step hBb (by decide) (by decide) fun n4 Hc hn4 hBc hSc => ?_
            have hSc' := hSb'.trans hSc
            obtain ⟨M, hM⟩ : ∃ M : Nat, M = 5 + n4 := ⟨_, rfl⟩
            have eM : V.int (5 + (n4 : Int)) = V.int (M : Nat) := by rw [hM]; congr 1
            refine v_I0 ?_
            show gName 6 (V.int (5 + (n4 : Int))) _ _ _
            rw [eM]
            walk_at "y"
            refine ⟨z, M, rfl, al.hi, by omega, fun q Hd hSd hq hqn => ?_⟩
            have hLn := allT_small (n := M) al.hi (by omega)
            have hSd' := hSc'.trans (hid_same hSd)
            walk_at "y"
            refine ⟨a, kd, sa, z, s, .int (M : Nat), .int (M : Nat), rfl, hCa hSd', .int _, .inr ⟨M, rfl, by omega, fun q4 He hSe hq4 _ => ?_⟩⟩
            obtain ⟨p4', ys, e4, hp4, hys⟩ := dp_tup hq4
            cases e4
            rw [mkD_it] at hys
            have hqe := hSe _ _ hq
            have hSe' := hSd'.trans (hid_same hSe)
            walk_at "y"
            refine ⟨q, rfl, ⟨_, sqL_of hqe⟩, fun D hD => ?_⟩
            refine lc_it (walk_list (xs := rowV (allT z.cps.toList M))) (fun j H' => Same He H' ∧ ∃ xs, H' D = some (.lst xs) ∧ DpAll K (hid [D] H') xs ((((allT z.cps.toList M).take j).map (itO z kd s)).map itD)) ?_ ?_ ?_ ?_
            · exact ⟨same_new hD, [], upd_same, .nil⟩
            · rintro j H' _ ⟨h, _⟩
              exact sqL_of (h _ _ hqe)
            · rintro j x Hf Hg hj ⟨hSf, xs, hDf, hxf⟩ ⟨rfl, hx⟩
              rw [rowV_len] at hj
              rw [rowV_at hj] at hx
              cases hx
              obtain ⟨htl, hov⟩ := allT_ok (List.getElem_mem hj)
              have hxl : xs.length = j := by
                rw [dpAll_length hxf, List.length_map, List.length_map, List.length_take]
                omega
              generalize htt : (allT z.cps.toList M)[j] = t at htl hov
              have hSf' := hSe'.trans (hid_same hSf)
              walk_at "y"
              refine ⟨rfl, ?_⟩
              walk_at "y"
              refine ⟨p, kd, z, mkS t, s, rfl, hPa hSf', hs.al, hs.ok, hg, by rw [mkS_cps]; omega, by rw [mkS_cps]; exact hov, fun q2 r Hh hSh hq2 hr2 => ?_⟩
              rw [mkS_cps] at hr2
              have hrow := l_row hs hg hov hr2
              have hrl := row_short hrow
              have ero : itO z kd s t = (mkS t, plc r) := by
                unfold itO plO
                rw [rowOf_l hr2]
              walk_at "y"
              refine ⟨q2, r, rfl, sqL_of hq2, by omega, by rw [hrow.2]; omega, fun q5 Hi hSi hq5 => ?_⟩
              have hSfi := hSh.trans hSi
              have hDi := hSfi _ _ hDf
              walk_at "y"
              refine ⟨small (show 2 ≤ 16000000 by decide), fun tp htp => ?_⟩
              have r7 := same_new (o := .tup [.str (mkS t), .ref q5]) htp
              have g7 : upd Hi tp (.tup [.str (mkS t), .ref q5]) tp = some (.tup [.str (mkS t), .ref q5]) := upd_same
              generalize upd Hi tp (.tup [.str (mkS t), .ref q5]) = Hj at r7 g7
              have hDj := r7 _ _ hDi
              refine ⟨_, hDj, smallL (by omega), same_mut (hSf.trans (hSfi.trans r7)) hD, _, upd_same, ?_⟩
              rw [hid_in (by simp), List.take_add_one, List.getElem?_eq_getElem hj, List.map_append, List.map_append]
              refine dpAll_snoc (dpAll_same (hid_same (hSfi.trans r7)) _ _ hxf) ?_
              rw [htt, ero]
              exact .tup (sqT_hidL hDj (sqT_of g7)) (.cons (.str _) (.cons (dp_nats (sqT_hidL hDj (sqT_same r7 hq5))) .nil))
            rintro Hf ⟨hSf, xs, hDf, hxf⟩
            rw [rowV_len, List.take_length] at hxf
            refine ⟨_, D, ys, xs, (allT z.cps.toList M).map (itO z kd s), rfl, sqT_same hSf hp4, dpAll_same hSf _ _ hys, sqL_of hDf, dpAll_same hid_sub _ _ hxf, by rw [List.length_map]; omega, fun Hg hSg => ?_⟩
            walk_at "y"
            refine iteF_of rfl ?_
            walk_at "y"
            have hSx := hSd.trans (hSe.trans (hSf.trans hSg))
            exact ⟨⟨_, _, rfl⟩, hBc.same hSx, hSc'.trans (hid_same hSx)⟩
          · walk_at "y"
            exact ⟨⟨_, _, rfl⟩, hBb, hSb'⟩
        · walk_at "y"
          exact ⟨⟨_, _, rfl⟩, hBa, hSa'⟩
      · rintro σ' Hb ⟨⟨y6, y7, rfl⟩, hBb, hSb⟩
        walk_at "y"
        refine ⟨b, l, p, a, kd, sa, z, s, rfl, hBb, hCa hSb, hPa hSb, fun Hc hBc hSc => ?_⟩
        have hSc' := hSb.trans hSc
        walk_at "y"
        refine iteF_of rfl ?_
        walk_at "x"
        refine ⟨small (show 1 ≤ 16000000 by decide), fun t3 n_t3 => ?_⟩
        have r_t3 := same_new (o := .tup [.int 3]) n_t3
        have g_t3 : upd Hc t3 (.tup [.int 3]) t3 = some (.tup [.int 3]) := upd_same
        have nt3 := (hBc.ne n_t3).1
        have hBc' := hBc.same r_t3
        generalize upd Hc t3 (.tup [.int 3]) = Hd at r_t3 g_t3 hBc'
        walk_at "x"
        refine draw_stepW hBc' (by decide) (by decide) fun n5 He hn5 hBe hSe => ?_
        have g_t3e := hid_get hSe g_t3 (by simpa using nt3)
        have hSe' := hSc'.trans ((hid_same r_t3).trans hSe)
        walk_at "x"
        refine ⟨small (show 8 ≤ 16000000 by decide), fun wl n_wl => ?_⟩
        have hdp : DpAll K He [.int 9, .int (-1), .bl true, .bl false, .non, .str "3", .ref t3, .int (9 + (n5 : Int))] [.int 9, .int (-1), .bool true, .bool false, .none, .str "3", .tuple [.int 3], .int (9 + (n5 : Int))] :=
          .cons (.int _) (.cons (.int _) (.cons (.bl _) (.cons (.bl _) (.cons .non (.cons (.str _) (.cons (.tup (sqT_of g_t3e) (.cons (.int _) .nil)) (.cons (.int _) .nil)))))))
        have hbad : ∀ d ∈ ([.int 9, .int (-1), .bool true, .bool false, .none, .str "3", .tuple [.int 3], .int (9 + (n5 : Int))] : List PyData), dBet 0 8 d = false ∧ SeqAt.shaped d = true := by
          intro d hd
          simp only [List.mem_cons, List.not_mem_nil, or_false] at hd
          rcases hd with rfl | rfl | rfl | rfl | rfl | rfl | rfl | rfl
          · exact ⟨rfl, rfl⟩
          · exact ⟨rfl, rfl⟩
          · exact ⟨rfl, rfl⟩
          · exact ⟨rfl, rfl⟩
          · exact ⟨rfl, rfl⟩
          · exact ⟨rfl, by decide +kernel⟩
          · exact ⟨rfl, rfl⟩
          · exact ⟨decide_eq_false (by omega), rfl⟩
        have r_wl := same_new (o := .lst [.int 9, .int (-1), .bl true, .bl false, .non, .str "3", .ref t3, .int (9 + (n5 : Int))]) n_wl
        have g_wl : upd He wl (.lst [.int 9, .int (-1), .bl true, .bl false, .non, .str "3", .ref t3, .int (9 + (n5 : Int))]) wl = some (.lst [.int 9, .int (-1), .bl true, .bl false, .non, .str "3", .ref t3, .int (9 + (n5 : Int))]) := upd_same
        have hdp' := dpAll_same r_wl _ _ hdp
        have hSw := hSe'.trans (hid_same r_wl)
        refine ⟨wl, rfl, ⟨_, sqL_of g_wl⟩, ?_⟩
        refine for_it (walk_list (xs := [.int 9, .int (-1), .bl true, .bl false, .non, .str "3", .ref t3, .int (9 + (n5 : Int))])) (fun i σ' H' => (∃ y9, σ' = [some (.ref sp), some (.ref b), some (.str z), some (.str kd.nm), some (.ref p), some (.ref a), y6, y7, none, y9, none]) ∧ Same (upd He wl (.lst [.int 9, .int (-1), .bl true, .bl false, .non, .str "3", .ref t3, .int (9 + (n5 : Int))])) H') ?_ ?_ ?_ ?_
        · exact ⟨⟨_, rfl⟩, Same.refl _⟩
        · rintro i σ' H' _ ⟨_, h⟩
          exact sqL_of (h _ _ g_wl)
        · rintro i x σ' Hf Hg hi ⟨⟨y9, rfl⟩, hSf⟩ ⟨rfl, hx⟩
          obtain ⟨d, hd, hxd⟩ := dpAll_get hdp' hx
          obtain ⟨b1, b2⟩ := hbad d (List.mem_of_getElem? hd)
          walk_at "y"
          refine ⟨a, kd, sa, z, s, x, d, rfl, hCa (hSw.trans (hid_same hSf)), dp_same hSf _ _ hxd, b1, b2, fun Hh hSh => ?_⟩
          walk_at "y"
          refine iteF_of rfl ?_
          walk_at "y"
          exact ⟨⟨_, rfl⟩, hSf.trans hSh⟩
        · rintro σ' Hf ⟨⟨y9, rfl⟩, hSf⟩
          have hSf' := hSw.trans (hid_same hSf)
          walk_at "y"
          refine ⟨a, kd, sa, z, s, .int 1, .int 1, rfl, hCa hSf', .int _, .inr ⟨1, rfl, by decide, fun q4 Hg hSg hq4 hex => ?_⟩⟩
          obtain ⟨p4', ys, e4, hp4, hys⟩ := dp_tup hq4
          cases e4
          have e1 : (allT z.cps.toList 1).map (mkD z kd s) = (z.cps.toList.map fun c => ((s1 c, []) : Str × List Nat)).map itD := by
            have : allT z.cps.toList 1 = z.cps.toList.map fun c => [c] := by
              show ([[]] : List PL.T).flatMap (fun t => z.cps.toList.map fun c => t ++ [c]) = _
              rw [List.flatMap_cons, List.flatMap_nil, List.append_nil]
              rfl
            rw [this, List.map_map, List.map_map]
            refine List.map_congr_left fun c hc => ?_
            obtain ⟨r, hr1⟩ := hex [c] (by rw [this]; exact List.mem_map.mpr ⟨c, hc, rfl⟩)
            have hov : ∀ d ∈ [c], d ∈ z.cps.toList := fun d hd => by rw [List.mem_singleton.mp hd]; exact hc
            have e2 := rowOf_r hs.al hs.ok hr1
            show mkD z kd s [c] = itD (s1 c, [])
            unfold mkD itD plO
            rw [e2, row_one (row_ne hs hov hr1)]
            rfl
          rw [e1] at hys
          walk_at "y"
          refine ⟨z, rfl, fun D hD => ?_⟩
          refine lc_it (walk_str (z := z)) (fun j H' => Same Hg H' ∧ ∃ xs, H' D = some (.lst xs) ∧ DpAll K (hid [D] H') xs (((z.cps.toList.take j).map fun c => ((s1 c, []) : Str × List Nat)).map itD)) ?_ ?_ ?_ ?_
          · exact ⟨same_new hD, [], upd_same, .nil⟩
          · intros
            trivial
          · rintro j x Hh Hi hj ⟨hSh, xs, hDh, hxh⟩ ⟨rfl, c, hc, rfl⟩
            obtain ⟨hj2, rfl⟩ := z_at hc
            have hxl : xs.length = j := by
              rw [dpAll_length hxh, List.length_map, List.length_map, List.length_take]
              omega
            walk_at "y"
            refine ⟨rfl, ?_⟩
            walk_at "y"
            refine ⟨Nat.zero_le _, fun e n_e => ?_⟩
            have r_e := same_new (o := .tup []) n_e
            have g_e : upd Hi e (.tup []) e = some (.tup []) := upd_same
            generalize upd Hi e (.tup []) = Hj at r_e g_e
            walk_at "y"
            refine ⟨small (show 2 ≤ 16000000 by decide), fun tp htp => ?_⟩
            have r7 := same_new (o := .tup [.str ⟨#[z.cps.toList[j]]⟩, .ref e]) htp
            have g7 : upd Hj tp (.tup [.str ⟨#[z.cps.toList[j]]⟩, .ref e]) tp = some (.tup [.str ⟨#[z.cps.toList[j]]⟩, .ref e]) := upd_same
            generalize upd Hj tp (.tup [.str ⟨#[z.cps.toList[j]]⟩, .ref e]) = Hk at r7 g7
            have r_e7 := r_e.trans r7
            have hDk := r_e7 _ _ hDh
            refine ⟨_, hDk, smallL (by omega), same_mut (hSh.trans r_e7) hD, _, upd_same, ?_⟩
            rw [hid_in (by simp), List.take_add_one, List.getElem?_eq_getElem hj2, List.map_append, List.map_append]
            refine dpAll_snoc (dpAll_same (hid_same r_e7) _ _ hxh) ?_
            exact .tup (sqT_hidL hDk (sqT_of g7)) (.cons (.str _) (.cons (.tup (sqT_hidL hDk (sqT_of (r7 _ _ g_e))) .nil) .nil))
          rintro Hh ⟨hSh, xs, hDh, hxh⟩
          rw [show z.cps.size = z.cps.toList.length by simp, List.take_length] at hxh
          walk_at "y"
          exact ⟨_, D, ys, xs, z.cps.toList.map fun c => ((s1 c, []) : Str × List Nat), rfl, sqT_same hSh hp4, dpAll_same hSh _ _ hys, sqL_of hDh, dpAll_same hid_sub _ _ hxh, by rw [List.length_map]; omega, fun H' _ => k _⟩
end

end K80

set_option maxHeartbeats 8000000
namespace K80
open PySem PySem.Spec PyProof.Rows L2 PH
theorem facts {P : Program} {w : World} {K : PySem.W.Frag} {h : Heap} {mg : Str → Option Value} {f : Addr} (X : K.In h) (G : h.Ns mainGlobals mg) (hfa : mg ("law" : Str) = some (.ref f)) (c : SaysX fa fx fn K) :
    ∃ fd : FuncData, (∀ (s : Shared) (v : Value), BindsTo s fd ⟨[v], []⟩ [("script", v)]) ∧ ∀ base : Heap, K.In base → base.Ns mainGlobals mg → FnOk P w K mg base CX0 11 f fd ["script"] (spLaw K) := by
  have T : Ev fa fx fn K mg h := ⟨X, G, c⟩
  obtain ⟨fd, F⟩ := d_law T
  have e := hfa.symm.trans (g_law T)
  cases e
  have b := FunD.bindsA (ps := ["script"]) F bo_law
  exact ⟨fd, fun s v => b s [v] rfl, fun base KB GB => ok_law ⟨KB, GB, c⟩ F⟩
end K80
open PySem PySem.W PySem.Calls PyProof.Rows
theorem PySem.Challenge.cw_piecehouse_k80_whole_marked_texts_holds : PySem.Challenge.rw_piecehouse_k80_whole_marked_texts.Holds := by
  w_on; o_law
  refine HandSHeadRun.head_any (r := OpenLaw.row K80.RWL) (q := view (OpenLaw.row K80.RWL).prog [K80.lawPlace]) (H := K80.hk) (ob := K80.ob) (M := 8000) (loose := K80.loose) (d := HandSHeadRun.topDef (OpenLaw.row K80.RWL).prog K80.lawPlace) (kwd := []) K80.ob_eq
    (by kernel_rfl) (fun s => by kernel_rfl) K80.run (by kernel_rfl) (by kernel_rfl) (by kernel_rfl) (by rfl) (by first | assumption | decide +kernel) (by decide +kernel) ⟨rfl, rfl, rfl, rfl, rfl, by decide +kernel⟩ ?hw ?hc
  case hw => w_witness2
  case hc =>
    refine L2.walk_ofE (l := K80.RWL) (n := 63) (k := 11) (x := "script") (CX := L2.CX0) rfl (by decide) (by kernel_rfl) ⟨rfl, by decide, by decide⟩ ?F (fun _ _ _ _ z => z)
    intro w mg fa h Y G hmg0
    obtain ⟨K, KX, c⟩ := Y
    have hmg : mg ("law" : PySem.Str) = some (.ref fa) := by
      have e : (HandSHeadRun.topDef (OpenLaw.row K80.RWL).prog K80.lawPlace).name = ("law" : PySem.Str) := by kernel_rfl
      rw [← e]
      exact hmg0
    obtain ⟨fd, hb, hF⟩ := K80.facts (P := (K80.RWL).prog) (w := w) KX G hmg c
    exact ⟨K, fd, K80.spLaw K, KX, hb, fun H a ns hl _ hS => ⟨a, ns, rfl, hS, hl, fun _ => rfl⟩, hF⟩
