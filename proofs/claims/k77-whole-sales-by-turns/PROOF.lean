import PyProof.Rows.All
import Wide.All
import OpenK.AllK
import Wide.FinOn
import KE.KFmtOwn
import KE.KCallOwn
import KE.KDictZip
import KE.SortKeyHeap
import HandS.ForMost
import HandS.ForExc
import HandS.ExcInit
import HandS.ExcField
import HandS.CallSlots
import HandS.Small
import HandS.Conv
import HandS.Sort
import HandS.RevRange
import HandS.ListItems
import HandS.MakeKw
import HandS.Defaults
import HandS.IsInst
import HandS.Deep
import HandS.FStr
import HandS.Lambda
import HandS.Nested
import HandS.EndTab
import HandS.Wide
import HandS.Finally
import HandS.More
import HandS.ClsMeth
import HandS.SetFor
import HandS.SortKw
import HandS.Walk
import HandS.WordsDict
import HandS.Style
import KE.SortLaws
import KE.KNestM
import PySem.Challenge.RW_chestbreaks_k77_whole_sales_by_turns
set_option Elab.async false
set_option linter.all false
set_option maxRecDepth 100000
set_option maxHeartbeats 4000000
/-! Rules of my own over the hand layer. -/
namespace Kx
open PySem PySem.Spec PyProof.Rows L2

/-! ### xs[i] op= e : the read -/
def rGetL (K : PySem.W.Frag) : V → V → Hp → VK → Prop := fun o i H Q => ∃ (p : Addr) (xs : List V) (k : Nat) (v : V), o = .ref p ∧ i = .int (k : Int) ∧ SqL K H p xs ∧ xs[k]? = some v ∧ Q v H
section
variable {X : Cx}
theorem pget_list : PGet X (rGetL X.K) := by
  intro pins s σ H o i ov iv Q I ro ri h
  obtain ⟨p, xs, k, v, rfl, rfl, hs, hx, q⟩ := h
  cases ro
  obtain ⟨t, rfl⟩ := ri
  obtain ⟨its, r, pl, hz⟩ := I.list hs
  obtain ⟨w, ew, rw'⟩ := r.get hx
  have hk : k < its.length := (List.getElem?_eq_some_iff.mp ew).1
  have hl := r.length
  have h63 := line63
  exact wpAny_getItem_list pl.isList (by omega) (by omega) (by simpa using ew) ⟨v, H, I, rw', q⟩
end

/-! ### a method called where what it raises is wished for at the caller's slots -/
def tMethSD (C : Addr) (m : Str) (sp : Sp) (E : L2.St → XK) (ta : TE) (t : TA) : TE := fun σ H Q => ta σ H fun x H1 => ∃ a dx fs, x = .ref a ∧ H1 a = some (.ins C dx fs) ∧ fs.lookup m = none ∧ t σ H1 fun vs H2 => sp (x :: vs) H2 Q (E σ)
section
variable {X : Cx} {CX : CXT} {k : Nat} {C f : Addr} {fd : FuncData} {ps : List Str} {sp : Sp} {m : Str} {p apos pos : Pos} {o e : Expr} {es : List Expr} {ta : TE} {t : TA}
theorem pe_methSD {E : L2.St → XK} {pl : Sem Bool} (he : PE X o ta) (c : Cls X.K C) (hm : Meth X.K C m f) (F : FnOk X.prog X.w X.K X.mg X.base CX k f fd ps sp) (hr : Room k X.A) (hb : Binds X.K fd ps []) (hx : ∀ σ, PassesAt CX X σ (E σ)) (ha : PA X (e :: es) t)
    (hst : starEach (e :: es) X.env = (false, eval e X.env) :: starEach es X.env := by rfl) (hpl : (backTo pos (starEach es X.env)).any (·.1) = false := by rfl)
    (ht : eval (.Call (.Attribute o m apos) (e :: es) [] pos) X.env = (do
      let ov ← eval o X.env
      standAt apos.atName
      let (f, first) ← holding [ov] (getMethod ov m pl)
      callWith pos f first (backTo pos (starEach (e :: es) X.env)) (backToKw pos (keywordEach [] X.env))) := by rfl) :
    PE X (.Call (.Attribute o m apos) (e :: es) [] pos) (tMethSD C m sp E ta t) := by
  refine ⟨fun pins s σ H Q I h => ?_⟩
  refine PySem.W.methodCall_KW (pl := pl) (thn (he.run pins s σ H _ I h) fun u s1 ⟨x, H1, I1, rx, a, dx, fs, ex, ea, l, q⟩ => ?_) ht
  subst ex
  obtain rfl : u = Value.ref a := rx
  refine getmeth_ok I1 ea c hm l ?_
  refine PySem.W.callWith_K (first := [.ref a]) (h₀ := X.base) I.ok.mod.kin hm.kp (thn (ha.run pos pins s1 σ H1 _ I1 q) fun us s2 ⟨vs, H2, I2, r, q2⟩ => ⟨I2.kIn, ?_⟩) hst hpl
  exact run_fnSD (us := .ref a :: us) (vs := .ref a :: vs) (dvs := []) (ds := []) F hr hb .nil (hx σ) I2 (.cons rfl r) (by rw [List.append_nil]; exact q2)

/-! ### a def that a subscript gives, called -/
def tCallE (X : Cx) (CX : CXT) (k : Nat) (E : XK) (te : TE) (t : TA) : TE := fun σ H Q => te σ H fun v H1 => ∃ (f : Addr) (fd : FuncData) (ps : List Str) (sp : Sp), v = .ref f ∧ FnOk X.prog X.w X.K X.mg X.base CX k f fd ps sp ∧ PySem.W.keepIn X.K (.ref f) = true ∧ Binds X.K fd ps [] ∧
  t σ H1 fun vs H2 => sp vs H2 Q E
theorem pe_callE {E : XK} {fe : Expr} {te : TE} (hf : PE X fe te) (hr : Room k X.A) (hx : Passes CX X E) (ha : PA X (e :: es) t)
    (heq : eval (.Call fe (e :: es) [] pos) X.env = (do callWith pos (← eval fe X.env) [] (backTo pos (starEach (e :: es) X.env)) (backToKw pos (keywordEach [] X.env))) := by rfl)
    (he : starEach (e :: es) X.env = (false, eval e X.env) :: starEach es X.env := by rfl) (hpl : (backTo pos (starEach es X.env)).any (·.1) = false := by rfl) :
    PE X (.Call fe (e :: es) [] pos) (tCallE X CX k E te t) := by
  refine ⟨fun pins s σ H Q I h => ?_⟩
  rw [heq]
  refine wpAny_bind (thn (hf.run pins s σ H _ I h) fun u s1 ⟨v, H1, I1, rv, f, fd, ps, sp, ev, F, hk, hb, q⟩ => ?_)
  subst ev
  obtain rfl : u = Value.ref f := rv
  refine PySem.W.callWith_K (h₀ := X.base) I.ok.mod.kin hk (thn (ha.run pos pins s1 σ H1 _ I1 q) fun us s2 ⟨vs, H2, I2, r, q2⟩ => ⟨I2.kIn, ?_⟩) he hpl
  exact run_fn (dvs := []) (ds := []) F hr hb .nil hx I2 r (by rw [List.append_nil]; exact q2)
end

/-! ### BreakError.__init__(self, ..): an own class over ValueError without an __init__ of its own -/
structure BaseInit (K : PySem.W.Frag) (B : Addr) : Prop where
  rd : PySem.W.readsIn K B (.type "type") = true
  ga : PySem.W.specialIn K (.ref B) "__getattribute__" = some (some (.builtin "type.__getattribute__"))
  at_ : PySem.W.findCls K (.ref B) (.type "type") "__init__" = some (.val (.builtin "ValueError.__init__"))
section
variable {X : Cx} {e : Expr} {es : List Expr} {ta : TA} {p1 p2 pos : Pos}
theorem pe_beinit {pl : Sem Bool} {x : Str} {B : Addr} (hg : Gl X x) (hm : X.mg x = some (.ref B)) (T : BaseInit X.K B) (ha : PA X (e :: es) ta)
    (hdb : (x == ("__debug__" : Str)) = false := by decide)
    (hc : eval (.Call (.Attribute (.Name x p1) "__init__" p2) (e :: es) [] pos) X.env = (do
      let ov ← eval (.Name x p1) X.env
      standAt p2.atName
      let (f, first) ← holding [ov] (getMethod ov "__init__" pl)
      callWith pos f first (backTo pos (starEach (e :: es) X.env)) (backToKw pos (keywordEach [] X.env))) := by rfl)
    (he : starEach (e :: es) X.env = (false, eval e X.env) :: starEach es X.env := by rfl) (hpl : (backTo pos (starEach es X.env)).any (·.1) = false := by rfl) :
    PE X (.Call (.Attribute (.Name x p1) "__init__" p2) (e :: es) [] pos) (tVeI X.K ta) := by
  refine ⟨fun pins s σ H Q I h => ?_⟩
  refine PySem.W.methodCall_KW (ld_glob I hg hm ?_ hdb) hc
  refine PySem.W.method_cls I.kIn T.ga (PySem.W.cls_value I.kIn T.rd T.at_ (by decide +kernel) ?_)
  show wpAny _ _ (callWith pos (Value.builtin "ValueError.__init__") [] (backTo pos (starEach (e :: es) X.env)) []) _ _ _
  refine PyProof.Rows.callWith_method1 (thn (ha.run pos pins _ σ H _ (I.tok _) h) fun us s1 ⟨vs, H1, I1, r1, a, C, ws, ev, hl, T, ea, q⟩ => ?_) he hpl
  subst ev
  cases r1 with
  | @cons _ u0 _ ur ra rw' =>
    obtain rfl : u0 = Value.ref a := ra
    have hlen : ur.length ≤ sizeLine := by
      rw [← Paired.length rw', sizeLine_eq]
      omega
    exact oinit_ok T I1 ea hlen fun s' J => ⟨.non, H1, J, rfl, q⟩
end

/-! ### len(o), str(o), repr(o), f"{o}" of an instance by the class's own defs -/
section
variable {X : Cx} {CX : CXT} {k : Nat} {C g : Addr} {fd : FuncData} {ps : List Str} {sp : Sp} {E : XK}
theorem run_own {A : Around} {pins : List (Addr × Obj)} {σ : L2.St} {H : Hp} {s : Shared} {a : Addr} {Q : VK} (F : FnOk X.prog X.w X.K X.mg X.base CX k g fd ps sp) (hr : Room k A) (e0 : Env0 X.prog X.w X.K X.mg X.base A X.stack s H) (hb : Binds X.K fd ps [])
    (hx : Passes CX X E) (I : Inv X pins σ H s) (h : sp [.ref a] H Q E) : wpAny (model X.prog X.w) A (call (.ref g) [.ref a]) (EP X pins σ Q) X.xe s := by
  have hl : ([Value.ref a] : List Value).length = ps.length := by
    rw [← F.len _ _ _ _ h]
    rfl
  refine wpAny_call (codeAny_mono (F.run A X.stack s H ⟨[.ref a], []⟩ [.ref a] [.ref a] Q E hr e0 (by simpa using hb s [.ref a] I.kIn (by simpa using hl)) (.cons rfl .nil) h) fun r s' hq => ?_)
  cases r with
  | error er => exact hx pins σ H s er s' I hq
  | ok fl =>
    cases fl with
    | ret u => exact I.after hq
    | next => exact False.elim hq
    | brk => exact False.elim hq
    | cont => exact False.elim hq
def rLenOwn (C : Addr) (sp : Sp) (E : XK) : List V → Hp → VK → Prop := fun xs H Q => ∃ a dx fs, xs = [V.ref a] ∧ H a = some (.ins C dx fs) ∧ sp [.ref a] H (fun v H' => ∃ n : Nat, v = .int (n : Int) ∧ n ≤ 1000000 ∧ Q v H') E
def rStrOwn (C : Addr) (sp : Sp) (E : XK) : List V → Hp → VK → Prop := fun xs H Q => ∃ a dx fs, xs = [V.ref a] ∧ H a = some (.ins C dx fs) ∧ sp [.ref a] H (fun v H' => ∃ z : Str, v = .str z ∧ Q v H') E
theorem cr_lenOwn (hs : PySem.W.findIn X.K (.ref C) "__len__" = some (some (.ref g))) (hf : PySem.W.isFn X.K (.ref g) = true) (F : FnOk X.prog X.w X.K X.mg X.base CX k g fd ps sp) (hb : Binds X.K fd ps []) (hr : Room (k + 1) X.A) (hx : Passes CX X E) :
    CallR X (.builtin "len") (rLenOwn C sp E) := by
  intro pins s σ H xs us Q I r h
  obtain ⟨a, dx, fs, rfl, ea, q⟩ := h
  obtain ⟨u, rfl, ru⟩ := vals1 r
  cases (show u = Value.ref a from ru)
  obtain ⟨mA, O, _, _, _, _⟩ := ins_get I.hok ea
  obtain ⟨od, J, _⟩ := O.look
  obtain ⟨m, hF⟩ := I.fr
  have st := run_own (A := X.A.in1) F (Room.in1 hr) I.env0.in1 hb hx I q
  refine PySem.W.len_K hF I.ok.mod.kin J hs hf (thn st fun w s' ⟨v, H', I', rv, n, ev, hn, qv⟩ => ?_)
  subst ev
  obtain ⟨t, rfl⟩ := rv
  exact ⟨⟨by omega, by omega⟩, .int n, H', I'.tok _, ⟨_, rfl⟩, qv⟩
theorem cr_strOwn (hs : PySem.W.findIn X.K (.ref C) "__str__" = some (some (.ref g))) (hf : PySem.W.isFn X.K (.ref g) = true) (F : FnOk X.prog X.w X.K X.mg X.base CX k g fd ps sp) (hb : Binds X.K fd ps []) (hr : Room (k + 2) X.A) (hx : Passes CX X E) :
    CallR X (.type "str") (rStrOwn C sp E) := by
  intro pins s σ H xs us Q I r h
  obtain ⟨a, dx, fs, rfl, ea, q⟩ := h
  obtain ⟨u, rfl, ru⟩ := vals1 r
  cases (show u = Value.ref a from ru)
  obtain ⟨mA, O, _, _, _, _⟩ := ins_get I.hok ea
  obtain ⟨od, J, _⟩ := O.look
  have hr1 : Room (k + 1) X.A.in1 := Room.in1 hr
  have hr2 : Room k X.A.in1.in1 := Room.in1 hr1
  have st := run_own (A := X.A.in1.in1) F hr2 I.env0.in1.in1 hb hx I q
  refine PySem.W.kso_call hr2.units0 I.kIn J hs hf (thn st fun w s' ⟨v, H', I', rv, z, ev, qv⟩ => ?_)
  subst ev
  obtain ⟨t, rfl⟩ := rv
  exact ⟨.str z, H', I', ⟨t, rfl⟩, qv⟩
theorem cr_reprOwn (hs : PySem.W.findIn X.K (.ref C) "__repr__" = some (some (.ref g))) (hf : PySem.W.isFn X.K (.ref g) = true) (F : FnOk X.prog X.w X.K X.mg X.base CX k g fd ps sp) (hb : Binds X.K fd ps []) (hr : Room (k + 1) X.A) (hx : Passes CX X E) :
    CallR X (.builtin "repr") (rStrOwn C sp E) := by
  intro pins s σ H xs us Q I r h
  obtain ⟨a, dx, fs, rfl, ea, q⟩ := h
  obtain ⟨u, rfl, ru⟩ := vals1 r
  cases (show u = Value.ref a from ru)
  obtain ⟨mA, O, _, _, _, _⟩ := ins_get I.hok ea
  obtain ⟨od, J, _⟩ := O.look
  obtain ⟨m, hF⟩ := I.fr
  have hr1 : Room k X.A.in1 := Room.in1 hr
  have st := run_own (A := X.A.in1) F hr1 I.env0.in1 hb hx I q
  refine PySem.W.repr_K hr1.units0 hF I.ok.mod.kin J hs hf (thn st fun w s' ⟨v, H', I', rv, z, ev, qv⟩ => ?_)
  subst ev
  obtain ⟨t, rfl⟩ := rv
  exact ⟨.str z, H', I', ⟨t, rfl⟩, qv⟩
end
end Kx
set_option maxHeartbeats 4000000
namespace Kx
open PySem PySem.Spec PyProof.Rows L2

/-! ### f"{o}" of an instance with a __str__ of its own -/
section
variable {X : Cx} {CX : CXT} {k : Nat} {C g : Addr} {fd : FuncData} {ps : List Str} {sp : Sp} {E : XK}
def tFmtOwn (C : Addr) (sp : Sp) (E : XK) (te : TE) : TE := fun σ H Q => te σ H fun x H1 => ∃ a dx fs, x = .ref a ∧ H1 a = some (.ins C dx fs) ∧ sp [.ref a] H1 (fun v H' => ∃ z : Str, v = .str z ∧ Q v H') E
structure FmtC (K : PySem.W.Frag) (C g : Addr) : Prop where
  fm : PySem.W.findIn K (.ref C) "__format__" = some (some (.builtin "object.__format__"))
  mr : PySem.W.mroIn K C (.type "object") = some true
  st : PySem.W.findIn K (.ref C) "__str__" = some (some (.ref g))
  fn : PySem.W.isFn K (.ref g) = true
theorem pe_fmtOwn {e : Expr} {te : TE} {pos : Pos} (T : FmtC X.K C g) (F : FnOk X.prog X.w X.K X.mg X.base CX k g fd ps sp) (hb : Binds X.K fd ps []) (hr : Room (k + 1) X.A) (hx : Passes CX X E) (he : PE X e te) :
    PE X (.FormattedValue e (-1) none pos) (tFmtOwn C sp E te) := by
  refine ⟨fun pins s σ H Q I h => ?_⟩
  refine wpAny_FormattedValue_plain (thn (he.run pins s σ H _ I h) fun v s1 hv => ?_)
  obtain ⟨x, H1, I1, r1, a, dx, fs, ex, ea, q⟩ := hv
  subst ex
  cases (show v = Value.ref a from r1)
  obtain ⟨mA, O, _, _, _, _⟩ := ins_get I1.hok ea
  obtain ⟨od, J, _⟩ := O.look
  have I2 := I1.tok (s1.toks + 1)
  have hr1 : Room k X.A.in1 := Room.in1 hr
  have st := run_own (A := X.A.in1) F hr1 I2.env0.in1 hb hx I2 q
  refine PySem.W.kfo_fieldS hr1.units0 I1.kIn J T.fm T.mr T.st T.fn (thn st fun w s' ⟨v, H', I', rv, z, ev, qv⟩ => ?_)
  subst ev
  obtain ⟨t, rfl⟩ := rv
  exact ⟨.str z, H', I', ⟨t, rfl⟩, qv⟩
end

/-! ### xs.remove(text), the text being there -/
def eqs (k : Str) (v : Value) : Bool := match v with
  | .str n _ => n == k
  | _ => false
theorem eqgives_str (a b : Str) (t u : Tok) : MeetsSeq.EqGives (.str a t) (.str b u) (a == b) := fun _ _ _ _ _ _ h => wpAny_eqBool_str (by rw [show decide (a = b) = (a == b) from rfl]; exact h)
theorem eqs_gives {k : Str} {t : Tok} : ∀ {us : List Value} {ns : List Str}, Vals (ns.map V.str) us → ∀ y ∈ us, MeetsSeq.EqGives y (.str k t) (eqs k y)
  | _, [], .nil => fun y hy => by cases hy
  | _, n :: ns, .cons r h => fun y hy => by
    rcases List.mem_cons.mp hy with e | e
    · rw [e]
      obtain ⟨t', rfl⟩ := r
      exact eqgives_str n k t' t
    · exact eqs_gives h y e
theorem erase_mapS : ∀ (l : List Str) (j : Nat), (l.map V.str).eraseIdx j = (l.eraseIdx j).map V.str
  | [], j => by simp
  | a :: r, 0 => by simp
  | a :: r, j + 1 => by
    have ih := erase_mapS r j
    simp [ih]
section
variable {X : Cx}
def rRemS : V → List V → Hp → VK → Prop := fun x xs H Q => ∃ (l : Addr) (ns : List Str) (k : Str) (j : Nat), x = .ref l ∧ xs = [.str k] ∧ H l = some (.lst (ns.map V.str)) ∧ ns[j]? = some k ∧ (∀ m : Nat, m < j → ns[m]? ≠ some k) ∧ Q .non (upd H l (.lst ((ns.eraseIdx j).map V.str)))
theorem mt_removeS : MtM X "list.remove" rRemS := by
  intro pins s σ H x xs v us Q I rx rxs h
  obtain ⟨l, ns, k, j, rfl, rfl, hH, hj, hno, q⟩ := h
  cases rx
  obtain ⟨u, rfl, ru⟩ := rxs.one
  obtain ⟨t, rfl⟩ := ru
  obtain ⟨z, its, n, r, hl, e⟩ := I.lstM hH
  have hjn : j < ns.length := (List.getElem?_eq_some_iff.mp hj).1
  have hlen := r.length
  rw [List.length_map] at hl z hlen
  have hjl : j < its.toArray.size := by rw [List.size_toArray]; omega
  have at_ : ∀ (m : Nat) (y : Str), ns[m]? = some y → ∃ tm, its[m]? = some (.str y tm) := fun m y hy => by
    obtain ⟨w, ew, rw'⟩ := r.get (i := m) (x := V.str y) (by rw [List.getElem?_map, hy]; rfl)
    obtain ⟨tm, rfl⟩ := rw'
    exact ⟨tm, ew⟩
  refine call_meets PySem.F.slot_list_remove ⟨_, e, rfl⟩ PySem.F.entry_list_remove (PySem.F.args_list_remove_2 _ _)
    (MeetsSeq.list_remove l its.toArray n (.str k t) (eqs k) (fun y hy => eqs_gives r y (by simpa using hy)) j hjl ?_ ?_ (by rw [List.size_toArray]; omega)) ⟨e, ?_⟩
  · obtain ⟨tj, hjt⟩ := at_ j k hj
    obtain ⟨h1, h2⟩ := List.getElem?_eq_some_iff.mp hjt
    have e1 : its.toArray[j] = .str k tj := by simpa using h2
    rw [e1]
    exact beq_self_eq_true k
  · intro m hm hmj
    have hmn : m < ns.length := by omega
    obtain ⟨tm, hmt⟩ := at_ m _ (List.getElem?_eq_getElem hmn)
    obtain ⟨h1, h2⟩ := List.getElem?_eq_some_iff.mp hmt
    have e1 : its.toArray[m] = .str ns[m] tm := by simpa using h2
    rw [e1]
    refine beq_eq_false_iff_ne.mpr fun e2 => hno m hmj ?_
    rw [List.getElem?_eq_getElem hmn, e2]
  · have rr := r.eraseIdx j
    rw [erase_mapS] at rr
    refine ⟨.non, _, I.lset (its' := its.eraseIdx j) (t' := s.toks) hH e ?_ rr ?_, rfl, q⟩
    · show its.toArray.eraseIdxIfInBounds j = (its.eraseIdx j).toArray
      rw [List.eraseIdxIfInBounds_toArray]
    · have z2 : (ns.eraseIdx j).length ≤ ns.length := by
        rw [List.length_eraseIdx]
        split <;> omega
      rw [List.length_map]
      omega
end
end Kx
set_option maxHeartbeats 4000000
namespace Kx
open PySem PySem.Spec PyProof.Rows L2

/-! ### max(d.values()), sum(d.values()) of a dict with int values -/
def tMaxVals (td : TE) : TE := fun σ H Q => td σ H fun x H1 => ∃ (a : Addr) (kvs : List (Key × V)) (is : List Int), x = V.ref a ∧ H1 a = some (.dK kvs) ∧ kvs.map (·.2) = is.map V.int ∧ is ≠ [] ∧ ∀ m, m ∈ is → (∀ j ∈ is, j ≤ m) → Q (.int m) H1
def tSumVals (td : TE) : TE := fun σ H Q => td σ H fun x H1 => ∃ (a : Addr) (kvs : List (Key × V)) (is : List Int), x = V.ref a ∧ H1 a = some (.dK kvs) ∧ kvs.map (·.2) = is.map V.int ∧ Q (.int is.sum) H1
theorem preSum_sum : ∀ (is : List Int) (val : Nat → Int), (∀ i, i < is.length → val i = is.getD i 0) → ∀ n, n ≤ is.length → preSum val n = (is.take n).sum
  | is, val, h, 0, _ => by simp [preSum]
  | is, val, h, n + 1, hn => by
    have ih := preSum_sum is val h n (by omega)
    have e : is[n]? = some is[n] := List.getElem?_eq_getElem (by omega)
    rw [sum_take e, ← ih]
    show preSum val n + val n = _
    rw [h n (by omega), List.getD_eq_getElem?_getD, e]
    rfl
section
variable {X : Cx} {o : Expr} {p pos apos mpos : Pos} {td : TE}
theorem vals_ints {kvs : List (Key × V)} {vs : List (Key × Value)} {is : List Int} (rel : KV kvs vs) (hv : kvs.map (·.2) = is.map V.int) : vs.length = is.length ∧ ∀ (i : Nat) (v : Value), (∃ k, vs[i]? = some (k, v)) → ∃ t, v = Value.int (is.getD i 0) t := by
  refine ⟨?_, fun i v ⟨k, hk⟩ => ?_⟩
  · have e1 := congrArg List.length hv
    rw [List.length_map, List.length_map] at e1
    rw [← e1]
    exact (KV.length rel).symm
  · obtain ⟨x, h1, h2⟩ := KV.at' rel hk
    have e1 : (kvs.map (·.2))[i]? = some x := by rw [List.getElem?_map, h1] <;> rfl
    rw [hv, List.getElem?_map] at e1
    obtain ⟨j, hj, e2⟩ := Option.map_eq_some_iff.mp e1
    subst e2
    obtain ⟨t, e3⟩ := h2
    refine ⟨t, ?_⟩
    rw [e3, List.getD_eq_getElem?_getD, hj] <;> rfl
theorem pe_maxVals (hc : X.calm = true) (hg : Gl X "max") (hm : X.mg "max" = none) (hd : PE X o td) (hbase : attributeBase o "values" X.env (eval o X.env) = eval o X.env := by rfl) (hline : (apos.endLine == mpos.line) = true := by rfl)
    (hse : starEach [Expr.Call (.Attribute o "values" apos) [] [] mpos] X.env = [(false, eval (Expr.Call (.Attribute o "values" apos) [] [] mpos) X.env)] := by rfl) :
    PE X (.Call (.Name "max" p) [.Call (.Attribute o "values" apos) [] [] mpos] [] pos) (tMaxVals td) := by
  refine ⟨fun pins s σ H Q I h => ?_⟩
  refine wpAny_Call_Name_kw (ld_blt I hg hm (u := .builtin "max") (by first | rfl | decide +kernel) ?_ (by first | decide +kernel | decide) (by first | decide +kernel | decide))
  rw [hse]
  refine PySem.callWith_builtin1 (wpAny_Call_method0_late hbase hline (thn (hd.run pins s σ H _ I h) fun v s1 ⟨x, H1, I1, r1, a, kvs, is, ex, ha, hv, hne, q⟩ => ?_))
  subst ex
  obtain rfl : v = Value.ref a := r1
  obtain ⟨_, hsys, vs, rel, dof⟩ := dk_of I1.hok ha
  obtain ⟨ep, dat⟩ := dof.dictAt
  have dat' := dat
  obtain ⟨ob, es, ho, ex, hdat, hko, hpr, hnd⟩ := dat'
  refine ⟨"dict", "dict.values", F.plainAttrs_dict, F.slot_dict_values, F.type_dict_values, ⟨ob, ho, ex.1⟩, fun b e => ?_, Calls.callWith_builtin rfl (PySem.evalArgs_none ?_)⟩
  · cases e
    exact ⟨ob, ho, ex.2.1⟩
  refine call_meetsIn F.slot_dict_values ⟨ob, ho, ex.1⟩ F.entry_dict_values (F.args_dict_values_1 _) (meets_dict_values (mixKind X.prog X.w) a hsys) ⟨⟨vs, dof⟩, ?_⟩
  have k1 : ∀ b u, s1.heap.get? b = some u → (s1.heap.push { cls := .type "dict_values", data := .fields #[.ref a] }).get? b = some u := fun b u e => Heap.get?_push_of_some _ e
  have dat1 : (s1.heap.push { cls := .type "dict_values", data := .fields #[.ref a] }).DictAt (mixKind X.prog X.w) a vs ep := dat.keep k1
  obtain ⟨hlv, hval⟩ := vals_ints rel hv
  have hlen : 0 < vs.length := by
    rw [hlv]
    exact List.length_pos_iff.mpr hne
  refine call_max_walk (wpAny_pyIter_values (v := s1.heap.objs.size) (d := a) ⟨_, Heap.get?_push_size _ rfl, rfl, rfl⟩ dat1 ?_)
  have hlt : a < s1.heap.objs.size := Heap.lt_size ho
  have hsz : (s1.heap.push { cls := .type "dict_values", data := .fields #[.ref a] }).objs.size = s1.heap.objs.size + 1 := Heap.size_push _ _
  refine ⟨_, _, _, _, _, _, _, rfl, Walks.dictValues (knd := mixKind X.prog X.w) (A := X.A.in1) (I.ok.hd hc) (s1.heap.push { cls := .type "dict_values", data := .fields #[.ref a] }).objs.size a (by rw [hsz]; exact Nat.ne_of_lt (Nat.lt_succ_of_lt hlt)) vs ep,
    ⟨⟨_, Heap.get?_push_size _ rfl, rfl, rfl⟩, dat1.keep fun b u e => Heap.get?_push_of_some _ e⟩, fun b hb => ?_, hlen, CmpOf.ints_gt (fun i => is.getD i 0) hval, fun v h' tk hP hk => ?_⟩
  · show b < ((s1.heap.push _).push _).objs.size
    rw [Heap.size_push, Heap.size_push]
    rw [hsz] at hb
    rcases List.mem_cons.mp hb with e | hb
    · rw [e]
      exact Nat.lt_succ_self _
    · have e : b = a := List.mem_singleton.mp hb
      rw [e]
      exact Nat.lt_succ_of_lt (Nat.lt_succ_of_lt hlt)
  · obtain ⟨t, rfl⟩ := hval _ v hP
    obtain ⟨b1, b2⟩ := argBest_gt (fun i => is.getD i 0) (vs.length - 1)
    refine ⟨.int _, H1, I1.kept (t' := tk) fun b u e => hk b u (fun hmem => ?_) (Heap.get?_push_of_some _ (k1 b u e)), ⟨t, rfl⟩, q _ ?_ fun j hj => ?_⟩
    · have e1 : b = (s1.heap.push { cls := .type "dict_values", data := .fields #[.ref a] }).objs.size := List.mem_singleton.mp hmem
      have e2 := Heap.lt_size e
      rw [hsz] at e1
      rw [e1] at e2
      exact absurd e2 (Nat.not_lt.mpr (Nat.le_succ _))
    · have hb : argBest (fun i j => decide (is.getD i 0 > is.getD j 0)) (vs.length - 1) < is.length := by omega
      rw [List.getD_eq_getElem?_getD, List.getElem?_eq_getElem hb]
      exact List.getElem_mem hb
    · obtain ⟨i, hi, e⟩ := List.mem_iff_getElem.mp hj
      have e2 : is.getD i 0 = j := by rw [List.getD_eq_getElem?_getD, List.getElem?_eq_getElem hi, ← e] <;> rfl
      rw [← e2]
      exact b2 i (by omega)
theorem pe_sumVals (hc : X.calm = true) (hg : Gl X "sum") (hm : X.mg "sum" = none) (hd : PE X o td) (hbase : attributeBase o "values" X.env (eval o X.env) = eval o X.env := by rfl) (hline : (apos.endLine == mpos.line) = true := by rfl)
    (hse : starEach [Expr.Call (.Attribute o "values" apos) [] [] mpos] X.env = [(false, eval (Expr.Call (.Attribute o "values" apos) [] [] mpos) X.env)] := by rfl) :
    PE X (.Call (.Name "sum" p) [.Call (.Attribute o "values" apos) [] [] mpos] [] pos) (tSumVals td) := by
  refine ⟨fun pins s σ H Q I h => ?_⟩
  refine wpAny_Call_Name_kw (ld_blt I hg hm (u := .builtin "sum") (by first | rfl | decide +kernel) ?_ (by first | decide +kernel | decide) (by first | decide +kernel | decide))
  rw [hse]
  refine PySem.callWith_builtin1 (wpAny_Call_method0_late hbase hline (thn (hd.run pins s σ H _ I h) fun v s1 ⟨x, H1, I1, r1, a, kvs, is, ex, ha, hv, q⟩ => ?_))
  subst ex
  obtain rfl : v = Value.ref a := r1
  obtain ⟨_, hsys, vs, rel, dof⟩ := dk_of I1.hok ha
  obtain ⟨ep, dat⟩ := dof.dictAt
  have dat' := dat
  obtain ⟨ob, es, ho, ex, hdat, hko, hpr, hnd⟩ := dat'
  refine ⟨"dict", "dict.values", F.plainAttrs_dict, F.slot_dict_values, F.type_dict_values, ⟨ob, ho, ex.1⟩, fun b e => ?_, Calls.callWith_builtin rfl (PySem.evalArgs_none ?_)⟩
  · cases e
    exact ⟨ob, ho, ex.2.1⟩
  refine call_meetsIn F.slot_dict_values ⟨ob, ho, ex.1⟩ F.entry_dict_values (F.args_dict_values_1 _) (meets_dict_values (mixKind X.prog X.w) a hsys) ⟨⟨vs, dof⟩, ?_⟩
  have k1 : ∀ b u, s1.heap.get? b = some u → (s1.heap.push { cls := .type "dict_values", data := .fields #[.ref a] }).get? b = some u := fun b u e => Heap.get?_push_of_some _ e
  have dat1 : (s1.heap.push { cls := .type "dict_values", data := .fields #[.ref a] }).DictAt (mixKind X.prog X.w) a vs ep := dat.keep k1
  obtain ⟨hlv, hval⟩ := vals_ints rel hv
  refine call_sum_walkG (wpAny_pyIter_values (v := s1.heap.objs.size) (d := a) ⟨_, Heap.get?_push_size _ rfl, rfl, rfl⟩ dat1 ?_)
  have hlt : a < s1.heap.objs.size := Heap.lt_size ho
  have hsz : (s1.heap.push { cls := .type "dict_values", data := .fields #[.ref a] }).objs.size = s1.heap.objs.size + 1 := Heap.size_push _ _
  refine ⟨_, _, _, _, _, _, _, rfl, Walks.dictValues (knd := mixKind X.prog X.w) (A := X.A.in1) (I.ok.hd hc) (s1.heap.push { cls := .type "dict_values", data := .fields #[.ref a] }).objs.size a (by rw [hsz]; exact Nat.ne_of_lt (Nat.lt_succ_of_lt hlt)) vs ep,
    ⟨⟨_, Heap.get?_push_size _ rfl, rfl, rfl⟩, dat1.keep fun b u e => Heap.get?_push_of_some _ e⟩, fun b hb => ?_, hval, fun h' tk t' hk => ?_⟩
  · show b < ((s1.heap.push _).push _).objs.size
    rw [Heap.size_push, Heap.size_push]
    rw [hsz] at hb
    rcases List.mem_cons.mp hb with e | hb
    · rw [e]
      exact Nat.lt_succ_self _
    · have e : b = a := List.mem_singleton.mp hb
      rw [e]
      exact Nat.lt_succ_of_lt (Nat.lt_succ_of_lt hlt)
  · have es : preSum (fun i => is.getD i 0) vs.length = is.sum := by
      rw [preSum_sum is _ (fun i _ => rfl) vs.length (by omega), hlv, List.take_length]
    refine ⟨.int is.sum, H1, I1.kept (t' := tk) fun b u e => hk b u (fun hmem => ?_) (Heap.get?_push_of_some _ (k1 b u e)), ⟨t', by rw [es]⟩, q⟩
    have e1 : b = (s1.heap.push { cls := .type "dict_values", data := .fields #[.ref a] }).objs.size := List.mem_singleton.mp hmem
    have e2 := Heap.lt_size e
    rw [hsz] at e1
    rw [e1] at e2
    exact absurd e2 (Nat.not_lt.mpr (Nat.le_succ _))
end
end Kx
set_option maxHeartbeats 4000000
namespace Kx
open PySem PySem.Spec PyProof.Rows L2 PySem.W
/-! ### list(zip(a, b)), a a list of texts (keys), b any list -/
structure ZSt (h : Heap) (z TI TO i1 i2 l1 l2 S : Addr) (xs ys : Array Value) (i : Nat) : Prop where
  ti : IsPair h TI (.ref i1) (.ref i2)
  h1 : h.IsListIter i1 l1 i
  h2 : h.IsListIter i2 l2 i
  hl1 : h.IsList l1 xs
  hl2 : h.IsList l2 ys
  st : (IsZip h z TI TO .none ∧ ∃ a b, IsPair h TO a b) ∨ ∃ T f oT, IsZipHeld h z TI TO T f ∧ h.get? T = some oT ∧ T ≠ z ∧ T ≠ i1 ∧ T ≠ i2 ∧ T ≠ S
theorem ZSt.keep {h h' : Heap} {z TI TO i1 i2 l1 l2 S : Addr} {xs ys : Array Value} {i : Nat} (x : ZSt h z TI TO i1 i2 l1 l2 S xs ys i) (hk : ∀ b o, b ≠ S → h.get? b = some o → h'.get? b = some o)
    (n1 : z ≠ S) (n2 : TI ≠ S) (n3 : TO ≠ S) (n4 : i1 ≠ S) (n5 : i2 ≠ S) (n6 : l1 ≠ S) (n7 : l2 ≠ S) : ZSt h' z TI TO i1 i2 l1 l2 S xs ys i := by
  obtain ⟨ti, h1, h2, hl1, hl2, st⟩ := x
  refine ⟨hk _ _ n2 ti, h1.at fun o e => hk _ o n4 e, h2.at fun o e => hk _ o n5 e, hl1.at fun o e => hk _ o n6 e, hl2.at fun o e => hk _ o n7 e, ?_⟩
  rcases st with ⟨hz, a, b, hTO⟩ | ⟨T, f, oT, hz, hT, r1, r2, r3, r4⟩
  · exact .inl ⟨hk _ _ n1 hz, a, b, hk _ _ n3 hTO⟩
  · exact .inr ⟨T, f, oT, hk _ _ n1 hz, hk _ _ r4 hT, r1, r2, r3, r4⟩
section
variable {prog : Program} {w : World} {A : Around} {E : Value → Shared → Prop} {s : Shared}
theorem zst_item {z TI TO i1 i2 l1 l2 S : Addr} {xs ys : Array Value} {i : Nat} {x y : Value} {Q : Option Value → Shared → Prop} (D : ZipApart z TI TO i1 i2 l1 l2) (hst : ZSt s.heap z TI TO i1 i2 l1 l2 S xs ys i) (hS : S < s.heap.objs.size)
    (ex : xs[i]? = some x) (ey : ys[i]? = some y)
    (hQ : ∀ h', ZSt h' z TI TO i1 i2 l1 l2 S xs ys (i + 1) → IsPair h' s.heap.objs.size x y → h'.objs.size = s.heap.objs.size + 1 →
      (∀ c o, c ≠ z → c ≠ TO → c ≠ i1 → c ≠ i2 → s.heap.get? c = some o → h'.get? c = some o) → Q (some (.ref s.heap.objs.size)) { s with heap := h' }) :
    wpAny (model prog w) A (pyNext (.ref z)) Q E s := by
  obtain ⟨hTI, h1, h2, hl1, hl2, hz⟩ := hst
  have lt : ∀ {c o}, s.heap.get? c = some o → s.heap.objs.size ≠ c := fun e => Nat.ne_of_gt (Heap.lt_size e)
  have n1 : s.heap.objs.size ≠ i1 := let ⟨_, e, _⟩ := h1; lt e
  have n2 : s.heap.objs.size ≠ i2 := let ⟨_, e, _⟩ := h2; lt e
  rcases hz with ⟨hz, a, b, hTO⟩ | ⟨T, f, oT, hz, hT, r1, r2, r3, r4⟩
  · refine wpAny_pyNext_zip_item D hz hTI hTO h1 h2 hl1 hl2 ex ey fun h' a1 a2 a3 a4 a5 a6 hk => ?_
    exact hQ h' ⟨hk _ _ D.TIz D.TITO D.TIi1 D.TIi2 hTI, a3, a4, hl1.at fun o e => hk _ o D.l1z D.l1TO D.l1i1 D.l1i2 e, hl2.at fun o e => hk _ o D.l2z D.l2TO D.l2i1 D.l2i2 e,
      .inr ⟨s.heap.objs.size, false, _, a1, a5, lt hz, n1, n2, Nat.ne_of_gt hS⟩⟩ a5 a6 hk
  · refine wpAny_pyNext_zip_item_held D hz hT hTI h1 h2 hl1 hl2 ex ey fun h' a1 a3 a4 a5 a6 hk => ?_
    exact hQ h' ⟨hk _ _ D.TIz D.TIi1 D.TIi2 hTI, a3, a4, hl1.at fun o e => hk _ o D.l1z D.l1i1 D.l1i2 e, hl2.at fun o e => hk _ o D.l2z D.l2i1 D.l2i2 e,
      .inr ⟨T, true, oT, a1, hk _ _ r1 r2 r3 hT, r1, r2, r3, r4⟩⟩ a5 a6 fun c o c1 _ c3 c4 e => hk c o c1 c3 c4 e
theorem zst_done {z TI TO i1 i2 l1 l2 S : Addr} {xs ys : Array Value} {i : Nat} {Q : Option Value → Shared → Prop} (hh : A.handled = none) (D : ZipApart z TI TO i1 i2 l1 l2) (hst : ZSt s.heap z TI TO i1 i2 l1 l2 S xs ys i)
    (hend : xs[i]? = none ∨ ys[i]? = none) (hQ : ∀ h', (∀ c o, c ≠ z → c ≠ TO → c ≠ i1 → c ≠ i2 → s.heap.get? c = some o → h'.get? c = some o) → Q none { s with heap := h' }) :
    wpAny (model prog w) A (pyNext (.ref z)) Q E s := by
  obtain ⟨hTI, h1, h2, hl1, hl2, hz⟩ := hst
  rcases hz with ⟨hz, a, b, hTO⟩ | ⟨T, f, oT, hz, hT, r1, r2, r3, r4⟩
  · exact wpAny_pyNext_zip_end hh D hz hTI hTO h1 h2 hl1 hl2 hend hQ
  · exact wpAny_pyNext_zip_end_held hh D hz hT hTI h1 h2 hl1 hl2 hend fun h' hk => hQ h' fun c o c1 _ c3 c4 e => hk c o c1 c3 c4 e
end
section
variable {prog : Program} {w : World} {A : Around} {s : Shared} {R : Result → Shared → Prop} {kvs : List (Key × Value)}
/-- lo: all that the zip writes lies below it; the tuples above -/
theorem zip_loop {z TI TO i1 i2 l1 l2 S lo : Addr} {xs ys : Array Value} (hh : A.handled = none) (D : ZipApart z TI TO i1 i2 l1 l2) (hSlo : S ≤ lo) (hzlo : z ≤ lo) (hTOlo : TO ≤ lo) (hi1lo : i1 ≤ lo) (hi2lo : i2 ≤ lo)
    (n1 : z ≠ S) (n2 : TI ≠ S) (n3 : TO ≠ S) (n4 : i1 ≠ S) (n5 : i2 ≠ S) (n6 : l1 ≠ S) (n7 : l2 ≠ S)
    (hn : kvs.length ≤ sizeLine) (hkv : ∀ (i : Nat) (k : Key) (v : Value), kvs[i]? = some (k, v) → ∃ x, xs[i]? = some x ∧ keyIs k x = true ∧ ys[i]? = some v) (hend : xs[kvs.length]? = none ∨ ys[kvs.length]? = none) (res : Value) {h₁ : Heap}
    (hR : ∀ h' tk acc c as, (∀ b o, b ≠ S → b ≠ z → b ≠ TO → b ≠ i1 → b ≠ i2 → h₁.get? b = some o → h'.get? b = some o) → h'.get? S = some { cls := .type "list", dict := none, data := .seq acc c, slots := #[] } → as.length = kvs.length → KdxG (mixKind prog w) kvs lo h' as →
      acc.toList = as.map Value.ref → R (.ok (.ret res)) { s with heap := h', toks := tk }) :
    ∀ (k i : Nat) (h : Heap) (tk c : Nat) (acc : Array Value) (as : List Addr), kvs.length - i = k → i ≤ kvs.length → ZSt h z TI TO i1 i2 l1 l2 S xs ys i → (∀ b o, b ≠ S → b ≠ z → b ≠ TO → b ≠ i1 → b ≠ i2 → h₁.get? b = some o → h.get? b = some o) →
      h.get? S = some { cls := .type "list", dict := none, data := .seq acc c, slots := #[] } → acc.toList = as.map Value.ref → as.length = i → KdxG (mixKind prog w) kvs lo h as → lo < h.objs.size →
      codeAny (model prog w) A (.builtin "list.extend.loop" ⟨[.ref S, .ref z, res], []⟩) R { s with heap := h, toks := tk } := by
  have ab : ∀ {a : Addr}, lo < a → a ≠ S ∧ a ≠ z ∧ a ≠ TO ∧ a ≠ i1 ∧ a ≠ i2 := fun {a} h =>
    ⟨Nat.ne_of_gt (Nat.lt_of_le_of_lt hSlo h), Nat.ne_of_gt (Nat.lt_of_le_of_lt hzlo h), Nat.ne_of_gt (Nat.lt_of_le_of_lt hTOlo h), Nat.ne_of_gt (Nat.lt_of_le_of_lt hi1lo h), Nat.ne_of_gt (Nat.lt_of_le_of_lt hi2lo h)⟩
  intro k
  induction k with
  | zero =>
    intro i h tk c acc as hk hi hst hkeep hS hacc hal hG hIs
    have hin : i = kvs.length := by omega
    refine codeAny_builtin PySem.F.entry_extend_loop ?_
    rw [Around.under_plainId PySem.F.plain_extend_loop _]
    show wpAny _ A.in1 (pyNext (.ref z) >>= _) _ _ _
    refine wpAny_bind (zst_done (s := { s with heap := h, toks := tk }) (A := A.in1) hh D hst (by rw [hin]; exact hend) fun h' he => ?_)
    refine wpAny_pure (hR h' tk acc c as (fun b o b1 b2 b3 b4 b5 e => he b o b2 b3 b4 b5 (hkeep b o b1 b2 b3 b4 b5 e)) (he S _ (Ne.symm n1) (Ne.symm n3) (Ne.symm n4) (Ne.symm n5) hS) (by omega) ⟨hG.rise, hG.above, fun j a hj => ?_⟩ hacc)
    obtain ⟨key, kk, x, e1, e2, e3⟩ := hG.pairs j a hj
    obtain ⟨_, m2, m3, m4, m5⟩ := ab (hG.above a (List.mem_of_getElem? hj))
    exact ⟨key, kk, x, e1, e2, he a _ m2 m3 m4 m5 e3⟩
  | succ k ih =>
    intro i h tk c acc as hk hi hst hkeep hS hacc hal hG hIs
    have hlt : i < kvs.length := by omega
    obtain ⟨⟨kk, v⟩, hx⟩ : ∃ p, kvs[i]? = some p := ⟨kvs[i], List.getElem?_eq_getElem hlt⟩
    obtain ⟨x, ex, hkx, ey⟩ := hkv i kk v hx
    have hsz : acc.size = i := by rw [← Array.length_toList, hacc, List.length_map, hal]
    refine codeAny_builtin PySem.F.entry_extend_loop ?_
    rw [Around.under_plainId PySem.F.plain_extend_loop _]
    show wpAny _ A.in1 (pyNext (.ref z) >>= _) _ _ _
    refine wpAny_bind (zst_item (s := { s with heap := h, toks := tk }) (S := S) D hst (Heap.lt_size hS) ex ey fun h' hst' ht hz hkp => ?_)
    dsimp only at ht hz hkp ⊢
    have hS' := hkp S _ (Ne.symm n1) (Ne.symm n3) (Ne.symm n4) (Ne.symm n5) hS
    have up : ∀ b o, b ≠ S → h'.get? b = some o → (h'.update S (Obj.mapSeq (·.push (Value.ref h.objs.size)))).get? b = some o := fun b o hb e => (Heap.get?_update_other _ _ (Ne.symm hb)).trans e
    have hSl : S < h.objs.size := Heap.lt_size hS
    show wpAny _ A.in1 (updateSeq S (·.push (Value.ref h.objs.size)) >>= _) _ _ _
    refine wpAny_bind ?_
    refine wpAny_updateSeq hS' rfl (wpAny_pure ⟨plainId_quiet PySem.F.plain_extend_loop _, ih (i + 1) _ tk _ (acc.push (Value.ref h.objs.size)) (as ++ [h.objs.size]) (by omega) hlt (hst'.keep up n1 n2 n3 n4 n5 n6 n7)
      (fun b o b1 b2 b3 b4 b5 e => up b o b1 (hkp b o b2 b3 b4 b5 (hkeep b o b1 b2 b3 b4 b5 e))) (Heap.get?_update_self _ hS' rfl) (by rw [Array.toList_push, hacc, List.map_append]; rfl) (by rw [List.length_append, hal]; rfl) ⟨?_, ?_, ?_⟩ ?_⟩) (by rw [hsz]; omega) (by show (acc.push (Value.ref h.objs.size)).size ≤ sizeLine + 1; rw [Array.size_push, hsz]; omega)
    · refine List.pairwise_append.mpr ⟨hG.rise, List.pairwise_singleton _ _, fun a ha b hb => ?_⟩
      rw [List.mem_singleton.mp hb]
      exact hG.there ha
    · intro a ha
      rcases List.mem_append.mp ha with ha | ha
      · exact hG.above a ha
      · rw [List.mem_singleton.mp ha]; exact hIs
    · intro j b hj
      rcases Nat.lt_trichotomy j as.length with h1 | h1 | h1
      · rw [List.getElem?_append_left h1] at hj
        obtain ⟨key', k', x', e1, e2, e3⟩ := hG.pairs j b hj
        obtain ⟨m1, m2, m3, m4, m5⟩ := ab (hG.above b (List.mem_of_getElem? hj))
        exact ⟨key', k', x', e1, e2, up b _ m1 (hkp b _ m2 m3 m4 m5 e3)⟩
      · subst h1
        have hb : h.objs.size = b := by simpa using hj
        subst hb
        exact ⟨x, kk, v, by rw [hal]; exact hx, hkx, up _ _ (Nat.ne_of_gt hSl) ht⟩
      · have hnone : (as ++ [h.objs.size])[j]? = none := List.getElem?_eq_none (by rw [List.length_append, List.length_singleton]; omega)
        rw [hnone] at hj; cases hj
    · have e : (h'.update S (Obj.mapSeq (·.push (Value.ref h.objs.size)))).get? h.objs.size = _ := up _ _ (Nat.ne_of_gt hSl) ht
      exact Nat.lt_trans hIs (Heap.lt_size e)
end
theorem zip_no_len : typeLookup (.type "zip") "__len__" = pure none := by rw [typeLookup_type, builtinLookup_eq_fast]; kernel_rfl
theorem zip_no_hint : typeLookup (.type "zip") "__length_hint__" = pure none := by rw [typeLookup_type, builtinLookup_eq_fast]; kernel_rfl
section
variable {prog : Program} {w : World} {A : Around} {E : Value → Shared → Prop} {s : Shared} {kvs : List (Key × Value)}
theorem zip_extend {R : Result → Shared → Prop} {z TI TO i1 i2 l1 l2 : Addr} {xs ys : Array Value} (hh : A.handled = none) (D : ZipApart z TI TO i1 i2 l1 l2) (S : Addr) (res : Value) (c₀ : Nat) (hS : s.heap.get? S = some { cls := .type "list", data := .seq #[] c₀ })
    (hst : ZSt s.heap z TI TO i1 i2 l1 l2 S xs ys 0) (hz : IsZip s.heap z TI TO .none) (n1 : z ≠ S) (n2 : TI ≠ S) (n3 : TO ≠ S) (n4 : i1 ≠ S) (n5 : i2 ≠ S) (n6 : l1 ≠ S) (n7 : l2 ≠ S) {lo : Addr} (hlo : lo < s.heap.objs.size)
    (hSlo : S ≤ lo) (hzlo : z ≤ lo) (hTOlo : TO ≤ lo) (hi1lo : i1 ≤ lo) (hi2lo : i2 ≤ lo)
    (hn : kvs.length ≤ sizeLine) (hkv : ∀ (i : Nat) (k : Key) (v : Value), kvs[i]? = some (k, v) → ∃ x, xs[i]? = some x ∧ keyIs k x = true ∧ ys[i]? = some v) (hend : xs[kvs.length]? = none ∨ ys[kvs.length]? = none)
    (hR : ∀ h' tk acc c as, (∀ b o, b ≠ S → b ≠ z → b ≠ TO → b ≠ i1 → b ≠ i2 → s.heap.get? b = some o → h'.get? b = some o) → h'.get? S = some { cls := .type "list", dict := none, data := .seq acc c, slots := #[] } → as.length = kvs.length → KdxG (mixKind prog w) kvs lo h' as →
      acc.toList = as.map Value.ref → R (.ok (.ret res)) { s with heap := h', toks := tk }) :
    wpAny (model prog w) A.in1 (Builtin.List.listExtendWith (.ref S) (.ref z) res)
      (fun fin s' => match fin with | .done f => R (.ok f) s' | .again c' => c'.quiet = true ∧ codeAny (model prog w) A c' R s') (fun e s' => R (.error e) s') s := by
  have hT : s.TypeIs (.ref z) "zip" := ⟨_, hz, rfl⟩
  unfold Builtin.List.listExtendWith
  refine wpAny_bind (wpAny_typeOf hT ?_)
  have h1 : Builtin.List.listSameRef (.ref S) (.ref z) = false := by simp [Builtin.List.listSameRef, Ne.symm n1]
  have h2 : (Value.type "zip" == Value.type "list") = false := by decide
  have h3 : (Value.type "zip" == Value.type "tuple") = false := by decide
  simp only [h1, h2, h3, Bool.or_false, Bool.false_eq_true, if_false]
  refine wpAny_bind (wpAny_pyIter_zip hz ?_)
  refine wpAny_bind (wpAny_holding ?_)
  unfold Builtin.List.listLengthHint
  refine wpAny_bind (wpAny_specialOf hT zip_no_len ?_)
  show wpAny _ A.in1 (specialOf (Value.ref z) (Str.ofString "__length_hint__") >>= _) _ _ _
  refine wpAny_bind (wpAny_specialOf hT zip_no_hint ?_)
  refine wpAny_pure ?_
  show wpAny _ A.in1 (rule "list.extend.makes-room" >>= fun _ => Builtin.List.listTouch (.ref S) >>= fun _ =>
    again (.builtin "list.extend.loop" ⟨[.ref S, .ref z, res], []⟩)) _ _ _
  refine wpAny_bind (wpAny_rule ?_)
  refine wpAny_bind ?_
  show wpAny _ A.in1 (updateSeq S (·.push .none) >>= fun _ => updateSeq S (·.pop)) _ _ _
  refine wpAny_bind (wpAny_updateSeq hS rfl ?_)
  have hS₂ := Heap.get?_update_self (Obj.mapSeq (·.push Value.none)) hS rfl
  refine wpAny_updateSeq (hz := by seq_fits) hS₂ rfl ?_
  have hS₃ := Heap.get?_update_self (Obj.mapSeq (·.pop)) hS₂ rfl
  have oth : ∀ b o, b ≠ S → s.heap.get? b = some o → ((s.heap.update S (Obj.mapSeq (·.push Value.none))).update S (Obj.mapSeq (·.pop))).get? b = some o :=
    fun b o hb e => (Heap.get?_update_other _ _ (Ne.symm hb)).trans ((Heap.get?_update_other _ _ (Ne.symm hb)).trans e)
  refine wpAny_pure ⟨plainId_quiet PySem.F.plain_extend_loop _, zip_loop (lo := lo) (h₁ := s.heap) hh D hSlo hzlo hTOlo hi1lo hi2lo n1 n2 n3 n4 n5 n6 n7 hn hkv hend res hR kvs.length 0 _ s.toks _ #[] [] (Nat.sub_zero _) (Nat.zero_le _) (hst.keep oth n1 n2 n3 n4 n5 n6 n7)
    (fun b o hb _ _ _ _ e => oth b o hb e) hS₃ rfl rfl ⟨List.Pairwise.nil, (fun _ ha => nomatch ha), (fun j a hj => by simp at hj)⟩ ?_⟩
  rw [Heap.size_update, Heap.size_update]
  exact hlo
theorem zip_call {Q : Value → Shared → Prop} {z TI TO i1 i2 l1 l2 : Addr} {xs ys : Array Value} (hh : A.handled = none) (D : ZipApart z TI TO i1 i2 l1 l2) (hz : IsZip s.heap z TI TO .none) (hTI : IsPair s.heap TI (.ref i1) (.ref i2)) (hTO : ∃ a b, IsPair s.heap TO a b)
    (h1 : s.heap.IsListIter i1 l1 0) (h2 : s.heap.IsListIter i2 l2 0) (hl1 : s.heap.IsList l1 xs) (hl2 : s.heap.IsList l2 ys)
    (hn : kvs.length ≤ sizeLine) (hkv : ∀ (i : Nat) (k : Key) (v : Value), kvs[i]? = some (k, v) → ∃ x, xs[i]? = some x ∧ keyIs k x = true ∧ ys[i]? = some v) (hend : xs[kvs.length]? = none ∨ ys[kvs.length]? = none)
    (hQ : ∀ h' tk acc c as, (∀ b o, b ≠ z → b ≠ TO → b ≠ i1 → b ≠ i2 → s.heap.get? b = some o → h'.get? b = some o) → h'.get? s.heap.objs.size = some { cls := .type "list", dict := none, data := .seq acc c, slots := #[] } → as.length = kvs.length → KdxG (mixKind prog w) kvs s.heap.objs.size h' as →
      acc.toList = as.map Value.ref → Q (.ref s.heap.objs.size) { s with heap := h', toks := tk }) :
    wpAny (model prog w) A (call (.type "list") [.ref z]) Q E s := by
  refine callType_codes (Q₁ := fun obj s₁ => obj = .ref s.heap.objs.size ∧ s₁ = { s with heap := s.heap.push { cls := .type "list", data := .seq #[] } }) PySem.F.called_list (PySem.F.typeCall_list_1 _) PySem.F.entry_list_init
    (code_list_new _ ⟨rfl, rfl⟩) fun obj s₁ h₁ => ?_
  obtain ⟨rfl, rfl⟩ := h₁
  have hS : (s.heap.push { cls := .type "list", data := .seq #[] }).get? s.heap.objs.size = some { cls := .type "list", data := .seq #[] } := Heap.get?_push_size _ rfl
  have kp : ∀ b o, s.heap.get? b = some o → (s.heap.push { cls := .type "list", data := .seq #[] }).get? b = some o := fun b o e => Heap.get?_push_of_some _ e
  have lt : ∀ {c o}, s.heap.get? c = some o → c < s.heap.objs.size := fun e => Heap.lt_size e
  obtain ⟨a, b, hTO⟩ := hTO
  have g1 : i1 < s.heap.objs.size := let ⟨_, e, _⟩ := h1; lt e
  have g2 : i2 < s.heap.objs.size := let ⟨_, e, _⟩ := h2; lt e
  have g3 : l1 < s.heap.objs.size := let ⟨_, e, _⟩ := hl1; lt e
  have g4 : l2 < s.heap.objs.size := let ⟨_, e, _⟩ := hl2; lt e
  refine ⟨⟨_, hS, rfl⟩, PySem.F.args_list_init_2 _ _, ?_⟩
  show wpAny _ A.in1.in1 (do let old ← Builtin.List.listItems (.ref s.heap.objs.size); Builtin.List.listUpdate (.ref s.heap.objs.size) (fun _ => #[]); letGo old.toList.reverse; Builtin.List.listExtendWith (.ref s.heap.objs.size) (.ref z) .none) _ _ _
  refine wpAny_bind ?_
  unfold Builtin.List.listItems
  refine wpAny_bind (wpAny_seqItems hS rfl (wpAny_pure ?_))
  show wpAny _ A.in1.in1 (updateSeq s.heap.objs.size (fun _ => #[]) >>= fun _ => letGo (#[] : Array Value).toList.reverse >>= fun _ => Builtin.List.listExtendWith (.ref s.heap.objs.size) (.ref z) .none) _ _ _
  refine wpAny_bind (wpAny_updateSeq hS rfl ?_)
  have hS₂ := Heap.get?_update_self (Obj.mapSeq (fun _ => (#[] : Array Value))) hS rfl
  have oth : ∀ b o, s.heap.get? b = some o → ((s.heap.push { cls := .type "list", data := .seq #[] }).update s.heap.objs.size (Obj.mapSeq (fun _ => (#[] : Array Value)))).get? b = some o :=
    fun b o e => (Heap.get?_update_other _ _ (Nat.ne_of_gt (lt e))).trans (kp b o e)
  refine wpAny_bind (wpAny_letGo ?_)
  refine zip_extend (A := A.in1) (lo := s.heap.objs.size) (kvs := kvs) hh D s.heap.objs.size .none _ hS₂ ⟨oth _ _ hTI, h1.at fun o e => oth _ o e, h2.at fun o e => oth _ o e, hl1.at fun o e => oth _ o e, hl2.at fun o e => oth _ o e, .inl ⟨oth _ _ hz, a, b, oth _ _ hTO⟩⟩ (oth _ _ hz)
    (Nat.ne_of_lt (lt hz)) (Nat.ne_of_lt (lt hTI)) (Nat.ne_of_lt (lt hTO)) (Nat.ne_of_lt g1) (Nat.ne_of_lt g2) (Nat.ne_of_lt g3) (Nat.ne_of_lt g4)
    (by rw [Heap.size_update, Heap.size_push]; exact Nat.lt_succ_self _) (Nat.le_refl _) (Nat.le_of_lt (lt hz)) (Nat.le_of_lt (lt hTO)) (Nat.le_of_lt g1) (Nat.le_of_lt g2) hn hkv hend fun h' tk acc c as hk hS' hl hG hacc => ?_
  exact ⟨rfl, hQ h' tk acc c as (fun b o b2 b3 b4 b5 e => hk b o (Nat.ne_of_lt (lt e)) b2 b3 b4 b5 (oth b o e)) hS' hl hG hacc⟩
end
end Kx
set_option maxHeartbeats 4000000
namespace Kx
open PySem PySem.Spec PyProof.Rows L2 LiI
/-- a new list at S of new tuples is tracked; the heap may have got other, untracked objects besides -/
theorem pairs_laid {X : Cx} {pins : List (Addr × Obj)} {σ : L2.St} {H : Hp} {s : Shared} {h' : Heap} {tk : Nat} {kvs : List (Key × V)} {vs : List (Key × Value)} {acc : Array Value} {c : Nat} {as : List Addr} {S : Addr} (I : Inv X pins σ H s) (hSz : s.heap.objs.size ≤ S) (hz : kvs.length ≤ sizeLine) (kv : KV kvs vs)
    (hk : ∀ b o, s.heap.get? b = some o → h'.get? b = some o) (hS : h'.get? S = some { cls := .type "list", dict := none, data := .seq acc c, slots := #[] }) (hl : as.length = vs.length) (hG : PySem.W.KdxG (mixKind X.prog X.w) vs S h' as) (hacc : acc.toList = as.map Value.ref) :
    ∃ H' : Hp, (∀ b o, H b = some o → H' b = some o) ∧ H S = none ∧ (∀ t ∈ as, H t = none) ∧ S ∉ as ∧ H' S = some (.lst (as.map V.ref)) ∧ Paired (fun (t : Addr) (q : Key × V) => H' t = some (.tup [kV q.1, q.2])) as kvs ∧ Inv X pins σ H' { s with heap := h', toks := tk } := by
  have lk : kvs.length = vs.length := Paired.length kv
  have hSn : S ∉ as := fun z => Nat.lt_irrefl _ (hG.above _ z)
  have nd : as.Nodup := List.Pairwise.imp (fun {a b} (h : a < b) => Nat.ne_of_lt h) hG.rise
  have up : ∀ t ∈ as, s.heap.objs.size < t := fun t ht => Nat.lt_of_le_of_lt hSz (hG.above t ht)
  have new : ∀ t ∈ as, H t = none := fun t ht => I.hok.fresh (Nat.le_of_lt (up t ht))
  have newS : H S = none := I.hok.fresh hSz
  have atP := putT_at as kvs (upd H S (.lst (as.map V.ref))) (by omega) nd
  have off : ∀ b, b ∉ as → b ≠ S → putT (upd H S (.lst (as.map V.ref))) as kvs b = H b := fun b h1 h2 => by rw [putT_off as kvs _ h1, upd_ne h2]
  have low : ∀ b o, s.heap.get? b = some o → b ∉ as ∧ b ≠ S := fun b o e => ⟨fun z => absurd (Heap.lt_size e) (Nat.not_lt.mpr (Nat.le_of_lt (up b z))), Nat.ne_of_lt (Nat.lt_of_lt_of_le (Heap.lt_size e) hSz)⟩
  have kp : ∀ b u, H b = some u → (putT (upd H S (.lst (as.map V.ref))) as kvs) b = some u := fun b u e => by
    rw [off b (fun z => by rw [new b z] at e; cases e) (fun z => by rw [z, newS] at e; cases e)]
    exact e
  have eS : putT (upd H S (.lst (as.map V.ref))) as kvs S = some (.lst (as.map V.ref)) := by rw [putT_off as kvs _ hSn, upd_same]
  refine ⟨putT (upd H S (.lst (as.map V.ref))) as kvs, kp, newS, new, hSn, eS, atP, ?_⟩
  refine I.call' (ch := []) rfl ⟨fun b o q _ _ _ => hk b o q, fun b o q _ _ _ => ⟨o.slots, hk b o q⟩, fun b o q n _ => ?_, fun b o q _ => ⟨o, hk b o q⟩, fun b xs q => kp b _ q, fun b o u q => kp b _ q, fun b ps q => ⟨#[], by rw [kp b _ q]; simp⟩⟩ (fun b u q => ?_) I.bare fun b z => by simp at z
  · obtain ⟨z1, z2⟩ := low b o q
    rw [off b z1 z2]
    exact n
  · by_cases hb : b ∈ as
    · obtain ⟨j, pk, e1, e2, e3⟩ := paired_ix atP hb
      rw [e3] at q
      cases q
      obtain ⟨key, k, x, f1, f2, f3⟩ := hG.pairs j b e1
      obtain ⟨qv, g1, g2, g3⟩ := LiI.paired_get kv e2
      rw [f1] at g1
      cases g1
      have rk : RelV (kV pk.1) key := by
        rw [g2]
        exact relV_key (show keyIs k key = true from f2)
      exact ⟨by show 2 ≤ sizeLine; decide, [key, x], .cons rk (.cons g3 .nil), ⟨_, f3, rfl, _, rfl⟩⟩
    · by_cases hb2 : b = S
      · rw [hb2] at q ⊢
        rw [eS] at q
        cases q
        refine ⟨by rw [List.length_map]; omega, acc.toList, c, by rw [hacc]; exact LiI.vals_refs as, ?_⟩
        rw [Array.toArray_toList]
        exact hS
      · rw [off b hb hb2] at q
        exact (I.hok b u q).stay (fun d v _ y => hk d v y) (fun d y => kp d _ y) fun d xs y => kp d _ y

/-- list(zip(a, b)) of a list of texts and a list of as many values -/
def rListZip (K : PySem.W.Frag) : V → V → Hp → VK → Prop := fun x y H Q => ∃ (a b : Addr) (ns : List Str) (ws : List V), x = .ref a ∧ y = .ref b ∧ SqL K H a (ns.map V.str) ∧ SqL K H b ws ∧ ns.length = ws.length ∧
  ∀ (H' : Hp) (p : Addr) (ts : List Addr), (∀ c o, H c = some o → H' c = some o) → H p = none → (∀ t ∈ ts, H t = none) → p ∉ ts → H' p = some (.lst (ts.map V.ref)) → Paired (fun (t : Addr) (q : Str × V) => H' t = some (.tup [.str q.1, q.2])) ts (ns.zip ws) → Q (.ref p) H'
def tListZip (K : PySem.W.Frag) (ta tb : TE) : TE := fun σ H Q => ta σ H fun x H1 => tb σ H1 fun y H2 => rListZip K x y H2 Q
theorem paired_unkey {H : Hp} : ∀ {ts : List Addr} {l : List (Str × V)}, Paired (fun (t : Addr) (q : Key × V) => H t = some (.tup [kV q.1, q.2])) ts (l.map fun p => (Sum.inr p.1, p.2)) → Paired (fun (t : Addr) (q : Str × V) => H t = some (.tup [.str q.1, q.2])) ts l
  | [], [], _ => .nil
  | [], _ :: _, h => by cases h
  | _ :: _, [], h => by cases h
  | t :: ts, p :: l, h => by
    cases h with
    | cons h1 h2 => exact .cons h1 (paired_unkey h2)
theorem kv_zip : ∀ {ns : List Str} {ws : List V} {us : List Value}, Vals ws us → KV ((ns.zip ws).map fun p => ((Sum.inr p.1 : Key), p.2)) ((ns.zip us).map fun p => ((Sum.inr p.1 : Key), p.2))
  | [], _, _, _ => .nil
  | _ :: _, _, _, .nil => .nil
  | n :: ns, _, _, .cons r t => .cons ⟨rfl, r⟩ (kv_zip t)
section
variable {X : Cx} {a b : Expr} {ta tb : TE} {p p2 pos pos2 : Pos}
theorem pe_listZip (hc : X.calm = true) (hg : Gl X "list") (hm : X.mg "list" = none) (hg2 : Gl X "zip") (hm2 : X.mg "zip" = none) (ha : PE X a ta) (hb : PE X b tb)
    (hs : starEach [.Call (.Name "zip" p2) [a, b] [] pos2] X.env = (false, eval (.Call (.Name "zip" p2) [a, b] [] pos2) X.env) :: starEach [] X.env := by rfl)
    (na : starEach [a, b] X.env = (false, eval a X.env) :: starEach [b] X.env := by rfl)
    (nb : starEach [b] X.env = (false, eval b X.env) :: starEach [] X.env := by rfl) (hp : (backTo pos2 (starEach [b] X.env)).any (·.1) = false := by rfl) :
    PE X (.Call (.Name "list" p) [.Call (.Name "zip" p2) [a, b] [] pos2] [] pos) (tListZip X.K ta tb) := by
  refine ⟨fun pins s σ H Q I h => ?_⟩
  refine wpAny_Call_Name_kw (ld_blt I hg hm boot_list ?_)
  refine PyProof.Rows.callWith_type1 ?_ hs rfl
  rw [hs]
  show wpAny _ _ (spliced ((false, eval (.Call (.Name "zip" p2) [a, b] [] pos2) X.env) :: backTo pos (starEach [] X.env))) _ _ s
  refine Calls.spliced_cons ?_
  refine wpAny_Call_Name_kw (ld_blt I hg2 hm2 (u := .type "zip") (by first | rfl | decide +kernel) ?_ (by decide) (by decide))
  refine PyProof.Rows.callWith_type1 (args_cons (thn (ha.run pins s σ H _ I h) fun v s1 ⟨x, H1, I1, r1, q1⟩ => one_arg hb I1 q1 (fun u s2 y H2 I2 r2 q => ?_) nb) na) na hp
  obtain ⟨l1, l2, ns, ws, rfl, rfl, hl1, hl2, hlen, q⟩ := q
  obtain rfl : v = Value.ref l1 := r1
  obtain rfl : u = Value.ref l2 := r2
  obtain ⟨xs, rx, px, hzx⟩ := I2.list hl1
  obtain ⟨ys, ry, py, hzy⟩ := I2.list hl2
  have lx := rx.length
  have ly := ry.length
  rw [List.length_map] at lx hzx
  refine call_zip_2 px.isList py.isList fun h1 hz hTI hTO hi1 hi2 hsz hk => ?_
  have lt : ∀ {c o}, s2.heap.get? c = some o → c < s2.heap.objs.size := fun e => Heap.lt_size e
  have gl1 : l1 < s2.heap.objs.size := let ⟨_, e, _⟩ := px.isList; lt e
  have gl2 : l2 < s2.heap.objs.size := let ⟨_, e, _⟩ := py.isList; lt e
  refine Calls.spliced_nil ?_
  have nn : ∀ {c : Addr} (k : Nat), c < s2.heap.objs.size → c ≠ s2.heap.objs.size + k := fun {c} k hc => Nat.ne_of_lt (Nat.lt_of_lt_of_le hc (Nat.le_add_right _ k))
  have D : ZipApart (s2.heap.objs.size + 4) (s2.heap.objs.size + 2) (s2.heap.objs.size + 3) s2.heap.objs.size (s2.heap.objs.size + 1) l1 l2 := by
    refine ⟨?_, ?_, ?_, ?_, ?_, ?_, ?_, ?_, ?_, ?_, nn 4 gl1, nn 3 gl1, nn 0 gl1, nn 1 gl1, nn 4 gl2, nn 3 gl2, nn 0 gl2, nn 1 gl2⟩
    all_goals first
      | exact Nat.ne_of_lt (by show (_ : Nat) < _; omega)
      | exact Nat.ne_of_gt (by show (_ : Nat) < _; omega)
  have hxl : ns.length = xs.length := lx
  refine zip_call (A := X.A) (s := { s2 with heap := h1 }) (kvs := (ns.zip ys).map fun p => ((Sum.inr p.1 : Key), p.2)) (I2.ok.hd hc) D hz hTI ⟨_, _, hTO⟩ hi1 hi2 (px.isList.at fun o e => hk _ o e) (py.isList.at fun o e => hk _ o e) ?_ ?_ ?_ fun h' tk acc c as hkeep hS hl hG hacc => ?_
  · rw [List.length_map, List.length_zip]
    omega
  · intro i k v hi
    rw [List.getElem?_map] at hi
    obtain ⟨pr, h3, h4⟩ := Option.map_eq_some_iff.mp hi
    cases h4
    obtain ⟨n1, n2⟩ := List.getElem?_zip_eq_some.mp h3
    obtain ⟨x, ex, rx'⟩ := rx.get (i := i) (x := V.str pr.1) (by rw [List.getElem?_map, n1]; rfl)
    obtain ⟨t, rfl⟩ := rx'
    exact ⟨_, by simpa using ex, keyIs_str _ _, by simpa using n2⟩
  · refine .inl ?_
    rw [List.length_map, List.length_zip]
    exact Array.getElem?_eq_none (by rw [List.size_toArray]; omega)
  · have kp2 : ∀ b o, s2.heap.get? b = some o → h'.get? b = some o := fun b o e => hkeep b o (nn 4 (lt e)) (nn 3 (lt e)) (nn 0 (lt e)) (nn 1 (lt e)) (hk b o e)
    have kv := kv_zip (ns := ns) ry
    have hz1 : ((ns.zip ws).map fun p => ((Sum.inr p.1 : Key), p.2)).length ≤ sizeLine := by
      rw [List.length_map, List.length_zip]
      omega
    obtain ⟨H', k1, k2, k3, k4, k5, k6, J⟩ := pairs_laid (tk := tk) I2 (show s2.heap.objs.size ≤ h1.objs.size by rw [hsz]; exact Nat.le_add_right _ _) hz1 kv kp2 hS hl hG hacc
    exact ⟨.ref _, H', J, rfl, q H' _ as k1 k2 k3 k4 k5 (paired_unkey k6)⟩
end
end Kx
set_option maxHeartbeats 4000000
namespace Kx
open PySem PySem.Spec PyProof.Rows L2
/-! ### list(it), it a range's iterator; list(reversed(range(..))) -/
section
variable {prog : Program} {w : World} {A : Around} {E : Value → Shared → Prop} {s : Shared}
theorem hint_call {I : Addr} {x left step : Int} {Q : Value → Shared → Prop} (hit : IsRangeIter s.heap I x left step) (h : Q (.int left s.toks) { s with toks := s.toks + 1 }) :
    wpAny (model prog w) A (call (.builtin "range_iterator.__length_hint__") [.ref I]) Q E s := by
  have hT : s.TypeIs (.ref I) "range_iterator" := ⟨_, hit, rfl⟩
  refine wpAny_call_entry F.slot_range_iterator_length_hint hT F.entry_range_iterator_length_hint ?_ (F.args_range_iterator_length_hint_1 _)
  unfold Builtin.«range_iterator.__length_hint__»
  refine wpAny_bind (wpAny_pure ?_)
  refine wpAny_bind (wpAny_field hit rfl (x := rawInt left) rfl ?_)
  exact wpAny_bind (wpAny_mkInt (wpAny_pure ⟨_, rfl, h⟩))
theorem rit_extend {R : Result → Shared → Prop} {I : Addr} {a c : Int} {n : Nat} (hh : A.handled = none) (hit : IsRangeIter s.heap I (a + ((0 : Nat) : Int) * c) ((n : Int) - ((0 : Nat) : Int)) c) (hlen : n ≤ 2 ^ 24) (S : Addr) (hSI : S ≠ I) (res : Value) (c₀ : Nat) (hS : s.heap.get? S = some { cls := .type "list", data := .seq #[] c₀ })
    (hR : ∀ h' tk acc' c', (∀ b o, b ≠ S → b ≠ I → s.heap.get? b = some o → h'.get? b = some o) → h'.get? S = some { cls := .type "list", dict := none, data := .seq acc' c', slots := #[] } →
      ItemsOf (fun i v => ∃ t, v = .int (a + i * c) t) acc' n → R (.ok (.ret res)) { s with heap := h', toks := tk }) :
    wpAny (model prog w) A.in1 (Builtin.List.listExtendWith (.ref S) (.ref I) res)
      (fun fin s' => match fin with | .done f => R (.ok f) s' | .again c' => c'.quiet = true ∧ codeAny (model prog w) A c' R s') (fun e s' => R (.error e) s') s := by
  have hT : s.TypeIs (.ref I) "range_iterator" := ⟨_, hit, rfl⟩
  have hSf : S ∉ [I] := fun hm => hSI (List.mem_singleton.mp hm)
  have W := (Walks.range (prog := prog) (w := w) (A := A.in1) hh I a c n).toS
  unfold Builtin.List.listExtendWith
  refine wpAny_bind (wpAny_typeOf hT ?_)
  have h1 : Builtin.List.listSameRef (.ref S) (.ref I) = false := by simp [Builtin.List.listSameRef, hSI]
  have h2 : (Value.type "range_iterator" == Value.type "list") = false := by decide
  have h3 : (Value.type "range_iterator" == Value.type "tuple") = false := by decide
  simp only [h1, h2, h3, Bool.or_false, Bool.false_eq_true, if_false]
  refine wpAny_bind (wpAny_pyIter_rangeiter hit ?_)
  refine wpAny_bind (wpAny_holding ?_)
  unfold Builtin.List.listLengthHint
  refine wpAny_bind (wpAny_specialOf hT F.nolen_ra ?_)
  show wpAny _ A.in1 (specialOf (Value.ref I) (Str.ofString "__length_hint__") >>= _) _ _ _
  refine wpAny_bind (wpAny_specialOf hT F.hint_ra ?_)
  (generalize hid : ("range_iterator.__length_hint__" : String) = id0; (fail_if_success (clear hid id0)); wp_delta; rw [show splitId id0 = some ("range_iterator", "__length_hint__") from by subst hid; decide +kernel]; subst hid)
  refine wpAny_bind (wpAny_isInstance (b := true) hT (by rw [isSubtype_type]; kernel_rfl) ?_)
  show wpAny _ A.in1 (call (.builtin "range_iterator.__length_hint__") [.ref I] >>= _) _ _ _
  refine wpAny_bind (hint_call hit ?_)
  refine wpAny_bind (m := asInt? _) (wpAny_pure ?_)
  dsimp only
  have htl : Builtin.List.listTooLong (((n : Int) - ((0 : Nat) : Int)).toNat) = false := by simp [Builtin.List.listTooLong, sizeLine]; omega
  rw [if_neg (by rw [htl]; decide)]
  refine wpAny_pure ?_
  rw [if_neg (by decide)]
  refine wpAny_pure ⟨plainId_quiet F.plain_extend_loop _, codeAny_extend_loopS W (by rw [sizeLine_eq]; omega) S hSf res n 0 _ #[] c₀ rfl (Nat.zero_le _) hit hS (ItemsOf.nil _) fun s' acc' c' hm hS' hacc => ?_⟩
  have e := Moved.eq_with hm
  have e2 : s' = { s with heap := s'.heap, toks := s'.toks } := by
    rw [e]
  rw [e2]
  refine hR s'.heap s'.toks acc' c' (fun b o hb hb2 e => hm.heap b o (fun hmem => ?_) e) hS' hacc
  rcases List.mem_cons.mp hmem with e' | hmem
  · exact hb e'
  · exact hb2 (List.mem_singleton.mp hmem)
theorem rit_call {Q : Value → Shared → Prop} {I : Addr} {a c : Int} {n : Nat} (hh : A.handled = none) (hit : IsRangeIter s.heap I (a + ((0 : Nat) : Int) * c) ((n : Int) - ((0 : Nat) : Int)) c) (hlen : n ≤ 2 ^ 24)
    (hQ : ∀ h' tk acc' c', (∀ b o, b ≠ I → s.heap.get? b = some o → h'.get? b = some o) → h'.get? s.heap.objs.size = some { cls := .type "list", dict := none, data := .seq acc' c', slots := #[] } →
      ItemsOf (fun i v => ∃ t, v = .int (a + i * c) t) acc' n → Q (.ref s.heap.objs.size) { s with heap := h', toks := tk }) :
    wpAny (model prog w) A (call (.type "list") [.ref I]) Q E s := by
  refine callType_codes (Q₁ := fun obj s₁ => obj = .ref s.heap.objs.size ∧ s₁ = { s with heap := s.heap.push { cls := .type "list", data := .seq #[] } }) PySem.F.called_list (PySem.F.typeCall_list_1 _) PySem.F.entry_list_init
    (code_list_new _ ⟨rfl, rfl⟩) fun obj s₁ h₁ => ?_
  obtain ⟨rfl, rfl⟩ := h₁
  have hS : (s.heap.push { cls := .type "list", data := .seq #[] }).get? s.heap.objs.size = some { cls := .type "list", data := .seq #[] } := Heap.get?_push_size _ rfl
  refine ⟨⟨_, hS, rfl⟩, PySem.F.args_list_init_2 _ _, ?_⟩
  show wpAny _ A.in1.in1 (do let old ← Builtin.List.listItems (.ref s.heap.objs.size); Builtin.List.listUpdate (.ref s.heap.objs.size) (fun _ => #[]); letGo old.toList.reverse; Builtin.List.listExtendWith (.ref s.heap.objs.size) (.ref I) .none) _ _ _
  refine wpAny_bind ?_
  unfold Builtin.List.listItems
  refine wpAny_bind (wpAny_seqItems hS rfl (wpAny_pure ?_))
  show wpAny _ A.in1.in1 (updateSeq s.heap.objs.size (fun _ => #[]) >>= fun _ => letGo (#[] : Array Value).toList.reverse >>= fun _ => Builtin.List.listExtendWith (.ref s.heap.objs.size) (.ref I) .none) _ _ _
  refine wpAny_bind (wpAny_updateSeq hS rfl ?_)
  have hS₂ := Heap.get?_update_self (Obj.mapSeq (fun _ => (#[] : Array Value))) hS rfl
  have oth : ∀ b o, s.heap.get? b = some o → ((s.heap.push { cls := .type "list", data := .seq #[] }).update s.heap.objs.size (Obj.mapSeq (fun _ => (#[] : Array Value)))).get? b = some o :=
    fun b o e => (Heap.get?_update_other _ _ (Nat.ne_of_gt (Heap.lt_size e))).trans (Heap.get?_push_of_some _ e)
  refine wpAny_bind (wpAny_letGo ?_)
  refine rit_extend (A := A.in1) (n := n) (a := a) (c := c) hh (oth _ _ hit) hlen s.heap.objs.size (Nat.ne_of_gt (Heap.lt_size hit)) .none _ hS₂ fun h' tk acc' c' hk hS' hacc => ?_
  exact ⟨rfl, hQ h' tk acc' c' (fun b o b2 e => hk b o (Nat.ne_of_lt (Heap.lt_size e)) b2 (oth b o e)) hS' hacc⟩
end
theorem vals_rev {a b : Int} {acc : Array Value} (h : ItemsOf (fun i v => ∃ t, v = .int (a + (((b - a).toNat : Nat) : Int) - 1 + i * (-1)) t) acc (b - a).toNat) : Vals (rgV a b).reverse acc.toList := by
  have e : acc.toList.length = (b - a).toNat := by rw [Array.length_toList]; exact h.1
  refine vals_of_at (by rw [List.length_reverse, rgV_length, e]) fun j x u h1 h2 => ?_
  obtain ⟨t, rfl⟩ := h.2 j u (by rw [← h2, Array.getElem?_toList])
  have hj : j < (b - a).toNat := by
    have := (List.getElem?_eq_some_iff.mp h1).1
    rwa [List.length_reverse, rgV_length] at this
  rw [List.getElem?_reverse (by rw [rgV_length]; exact hj), rgV_length] at h1
  unfold rgV at h1
  rw [List.getElem?_map, List.getElem?_range (by omega)] at h1
  cases h1
  exact ⟨t, by congr 1; omega⟩
def tLstRevRg (te : L2.St → Hp → (Int → Int → Hp → Prop) → Prop) : TE := fun σ H Q => te σ H fun a b H1 => RgOk a b ∧ ∀ q, H1 q = none → Q (.ref q) (upd H1 q (.lst (rgV a b).reverse))
section
variable {X : Cx} {e : Expr} {te : L2.St → Hp → (Int → Int → Hp → Prop) → Prop} {p p2 pos pos2 : Pos}
theorem pe_listRevRg (hc : X.calm = true) (hg : Gl X "list") (hm : X.mg "list" = none) (hg2 : Gl X "reversed") (hm2 : X.mg "reversed" = none) (he : PRg X e te)
    (hs : starEach [.Call (.Name "reversed" p2) [e] [] pos2] X.env = (false, eval (.Call (.Name "reversed" p2) [e] [] pos2) X.env) :: starEach [] X.env := by rfl)
    (hs2 : starEach [e] X.env = (false, eval e X.env) :: starEach [] X.env := by rfl) :
    PE X (.Call (.Name "list" p) [.Call (.Name "reversed" p2) [e] [] pos2] [] pos) (tLstRevRg te) := by
  refine ⟨fun pins s σ H Q I h => ?_⟩
  refine wpAny_Call_Name_kw (ld_blt I hg hm boot_list ?_)
  refine PyProof.Rows.callWith_type1 ?_ hs rfl
  rw [hs]
  show wpAny _ _ (spliced ((false, eval (.Call (.Name "reversed" p2) [e] [] pos2) X.env) :: backTo pos (starEach [] X.env))) _ _ s
  refine Calls.spliced_cons ?_
  refine Call_ (ld_blt I hg2 hm2 PyProof.Rows.boot_reversed (PyProof.Rows.callWith_type1 (args_cons (thn (he pins s σ H _ I h) fun u s1 hx => args_nil ?_) hs2) hs2 rfl))
  obtain ⟨r, a, b, t, w1, v, H1, eu, hr, I1, ok, q⟩ := hx
  subst eu
  obtain ⟨b1, b2, b3, b4, b5⟩ := ok
  have hn : Builtin.Range.rangeSize a b 1 = (((b - a).toNat : Nat) : Int) := rangeSize_nat a b
  refine call_reversed_range hr (smallRev_one b1 b2 b3 b4) ?_
  refine Calls.spliced_nil ?_
  have I2 : Inv X pins σ H1 { s1 with heap := s1.heap.push (rngRevObj a b 1) } := I1.kept (t' := s1.toks) fun b o e => Heap.get?_push_of_some _ e
  have hit : IsRangeIter (s1.heap.push (rngRevObj a b 1)) s1.heap.objs.size (a + (((b - a).toNat : Nat) : Int) - 1 + ((0 : Nat) : Int) * (-1)) ((((b - a).toNat : Nat) : Int) - ((0 : Nat) : Int)) (-1) := by
    have e1 : a + (((b - a).toNat : Nat) : Int) - 1 + ((0 : Nat) : Int) * (-1) = a + (Builtin.Range.rangeSize a b 1 - 1) * 1 := by rw [hn]; omega
    have e2 : (((b - a).toNat : Nat) : Int) - ((0 : Nat) : Int) = Builtin.Range.rangeSize a b 1 := by rw [hn]; omega
    rw [e1, e2]
    exact Heap.get?_push_size _ rfl
  refine rit_call (s := { s1 with heap := s1.heap.push (rngRevObj a b 1) }) (n := (b - a).toNat) (I1.ok.hd hc) hit b5 fun h' tk acc c' hk e' hi => ?_
  have hsz : (s1.heap.push (rngRevObj a b 1)).objs.size = s1.heap.objs.size + 1 := Heap.size_push _ _
  have kp : ∀ b o, s1.heap.get? b = some o → h'.get? b = some o := fun b o e => hk b o (Nat.ne_of_lt (Heap.lt_size e)) (Heap.get?_push_of_some _ e)
  have hp : s1.heap.objs.size ≤ (s1.heap.push (rngRevObj a b 1)).objs.size := by rw [hsz]; exact Nat.le_succ _
  refine ⟨.ref _, upd H1 (s1.heap.push (rngRevObj a b 1)).objs.size (.lst (rgV a b).reverse), I1.laid (t' := tk) kp hp (show ObjOk X.prog X.w _ _ _ (.lst (rgV a b).reverse) from ⟨?_, acc.toList, c', vals_rev hi, ?_⟩), rfl, q _ (I1.hok.fresh hp)⟩
  · rw [List.length_reverse, rgV_length, sizeLine_eq]; omega
  · rw [Array.toArray_toList]; exact e'
end
end Kx
set_option maxHeartbeats 2000000
namespace Kx
open PySem PySem.Spec PyProof.Rows L2
/-! ### sorted(.., key=lambda x: (0 - r[x], x)): at the machine -/
abbrev greBody (x r : Str) (p1 p2 p3 p4 p5 p6 p7 : Pos) : Expr := .Tuple [.BinOp (.Constant (.int 0) 0 p1) .Sub (.Subscript (.Name r p2) (.Name x p3) p4) p5, .Name x p6] 0 p7
abbrev grePar (x : Str) (p : Pos) : Arguments := { posonlyargs := [], args := [{ arg := x, annotation := none, pos := p }], vararg := none, kwonlyargs := [], kw_defaults := [], kwarg := none, defaults := [] }
abbrev greSc (x r : Str) : Scope := { kind := .function, names := [(x, .local), (r, .free)], isGenerator := false, isCoroutine := false, more := [] }
section
variable {prog : Program} {w : World} {A : Around} {E : Value → Shared → Prop} {s : Shared}
theorem gre_call {x r q : Str} {p p1 p2 p3 p4 p5 p6 p7 : Pos} {f c c' l : Addr} {cl : List (Str × Addr)} {pm ctv : Value} {us : List Value} {i n : Int} {t t0 : Tok} (hxr : (x == r) = false) (hrx : (r == x) = false)
    (hroom : A.depth < recursionLimit) (ho : s.heap.get? f = some (PySem.W.kla_obj "<lambda>" q (grePar x p) (greBody x r p1 p2 p3 p4 p5 p6 p7) (greSc x r) cl pm c' ctv))
    (hb : bindArgs (PySem.W.kla_fn "<lambda>" q (grePar x p) (greBody x r p1 p2 p3 p4 p5 p6 p7) (greSc x r) cl pm (.ref c') ctv) ⟨[.int i t], []⟩ = pure [(x, .int i t)]) (hcd : s.heap.CodeRec (.ref c') q) (hlim : s.heap.NoLimit) (hc : cl.lookup r = some c) (hcell : s.heap.IsCell c (some (.ref l))) (hl : s.heap.IsList l us.toArray) (h0 : 0 ≤ i) (hfit : i < 2 ^ 63) (hx : us[i.toNat]? = some (.int n t0))
    (hd1 : (x == ("__debug__" : Str)) = false) (hd2 : (r == ("__debug__" : Str)) = false) (hd3 : (r == ("__classdict__" : Str)) = false) :
    wpAny (model prog w) A (call (.ref f) [.int i t]) (PySem.W.KeyPure (.tuple [.int (0 - n), .int i]) s) (fun _ _ => False) s := by
  refine wpAny_call (PySem.W.kla_callFunE hroom ho rfl rfl rfl rfl hcd ?_)
  rw [hb]
  have lx : (greSc x r).names.lookup x = some .local := by simp
  have lr : (greSc x r).names.lookup r = some .free := by simp [List.lookup, hrx]
  refine wpAny_pure (wpAny_newFunctionEnv (fun y hy => ?_) (fun y hy => ?_) (fun h₁ hns hsb => ⟨hlim.fresh _ hsb, ?_⟩) rfl)
  · simp only [List.mem_cons, List.not_mem_nil, or_false] at hy
    rcases hy with rfl | rfl <;> simp
  · simp only [List.mem_cons, List.not_mem_nil, or_false] at hy
    subst hy
    exact lx
  · have kp : ∀ b o, s.heap.get? b = some o → h₁.get? b = some o := fun b o e => hsb.extBut b o (Nat.ne_of_lt (Heap.lt_size e)) (Heap.get?_push_of_some _ e)
    have cell1 : h₁.IsCell c (some (.ref l)) := by
      obtain ⟨o, h1, h2⟩ := hcell
      exact ⟨o, kp _ _ h1, h2⟩
    have list1 : h₁.IsList l us.toArray := by
      obtain ⟨o, h1, h2⟩ := hl
      exact ⟨o, kp _ _ h1, h2⟩
    refine PySem.W.kla_codeExpr ?_
    refine wpAny_Tuple_spliced ?_
    refine Calls.spliced_cons ?_
    refine wpAny_BinOp (wpAny_Constant_int ?_)
    refine Subscript_ (wpAny_Name (wpAny_loadName_free rfl ?_ ?_ cell1 ?_ hd3) hd2)
    · exact lr
    · exact hc
    refine wpAny_Name (wpAny_loadName_local (v := Value.int i t) (m := fun y => [(x, Value.int i t)].reverse.lookup y) rfl ?_ hns ?_ ?_) hd1
    · exact lx
    · simp
    refine item_listR list1 h0 hfit (by simpa using hx) ?_
    refine sub_int ?_
    refine Calls.spliced_cons ?_
    refine wpAny_Name (wpAny_loadName_local (v := Value.int i t) (m := fun y => [(x, Value.int i t)].reverse.lookup y) rfl ?_ hns ?_ ?_) hd1
    · exact lx
    · simp
    refine Calls.spliced_nil ⟨by simp [sizeLine_eq], ?_⟩
    refine ⟨_, _, rfl, fun b o e => Heap.get?_push_of_some _ (kp b o e), ?_⟩
    exact .tuple (Heap.get?_push_size _ rfl) rfl rfl (.cons (.int _ _) (.cons (.int _ _) .nil))
end
end Kx
set_option maxHeartbeats 2000000
namespace Kx
open PySem PySem.Spec PyProof.Rows L2
/-! ### sorted(it, key=f), it a list or a range, ints -/
theorem ints_each : ∀ {us : List Value} {ns : List Int}, IntsAre us ns → PySem.W.EachIs (fun v (i : Int) => ∃ t, v = .int i t) us ns
  | _, [], h => by cases h; exact .nil
  | _, n :: ns, h => by
    obtain ⟨t, vs', rfl, h'⟩ := h.cons_inv
    exact .cons ⟨t, rfl⟩ (ints_each h')
theorem each_ints : ∀ {us : List Value} {ns : List Int}, PySem.W.EachIs (fun v (i : Int) => ∃ t, v = .int i t) us ns → IntsAre us ns
  | _, _, .nil => .nil
  | _, _, .cons ⟨t, e⟩ r => by
    subst e
    exact .cons _ _ (each_ints r)
section
variable {prog : Program} {w : World} {A : Around} {E : Value → Shared → Prop} {s : Shared}
theorem sorted_key_ints {arg f : Value} {ns : List Int} {x y : Int → Int} {Q : Value → Shared → Prop} (hf : ∃ q, f = .ref q) (hL : ns.length ≤ sizeLine) (hu : A.units + 2 + 1 < cLine)
    (col : ∀ (E' : Value → Shared → Prop) (Q' : List Value → Shared → Prop), (∀ h' tk us, (∀ b o, s.heap.get? b = some o → h'.get? b = some o) → IntsAre us ns → Q' us { s with heap := h', toks := tk }) → wpAny (model prog w) A.in1 (collect arg) Q' E' s)
    (turn : ∀ (i : Int) (t : Tok), i ∈ ns → ∀ (h : Heap) (tk : Nat), (∀ b o, s.heap.get? b = some o → h.get? b = some o) →
      wpAny (model prog w) A.in1.in1 (call f [.int i t]) (PySem.W.KeyPure (.tuple [.int (x i), .int (y i)]) { s with heap := h, toks := tk }) (fun _ _ => False) { s with heap := h, toks := tk })
    (h : ∀ (h1 : Heap) out c (h' : Heap) tk, (∀ b o, s.heap.get? b = some o → h1.get? b = some o) → (∀ b o, h1.get? b = some o → h'.get? b = some o) → h'.get? h1.objs.size = some (seqObj "list" (List.toArray out) c) → IntsAre out (ns.mergeSort fun p q => decide (x p < x q ∨ (x p = x q ∧ y p ≤ y q))) →
      Q (.ref h1.objs.size) { s with heap := h', toks := tk }) :
    wpAny (model prog w) A (call (.builtin "sorted") [arg] [(Str.ofString "key", f)]) Q E s := by
  obtain ⟨q, rfl⟩ := hf
  refine call_function_entry_kw kind_sorted plain_sorted entry_sorted (ksk_s1 _ _) ?_
  unfold Builtin.«sorted»
  refine wpAny_bind (m := checkCount "sorted" 1 1 _) (wpAny_pure ?_)
  refine wpAny_bind (col _ _ fun h1 tk us kp hi => ?_)
  have lenU : us.length = ns.length := hi.length
  refine wpAny_bind (wpAny_newList ?_ (by rw [lenU]; exact hL))
  show wpAny _ _ _ _ _ { s with heap := h1.push (seqObj "list" us.toArray 0), toks := tk }
  have hn : (h1.push (seqObj "list" us.toArray 0)).get? h1.objs.size = some (seqObj "list" us.toArray 0) := Heap.get?_push_size _ rfl
  have up : ∀ {g : Heap}, PySem.W.KeepsBut h1.objs.size (h1.push (seqObj "list" us.toArray 0)) g → ∀ b o, h1.get? b = some o → g.get? b = some o := fun {g} k b o e =>
    k b o (Nat.ne_of_lt (Heap.lt_size e)) (Heap.get?_push_of_some _ e)
  have e : PySem.W.EachIs (fun v (i : Int) => ∃ t, v = .int i t) us ns := ints_each hi
  refine wpAny_bind (wpAny_holding (wpAny_call_entry_kw slot_list_sort ⟨_, hn, rfl⟩ entry_list_sort ?_ (ksk_l1 _ _)))
  show wpAny (model prog w) A.in1.in1 (Builtin.«list.sort» ⟨[.ref h1.objs.size], [(Str.ofString "key", .ref q)]⟩) _ _ _
  rw [ksk_t1]
  refine PySem.W.keyH_tree (kz := ns.map fun i => PyData.tuple [.int (x i), .int (y i)]) (s := { s with heap := h1.push (seqObj "list" us.toArray 0), toks := tk }) hn (by rw [List.length_map]; exact lenU.symm) (by rw [lenU]; exact hL)
    (PySem.W.AllAlike.of fun _ _ => by simp [PySem.W.alike, PySem.W.alikeAll]) (PySem.W.Sortable.tuples fun _ => ⟨_, _, rfl⟩) (PySem.W.bound_map (A := A.in1.in1) fun i _ => ?_)
    (PySem.W.keyH_turns (s := { s with heap := h1.push (seqObj "list" us.toArray 0), toks := tk }) e fun v i hR hx g tk' kp' => ?_) fun h' tk' out c kp' hD ko => ⟨_, rfl, ?_⟩
  · have hd : (PyData.tuple [.int (x i), .int (y i)]).depth = 1 := by simp [PyData.depth, PyData.depthAll]
    rw [hd]
    show A.units + 1 + 1 + 1 < cLine
    omega
  · obtain ⟨t, rfl⟩ := hR
    exact turn i t hx g tk' fun b o e => up kp' b o (kp b o e)
  · have e2 := PySem.W.keyedOut_each (fun i => PyData.tuple [.int (x i), .int (y i)]) ko e
    rw [PySem.W.dataLe_ii] at e2
    refine wpAny_pure ⟨_, rfl, h h1 out c h' tk' kp (up kp') hD (each_ints e2)⟩
end
end Kx
set_option maxHeartbeats 4000000
namespace Kx
open PySem PySem.Spec PyProof.Rows L2
/-! ### sorted(e, key=lambda x: (0 - r[x], x)) -/
/-- before in the order by (0 - r[x], x) -/
def greLe (rs : List Int) (i j : Int) : Bool := decide (0 - rs.getD i.toNat 0 < 0 - rs.getD j.toNat 0 ∨ (0 - rs.getD i.toNat 0 = 0 - rs.getD j.toNat 0 ∧ i ≤ j))
theorem rd_extN {H H1 : Hp} {a : Addr} {o : HO} (e : LamX.ExtN H H1) (n : ∀ ps, o ≠ .tbl ps) (r : Rd H a o) : Rd H1 a o := by
  rcases r with r | ⟨ob, r⟩
  · exact .inl (e _ _ r n)
  · exact .inr ⟨ob, e _ _ r (fun ps z => by cases z)⟩
theorem sqL_extN {K : PySem.W.Frag} {H H1 : Hp} {a : Addr} {xs : List V} (e : LamX.ExtN H H1) (q : SqL K H a xs) : SqL K H1 a xs := by
  rcases q with q | q
  · exact .inl (rd_extN e (fun ps z => by cases z) q)
  · exact .inr q
/-- what is asked and given when the argument's ints ns are there -/
def kGre (K : PySem.W.Frag) (T : List (Addr × Str)) (j : Nat) (σ : L2.St) (ns : List Int) (H : Hp) (Q : VK) : Prop :=
  LamX.Tabs T H ∧ ns.length ≤ sizeLine ∧ ∃ (l : Addr) (rs : List Int), σ[j]? = some (some (.ref l)) ∧ SqL K H l (rs.map V.int) ∧ (∀ i ∈ ns, 0 ≤ i ∧ i < rs.length) ∧
    ∀ (H1 : Hp) (p : Addr), LamX.ExtN H H1 → LamX.Tabs T H1 → H1 p = none → Q (.ref p) (upd H1 p (.lst ((ns.mergeSort (greLe rs)).map V.int)))
section
variable {X : Cx}
theorem gre_run {T : List (Addr × Str)} {x r : Str} {j : Nat} {c P : Addr} {k : Nat} {pos lpos p0 p1 p2 p3 p4 p5 p6 p7 : Pos} {pins : List (Addr × Obj)} {σ : L2.St} {H : Hp} {s : Shared} {Q : VK} {ns : List Int} {arg : Value}
    (TB : LamX.TabB X.base X.mg c P) (hcode : X.env.code = .ref c) (hm : (P, X.env.qual ++ "<lambda>") ∈ T) (hu : ∀ p ∈ T, p.1 = P → p.2 = X.env.qual ++ "<lambda>") (hcell : X.env.scope.names.lookup r = some .cell) (hN : X.N[j]? = some r)
    (hxr : (x == r) = false) (hrx : (r == x) = false) (hd1 : (x == ("__debug__" : Str)) = false) (hd2 : (r == ("__debug__" : Str)) = false) (hd3 : (r == ("__classdict__" : Str)) = false)
    (hbind : ∀ (q : Str) (cl : List (Str × Addr)) (pm cv ctv : Value) (v : Value), bindArgs (PySem.W.kla_fn "<lambda>" q (grePar x p0) (greBody x r p1 p2 p3 p4 p5 p6 p7) (greSc x r) cl pm cv ctv) ⟨[v], []⟩ = pure [(x, v)])
    (hr : Room (k + 1) X.A) (I : Inv X pins σ H s) (h : kGre X.K T j σ ns H Q)
    (col : ∀ (s' : Shared) (H' : Hp), Inv X pins σ H' s' → LamX.ExtN H H' → ∀ (E' : Value → Shared → Prop) (Q' : List Value → Shared → Prop), (∀ h' tk us, (∀ b o, s'.heap.get? b = some o → h'.get? b = some o) → IntsAre us ns → Q' us { s' with heap := h', toks := tk }) → wpAny (model X.prog X.w) X.A.in1 (collect arg) Q' E' s') :
    wpAny (model X.prog X.w) X.A (evalAll [do let v ← eval (.Lambda (grePar x p0) (greBody x r p1 p2 p3 p4 p5 p6 p7) (greSc x r) lpos) X.env; standAt pos; pure v])
      (fun ws s1 => wpAny (model X.prog X.w) X.A (call (.builtin "sorted") [arg] ([Str.ofString "key"].zip ws)) (EP X pins σ Q) X.xe s1) X.xe s := by
  obtain ⟨hT, hL, l, rs, hj, hs, hb, q⟩ := h
  have lx : (greSc x r).names.lookup x = some .local := by simp
  have lr : (greSc x r).names.lookup r = some .free := by simp [List.lookup, hrx]
  have hfree : ∀ y ∈ (greSc x r).names, y.2 = .free → ∃ c, X.env.cells.lookup y.1 = some c := fun y hy e => by
    simp only [List.mem_cons, List.not_mem_nil, or_false] at hy
    rcases hy with rfl | rfl
    · cases e
    · exact I.ok.has _ (.inl hcell)
  refine wpAny_evalAll_cons (wpAny_bind (LamX.lam_make2 I TB hcode hm hu hT rfl hfree fun f c' pm ctv H1 s1 I1 eN T1 hf hfn hfr hco => wpAny_bind (wpAny_standAt (wpAny_pure (wpAny_evalAll_nil ?_)))))
  show wpAny (model X.prog X.w) X.A (call (.builtin "sorted") [arg] [(Str.ofString "key", .ref f)]) _ _ s1
  obtain ⟨its, rv, pl, hz⟩ := I1.list (sqL_extN eN hs)
  have hi := rv.ints
  have lenI : its.length = rs.length := hi.length
  obtain ⟨cr, hcr, hcl⟩ : ∃ cr, X.env.cells.lookup r = some cr ∧ s1.heap.IsCell cr (some (.ref l)) := by
    obtain ⟨m, hn, hl⟩ := I1.loc
    obtain ⟨u, ru, lk⟩ := hl j r (.ref l) hN hj (.inr (.inl hcell))
    obtain rfl : u = Value.ref l := ru
    rcases lk with ⟨z, _⟩ | ⟨_, c3, e', z⟩
    · have z' : X.env.scope.names.lookup r = some .local := z
      rw [hcell] at z'
      cases z'
    · exact ⟨c3, e', z⟩
  have hlk : (cloFrom X.env.cells (greSc x r).names []).lookup r = some cr := NdefX.clo_has hfree (by simp) hcr
  have hcode' := NdefX.codeO_at I1.hok hco
  have hrm : X.A.in1.in1.depth < recursionLimit := hr.depth
  refine sorted_key_ints (x := fun i => 0 - rs.getD i.toNat 0) (y := fun i => i) ⟨f, rfl⟩ hL (by have := hr.units; omega) (col s1 H1 I1 eN) (fun i t hi' g tk kp => ?_) fun h1 out cc h' tk kp1 kp2 hp ho => ?_
  · obtain ⟨b1, b2⟩ := hb i hi'
    have hlt : i.toNat < its.length := by omega
    obtain ⟨t0, e0⟩ := hi.int_at i.toNat _ (List.getElem?_eq_getElem hlt)
    refine gre_call (c := cr) (l := l) (us := its) (t0 := t0) hxr hrx hrm (kp _ _ hf) (hbind _ _ _ _ _ _) ?_ (I1.nolimit.keeps kp) hlk ?_ ?_ b1 ?_ ?_ hd1 hd2 hd3
    · obtain ⟨c0, oc, vs, tt, a1, a2, a3, a4⟩ := hcode'
      exact ⟨c0, oc, vs, tt, a1, kp _ _ a2, a3, a4⟩
    · obtain ⟨o, a1, a2⟩ := hcl
      exact ⟨o, kp _ _ a1, a2⟩
    · obtain ⟨o, a1, a2⟩ := pl.isList
      exact ⟨o, kp _ _ a1, a2⟩
    · rw [List.length_map] at hz
      have : (sizeLine : Int) < 2 ^ 63 := by rw [sizeLine_eq]; decide
      omega
    · rw [List.getElem?_eq_getElem hlt, e0]
  · have I2 : Inv X pins σ H1 { s1 with heap := h1, toks := s1.toks } := I1.kept kp1
    have nf := I2.hok.fresh (Nat.le_refl _)
    have e1 : (ns.mergeSort fun p q => decide (0 - rs.getD p.toNat 0 < 0 - rs.getD q.toNat 0 ∨ (0 - rs.getD p.toNat 0 = 0 - rs.getD q.toNat 0 ∧ p ≤ q))) = ns.mergeSort (greLe rs) := rfl
    rw [e1] at ho
    refine ⟨.ref h1.objs.size, upd H1 h1.objs.size (.lst ((ns.mergeSort (greLe rs)).map V.int)), I2.laid (t' := tk) kp2 (Nat.le_refl _) (show ObjOk X.prog X.w _ _ _ (.lst _) from ⟨?_, out, cc, vals_of_ints ho, hp⟩), rfl, q _ _ eN T1 nf⟩
    rw [List.length_map, List.length_mergeSort]
    exact hL
end
end Kx
set_option maxHeartbeats 4000000
namespace Kx
open PySem PySem.Spec PyProof.Rows L2
abbrev greKw (x r : Str) (p0 p1 p2 p3 p4 p5 p6 p7 lpos kpos : Pos) : List Keyword := [⟨some "key", .Lambda (grePar x p0) (greBody x r p1 p2 p3 p4 p5 p6 p7) (greSc x r) lpos, kpos⟩]
/-- sorted(list, key=..) -/
def tSortGreL (K : PySem.W.Frag) (T : List (Addr × Str)) (j : Nat) (te : TE) : TE := fun σ H Q => te σ H fun v H1 => ∃ (a : Addr) (ns : List Int), v = .ref a ∧ SqL K H1 a (ns.map V.int) ∧ kGre K T j σ ns H1 Q
/-- sorted(range(n), key=..) -/
def tSortGreR (K : PySem.W.Frag) (T : List (Addr × Str)) (j : Nat) (te : TE) : TE := fun σ H Q => te σ H fun v H1 => ∃ n : Int, v = .int n ∧ 0 ≤ n ∧ n ≤ 16777216 ∧ kGre K T j σ ((List.range n.toNat).map fun (i : Nat) => (i : Int)) H1 Q
theorem ints_range {n : Nat} {acc : Array Value} (h : ItemsOf (fun i v => ∃ t, v = .int (0 + i * 1) t) acc n) : IntsAre acc.toList ((List.range n).map fun (i : Nat) => (i : Int)) := by
  have e : acc.toList.length = n := by rw [Array.length_toList]; exact h.1
  have hv : Vals ((List.range acc.toList.length).map fun (i : Nat) => V.int (i : Int)) acc.toList := vals_of_get acc.toList _ fun j u hj => by
    obtain ⟨t, rfl⟩ := h.2 j u (by rw [← hj, Array.getElem?_toList])
    exact ⟨t, by congr 1; omega⟩
  rw [e] at hv
  refine Vals.ints ?_
  rw [List.map_map]
  exact hv
section
variable {X : Cx} {T : List (Addr × Str)} {x r : Str} {j : Nat} {c P : Addr} {k : Nat} {pos sp rp rpos lpos kpos p0 p1 p2 p3 p4 p5 p6 p7 : Pos} {e : Expr} {te : TE}
theorem pe_sortGreL (TB : LamX.TabB X.base X.mg c P) (hcode : X.env.code = .ref c) (hm : (P, X.env.qual ++ "<lambda>") ∈ T) (hu : ∀ p ∈ T, p.1 = P → p.2 = X.env.qual ++ "<lambda>") (hcell : X.env.scope.names.lookup r = some .cell) (hN : X.N[j]? = some r)
    (hg : Gl X "sorted") (hms : X.mg "sorted" = none) (hr : Room (k + 1) X.A) (he : PE X e te)
    (hxr : (x == r) = false := by decide) (hrx : (r == x) = false := by decide) (hd1 : (x == ("__debug__" : Str)) = false := by decide) (hd2 : (r == ("__debug__" : Str)) = false := by decide) (hd3 : (r == ("__classdict__" : Str)) = false := by decide)
    (hbind : ∀ (q : Str) (cl : List (Str × Addr)) (pm cv ctv : Value) (v : Value), bindArgs (PySem.W.kla_fn "<lambda>" q (grePar x p0) (greBody x r p1 p2 p3 p4 p5 p6 p7) (greSc x r) cl pm cv ctv) ⟨[v], []⟩ = pure [(x, v)] := by intros; rfl)
    (hs : starEach [e] X.env = (false, eval e X.env) :: starEach [] X.env := by rfl) :
    PE X (.Call (.Name "sorted" sp) [e] (greKw x r p0 p1 p2 p3 p4 p5 p6 p7 lpos kpos) pos) (tSortGreL X.K T j te) := by
  refine ⟨fun pins s σ H Q I h => ?_⟩
  refine wpAny_Call_Name_kw (ld_blt I hg hms (show bootBuiltins "sorted" = some (.builtin "sorted") from rfl) ?_)
  refine PyProof.Rows.callWith_kw (one_arg he I h (fun v s2 y H2 I2 r2 q => ?_) hs) (by rw [hs]; rfl) (by rw [hs]; rfl) rfl rfl
  obtain ⟨a, ns, rfl, hl, hk⟩ := q
  obtain rfl : v = Value.ref a := r2
  refine gre_run TB hcode hm hu hcell hN hxr hrx hd1 hd2 hd3 hbind hr I2 hk fun s' H' I' eN E' Q' hq => ?_
  obtain ⟨its, rv, pl, hz⟩ := I'.list (sqL_extN eN hl)
  refine collect_list pl.isList (hq _ s'.toks its (fun b o e => (Heap.get?_update_ne _ _ _ _ (Nat.ne_of_lt (Heap.lt_size e))).trans (Heap.get?_push_of_some _ e)) rv.ints) ?_
  rw [← rv.length]
  exact hz
theorem pe_sortGreR (TB : LamX.TabB X.base X.mg c P) (hcode : X.env.code = .ref c) (hm : (P, X.env.qual ++ "<lambda>") ∈ T) (hu : ∀ p ∈ T, p.1 = P → p.2 = X.env.qual ++ "<lambda>") (hcell : X.env.scope.names.lookup r = some .cell) (hN : X.N[j]? = some r)
    (hg : Gl X "sorted") (hms : X.mg "sorted" = none) (hg2 : Gl X "range") (hm2 : X.mg "range" = none) (hr : Room (k + 1) X.A) (he : PE X e te)
    (hxr : (x == r) = false := by decide) (hrx : (r == x) = false := by decide) (hd1 : (x == ("__debug__" : Str)) = false := by decide) (hd2 : (r == ("__debug__" : Str)) = false := by decide) (hd3 : (r == ("__classdict__" : Str)) = false := by decide)
    (hbind : ∀ (q : Str) (cl : List (Str × Addr)) (pm cv ctv : Value) (v : Value), bindArgs (PySem.W.kla_fn "<lambda>" q (grePar x p0) (greBody x r p1 p2 p3 p4 p5 p6 p7) (greSc x r) cl pm cv ctv) ⟨[v], []⟩ = pure [(x, v)] := by intros; rfl)
    (hs : starEach [e] X.env = (false, eval e X.env) :: starEach [] X.env := by rfl) :
    PE X (.Call (.Name "sorted" sp) [.Call (.Name "range" rp) [e] [] rpos] (greKw x r p0 p1 p2 p3 p4 p5 p6 p7 lpos kpos) pos) (tSortGreR X.K T j te) := by
  refine ⟨fun pins s σ H Q I h => ?_⟩
  refine wpAny_Call_Name_kw (ld_blt I hg hms (show bootBuiltins "sorted" = some (.builtin "sorted") from rfl) ?_)
  refine PyProof.Rows.callWith_kw ?_ (by rfl) (by rfl) rfl rfl
  show wpAny _ _ (spliced ((false, eval (.Call (.Name "range" rp) [e] [] rpos) X.env) :: backTo pos (starEach [] X.env))) _ _ s
  refine Calls.spliced_cons ?_
  refine Call_ (ld_blt I hg2 hm2 boot_range (PyProof.Rows.callWith_type1 (one_arg he I h (fun v s2 y H2 I2 r2 q => ?_) hs) hs))
  obtain ⟨n, rfl, n0, n1, hk⟩ := q
  obtain ⟨t, rfl⟩ := r2
  refine call_range_1 ?_
  refine Calls.spliced_nil ?_
  have I3 : Inv X pins σ H2 { s2 with heap := s2.heap.push { cls := .type "range", data := .fields #[.int 0 s2.toks, .int n t, .int 1 (s2.toks + 1)] }, toks := s2.toks + 1 + 1 } := I2.kept fun b o e => Heap.get?_push_of_some _ e
  have I4 : Inv X (pins ++ [(s2.heap.objs.size, { cls := .type "range", data := .fields #[.int 0 s2.toks, .int n t, .int 1 (s2.toks + 1)] })]) σ H2 { s2 with heap := s2.heap.push { cls := .type "range", data := .fields #[.int 0 s2.toks, .int n t, .int 1 (s2.toks + 1)] }, toks := s2.toks + 1 + 1 } := by
    refine ⟨I3.ok, I3.os, I3.bare, I3.base, I3.loc, I3.cell, I3.free, I3.freeC, fun p hp => ?_, I3.hok, I3.len⟩
    rw [← List.append_assoc] at hp
    rcases List.mem_append.mp hp with hp | hp
    · exact I3.pin p hp
    · rw [List.mem_singleton] at hp
      subst hp
      refine ⟨Heap.get?_push_size _ rfl, I2.hok.fresh (Nat.le_refl _), Nat.ne_of_gt I2.lt, I2.nofs (Nat.le_refl _), fun v z => by cases z⟩
  refine wpAny_mono (gre_run (arg := .ref s2.heap.objs.size) TB hcode hm hu hcell hN hxr hrx hd1 hd2 hd3 hbind hr I4 hk fun s' H' I' eN E' Q' hq => ?_) (fun ws s5 hw => wpAny_mono hw (fun v s6 h6 => ?_) fun e' s6 h6 => h6) fun e' s6 h6 => h6
  · have hrg := (I'.pin (s2.heap.objs.size, _) (List.mem_append_right _ (List.mem_append_right _ (List.mem_singleton.mpr rfl)))).1
    refine collect_range (A := X.A.in1) (a := 0) (b := n) (c := 1) (n := n.toNat) (show X.A.handled = none from hr.hd) hrg (small_one (by omega) (by omega) (by omega) (by omega)) ?_ (by omega) fun h' tk acc kp hi => hq h' tk acc.toList kp (ints_range hi)
    have := rangeSize_nat 0 n
    rw [this]
    simp
  · obtain ⟨v', H', J, rv, q⟩ := h6
    refine ⟨v', H', ⟨J.ok, J.os, J.bare, J.base, J.loc, J.cell, J.free, J.freeC, fun p hp => J.pin p ?_, J.hok, J.len⟩, rv, q⟩
    rw [← List.append_assoc]
    exact List.mem_append_left _ hp
end
end Kx
set_option maxHeartbeats 4000000
namespace Kx
open PySem PySem.Spec PyProof.Rows L2
/-- a def whose code object is known -/
structure FunC (K : PySem.W.Frag) (x qual : Str) (st : Stmt) (f : Addr) (fd : FuncData) (c : Addr) : Prop where
  ex : ∃ (oc : Value) (od : Option Addr) (kV doc pm : Value) (an : Option Addr) (ct : Value) (osl : Array (Option Value)),
    fd = PySem.W.fnOf x qual (defArgs st) (defBody st) (defScope st) .none kV doc pm an (.ref c) ct ∧ K.lookup f = some ⟨oc, od, .func fd, osl⟩ ∧ PySem.W.codeIn K (.ref c) qual = true
  kp : PySem.W.keepIn K (.ref f) = true
theorem FunC.ok {P : Program} {w : World} {K : PySem.W.Frag} {mg : Str → Option Value} {base : Heap} {x qual : Str} {st : Stmt} {f c : Addr} {fd : FuncData} {N ps : List Str} {k : Nat} {sp : Sp} (F : FunC K x qual st f fd c) (S : FnScope N ps (defScope st)) (len : ∀ vs H Q E, sp vs H Q E → vs.length = ps.length)
    (hbody : ∀ (A : Around) (outer : List Env) (s : Shared) (H : Hp) (vs : List V) (Q : VK) (E : XK), Room k (A.deeper (envOfC qual (defScope st) s.heap.objs.size f (.ref c))) → sp vs H Q E →
      ∃ t, PSs (cxOf CX0 P w K mg base N qual (defScope st) f (.ref c) A outer s H E).nox (defBody st) t ∧ t { nx := fun _ H' => Q .non H', rt := Q } (start N vs) H) : FnOk P w K mg base CX0 (k + 1) f fd ps sp := by
  obtain ⟨oc, od, kV, doc, pm, an, ct, osl, rfl, lk, hcd⟩ := F.ex
  refine fn_of lk hcd S len fun A outer s H vs Q E hr hsp => ?_
  obtain ⟨t, h, q⟩ := hbody A outer s H vs Q E hr hsp
  exact ⟨t, h.nox, q⟩
theorem FunC.binds {K : PySem.W.Frag} {x qual : Str} {st : Stmt} {f c : Addr} {fd : FuncData} {ps : List Str} (F : FunC K x qual st f fd c)
    (h : ∀ (kV doc pm : Value) (an : Option Addr) (cdv ct : Value) (us : List Value), us.length = ps.length → bindArgs (PySem.W.fnOf x qual (defArgs st) (defBody st) (defScope st) .none kV doc pm an cdv ct) ⟨us, []⟩ = pure (ps.zip us)) : Binds K fd ps [] := by
  obtain ⟨oc, od, kV, doc, pm, an, ct, osl, rfl, lk, hcd⟩ := F.ex
  exact .all (h kV doc pm an _ ct)

/-! ### the text by places (printed by gen_kz.py) -/
def topS (i : Nat) : Stmt := PySem.Challenge.pw_chestbreaks_k77_whole_sales_by_turns.main.body.getD i (.Pass ⟨0, 0, 0, 0⟩)
abbrev sNoChestInit : Stmt := inClass (topS 4) 0
abbrev nNoChestInit : List Str := ["self", "mark"]
abbrev pNoChestInit : List Str := ["self", "mark"]
theorem scNoChestInit : FnScope nNoChestInit pNoChestInit (defScope sNoChestInit) := ⟨rfl, rfl, rfl, by decide +kernel, rfl, by decide +kernel, by decide +kernel⟩
abbrev sIsWhole : Stmt := topS 8
abbrev nIsWhole : List Str := ["thing"]
abbrev pIsWhole : List Str := ["thing"]
theorem scIsWhole : FnScope nIsWhole pIsWhole (defScope sIsWhole) := ⟨rfl, rfl, rfl, by decide +kernel, rfl, by decide +kernel, by decide +kernel⟩
abbrev sIsName : Stmt := topS 13
abbrev nIsName : List Str := ["thing", "sign"]
abbrev pIsName : List Str := ["thing"]
theorem scIsName : FnScope nIsName pIsName (defScope sIsName) := ⟨rfl, rfl, rfl, by decide +kernel, rfl, by decide +kernel, by decide +kernel⟩
abbrev sIsFrom : Stmt := topS 14
abbrev nIsFrom : List Str := ["thing", "low", "high"]
abbrev pIsFrom : List Str := ["thing", "low", "high"]
theorem scIsFrom : FnScope nIsFrom pIsFrom (defScope sIsFrom) := ⟨rfl, rfl, rfl, by decide +kernel, rfl, by decide +kernel, by decide +kernel⟩
abbrev sIsPair : Stmt := topS 18
abbrev nIsPair : List Str := ["row", "low", "high"]
abbrev pIsPair : List Str := ["row", "low", "high"]
theorem scIsPair : FnScope nIsPair pIsPair (defScope sIsPair) := ⟨rfl, rfl, rfl, by decide +kernel, rfl, by decide +kernel, by decide +kernel⟩
abbrev sCheckPairs : Stmt := topS 19
abbrev nCheckPairs : List Str := ["rows", "many", "low", "high", "seen", "at", "row"]
abbrev pCheckPairs : List Str := ["rows", "many", "low", "high"]
theorem scCheckPairs : FnScope nCheckPairs pCheckPairs (defScope sCheckPairs) := ⟨rfl, rfl, rfl, by decide +kernel, rfl, by decide +kernel, by decide +kernel⟩
abbrev sFromFirst : Stmt := topS 20
abbrev nFromFirst : List Str := ["rests"]
abbrev pFromFirst : List Str := ["rests"]
theorem scFromFirst : FnScope nFromFirst pFromFirst (defScope sFromFirst) := ⟨rfl, rfl, rfl, by decide +kernel, rfl, by decide +kernel, by decide +kernel⟩
abbrev sFromLast : Stmt := topS 21
abbrev nFromLast : List Str := ["rests"]
abbrev pFromLast : List Str := ["rests"]
theorem scFromLast : FnScope nFromLast pFromLast (defScope sFromLast) := ⟨rfl, rfl, rfl, by decide +kernel, rfl, by decide +kernel, by decide +kernel⟩
abbrev sFromGreatest : Stmt := topS 22
abbrev nFromGreatest : List Str := ["rests"]
abbrev pFromGreatest : List Str := ["rests"]
theorem scFromGreatest : FnScope nFromGreatest pFromGreatest (defScope sFromGreatest) := ⟨rfl, rfl, rfl, by decide +kernel, rfl, by decide +kernel, by decide +kernel⟩
abbrev sWantTurn : Stmt := topS 24
abbrev nWantTurn : List Str := ["to"]
abbrev pWantTurn : List Str := ["to"]
theorem scWantTurn : FnScope nWantTurn pWantTurn (defScope sWantTurn) := ⟨rfl, rfl, rfl, by decide +kernel, rfl, by decide +kernel, by decide +kernel⟩
abbrev sWithOdd : Stmt := topS 25
abbrev nWithOdd : List Str := ["units", "rests", "left", "to", "bare", "found", "at", "place"]
abbrev pWithOdd : List Str := ["units", "rests", "left", "to", "bare"]
theorem scWithOdd : FnScope nWithOdd pWithOdd (defScope sWithOdd) := ⟨rfl, rfl, rfl, by decide +kernel, rfl, by decide +kernel, by decide +kernel⟩
abbrev sParted : Stmt := topS 26
abbrev nParted : List Str := ["weight", "shares", "to", "names", "whole", "units", "rests", "bare", "name", "part", "at"]
abbrev pParted : List Str := ["weight", "shares", "to"]
theorem scParted : FnScope nParted pParted (defScope sParted) := ⟨rfl, rfl, rfl, by decide +kernel, rfl, by decide +kernel, by decide +kernel⟩
abbrev sLotInit : Stmt := inClass (topS 27) 0
abbrev nLotInit : List Str := ["self", "name", "units", "price"]
abbrev pLotInit : List Str := ["self", "name", "units", "price"]
theorem scLotInit : FnScope nLotInit pLotInit (defScope sLotInit) := ⟨rfl, rfl, rfl, by decide +kernel, rfl, by decide +kernel, by decide +kernel⟩
abbrev sLotOwed : Stmt := inClass (topS 27) 2
abbrev nLotOwed : List Str := ["self"]
abbrev pLotOwed : List Str := ["self"]
theorem scLotOwed : FnScope nLotOwed pLotOwed (defScope sLotOwed) := ⟨rfl, rfl, rfl, by decide +kernel, rfl, by decide +kernel, by decide +kernel⟩
abbrev sKeptPrice : Stmt := topS 28
abbrev nKeptPrice : List Str := ["sale"]
abbrev pKeptPrice : List Str := ["sale"]
theorem scKeptPrice : FnScope nKeptPrice pKeptPrice (defScope sKeptPrice) := ⟨rfl, rfl, rfl, by decide +kernel, rfl, by decide +kernel, by decide +kernel⟩
abbrev sFallenPrice : Stmt := topS 29
abbrev nFallenPrice : List Str := ["sale"]
abbrev pFallenPrice : List Str := ["sale"]
theorem scFallenPrice : FnScope nFallenPrice pFallenPrice (defScope sFallenPrice) := ⟨rfl, rfl, rfl, by decide +kernel, rfl, by decide +kernel, by decide +kernel⟩
abbrev sCutPrice : Stmt := topS 30
abbrev nCutPrice : List Str := ["sale"]
abbrev pCutPrice : List Str := ["sale"]
theorem scCutPrice : FnScope nCutPrice pCutPrice (defScope sCutPrice) := ⟨rfl, rfl, rfl, by decide +kernel, rfl, by decide +kernel, by decide +kernel⟩
abbrev sSaleInit : Stmt := inClass (topS 32) 0
abbrev nSaleInit : List Str := ["self", "nets", "price", "shares", "to", "move", "step", "floor", "number", "word"]
abbrev pSaleInit : List Str := ["self", "nets", "price", "shares", "to", "move", "step", "floor"]
theorem scSaleInit : FnScope nSaleInit pSaleInit (defScope sSaleInit) := ⟨rfl, rfl, rfl, by decide +kernel, rfl, by decide +kernel, by decide +kernel⟩
abbrev sSaleWantChest : Stmt := inClass (topS 32) 1
abbrev nSaleWantChest : List Str := ["self", "mark"]
abbrev pSaleWantChest : List Str := ["self", "mark"]
theorem scSaleWantChest : FnScope nSaleWantChest pSaleWantChest (defScope sSaleWantChest) := ⟨rfl, rfl, rfl, by decide +kernel, rfl, by decide +kernel, by decide +kernel⟩
abbrev sSaleRefuse : Stmt := inClass (topS 32) 2
abbrev nSaleRefuse : List Str := ["self", "mark"]
abbrev pSaleRefuse : List Str := ["self", "mark"]
theorem scSaleRefuse : FnScope nSaleRefuse pSaleRefuse (defScope sSaleRefuse) := ⟨rfl, rfl, rfl, by decide +kernel, rfl, by decide +kernel, by decide +kernel⟩
abbrev sSaleTakeBack : Stmt := inClass (topS 32) 3
abbrev nSaleTakeBack : List Str := ["self", "mark"]
abbrev pSaleTakeBack : List Str := ["self", "mark"]
theorem scSaleTakeBack : FnScope nSaleTakeBack pSaleTakeBack (defScope sSaleTakeBack) := ⟨rfl, rfl, rfl, by decide +kernel, rfl, by decide +kernel, by decide +kernel⟩
abbrev sSaleStands : Stmt := inClass (topS 32) 4
abbrev nSaleStands : List Str := ["self", "mark"]
abbrev pSaleStands : List Str := ["self", "mark"]
theorem scSaleStands : FnScope nSaleStands pSaleStands (defScope sSaleStands) := ⟨rfl, rfl, rfl, by decide +kernel, rfl, by decide +kernel, by decide +kernel⟩
abbrev sSaleRefused : Stmt := inClass (topS 32) 5
abbrev nSaleRefused : List Str := ["self"]
abbrev pSaleRefused : List Str := ["self"]
theorem scSaleRefused : FnScope nSaleRefused pSaleRefused (defScope sSaleRefused) := ⟨rfl, rfl, rfl, by decide +kernel, rfl, by decide +kernel, by decide +kernel⟩
abbrev sSaleStanding : Stmt := inClass (topS 32) 6
abbrev nSaleStanding : List Str := ["self", "mark", "net"]
abbrev pSaleStanding : List Str := ["self"]
theorem scSaleStanding : FnScope nSaleStanding pSaleStanding (defScope sSaleStanding) := ⟨rfl, rfl, rfl, by decide +kernel, rfl, by decide +kernel, by decide +kernel⟩
abbrev sSaleLen : Stmt := inClass (topS 32) 7
abbrev nSaleLen : List Str := ["self"]
abbrev pSaleLen : List Str := ["self"]
theorem scSaleLen : FnScope nSaleLen pSaleLen (defScope sSaleLen) := ⟨rfl, rfl, rfl, by decide +kernel, rfl, by decide +kernel, by decide +kernel⟩
abbrev sSaleWeight : Stmt := inClass (topS 32) 8
abbrev nSaleWeight : List Str := ["self"]
abbrev pSaleWeight : List Str := ["self"]
theorem scSaleWeight : FnScope nSaleWeight pSaleWeight (defScope sSaleWeight) := ⟨rfl, rfl, rfl, by decide +kernel, rfl, by decide +kernel, by decide +kernel⟩
abbrev sSaleMovedPrice : Stmt := inClass (topS 32) 9
abbrev nSaleMovedPrice : List Str := ["self", "moved"]
abbrev pSaleMovedPrice : List Str := ["self"]
theorem scSaleMovedPrice : FnScope nSaleMovedPrice pSaleMovedPrice (defScope sSaleMovedPrice) := ⟨rfl, rfl, rfl, by decide +kernel, rfl, by decide +kernel, by decide +kernel⟩
abbrev sSaleLots : Stmt := inClass (topS 32) 10
abbrev nSaleLots : List Str := ["self", "price", "name", "units"]
abbrev pSaleLots : List Str := ["self"]
theorem scSaleLots : FnScope nSaleLots pSaleLots (defScope sSaleLots) := ⟨rfl, rfl, rfl, by decide +kernel, rfl, by decide +kernel, by decide +kernel⟩
abbrev sSaleSums : Stmt := inClass (topS 32) 11
abbrev nSaleSums : List Str := ["self", "lot"]
abbrev pSaleSums : List Str := ["self"]
theorem scSaleSums : FnScope nSaleSums pSaleSums (defScope sSaleSums) := ⟨rfl, rfl, rfl, by decide +kernel, rfl, by decide +kernel, by decide +kernel⟩
abbrev sSaleTold : Stmt := inClass (topS 32) 12
abbrev nSaleTold : List Str := ["self"]
abbrev pSaleTold : List Str := ["self"]
theorem scSaleTold : FnScope nSaleTold pSaleTold (defScope sSaleTold) := ⟨rfl, rfl, rfl, by decide +kernel, rfl, by decide +kernel, by decide +kernel⟩
abbrev sSaleUndone : Stmt := inClass (topS 32) 13
abbrev nSaleUndone : List Str := ["self", "nets", "price", "shares", "to", "move", "step", "floor"]
abbrev pSaleUndone : List Str := ["self"]
theorem scSaleUndone : FnScope nSaleUndone pSaleUndone (defScope sSaleUndone) := ⟨rfl, rfl, rfl, by decide +kernel, rfl, by decide +kernel, by decide +kernel⟩
abbrev sSaleStr : Stmt := inClass (topS 32) 15
abbrev nSaleStr : List Str := ["self"]
abbrev pSaleStr : List Str := ["self"]
theorem scSaleStr : FnScope nSaleStr pSaleStr (defScope sSaleStr) := ⟨rfl, rfl, rfl, by decide +kernel, rfl, by decide +kernel, by decide +kernel⟩
abbrev sSaleRepr : Stmt := inClass (topS 32) 16
abbrev nSaleRepr : List Str := ["self"]
abbrev pSaleRepr : List Str := ["self"]
theorem scSaleRepr : FnScope nSaleRepr pSaleRepr (defScope sSaleRepr) := ⟨rfl, rfl, rfl, by decide +kernel, rfl, by decide +kernel, by decide +kernel⟩
abbrev sLCellAt : Stmt := topS 34
abbrev nLCellAt : List Str := ["_law_script", "_law_k"]
abbrev pLCellAt : List Str := ["_law_script", "_law_k"]
theorem scLCellAt : FnScope nLCellAt pLCellAt (defScope sLCellAt) := ⟨rfl, rfl, rfl, by decide +kernel, rfl, by decide +kernel, by decide +kernel⟩
abbrev sLWell : Stmt := topS 35
abbrev nLWell : List Str := ["_law_cell"]
abbrev pLWell : List Str := ["_law_cell"]
theorem scLWell : FnScope nLWell pLWell (defScope sLWell) := ⟨rfl, rfl, rfl, by decide +kernel, rfl, by decide +kernel, by decide +kernel⟩
abbrev sLDraw : Stmt := topS 36
abbrev nLDraw : List Str := ["_law_well_here", "_law_most", "_law_found", "_law_low"]
abbrev pLDraw : List Str := ["_law_well_here", "_law_most"]
theorem scLDraw : FnScope nLDraw pLDraw (defScope sLDraw) := ⟨rfl, rfl, rfl, by decide +kernel, rfl, by decide +kernel, by decide +kernel⟩
abbrev sLNames : Stmt := topS 37
abbrev nLNames : List Str := ["_law_well_here", "_law_many", "_law_letters", "_law_start", "_law_k", "_law_stem", "_law_found"]
abbrev pLNames : List Str := ["_law_well_here", "_law_many"]
theorem scLNames : FnScope nLNames pLNames (defScope sLNames) := ⟨rfl, rfl, rfl, by decide +kernel, rfl, by decide +kernel, by decide +kernel⟩
abbrev sLShares : Stmt := topS 38
abbrev nLShares : List Str := ["_law_well_here", "_law_names_here", "_law_most", "_law_parts", "_law_at", "_law_who"]
abbrev pLShares : List Str := ["_law_well_here"]
theorem scLShares : FnScope nLShares pLShares (defScope sLShares) := ⟨rfl, rfl, rfl, by decide +kernel, rfl, by decide +kernel, by decide +kernel⟩
abbrev sLUnits : Stmt := topS 39
abbrev nLUnits : List Str := ["_law_mass", "_law_rows", "_law_turn", "_law_whole", "_law_units_here", "_law_k", "_law_places", "_law_rests", "_law_who", "_law_part"]
abbrev pLUnits : List Str := ["_law_mass", "_law_rows", "_law_turn"]
theorem scLUnits : FnScope nLUnits pLUnits (defScope sLUnits) := ⟨rfl, rfl, rfl, by decide +kernel, rfl, by decide +kernel, by decide +kernel⟩
abbrev sLModel : Stmt := topS 40
abbrev nLModel : List Str := ["_law_well_here", "_law_marks", "_law_most", "_law_chests", "_law_each", "_law_rows", "_law_model_here", "_law_mark_here"]
abbrev pLModel : List Str := ["_law_well_here"]
theorem scLModel : FnScope nLModel pLModel (defScope sLModel) := ⟨rfl, rfl, rfl, by decide +kernel, rfl, by decide +kernel, by decide +kernel⟩
abbrev sLWeighed : Stmt := topS 41
abbrev nLWeighed : List Str := ["_law_model_here", "_law_mark_here", "_law_net"]
abbrev pLWeighed : List Str := ["_law_model_here"]
theorem scLWeighed : FnScope nLWeighed pLWeighed (defScope sLWeighed) := ⟨rfl, rfl, rfl, by decide +kernel, rfl, by decide +kernel, by decide +kernel⟩
abbrev sLPriced : Stmt := topS 42
abbrev nLPriced : List Str := ["_law_model_here", "_law_each", "_law_less", "_law_mark_here", "_law_net"]
abbrev pLPriced : List Str := ["_law_model_here"]
theorem scLPriced : FnScope nLPriced pLPriced (defScope sLPriced) := ⟨rfl, rfl, rfl, by decide +kernel, rfl, by decide +kernel, by decide +kernel⟩
abbrev sLLots : Stmt := topS 43
abbrev nLLots : List Str := ["_law_model_here", "_law_units_here", "_law_k"]
abbrev pLLots : List Str := ["_law_model_here"]
theorem scLLots : FnScope nLLots pLLots (defScope sLLots) := ⟨rfl, rfl, rfl, by decide +kernel, rfl, by decide +kernel, by decide +kernel⟩
abbrev sLMade : Stmt := topS 44
abbrev nLMade : List Str := ["_law_model_here", "_law_way", "_law_some", "_law_word"]
abbrev pLMade : List Str := ["_law_model_here", "_law_way"]
theorem scLMade : FnScope nLMade pLMade (defScope sLMade) := ⟨rfl, rfl, rfl, by decide +kernel, rfl, by decide +kernel, by decide +kernel⟩
abbrev sLRight : Stmt := topS 45
abbrev nLRight : List Str := ["_law_sale", "_law_model_here", "_law_marks", "_law_dues", "_law_found", "_law_sums", "_law_text", "_law_mark_here", "_law_net", "_law_lot", "_law_who", "_law_many", "_law_each"]
abbrev pLRight : List Str := ["_law_sale", "_law_model_here"]
theorem scLRight : FnScope nLRight pLRight (defScope sLRight) := ⟨rfl, rfl, rfl, by decide +kernel, rfl, by decide +kernel, by decide +kernel⟩
abbrev sLSaid : Stmt := topS 46
abbrev nLSaid : List Str := ["_law_sale", "_law_word", "_law_mark_here", "e"]
abbrev pLSaid : List Str := ["_law_sale", "_law_word", "_law_mark_here"]
theorem scLSaid : FnScope nLSaid pLSaid (defScope sLSaid) := ⟨rfl, rfl, rfl, by decide +kernel, rfl, by decide +kernel, by decide +kernel⟩
abbrev sLDue : Stmt := topS 47
abbrev nLDue : List Str := ["_law_model_here", "_law_word", "_law_mark_here", "_law_marks", "_law_one", "_law_net"]
abbrev pLDue : List Str := ["_law_model_here", "_law_word", "_law_mark_here"]
theorem scLDue : FnScope nLDue pLDue (defScope sLDue) := ⟨rfl, rfl, rfl, by decide +kernel, rfl, by decide +kernel, by decide +kernel⟩
abbrev sLMark : Stmt := topS 48
abbrev nLMark : List Str := ["_law_well_here", "_law_model_here", "_law_marks", "_law_odd", "_law_mark_here", "_law_net"]
abbrev pLMark : List Str := ["_law_well_here", "_law_model_here"]
theorem scLMark : FnScope nLMark pLMark (defScope sLMark) := ⟨rfl, rfl, rfl, by decide +kernel, rfl, by decide +kernel, by decide +kernel⟩
abbrev sLDeed : Stmt := topS 49
abbrev nLDeed : List Str := ["_law_well_here"]
abbrev pLDeed : List Str := ["_law_well_here"]
theorem scLDeed : FnScope nLDeed pLDeed (defScope sLDeed) := ⟨rfl, rfl, rfl, by decide +kernel, rfl, by decide +kernel, by decide +kernel⟩
abbrev sLaw : Stmt := topS 50
abbrev nLaw : List Str := ["_law_script", "_law_well_here", "_law_models", "_law_model_here", "_law_lists", "_law_sales", "_law_k", "_law_handed", "_law_one", "_law_other", "_law_cell", "_law_spots", "_law_at", "_law_word", "_law_mark_here", "_law_due_here"]
abbrev pLaw : List Str := ["_law_script"]
theorem scLaw : FnScope nLaw pLaw (defScope sLaw) := ⟨rfl, rfl, rfl, by decide +kernel, rfl, by decide +kernel, by decide +kernel⟩

/-! ### what the top has left -/
structure Txt (K : PySem.W.Frag) (mg : Str → Option Value) (w : World) : Type where
  cBreakError : Addr
  cNoChest : Addr
  cLot : Addr
  cSale : Addr
  fNoChestInit : Addr
  dNoChestInit : FuncData
  fIsWhole : Addr
  dIsWhole : FuncData
  fIsName : Addr
  dIsName : FuncData
  fIsFrom : Addr
  dIsFrom : FuncData
  fIsPair : Addr
  dIsPair : FuncData
  fCheckPairs : Addr
  dCheckPairs : FuncData
  fFromFirst : Addr
  dFromFirst : FuncData
  fFromLast : Addr
  dFromLast : FuncData
  fFromGreatest : Addr
  dFromGreatest : FuncData
  fWantTurn : Addr
  dWantTurn : FuncData
  fWithOdd : Addr
  dWithOdd : FuncData
  fParted : Addr
  dParted : FuncData
  fLotInit : Addr
  dLotInit : FuncData
  fLotOwed : Addr
  dLotOwed : FuncData
  fKeptPrice : Addr
  dKeptPrice : FuncData
  fFallenPrice : Addr
  dFallenPrice : FuncData
  fCutPrice : Addr
  dCutPrice : FuncData
  fSaleInit : Addr
  dSaleInit : FuncData
  fSaleWantChest : Addr
  dSaleWantChest : FuncData
  fSaleRefuse : Addr
  dSaleRefuse : FuncData
  fSaleTakeBack : Addr
  dSaleTakeBack : FuncData
  fSaleStands : Addr
  dSaleStands : FuncData
  fSaleRefused : Addr
  dSaleRefused : FuncData
  fSaleStanding : Addr
  dSaleStanding : FuncData
  fSaleLen : Addr
  dSaleLen : FuncData
  fSaleWeight : Addr
  dSaleWeight : FuncData
  fSaleMovedPrice : Addr
  dSaleMovedPrice : FuncData
  fSaleLots : Addr
  dSaleLots : FuncData
  fSaleSums : Addr
  dSaleSums : FuncData
  fSaleTold : Addr
  dSaleTold : FuncData
  fSaleUndone : Addr
  dSaleUndone : FuncData
  fSaleStr : Addr
  dSaleStr : FuncData
  fSaleRepr : Addr
  dSaleRepr : FuncData
  fLCellAt : Addr
  dLCellAt : FuncData
  fLWell : Addr
  dLWell : FuncData
  fLDraw : Addr
  dLDraw : FuncData
  fLNames : Addr
  dLNames : FuncData
  fLShares : Addr
  dLShares : FuncData
  fLUnits : Addr
  dLUnits : FuncData
  fLModel : Addr
  dLModel : FuncData
  fLWeighed : Addr
  dLWeighed : FuncData
  fLPriced : Addr
  dLPriced : FuncData
  fLLots : Addr
  dLLots : FuncData
  fLMade : Addr
  dLMade : FuncData
  fLRight : Addr
  dLRight : FuncData
  fLSaid : Addr
  dLSaid : FuncData
  fLDue : Addr
  dLDue : FuncData
  fLMark : Addr
  dLMark : FuncData
  fLDeed : Addr
  dLDeed : FuncData
  fLaw : Addr
  dLaw : FuncData
  cG : Addr
  PG : Addr
  cU : Addr
  PU : Addr
  aTURNS : Addr
  eTURNS : Array DictEntry
  kTURNS : Nat
  aMOVES : Addr
  eMOVES : Array DictEntry
  kMOVES : Nat
  FNoChestInit : Fun K "__init__" "NoChest.__init__" sNoChestInit fNoChestInit dNoChestInit
  bNoChestInit : Binds K dNoChestInit pNoChestInit []
  FIsWhole : Fun K "is_whole" "is_whole" sIsWhole fIsWhole dIsWhole
  bIsWhole : Binds K dIsWhole pIsWhole []
  gIsWhole : mg "is_whole" = some (.ref fIsWhole)
  FIsName : Fun K "is_name" "is_name" sIsName fIsName dIsName
  bIsName : Binds K dIsName pIsName []
  gIsName : mg "is_name" = some (.ref fIsName)
  FIsFrom : Fun K "is_from" "is_from" sIsFrom fIsFrom dIsFrom
  bIsFrom : Binds K dIsFrom pIsFrom []
  gIsFrom : mg "is_from" = some (.ref fIsFrom)
  FIsPair : Fun K "is_pair" "is_pair" sIsPair fIsPair dIsPair
  bIsPair : Binds K dIsPair pIsPair []
  gIsPair : mg "is_pair" = some (.ref fIsPair)
  FCheckPairs : Fun K "check_pairs" "check_pairs" sCheckPairs fCheckPairs dCheckPairs
  bCheckPairs : Binds K dCheckPairs pCheckPairs []
  gCheckPairs : mg "check_pairs" = some (.ref fCheckPairs)
  FFromFirst : Fun K "from_first" "from_first" sFromFirst fFromFirst dFromFirst
  bFromFirst : Binds K dFromFirst pFromFirst []
  gFromFirst : mg "from_first" = some (.ref fFromFirst)
  FFromLast : Fun K "from_last" "from_last" sFromLast fFromLast dFromLast
  bFromLast : Binds K dFromLast pFromLast []
  gFromLast : mg "from_last" = some (.ref fFromLast)
  FFromGreatest : Fun K "from_greatest" "from_greatest" sFromGreatest fFromGreatest dFromGreatest
  bFromGreatest : Binds K dFromGreatest pFromGreatest []
  CFromGreatest : FunC K "from_greatest" "from_greatest" sFromGreatest fFromGreatest dFromGreatest cG
  gFromGreatest : mg "from_greatest" = some (.ref fFromGreatest)
  FWantTurn : Fun K "want_turn" "want_turn" sWantTurn fWantTurn dWantTurn
  bWantTurn : Binds K dWantTurn pWantTurn []
  gWantTurn : mg "want_turn" = some (.ref fWantTurn)
  FWithOdd : Fun K "with_odd" "with_odd" sWithOdd fWithOdd dWithOdd
  bWithOdd : Binds K dWithOdd pWithOdd []
  gWithOdd : mg "with_odd" = some (.ref fWithOdd)
  FParted : FunD K "parted" "parted" (defArgs sParted) (defBody sParted) (defScope sParted) [V.str "first"] [] fParted dParted
  gParted : mg "parted" = some (.ref fParted)
  FLotInit : FunD K "__init__" "Lot.__init__" (defArgs sLotInit) (defBody sLotInit) (defScope sLotInit) [V.int 0] [] fLotInit dLotInit
  MLot : Mk K cLot fLotInit
  FLotOwed : Fun K "owed" "Lot.owed" sLotOwed fLotOwed dLotOwed
  bLotOwed : Binds K dLotOwed pLotOwed []
  mLotOwed : Meth K cLot "owed" fLotOwed
  FKeptPrice : Fun K "kept_price" "kept_price" sKeptPrice fKeptPrice dKeptPrice
  bKeptPrice : Binds K dKeptPrice pKeptPrice []
  gKeptPrice : mg "kept_price" = some (.ref fKeptPrice)
  FFallenPrice : Fun K "fallen_price" "fallen_price" sFallenPrice fFallenPrice dFallenPrice
  bFallenPrice : Binds K dFallenPrice pFallenPrice []
  gFallenPrice : mg "fallen_price" = some (.ref fFallenPrice)
  FCutPrice : Fun K "cut_price" "cut_price" sCutPrice fCutPrice dCutPrice
  bCutPrice : Binds K dCutPrice pCutPrice []
  gCutPrice : mg "cut_price" = some (.ref fCutPrice)
  FSaleInit : FunD K "__init__" "Sale.__init__" (defArgs sSaleInit) (defBody sSaleInit) (defScope sSaleInit) [V.str "first", V.str "keep", V.int 0, V.int 0] [] fSaleInit dSaleInit
  MSale : Mk K cSale fSaleInit
  FSaleWantChest : Fun K "want_chest" "Sale.want_chest" sSaleWantChest fSaleWantChest dSaleWantChest
  bSaleWantChest : Binds K dSaleWantChest pSaleWantChest []
  mSaleWantChest : Meth K cSale "want_chest" fSaleWantChest
  FSaleRefuse : Fun K "refuse" "Sale.refuse" sSaleRefuse fSaleRefuse dSaleRefuse
  bSaleRefuse : Binds K dSaleRefuse pSaleRefuse []
  mSaleRefuse : Meth K cSale "refuse" fSaleRefuse
  FSaleTakeBack : Fun K "take_back" "Sale.take_back" sSaleTakeBack fSaleTakeBack dSaleTakeBack
  bSaleTakeBack : Binds K dSaleTakeBack pSaleTakeBack []
  mSaleTakeBack : Meth K cSale "take_back" fSaleTakeBack
  FSaleStands : Fun K "stands" "Sale.stands" sSaleStands fSaleStands dSaleStands
  bSaleStands : Binds K dSaleStands pSaleStands []
  mSaleStands : Meth K cSale "stands" fSaleStands
  FSaleRefused : Fun K "refused" "Sale.refused" sSaleRefused fSaleRefused dSaleRefused
  bSaleRefused : Binds K dSaleRefused pSaleRefused []
  mSaleRefused : Meth K cSale "refused" fSaleRefused
  FSaleStanding : Fun K "standing" "Sale.standing" sSaleStanding fSaleStanding dSaleStanding
  bSaleStanding : Binds K dSaleStanding pSaleStanding []
  mSaleStanding : Meth K cSale "standing" fSaleStanding
  FSaleLen : Fun K "__len__" "Sale.__len__" sSaleLen fSaleLen dSaleLen
  bSaleLen : Binds K dSaleLen pSaleLen []
  mSaleLen : Meth K cSale "__len__" fSaleLen
  FSaleWeight : Fun K "weight" "Sale.weight" sSaleWeight fSaleWeight dSaleWeight
  bSaleWeight : Binds K dSaleWeight pSaleWeight []
  mSaleWeight : Meth K cSale "weight" fSaleWeight
  FSaleMovedPrice : Fun K "moved_price" "Sale.moved_price" sSaleMovedPrice fSaleMovedPrice dSaleMovedPrice
  bSaleMovedPrice : Binds K dSaleMovedPrice pSaleMovedPrice []
  mSaleMovedPrice : Meth K cSale "moved_price" fSaleMovedPrice
  FSaleLots : Fun K "lots" "Sale.lots" sSaleLots fSaleLots dSaleLots
  bSaleLots : Binds K dSaleLots pSaleLots []
  mSaleLots : Meth K cSale "lots" fSaleLots
  FSaleSums : Fun K "sums" "Sale.sums" sSaleSums fSaleSums dSaleSums
  bSaleSums : Binds K dSaleSums pSaleSums []
  mSaleSums : Meth K cSale "sums" fSaleSums
  FSaleTold : Fun K "told" "Sale.told" sSaleTold fSaleTold dSaleTold
  bSaleTold : Binds K dSaleTold pSaleTold []
  mSaleTold : Meth K cSale "told" fSaleTold
  FSaleUndone : Fun K "undone" "Sale.undone" sSaleUndone fSaleUndone dSaleUndone
  bSaleUndone : Binds K dSaleUndone pSaleUndone []
  mSaleUndone : Meth K cSale "undone" fSaleUndone
  FSaleStr : Fun K "__str__" "Sale.__str__" sSaleStr fSaleStr dSaleStr
  bSaleStr : Binds K dSaleStr pSaleStr []
  mSaleStr : Meth K cSale "__str__" fSaleStr
  FSaleRepr : Fun K "__repr__" "Sale.__repr__" sSaleRepr fSaleRepr dSaleRepr
  bSaleRepr : Binds K dSaleRepr pSaleRepr []
  mSaleRepr : Meth K cSale "__repr__" fSaleRepr
  FLCellAt : Fun K "_law_cell_at" "_law_cell_at" sLCellAt fLCellAt dLCellAt
  bLCellAt : Binds K dLCellAt pLCellAt []
  gLCellAt : mg "_law_cell_at" = some (.ref fLCellAt)
  FLWell : Fun K "_law_well" "_law_well" sLWell fLWell dLWell
  bLWell : Binds K dLWell pLWell []
  gLWell : mg "_law_well" = some (.ref fLWell)
  FLDraw : Fun K "_law_draw" "_law_draw" sLDraw fLDraw dLDraw
  bLDraw : Binds K dLDraw pLDraw []
  gLDraw : mg "_law_draw" = some (.ref fLDraw)
  FLNames : Fun K "_law_names" "_law_names" sLNames fLNames dLNames
  bLNames : Binds K dLNames pLNames []
  gLNames : mg "_law_names" = some (.ref fLNames)
  FLShares : Fun K "_law_shares" "_law_shares" sLShares fLShares dLShares
  bLShares : Binds K dLShares pLShares []
  gLShares : mg "_law_shares" = some (.ref fLShares)
  FLUnits : Fun K "_law_units" "_law_units" sLUnits fLUnits dLUnits
  bLUnits : Binds K dLUnits pLUnits []
  CLUnits : FunC K "_law_units" "_law_units" sLUnits fLUnits dLUnits cU
  gLUnits : mg "_law_units" = some (.ref fLUnits)
  FLModel : Fun K "_law_model" "_law_model" sLModel fLModel dLModel
  bLModel : Binds K dLModel pLModel []
  gLModel : mg "_law_model" = some (.ref fLModel)
  FLWeighed : Fun K "_law_weighed" "_law_weighed" sLWeighed fLWeighed dLWeighed
  bLWeighed : Binds K dLWeighed pLWeighed []
  gLWeighed : mg "_law_weighed" = some (.ref fLWeighed)
  FLPriced : Fun K "_law_priced" "_law_priced" sLPriced fLPriced dLPriced
  bLPriced : Binds K dLPriced pLPriced []
  gLPriced : mg "_law_priced" = some (.ref fLPriced)
  FLLots : Fun K "_law_lots" "_law_lots" sLLots fLLots dLLots
  bLLots : Binds K dLLots pLLots []
  gLLots : mg "_law_lots" = some (.ref fLLots)
  FLMade : Fun K "_law_made" "_law_made" sLMade fLMade dLMade
  bLMade : Binds K dLMade pLMade []
  gLMade : mg "_law_made" = some (.ref fLMade)
  FLRight : Fun K "_law_right" "_law_right" sLRight fLRight dLRight
  bLRight : Binds K dLRight pLRight []
  gLRight : mg "_law_right" = some (.ref fLRight)
  FLSaid : Fun K "_law_said" "_law_said" sLSaid fLSaid dLSaid
  bLSaid : Binds K dLSaid pLSaid []
  gLSaid : mg "_law_said" = some (.ref fLSaid)
  FLDue : Fun K "_law_due" "_law_due" sLDue fLDue dLDue
  bLDue : Binds K dLDue pLDue []
  gLDue : mg "_law_due" = some (.ref fLDue)
  FLMark : Fun K "_law_mark" "_law_mark" sLMark fLMark dLMark
  bLMark : Binds K dLMark pLMark []
  gLMark : mg "_law_mark" = some (.ref fLMark)
  FLDeed : Fun K "_law_deed" "_law_deed" sLDeed fLDeed dLDeed
  bLDeed : Binds K dLDeed pLDeed []
  gLDeed : mg "_law_deed" = some (.ref fLDeed)
  FLaw : Fun K "law" "law" sLaw fLaw dLaw
  bLaw : Binds K dLaw pLaw []
  gLaw : mg "law" = some (.ref fLaw)
  CLot : Cls K cLot
  CSale : Cls K cSale
  gBreakError : mg "BreakError" = some (.ref cBreakError)
  gNoChest : mg "NoChest" = some (.ref cNoChest)
  gLot : mg "Lot" = some (.ref cLot)
  gSale : mg "Sale" = some (.ref cSale)
  nS_scaled : NoAttr K cSale "scaled"
  nS_told_price : NoAttr K cSale "told_price"
  nS_buyers : NoAttr K cSale "buyers"
  nS_to : NoAttr K cSale "to"
  nS_move : NoAttr K cSale "move"
  nS_drop : NoAttr K cSale "drop"
  nS_least : NoAttr K cSale "least"
  nS_out : NoAttr K cSale "out"
  nL_name : NoAttr K cLot "name"
  nL_units : NoAttr K cLot "units"
  nL_price : NoAttr K cLot "price"
  oNC : OexC K cNoChest
  iNC : PySem.W.findIn K (.ref cNoChest) "__init__" = some (some (.ref fNoChestInit))
  tNC : PySem.W.typeIn K (.ref fNoChestInit) = some (.type "function")
  xNC : XfC K cNoChest
  nNC : PySem.W.findIn K (.ref cNoChest) "mark" = some none
  eNC : PySem.W.exmOne K (.ref cNoChest) (.ref cNoChest) = some true
  bBE : BaseInit K cBreakError
  lenS : PySem.W.findIn K (.ref cSale) "__len__" = some (some (.ref fSaleLen))
  strS : PySem.W.findIn K (.ref cSale) "__str__" = some (some (.ref fSaleStr))
  repS : PySem.W.findIn K (.ref cSale) "__repr__" = some (some (.ref fSaleRepr))
  fmtS : FmtC K cSale fSaleStr
  gTURNS : mg "TURNS" = some (.ref aTURNS)
  KTURNS : KDict K w aTURNS eTURNS kTURNS
  iTURNSFirst : PySem.W.nsIn K aTURNS "first" = some (some (.ref fFromFirst))
  iTURNSLast : PySem.W.nsIn K aTURNS "last" = some (some (.ref fFromLast))
  iTURNSGreatest : PySem.W.nsIn K aTURNS "greatest" = some (some (.ref fFromGreatest))
  gMOVES : mg "MOVES" = some (.ref aMOVES)
  KMOVES : KDict K w aMOVES eMOVES kMOVES
  iMOVESKeep : PySem.W.nsIn K aMOVES "keep" = some (some (.ref fKeptPrice))
  iMOVESFall : PySem.W.nsIn K aMOVES "fall" = some (some (.ref fFallenPrice))
  iMOVESCut : PySem.W.nsIn K aMOVES "cut" = some (some (.ref fCutPrice))
  vMostWeight : ∃ u, mg "MOST_WEIGHT" = some u ∧ RelV (.int 1000000000) u
  vMostChests : ∃ u, mg "MOST_CHESTS" = some u ∧ RelV (.int 60) u
  vMostShares : ∃ u, mg "MOST_SHARES" = some u ∧ RelV (.int 24) u
  vMostPrice : ∃ u, mg "MOST_PRICE" = some u ∧ RelV (.int 1000000) u
  vLETTERS : ∃ u, mg "LETTERS" = some u ∧ RelV (.str "abcdefghijklmnopqrstuvwxyz") u
  nPGU : PG ≠ PU
  zIsinstance : mg "isinstance" = none
  zInt : mg "int" = none
  zBool : mg "bool" = none
  zStr : mg "str" = none
  zTuple : mg "tuple" = none
  zList : mg "list" = none
  zLen : mg "len" = none
  zAll : mg "all" = none
  zMax : mg "max" = none
  zMin : mg "min" = none
  zSum : mg "sum" = none
  zSorted : mg "sorted" = none
  zRange : mg "range" = none
  zReversed : mg "reversed" = none
  zEnumerate : mg "enumerate" = none
  zZip : mg "zip" = none
  zDict : mg "dict" = none
  zRepr : mg "repr" = none
end Kx
set_option maxHeartbeats 4000000
namespace Kx
open PySem PySem.Spec PyProof.Rows L2
/-- the lambdas' tables, with their names -/
abbrev Txt.tabs {K : PySem.W.Frag} {mg : Str → Option Value} {w : World} (T : Txt K mg w) : List (Addr × Str) := [(T.PG, (("from_greatest" : Str) ++ ".<locals>.") ++ "<lambda>"), (T.PU, (("_law_units" : Str) ++ ".<locals>.") ++ "<lambda>")]
structure TbOk {K : PySem.W.Frag} {mg : Str → Option Value} {w : World} (T : Txt K mg w) (base : Heap) : Prop where
  g : LamX.TabB base mg T.cG T.PG
  u : LamX.TabB base mg T.cU T.PU
/-! ### frames -/
/-- all stays but what W tells and the tables -/
def FrN (W : Addr → Prop) (H H' : Hp) : Prop := ∀ b o, ¬ W b → H b = some o → (∀ ps, o ≠ .tbl ps) → H' b = some o
abbrev NoW : Addr → Prop := fun _ => False
theorem FrN.refl {W : Addr → Prop} (H : Hp) : FrN W H H := fun _ _ _ h _ => h
theorem FrN.trans {W : Addr → Prop} {H H1 H2 : Hp} (a : FrN W H H1) (b : FrN W H1 H2) : FrN W H H2 := fun c o n h t => b c o n (a c o n h t) t
theorem FrN.mono {W W' : Addr → Prop} {H H' : Hp} (a : FrN W H H') (h : ∀ b, W b → W' b) : FrN W' H H' := fun c o n e t => a c o (fun z => n (h c z)) e t
theorem FrN.same {W : Addr → Prop} {H H' : Hp} (a : Same H H') : FrN W H H' := fun c o _ h _ => a c o h
theorem FrN.ext {H H' : Hp} (a : LamX.ExtN H H') : FrN NoW H H' := fun c o _ h t => a c o h t
theorem FrN.toExt {H H' : Hp} (a : FrN NoW H H') : LamX.ExtN H H' := fun c o h t => a c o (fun z => z) h t
theorem FrN.upd {W : Addr → Prop} {H H' : Hp} {a : Addr} {o : HO} (f : FrN W H H') (h : W a ∨ H a = none) : FrN W H (L2.upd H' a o) := fun c u n e t => by
  have hc : c ≠ a := by
    rintro rfl
    rcases h with h | h
    · exact n h
    · rw [h] at e; cases e
  rw [upd_ne hc]
  exact f c u n e t
theorem FrN.updN {W : Addr → Prop} {H H' : Hp} {a : Addr} {o : HO} (f : FrN W H H') (h : H' a = none) : FrN W H (L2.upd H' a o) := fun c u n e t => by
  have e' := f c u n e t
  rw [upd_ne (ne_of_none e' h)]
  exact e'
/-- at p was nothing (or a table) -/
def NewT (H : Hp) (p : Addr) : Prop := ∀ o, H p = some o → ∃ ps, o = .tbl ps
theorem NewT.none {H : Hp} {p : Addr} (h : H p = Option.none) : NewT H p := fun o e => by rw [h] at e; cases e
theorem NewT.of {W : Addr → Prop} {H H1 : Hp} {p : Addr} (hp : ¬ W p) (f : FrN W H H1) (h : H1 p = Option.none) : NewT H p := fun o e => by
  refine Classical.byContradiction fun z => ?_
  have q := f p o hp e fun ps y => z ⟨ps, y⟩
  rw [h] at q
  cases q
theorem NewT.back {H H1 : Hp} {p : Addr} (f : FrN NoW H H1) (h : NewT H1 p) : NewT H p := fun o e => by
  refine Classical.byContradiction fun z => ?_
  exact z (h o (f p o (fun y => y) e fun ps y => z ⟨ps, y⟩))
theorem NewT.ne {H : Hp} {p q : Addr} {o : HO} (h : NewT H p) (e : H q = some o) (n : ∀ ps, o ≠ .tbl ps) : q ≠ p := by
  rintro rfl
  obtain ⟨ps, z⟩ := h o e
  exact n ps z
theorem FrN.updW {W : Addr → Prop} {H H' : Hp} {a : Addr} {o : HO} (f : FrN W H H') (h : NewT H a) : FrN W H (L2.upd H' a o) := fun c u n e t => by
  have hc : c ≠ a := by
    rintro rfl
    obtain ⟨ps, z⟩ := h _ e
    exact t ps z
  rw [upd_ne hc]
  exact f c u n e t
theorem same_upd {H H' : Hp} {a : Addr} {o : HO} (f : Same H H') (h : H a = none) : Same H (L2.upd H' a o) := fun c u e => by
  rw [upd_ne (ne_of_none e h)]
  exact f c u e
theorem same_new {H : Hp} {a : Addr} {o : HO} (h : H a = none) : Same H (L2.upd H a o) := same_upd (Same.refl H) h
theorem Same.extN {H H' : Hp} (f : Same H H') : LamX.ExtN H H' := fun c o h _ => f c o h
theorem FrN.seq {K : PySem.W.Frag} {W : Addr → Prop} {H H' : Hp} {a : Addr} {xs : List V} (f : FrN W H H') (hw : H a ≠ none → ¬ W a) (h : SqL K H a xs) : SqL K H' a xs := by
  rcases h with (h | ⟨o, h⟩) | h
  · exact .inl (.inl (f _ _ (hw (by rw [h]; simp)) h (fun ps z => by cases z)))
  · exact .inl (.inr ⟨o, f _ _ (hw (by rw [h]; simp)) h (fun ps z => by cases z)⟩)
  · exact .inr h

/-- all stays but what W tells -/
def FrS (W : Addr → Prop) (H H' : Hp) : Prop := ∀ b o, ¬ W b → H b = some o → H' b = some o
theorem FrS.refl {W : Addr → Prop} (H : Hp) : FrS W H H := fun _ _ _ h => h
theorem FrS.trans {W : Addr → Prop} {H H1 H2 : Hp} (a : FrS W H H1) (b : FrS W H1 H2) : FrS W H H2 := fun c o n h => b c o n (a c o n h)
theorem FrS.of {W : Addr → Prop} {H H' : Hp} (e : Same H H') : FrS W H H' := fun c o _ h => e c o h
theorem FrS.same {H H' : Hp} (e : FrS NoW H H') : Same H H' := fun c o h => e c o (fun z => z) h
theorem FrS.frN {W : Addr → Prop} {H H' : Hp} (e : FrS W H H') : FrN W H H' := fun c o n h _ => e c o n h
theorem FrS.upd {W : Addr → Prop} {H H' : Hp} {a : Addr} {o : HO} (f : FrS W H H') (h : W a ∨ H a = none) : FrS W H (L2.upd H' a o) := fun c u n e => by
  have hc : c ≠ a := by
    rintro rfl
    rcases h with h | h
    · exact n h
    · rw [h] at e; cases e
  rw [upd_ne hc]
  exact f c u n e
theorem FrS.back {W : Addr → Prop} {H H1 : Hp} {p : Addr} (hp : ¬ W p) (f : FrS W H H1) (h : H1 p = Option.none) : H p = Option.none := by
  cases q : H p with
  | none => rfl
  | some u =>
    rw [f p u hp q] at h
    cases h
theorem FrS.seq {K : PySem.W.Frag} {W : Addr → Prop} {H H' : Hp} {a : Addr} {xs : List V} (f : FrS W H H') (hw : H a ≠ none → ¬ W a) (h : SqL K H a xs) : SqL K H' a xs := f.frN.seq hw h

/-! ### comprehensions over a list, in short -/
section
variable {K : PySem.W.Frag} {a : Addr} {xs : List V} {g : TG} {tt : TT} {te : TE} {vs : List Nat} {σ : L2.St} {H1 : Hp} {D : Addr} {Qd : Hp → Prop}
abbrev LcW (a : Addr) (K : PySem.W.Frag) (g : TG) (tt : TT) (te : TE) (vs : List Nat) (σ : L2.St) (H1 : Hp) (D : Addr) (Qd : Hp → Prop) : Prop :=
  ∃ W : Nat → Nat → Hp → Prop, (∃ m, W 0 m (upd H1 D (.lst []))) ∧ ∀ i m H, W i m H →
      ((Itl K a).stop i H ∧ Qd H) ∨ ((Itl K a).go i H ∧ ∃ Nx : Hp → Prop, (∀ H', Nx H' → ∃ m', m' < m ∧ W (i + 1) m' H') ∧ ∀ x H', (Itl K a).yld i H x H' → g x (wipe σ vs) H' fun σ2 H2 => wipe σ2 vs = wipe σ vs ∧ tt σ2 H2 fun b H3 =>
        if b = true then te σ2 H3 fun y H4 => ∃ acc, H4 D = some (.lst acc) ∧ acc.length < sizeLine ∧ Nx (upd H4 D (.lst (acc ++ [y]))) else Nx H3)
/-- behind i turns the new list at D holds ys (R i ys H); all that was there stays but what W tells -/
def LcP (W : Addr → Prop) (H1 : Hp) (D : Addr) (R : Nat → List V → Hp → Prop) (i : Nat) (H : Hp) : Prop := ∃ ys, FrS W H1 H ∧ H D = some (.lst ys) ∧ ys.length ≤ i ∧ R i ys H
def LcE (W : Addr → Prop) (H1 : Hp) (D : Addr) (R : Nat → List V → Hp → Prop) (i : Nat) (y : V) (H4 : Hp) : Prop := ∃ acc, H4 D = some (.lst acc) ∧ acc.length < sizeLine ∧ LcP W H1 D R (i + 1) (upd H4 D (.lst (acc ++ [y])))
theorem lc_put {W : Addr → Prop} {R : Nat → List V → Hp → Prop} {i : Nat} {ys : List V} {H H4 : Hp} {y : V} (hD : H1 D = none) (hWD : ¬ W D) (hi : i < sizeLine) (f : FrS W H1 H) (d : H D = some (.lst ys)) (hl : ys.length ≤ i) (f4 : FrS W H H4) (r : R (i + 1) (ys ++ [y]) (upd H4 D (.lst (ys ++ [y])))) :
    LcE W H1 D R i y H4 :=
  ⟨ys, f4 _ _ hWD d, Nat.lt_of_le_of_lt hl hi, ys ++ [y], (f.trans f4).upd (.inr hD), upd_same, by rw [List.length_append, List.length_singleton]; omega, r⟩
theorem lc_skip {W : Addr → Prop} {R : Nat → List V → Hp → Prop} {i : Nat} {ys : List V} {H H4 : Hp} (hWD : ¬ W D) (f : FrS W H1 H) (d : H D = some (.lst ys)) (hl : ys.length ≤ i) (f4 : FrS W H H4) (r : R (i + 1) ys H4) :
    LcP W H1 D R (i + 1) H4 := ⟨ys, f.trans f4, f4 _ _ hWD d, by omega, r⟩
/-- the general one -/
theorem lc_st (W : Addr → Prop) (hD : H1 D = none) (ha : SqL K H1 a xs) (hW : H1 a ≠ none → ¬ W a) (R : Nat → List V → Hp → Prop) (h0 : R 0 [] (upd H1 D (.lst [])))
    (hs : ∀ i x ys H, xs[i]? = some x → FrS W H1 H → H D = some (.lst ys) → ys.length ≤ i → R i ys H → g x (wipe σ vs) H fun σ2 H2 => wipe σ2 vs = wipe σ vs ∧ tt σ2 H2 fun b H3 =>
      if b = true then te σ2 H3 fun y H4 => LcE W H1 D R i y H4 else LcP W H1 D R (i + 1) H3)
    (hd : ∀ ys H, FrS W H1 H → H D = some (.lst ys) → ys.length ≤ xs.length → R xs.length ys H → Qd H) : LcW a K g tt te vs σ H1 D Qd := by
  refine lc_list (K := K) (a := a) (xs := xs) (LcP W H1 D R) ⟨[], (FrS.refl _).upd (.inr hD), upd_same, Nat.le_refl _, h0⟩ (fun i H _ ⟨_, f, _⟩ => f.seq hW ha) ?_ fun H ⟨ys, f, d, l, r⟩ => hd ys H f d l r
  rintro i x H hx ⟨ys, f, d, l, r⟩
  exact hs i x ys H hx f d l r
/-- values: the items' f, where it is some -/
def fmR (f : V → Option V) (xs : List V) : Nat → List V → Hp → Prop := fun i ys _ => ys = (xs.take i).filterMap f
theorem fm_some {f : V → Option V} {i : Nat} {x y : V} {ys : List V} (hx : xs[i]? = some x) (h : ys = (xs.take i).filterMap f) (e : f x = some y) : ys ++ [y] = (xs.take (i + 1)).filterMap f := by
  rw [List.take_add_one, hx, h, List.filterMap_append]
  simp [e]
theorem fm_none {f : V → Option V} {i : Nat} {x : V} {ys : List V} (hx : xs[i]? = some x) (h : ys = (xs.take i).filterMap f) (e : f x = none) : ys = (xs.take (i + 1)).filterMap f := by
  rw [List.take_add_one, hx, h, List.filterMap_append]
  simp [e]
/-- values: what f gives of l's items, l told beside xs -/
theorem lc_by {β : Type} (l : List β) (hlen : xs.length = l.length) (f : β → Option V) (hD : H1 D = none) (ha : SqL K H1 a xs) (hsz : xs.length < sizeLine)
    (hs : ∀ i x b ys H, xs[i]? = some x → l[i]? = some b → Same H1 H → H D = some (.lst ys) → (∀ H4 y, Same H H4 → f b = some y → LcE NoW H1 D (fun i ys _ => ys = (l.take i).filterMap f) i y H4) → (∀ H4, Same H H4 → f b = none → LcP NoW H1 D (fun i ys _ => ys = (l.take i).filterMap f) (i + 1) H4) →
      g x (wipe σ vs) H fun σ2 H2 => wipe σ2 vs = wipe σ vs ∧ tt σ2 H2 fun b H3 => if b = true then te σ2 H3 fun y H4 => LcE NoW H1 D (fun i ys _ => ys = (l.take i).filterMap f) i y H4 else LcP NoW H1 D (fun i ys _ => ys = (l.take i).filterMap f) (i + 1) H3)
    (hd : ∀ H, Same H1 H → H D = some (.lst (l.filterMap f)) → Qd H) : LcW a K g tt te vs σ H1 D Qd := by
  refine lc_st NoW hD ha (fun _ z => z) (fun i ys _ => ys = (l.take i).filterMap f) rfl (fun i x ys H hx fr d hl r => ?_) fun ys H fr d hl r => ?_
  · have hi : i < xs.length := (List.getElem?_eq_some_iff.mp hx).1
    have hb : l[i]? = some (l[i]'(by omega)) := List.getElem?_eq_getElem (by omega)
    refine hs i x _ ys H hx hb fr.same d (fun H4 y f4 e => lc_put hD (fun z => z) (by omega) fr d hl (.of f4) ?_) fun H4 f4 e => lc_skip (fun z => z) fr d hl (.of f4) ?_
    · show ys ++ [y] = (l.take (i + 1)).filterMap f
      rw [List.take_add_one, hb, r, List.filterMap_append]
      simp [e]
    · show ys = (l.take (i + 1)).filterMap f
      rw [List.take_add_one, hb, r, List.filterMap_append]
      simp [e]
  · have r' : ys = (l.take xs.length).filterMap f := r
    rw [hlen, List.take_length] at r'
    rw [r'] at d
    exact hd H fr.same d
theorem lc_fm (f : V → Option V) (hD : H1 D = none) (ha : SqL K H1 a xs) (hsz : xs.length < sizeLine)
    (hs : ∀ i x ys H, xs[i]? = some x → Same H1 H → H D = some (.lst ys) → (∀ H4 y, Same H H4 → f x = some y → LcE NoW H1 D (fun i ys _ => ys = (xs.take i).filterMap f) i y H4) → (∀ H4, Same H H4 → f x = none → LcP NoW H1 D (fun i ys _ => ys = (xs.take i).filterMap f) (i + 1) H4) →
      g x (wipe σ vs) H fun σ2 H2 => wipe σ2 vs = wipe σ vs ∧ tt σ2 H2 fun b H3 => if b = true then te σ2 H3 fun y H4 => LcE NoW H1 D (fun i ys _ => ys = (xs.take i).filterMap f) i y H4 else LcP NoW H1 D (fun i ys _ => ys = (xs.take i).filterMap f) (i + 1) H3)
    (hd : ∀ H, Same H1 H → H D = some (.lst (xs.filterMap f)) → Qd H) : LcW a K g tt te vs σ H1 D Qd :=
  lc_by xs rfl f hD ha hsz (fun i x b ys H h1 h2 => by
    rw [h1] at h2
    cases h2
    exact hs i x ys H h1) hd
/-- new objects: the i-th item's is O i -/
def obR (O : Nat → HO → Prop) (H1 : Hp) (D : Addr) : Nat → List V → Hp → Prop := fun i ys H => ∃ ts : List Addr, ys = ts.map V.ref ∧ ts.length = i ∧ ∀ j t, ts[j]? = some t → H1 t = none ∧ t ≠ D ∧ ∃ o, H t = some o ∧ O j o
theorem ob_put {W : Addr → Prop} {O : Nat → HO → Prop} {i : Nat} {ys : List V} {H H4 : Hp} {t : Addr} {o : HO} (r : obR O H1 D i ys H) (f1 : FrS W H1 H) (hW : ∀ b, W b → ∀ j o, H b = some o → ¬ O j o) (hd : H D = some (.lst ys)) (f4 : FrS W H H4) (ht : H t = none) (wt : ¬ W t) (h4 : H4 t = some o) (ho : O i o) :
    obR O H1 D (i + 1) (ys ++ [.ref t]) (upd H4 D (.lst (ys ++ [.ref t]))) := by
  obtain ⟨ts, e1, e2, e3⟩ := r
  refine ⟨ts ++ [t], by rw [e1, List.map_append]; rfl, by rw [List.length_append, e2]; rfl, fun j u hu => ?_⟩
  by_cases hj : j < ts.length
  · rw [List.getElem?_append_left hj] at hu
    obtain ⟨n1, n2, o', h1, h2⟩ := e3 j u hu
    have wu : ¬ W u := fun z => hW u z j o' h1 h2
    exact ⟨n1, n2, o', by rw [upd_ne n2]; exact f4 u o' wu h1, h2⟩
  · have hj2 : j < (ts ++ [t]).length := (List.getElem?_eq_some_iff.mp hu).1
    rw [List.length_append, List.length_singleton] at hj2
    have hj3 : j = ts.length := by omega
    subst hj3
    rw [List.getElem?_append_right (Nat.le_refl _), Nat.sub_self] at hu
    obtain rfl : t = u := Option.some.inj hu
    have n2 : t ≠ D := fun z => by
      rw [z, hd] at ht
      cases ht
    exact ⟨FrS.back wt f1 ht, n2, o, by rw [upd_ne n2]; exact h4, by rw [e2]; exact ho⟩
/-- new objects, nothing else touched -/
theorem lc_ob (O : Nat → HO → Prop) (hD : H1 D = none) (ha : SqL K H1 a xs) (hsz : xs.length < sizeLine)
    (hs : ∀ i x ys H, xs[i]? = some x → Same H1 H → H D = some (.lst ys) → (∀ H4 t o, Same H H4 → H t = none → H4 t = some o → O i o → LcE NoW H1 D (obR O H1 D) i (.ref t) H4) →
      g x (wipe σ vs) H fun σ2 H2 => wipe σ2 vs = wipe σ vs ∧ tt σ2 H2 fun b H3 => if b = true then te σ2 H3 fun y H4 => LcE NoW H1 D (obR O H1 D) i y H4 else LcP NoW H1 D (obR O H1 D) (i + 1) H3)
    (hd : ∀ H (ts : List Addr), Same H1 H → H D = some (.lst (ts.map V.ref)) → ts.length = xs.length → (∀ j t, ts[j]? = some t → H1 t = none ∧ ∃ o, H t = some o ∧ O j o) → Qd H) : LcW a K g tt te vs σ H1 D Qd := by
  refine lc_st NoW hD ha (fun _ z => z) (obR O H1 D) ⟨[], rfl, rfl, fun j t h => by simp at h⟩ (fun i x ys H hx fr d l r => ?_) fun ys H fr d l r => ?_
  · have hi : i < xs.length := (List.getElem?_eq_some_iff.mp hx).1
    exact hs i x ys H hx fr.same d fun H4 t o f4 ht h4 ho => lc_put hD (fun z => z) (by omega) fr d l (.of f4) (ob_put r fr (fun _ z => z.elim) d (.of f4) ht (fun z => z) h4 ho)
  · obtain ⟨ts, e1, e2, e3⟩ := r
    subst e1
    exact hd H ts fr.same d e2 fun j t h => ⟨(e3 j t h).1, (e3 j t h).2.2⟩
end
section
/-! ### the same over a range -/
variable {lo : Int} {n : Nat} {g : TG} {tt : TT} {te : TE} {vs : List Nat} {σ : L2.St} {H1 : Hp} {D : Addr} {Qd : Hp → Prop}
abbrev LrW (lo : Int) (n : Nat) (g : TG) (tt : TT) (te : TE) (vs : List Nat) (σ : L2.St) (H1 : Hp) (D : Addr) (Qd : Hp → Prop) : Prop :=
  ∃ W : Nat → Nat → Hp → Prop, (∃ m, W 0 m (upd H1 D (.lst []))) ∧ ∀ i m H, W i m H →
      ((Itr lo n).stop i H ∧ Qd H) ∨ ((Itr lo n).go i H ∧ ∃ Nx : Hp → Prop, (∀ H', Nx H' → ∃ m', m' < m ∧ W (i + 1) m' H') ∧ ∀ x H', (Itr lo n).yld i H x H' → g x (wipe σ vs) H' fun σ2 H2 => wipe σ2 vs = wipe σ vs ∧ tt σ2 H2 fun b H3 =>
        if b = true then te σ2 H3 fun y H4 => ∃ acc, H4 D = some (.lst acc) ∧ acc.length < sizeLine ∧ Nx (upd H4 D (.lst (acc ++ [y]))) else Nx H3)
theorem lr_st (W : Addr → Prop) (hD : H1 D = none) (R : Nat → List V → Hp → Prop) (h0 : R 0 [] (upd H1 D (.lst [])))
    (hs : ∀ i ys H, i < n → FrS W H1 H → H D = some (.lst ys) → ys.length ≤ i → R i ys H → g (.int (lo + i)) (wipe σ vs) H fun σ2 H2 => wipe σ2 vs = wipe σ vs ∧ tt σ2 H2 fun b H3 =>
      if b = true then te σ2 H3 fun y H4 => LcE W H1 D R i y H4 else LcP W H1 D R (i + 1) H3)
    (hd : ∀ ys H, FrS W H1 H → H D = some (.lst ys) → ys.length ≤ n → R n ys H → Qd H) : LrW lo n g tt te vs σ H1 D Qd := by
  refine lc_range (lo := lo) (n := n) (LcP W H1 D R) ⟨[], (FrS.refl _).upd (.inr hD), upd_same, Nat.le_refl _, h0⟩ ?_ fun H ⟨ys, f, d, l, r⟩ => hd ys H f d l r
  rintro i H hx ⟨ys, f, d, l, r⟩
  exact hs i ys H hx f d l r
def fmRr (f : Nat → Option V) : Nat → List V → Hp → Prop := fun i ys _ => ys = (List.range i).filterMap f
theorem lr_fm (f : Nat → Option V) (hD : H1 D = none) (hsz : n < sizeLine)
    (hs : ∀ i ys H, i < n → Same H1 H → H D = some (.lst ys) → (∀ H4 y, Same H H4 → f i = some y → LcE NoW H1 D (fmRr f) i y H4) → (∀ H4, Same H H4 → f i = none → LcP NoW H1 D (fmRr f) (i + 1) H4) →
      g (.int (lo + i)) (wipe σ vs) H fun σ2 H2 => wipe σ2 vs = wipe σ vs ∧ tt σ2 H2 fun b H3 => if b = true then te σ2 H3 fun y H4 => LcE NoW H1 D (fmRr f) i y H4 else LcP NoW H1 D (fmRr f) (i + 1) H3)
    (hd : ∀ H, Same H1 H → H D = some (.lst ((List.range n).filterMap f)) → Qd H) : LrW lo n g tt te vs σ H1 D Qd := by
  refine lr_st NoW hD (fmRr f) rfl (fun i ys H hx fr d l r => ?_) fun ys H fr d l r => ?_
  · have e0 : ys = (List.range i).filterMap f := r
    refine hs i ys H hx fr.same d (fun H4 y f4 e => lc_put hD (fun z => z) (by omega) fr d l (.of f4) ?_) fun H4 f4 e => lc_skip (fun z => z) fr d l (.of f4) ?_
    · show ys ++ [y] = (List.range (i + 1)).filterMap f
      rw [List.range_succ, List.filterMap_append, e0]
      simp [e]
    · show ys = (List.range (i + 1)).filterMap f
      rw [List.range_succ, List.filterMap_append, e0]
      simp [e]
  · have e0 : ys = (List.range n).filterMap f := r
    rw [e0] at d
    exact hd H fr.same d
end
end Kx
set_option maxHeartbeats 4000000
namespace Kx
open PySem PySem.Spec PyProof.Rows L2
section
variable {X : Cx}
theorem e_isint {pos p : Pos} (hg : Gl X "int") (hm : X.mg "int" = none) : PE X (.Name "int" p) (tC (.ty "int")) := pe_bltn (v := .ty "int") (u := .type "int") hg hm (by rfl) rfl
theorem e_bool {p : Pos} (hg : Gl X "bool") (hm : X.mg "bool" = none) : PE X (.Name "bool" p) (tC (.ty "bool")) := pe_bltn (v := .ty "bool") (u := .type "bool") hg hm (by rfl) rfl
theorem e_str {p : Pos} (hg : Gl X "str") (hm : X.mg "str" = none) : PE X (.Name "str" p) (tC (.ty "str")) := pe_bltn (v := .ty "str") (u := .type "str") hg hm (by rfl) rfl
theorem e_tuple {p : Pos} (hg : Gl X "tuple") (hm : X.mg "tuple" = none) : PE X (.Name "tuple" p) (tC (.ty "tuple")) := pe_bltn (v := .ty "tuple") (u := .type "tuple") hg hm (by rfl) rfl
theorem e_list {p : Pos} (hg : Gl X "list") (hm : X.mg "list" = none) : PE X (.Name "list" p) (tC (.ty "list")) := pe_bltn (v := .ty "list") (u := .type "list") hg hm (by rfl) rfl
end
/-- a name: one to eight letters -/
def isNm (s : Str) : Prop := 1 ≤ s.cps.size ∧ s.cps.size ≤ 8 ∧ ∀ c ∈ s.cps.toList, 97 ≤ c ∧ c ≤ 122
section
variable {P : Program} {w : World} {K : PySem.W.Frag} {mg : Str → Option Value} {base : Heap} (T : Txt K mg w)
/-! ### is_whole -/
def spIsWhole : Sp := fun vs H Q _ => ∃ n : Int, vs = [.int n] ∧ Q (.bl true) H
theorem ok_isWhole : FnOk P w K mg base CX0 1 T.fIsWhole T.dIsWhole pIsWhole spIsWhole := by
  refine T.FIsWhole.ok scIsWhole (fun vs H Q E h => ?_) (fun cdv A outer s H vs Q E hr h => ?_)
  · obtain ⟨n, rfl, _⟩ := h; rfl
  · obtain ⟨n, rfl, k⟩ := h
    refine ⟨_, pss_one (ps_ret (pe_and (pe_callB call_isi (by rfl) T.zIsinstance boot_isinstance (pa_cons (pv 0) (pa_cons (e_isint (pos := ⟨0,0,0,0⟩) (by rfl) T.zInt) pa_nil)))
      (pe_one (pe_not (pe_callB call_isi (by rfl) T.zIsinstance boot_isinstance (pa_cons (pv 0) (pa_cons (e_bool (by rfl) T.zBool) pa_nil))))))), ?_⟩
    refine ⟨_, rfl, _, _, _, _, true, rfl, .ty "int", .base (.int n), kit_ty (by decide +kernel), true, rfl, ?_⟩
    refine iteT ?_
    exact ⟨_, rfl, _, _, _, _, false, rfl, .ty "bool", .base (.int n), kit_ty (by decide +kernel), false, rfl, k⟩
end
end Kx
set_option maxHeartbeats 4000000
namespace Kx
open PySem PySem.Spec PyProof.Rows L2
section
variable {P : Program} {w : World} {K : PySem.W.Frag} {mg : Str → Option Value} {base : Heap} (T : Txt K mg w)
/-! ### is_from, is_name -/
def spIsFrom : Sp := fun vs H Q _ => ∃ n lo hi : Int, vs = [.int n, .int lo, .int hi] ∧ lo ≤ n ∧ n ≤ hi ∧ Q (.bl true) H
theorem ok_isFrom : FnOk P w K mg base CX0 2 T.fIsFrom T.dIsFrom pIsFrom spIsFrom := by
  have G : FnOk P w K mg base CX0 1 T.fIsWhole T.dIsWhole pIsWhole spIsWhole := ok_isWhole T
  refine T.FIsFrom.ok scIsFrom (fun vs H Q E h => ?_) (fun cdv A outer s H vs Q E hr h => ?_)
  · obtain ⟨n, lo, hi, rfl, _⟩ := h; rfl
  · obtain ⟨n, lo, hi, rfl, h1, h2, k⟩ := h
    refine ⟨_, pss_one (ps_ret (pe_and (pe_call G hr (by rfl) T.gIsWhole T.FIsWhole.kp T.bIsWhole .nil pass0 (pa_cons (pv 0) pa_nil)) (pe_one (pe_chain op_le op_le (pv 1) (pv 0) (pv 2))))), ?_⟩
    refine ⟨_, rfl, n, rfl, true, rfl, ?_⟩
    refine iteT ?_
    refine ⟨_, rfl, _, rfl, _, _, rfl, rfl, _, rfl, ?_⟩
    rw [decide_eq_true h1]
    refine iteT ?_
    refine ⟨_, rfl, _, _, rfl, rfl, ?_⟩
    show Q (V.bl (decide (n ≤ hi))) H
    rw [decide_eq_true h2]
    exact k
def spIsName : Sp := fun vs H Q _ => ∃ z : Str, vs = [.str z] ∧ isNm z ∧ ∀ H', Same H H' → Q (.bl true) H'
theorem ls_true {z : Str} {g : TG} {tt : TT} {te : TE} {vs : List Nat} {σ : L2.St} {H1 : Hp} {D : Addr} {Qd : Hp → Prop} (hD : H1 D = none) (hz : z.cps.size < sizeLine)
    (hs : ∀ (i : Nat) (c : Nat) H, z.cps[i]? = some c → Same H1 H → g (.str ⟨#[c]⟩) (wipe σ vs) H fun σ2 H2 => wipe σ2 vs = wipe σ vs ∧ tt σ2 H2 fun b H3 => b = true ∧ te σ2 H3 fun y H4 => y = .bl true ∧ H4 = H)
    (post : ∀ (x : V) (σ2 : L2.St) (H : Hp) (Q Q' : L2.St → Hp → Prop), (∀ a b, Q a b → Q' a b) → g x σ2 H Q → g x σ2 H Q')
    (post2 : ∀ (σ2 : L2.St) (H : Hp) (Q Q' : Bool → Hp → Prop), (∀ a b, Q a b → Q' a b) → tt σ2 H Q → tt σ2 H Q')
    (post3 : ∀ (σ2 : L2.St) (H : Hp) (Q Q' : V → Hp → Prop), (∀ a b, Q a b → Q' a b) → te σ2 H Q → te σ2 H Q')
    (hd : ∀ H, Same H1 H → H D = some (.lst ((List.replicate z.cps.size true).map V.bl)) → Qd H) :
    ∃ W : Nat → Nat → Hp → Prop, (∃ m, W 0 m (upd H1 D (.lst []))) ∧ ∀ i m H, W i m H →
      ((Its z).stop i H ∧ Qd H) ∨ ((Its z).go i H ∧ ∃ Nx : Hp → Prop, (∀ H', Nx H' → ∃ m', m' < m ∧ W (i + 1) m' H') ∧ ∀ x H', (Its z).yld i H x H' → g x (wipe σ vs) H' fun σ2 H2 => wipe σ2 vs = wipe σ vs ∧ tt σ2 H2 fun b H3 =>
        if b = true then te σ2 H3 fun y H4 => ∃ acc, H4 D = some (.lst acc) ∧ acc.length < sizeLine ∧ Nx (upd H4 D (.lst (acc ++ [y]))) else Nx H3) := by
  refine ⟨fun i m H => m = z.cps.size - i ∧ i ≤ z.cps.size ∧ Same H1 H ∧ H D = some (.lst ((List.replicate i true).map V.bl)), ⟨_, rfl, Nat.zero_le _, same_new hD, upd_same⟩, ?_⟩
  rintro i m H ⟨rfl, hi, s, d⟩
  by_cases hlt : i < z.cps.size
  · refine .inr ⟨hlt, fun H' => Same H1 H' ∧ H' D = some (.lst ((List.replicate (i + 1) true).map V.bl)), fun H' ⟨p1, p2⟩ => ⟨_, (by omega : z.cps.size - (i + 1) < z.cps.size - i), rfl, hlt, p1, p2⟩, fun x H' y => ?_⟩
    obtain ⟨e, c, hc, rfl⟩ := y
    subst e
    refine post _ _ _ _ _ (fun σ2 H2 ⟨e1, h⟩ => ⟨e1, ?_⟩) (hs i c _ hc s)
    refine post2 _ _ _ _ (fun b H3 ⟨e2, h⟩ => ?_) h
    subst e2
    refine iteT (post3 _ _ _ _ (fun y H4 ⟨e3, e4⟩ => ?_) h)
    subst e3 e4
    refine ⟨_, d, by rw [List.length_map, List.length_replicate]; omega, same_upd s hD, ?_⟩
    rw [upd_same, List.replicate_succ']
    simp
  · have e : i = z.cps.size := by omega
    subst e
    exact .inl ⟨Nat.le_refl _, hd H s d⟩
theorem letters_mem {c : Nat} (h1 : 97 ≤ c) (h2 : c ≤ 122) : c ∈ ("abcdefghijklmnopqrstuvwxyz" : Str).cps.toList := by
  have e : ∀ c : Fin 123, 97 ≤ c.1 → c.1 ∈ ("abcdefghijklmnopqrstuvwxyz" : Str).cps.toList := by decide +kernel
  exact e ⟨c, by omega⟩ h1
theorem ok_isName : FnOk P w K mg base CX0 1 T.fIsName T.dIsName pIsName spIsName := by
  refine T.FIsName.ok scIsName (fun vs H Q E h => ?_) (fun cdv A outer s H vs Q E hr h => ?_)
  · obtain ⟨n, rfl, _⟩ := h; rfl
  · obtain ⟨z, rfl, ⟨h1, h2, h3⟩, k⟩ := h
    obtain ⟨uL, gL, rL⟩ := T.vLETTERS
    refine ⟨_, pss_cons (ps_if (pw_or (pt_not (pt_val (pe_callB call_isi (by rfl) T.zIsinstance boot_isinstance (pa_cons (pv 0) (pa_cons (e_str (by rfl) T.zStr) pa_nil)))))
        (pw_or1 (pt_not (pt_chain op_le op_le pe_int (pe_callB call_len (by rfl) T.zLen boot_len (pa_cons (pv 0) pa_nil)) pe_int)))).pt (pss_one (ps_ret pe_bl)) pss_nil)
      (pss_one (ps_ret (pe_callB (cr_all rfl) (by rfl) T.zAll boot_all (pa_cons (pe_lc (own := [("sign", 1)]) (g := gName 1) (tt := tYes) rfl scIsName.nd (pi_str (pv 0)) (blkOk_by (N := nIsName) (sc := defScope sIsName) (by decide +kernel)) (fun _ _ _ _ _ => pg_name (i := 1) scIsName.nd rfl (Or.inl rfl)) (fun _ _ _ _ _ => pts_nil)
          (fun _ _ _ _ _ => pe_cmpR op_in_sign (pv 1) (pe_glob (by rfl) gL rL) rfl)) pa_nil)))), ?_⟩
    have hlen : z.length = z.cps.size := rfl
    refine ⟨_, rfl, _, _, _, _, true, rfl, .ty "str", .base (.str z), kit_ty (by decide +kernel), true, rfl, ?_⟩
    refine iteF ?_
    refine ⟨_, rfl, _, _, rfl, ⟨by rw [sizeLine_eq]; omega, rfl⟩, _, _, rfl, rfl, _, rfl, ?_⟩
    rw [decide_eq_true (by rw [hlen]; omega)]
    refine iteT ⟨_, _, rfl, rfl, _, rfl, ?_⟩
    rw [decide_eq_true (by rw [hlen]; omega)]
    refine iteF ⟨_, rfl, z, rfl, fun D hD => ?_⟩
    refine ls_true hD (by rw [sizeLine_eq]; omega) (fun i c H hc s => ?_) (fun x σ2 H Q Q' hq h => hq _ _ h) (fun σ2 H Q Q' hq h => hq _ _ h) (fun σ2 H Q Q' hq h => ?_) fun H s d => ?_
    · refine ⟨rfl, rfl, ?_⟩
      refine ⟨_, rfl, c, _, rfl, rfl, ?_, rfl⟩
      have hm : c ∈ z.cps.toList := by
        rw [← Array.getElem?_toList] at hc
        exact List.mem_of_getElem? hc
      rw [decide_eq_true (letters_mem (h3 c hm).1 (h3 c hm).2)]
    · obtain ⟨v, e, c, zz, e1, e2, q⟩ := h
      exact ⟨v, e, c, zz, e1, e2, hq _ _ q⟩
    · refine ⟨D, _, rfl, .inl (.inl d), ?_⟩
      have e : (List.replicate z.cps.size true).all id = true := by simp
      rw [e]
      exact k H s
end
end Kx
set_option maxHeartbeats 4000000
namespace Kx
open PySem PySem.Spec PyProof.Rows L2
/-! ### pairs of a name and a number -/
def TupsAt (H : Hp) (ts : List Addr) (ps : List (Str × Int)) : Prop := ts.length = ps.length ∧ ∀ (i : Nat) t p, ts[i]? = some t → ps[i]? = some p → H t = some (.tup [.str p.1, .int p.2])
/-- a list of such -/
def RowsAt (H : Hp) (a : Addr) (ps : List (Str × Int)) : Prop := ∃ ts : List Addr, H a = some (.lst (ts.map V.ref)) ∧ TupsAt H ts ps
theorem TupsAt.fr {W : Addr → Prop} {H H' : Hp} {ts : List Addr} {ps : List (Str × Int)} (f : FrN W H H') (h : TupsAt H ts ps) (n : ∀ t ∈ ts, ¬ W t) : TupsAt H' ts ps :=
  ⟨h.1, fun i t p h1 h2 => f _ _ (n t (List.mem_of_getElem? h1)) (h.2 i t p h1 h2) (fun ps z => by cases z)⟩
theorem TupsAt.ext {H H' : Hp} {ts : List Addr} {ps : List (Str × Int)} (f : FrN NoW H H') (h : TupsAt H ts ps) : TupsAt H' ts ps := h.fr f fun _ _ z => z
theorem TupsAt.mem {H : Hp} {ts : List Addr} {ps : List (Str × Int)} (h : TupsAt H ts ps) {t : Addr} (ht : t ∈ ts) : ∃ p ∈ ps, H t = some (.tup [.str p.1, .int p.2]) := by
  obtain ⟨i, hi⟩ := List.mem_iff_getElem?.mp ht
  have hl : i < ps.length := by rw [← h.1]; exact (List.getElem?_eq_some_iff.mp hi).1
  exact ⟨ps[i], List.getElem_mem hl, h.2 i t _ hi (List.getElem?_eq_getElem hl)⟩
theorem TupsAt.at_ {H : Hp} {ts : List Addr} {ps : List (Str × Int)} (h : TupsAt H ts ps) {i : Nat} {x : V} (hx : (ts.map V.ref)[i]? = some x) : ∃ t p, x = .ref t ∧ ts[i]? = some t ∧ ps[i]? = some p ∧ H t = some (.tup [.str p.1, .int p.2]) := by
  rw [List.getElem?_map] at hx
  cases q : ts[i]? with
  | none => rw [q] at hx; cases hx
  | some t =>
    rw [q] at hx
    have hl : i < ps.length := by rw [← h.1]; exact (List.getElem?_eq_some_iff.mp q).1
    exact ⟨t, ps[i], (Option.some.inj hx).symm, rfl, List.getElem?_eq_getElem hl, h.2 i t _ q (List.getElem?_eq_getElem hl)⟩
theorem RowsAt.ext {H H' : Hp} {a : Addr} {ps : List (Str × Int)} (f : FrN NoW H H') (h : RowsAt H a ps) : RowsAt H' a ps := by
  obtain ⟨ts, h1, h2⟩ := h
  exact ⟨ts, f _ _ (fun z => z) h1 (fun ps z => by cases z), h2.ext f⟩
section
variable {P : Program} {w : World} {K : PySem.W.Frag} {mg : Str → Option Value} {base : Heap} (T : Txt K mg w)
def spIsPair : Sp := fun vs H Q _ => ∃ (t : Addr) (z : Str) (n lo hi : Int), vs = [.ref t, .int lo, .int hi] ∧ H t = some (.tup [.str z, .int n]) ∧ isNm z ∧ lo ≤ n ∧ n ≤ hi ∧ ∀ H', Same H H' → Q (.bl true) H'
theorem ok_isPair : FnOk P w K mg base CX0 3 T.fIsPair T.dIsPair pIsPair spIsPair := by
  have GN : FnOk P w K mg base CX0 1 T.fIsName T.dIsName pIsName spIsName := ok_isName T
  have GF : FnOk P w K mg base CX0 2 T.fIsFrom T.dIsFrom pIsFrom spIsFrom := ok_isFrom T
  refine T.FIsPair.ok scIsPair (fun vs H Q E h => ?_) (fun cdv A outer s H vs Q E hr h => ?_)
  · obtain ⟨t, z, n, lo, hi, rfl, _⟩ := h; rfl
  · obtain ⟨t, z, n, lo, hi, rfl, ht, hz, h1, h2, k⟩ := h
    refine ⟨_, pss_one (ps_ret (pe_and (pe_callB call_isi (by rfl) T.zIsinstance boot_isinstance (pa_cons (pv 0) (pa_cons (e_tuple (by rfl) T.zTuple) pa_nil)))
      (pe_and (pe_cmpR op_eq (pe_callB call_len (by rfl) T.zLen boot_len (pa_cons (pv 0) pa_nil)) pe_int (nomark _))
      (pe_and (pe_call GN (hr.mono (by decide)) (by rfl) T.gIsName T.FIsName.kp T.bIsName .nil pass0 (pa_cons (pe_ix ix_tup (pv 0) pe_int (fun _ _ => rfl)) pa_nil))
      (pe_one (pe_call GF hr (by rfl) T.gIsFrom T.FIsFrom.kp T.bIsFrom .nil pass0 (pa_cons (pe_ix ix_tup (pv 0) pe_int (fun _ _ => rfl)) (pa_cons (pv 1) (pa_cons (pv 2) pa_nil))))))))), ?_⟩
    refine ⟨_, rfl, _, _, _, _, true, rfl, .ty "tuple", .base (.tup ht), kit_ty (by decide +kernel), true, rfl, iteT ?_⟩
    refine ⟨_, rfl, _, 2, rfl, .inr ⟨_, SqT.of ht, rfl⟩, rfl, _, rfl, iteT ?_⟩
    refine ⟨_, rfl, t, _, 0, _, rfl, rfl, SqT.of ht, rfl, z, rfl, hz, fun H1 s1 => ⟨_, rfl, iteT ?_⟩⟩
    exact ⟨_, rfl, t, _, 1, _, rfl, rfl, SqT.of (s1 _ _ ht), rfl, _, rfl, _, rfl, n, lo, hi, rfl, h1, h2, k H1 s1⟩
/-- rows that are well -/
structure RowsOk (lo hi : Int) (many : Nat) (ps : List (Str × Int)) : Prop where
  nm : ∀ p ∈ ps, isNm p.1
  lo : ∀ p ∈ ps, lo ≤ p.2
  hi : ∀ p ∈ ps, p.2 ≤ hi
  nd : (ps.map (·.1)).Nodup
  ne : 1 ≤ ps.length
  le : ps.length ≤ many
  pos : ∃ p ∈ ps, 0 < p.2
def rowK (ps : List (Str × Int)) : List (Key × V) := ps.map fun p => (Sum.inr p.1, V.int p.2)
theorem rowK_none {ps : List (Str × Int)} {i : Nat} {p : Str × Int} (nd : (ps.map (·.1)).Nodup) (h : ps[i]? = some p) : valV (rowK (ps.take i)) (Sum.inr p.1) = none := by
  cases e : valV (rowK (ps.take i)) (Sum.inr p.1) with
  | none => rfl
  | some v =>
    exfalso
    have hm := valV_in e
    unfold rowK at hm
    rw [List.map_map] at hm
    obtain ⟨q, hq, e2⟩ := List.mem_map.mp hm
    have e3 : q.1 = p.1 := Sum.inr.inj e2
    obtain ⟨j, hj⟩ := List.mem_iff_getElem?.mp hq
    have hji : j < i := by
      have := (List.getElem?_eq_some_iff.mp hj).1
      rw [List.length_take] at this
      omega
    rw [List.getElem?_take_of_lt hji] at hj
    have hi := (List.getElem?_eq_some_iff.mp h).1
    have a1 : (ps.map (·.1))[j]? = some p.1 := by rw [List.getElem?_map, hj, ← e3]; rfl
    have a2 : (ps.map (·.1))[i]? = some p.1 := by rw [List.getElem?_map, h]; rfl
    have := (List.getElem?_inj (by rw [List.length_map]; omega) nd).mp (a1.trans a2.symm)
    omega
def spCheck : Sp := fun vs H Q _ => ∃ (a : Addr) (many : Nat) (lo hi : Int) (ps : List (Str × Int)), vs = [.ref a, .int many, .int lo, .int hi] ∧ RowsAt H a ps ∧ RowsOk lo hi many ps ∧ many ≤ 60 ∧ ∀ H', Same H H' → Q .non H'
theorem ok_check : FnOk P w K mg base CX0 4 T.fCheckPairs T.dCheckPairs pCheckPairs spCheck := by
  have GP : FnOk P w K mg base CX0 3 T.fIsPair T.dIsPair pIsPair spIsPair := ok_isPair T
  refine T.FCheckPairs.ok scCheckPairs (fun vs H Q E h => ?_) (fun cdv A outer s H vs Q E hr h => ?_)
  · obtain ⟨a, many, lo, hi, ps, rfl, _⟩ := h; rfl
  · obtain ⟨a, many, lo, hi, ps, rfl, ⟨ts, ha, ht⟩, ok, hm, k⟩ := h
    have hu := hu_of hr
    refine ⟨_, pss_cons (ps_if (pt_not (pt_val (pe_callB call_isi (by rfl) T.zIsinstance boot_isinstance (pa_cons (pv 0) (pa_cons (e_list (by rfl) T.zList) pa_nil))))) (pss_one ps_never) pss_nil)
      (pss_cons (ps_set (i := 4) scCheckPairs.nd rfl (Or.inl rfl) pe_dnewK)
      (pss_cons (ps_for PassesOwn.never rfl (pi_enum (by rfl) T.zEnumerate (pa_cons (pv 0) pa_nil)) (pg_tup rfl (pgs_cons (pg_name (i := 5) scCheckPairs.nd rfl (Or.inl rfl)) (pgs_cons (pg_name (i := 6) scCheckPairs.nd rfl (Or.inl rfl)) pgs_nil)))
        (pss_cons (ps_if (pw_or (pt_not (pt_val (pe_call GP hr (by rfl) T.gIsPair T.FIsPair.kp T.bIsPair .nil pass0 (pa_cons (pv 6) (pa_cons (pv 2) (pa_cons (pv 3) pa_nil))))))
            (pw_or1 (pt_cmp (pc_din hu (pe_ix ix_tup (pv 6) pe_int (fun _ _ => rfl)) (pv 4))))).pt (pss_one ps_never) pss_nil)
          (pss_one (ps_dput hu (pv 4) (pe_ix ix_tup (pv 6) pe_int (fun _ _ => rfl)) (pe_ix ix_tup (pv 6) pe_int (fun _ _ => rfl)) rfl))))
      (pss_one (ps_if (pw_or (pt_not (pt_chain op_le op_le pe_int (pe_callB call_len (by rfl) T.zLen boot_len (pa_cons (pv 0) pa_nil)) (pv 1)))
            (pw_or1 (pt_cmpR op_eq (pe_maxVals rfl (by rfl) T.zMax (pv 4)) pe_int (nomark _)))).pt (pss_one ps_never) pss_nil)))), ?_⟩
    refine ⟨_, rfl, _, _, _, _, true, rfl, .ty "list", .base (.lst ha), kit_ty (by decide +kernel), true, rfl, iteF ?_⟩
    refine fun d hd => ?_
    have sa : SqL K H a (ts.map V.ref) := SqL.of ha
    refine ⟨_, rfl, a, _, rfl, .inl (.inl (same_new hd _ _ ha)), for_it (walk_enum (K := K) (a := a) (xs := ts.map V.ref)) (fun i σ H' => ∃ u v, σ = [some (.ref a), some (.int many), some (.int lo), some (.int hi), some (.ref d), u, v] ∧ Same H H' ∧ H' d = some (.dK (rowK (ps.take i))))
      ⟨none, none, rfl, same_new hd, upd_same⟩ (fun i σ H' _ ⟨_, _, _, s, _⟩ => s.seq sa) ?_ ?_⟩
    · rintro i x σ H1 H2 _ ⟨u, v, rfl, s, hdv⟩ ⟨t0, y1, y2, rfl, nt, rfl, e1, e2⟩
      cases e1
      obtain ⟨t, p, rfl, ht1, hp, htt⟩ := ht.at_ e2
      have hpm : p ∈ ps := List.mem_of_getElem? hp
      have s2 : Same H (upd H1 t0 (.tup [.int (i : Int), .ref t])) := same_upd s (s.free nt)
      have hdt : d ≠ t0 := ne_of_none hdv nt
      refine ⟨t0, _, rfl, SqT.of upd_same, rfl, _, _, rfl, _, _, rfl, rfl, ?_⟩
      refine ⟨_, rfl, _, rfl, _, rfl, t, p.1, p.2, lo, hi, rfl, s2 _ _ htt, ok.nm p hpm, ok.lo p hpm, ok.hi p hpm, fun H3 s3 => ⟨true, rfl, iteF ?_⟩⟩
      have hd3 : H3 d = some (.dK (rowK (ps.take i))) := s3 _ _ (by rw [upd_ne hdt]; exact hdv)
      have ht3 : H3 t = some (.tup [.str p.1, .int p.2]) := s3 _ _ (s2 _ _ htt)
      refine ⟨_, rfl, t, _, 0, _, rfl, rfl, SqT.of ht3, rfl, _, rfl, d, _, rfl, DGet.k (k := Sum.inr p.1) hd3, _, rfl, ?_⟩
      rw [rowK_none ok.nd hp]
      refine iteF ?_
      refine ⟨_, rfl, t, _, 1, _, rfl, rfl, SqT.of ht3, rfl, _, rfl, _, rfl, t, _, 0, _, rfl, rfl, SqT.of ht3, rfl, d, _, rfl, DPut.k (k := Sum.inr p.1) hd3 ?_, ?_⟩
      · unfold rowK
        rw [List.length_map, List.length_take, sizeLine_eq]
        have := ok.le
        omega
      · refine ⟨_, _, rfl, ?_, ?_⟩
        · exact same_upd (s2.trans s3) hd
        · rw [upd_same, putK_new _ (rowK_none ok.nd hp)]
          unfold rowK
          rw [List.take_add_one, hp]
          simp
    · rintro σ H1 ⟨u, v, rfl, s, hdv⟩
      rw [List.length_map, ht.1, List.take_length] at hdv
      refine ⟨_, rfl, _, _, rfl, .inl ⟨_, s.seq sa, rfl⟩, _, _, rfl, rfl, _, rfl, ?_⟩
      have l1 := ok.ne
      have l2 := ok.le
      rw [decide_eq_true (by rw [List.length_map, ht.1]; omega)]
      refine iteT ⟨_, rfl, _, _, rfl, rfl, _, rfl, ?_⟩
      rw [decide_eq_true (by rw [List.length_map, ht.1]; omega)]
      refine iteF ⟨_, rfl, d, rowK ps, ps.map (·.2), rfl, hdv, by unfold rowK; rw [List.map_map, List.map_map]; rfl, ?_, fun m m1 m2 => ?_⟩
      · intro z
        have := congrArg List.length z
        rw [List.length_map] at this
        simp at this
        rw [this] at l1
        simp at l1
      · refine ⟨rfl, _, rfl, ?_⟩
        obtain ⟨p, hp, p0⟩ := ok.pos
        have := m2 p.2 (List.mem_map.mpr ⟨p, hp, rfl⟩)
        rw [decide_eq_false (by intro z; cases z; omega)]
        exact iteF (k _ s)
end
end Kx
set_option maxHeartbeats 4000000
namespace Kx
open PySem PySem.Spec PyProof.Rows L2
/-! ### the turns -/
def upTo (n : Nat) : List Int := (List.range n).map fun (i : Nat) => (i : Int)
theorem rgV_upTo (n : Nat) : rgV 0 n = (upTo n).map V.int := by
  unfold rgV upTo
  rw [List.map_map]
  have e : ((n : Int) - 0).toNat = n := by omega
  rw [e]
  refine List.map_congr_left fun i _ => ?_
  show V.int (0 + (i : Int)) = V.int (i : Int)
  congr 1
  omega
theorem upTo_len (n : Nat) : (upTo n).length = n := by unfold upTo; rw [List.length_map, List.length_range]
theorem upTo_mem {n : Nat} {i : Int} (h : i ∈ upTo n) : 0 ≤ i ∧ i < n := by
  unfold upTo at h
  obtain ⟨j, hj, rfl⟩ := List.mem_map.mp h
  have := List.mem_range.mp hj
  omega
inductive Turn3 : Str → Prop
  | first : Turn3 "first"
  | last : Turn3 "last"
  | greatest : Turn3 "greatest"
def turnL (to : Str) (rs : List Int) (l : List Int) : List Int := if to = "last" then l.reverse else if to = "greatest" then l.mergeSort (greLe rs) else l
def turnOf (to : Str) (rs : List Int) : List Int := turnL to rs (upTo rs.length)
theorem turnL_first (rs l : List Int) : turnL "first" rs l = l := by unfold turnL; rw [if_neg (by decide), if_neg (by decide)]
theorem turnL_last (rs l : List Int) : turnL "last" rs l = l.reverse := by unfold turnL; rw [if_pos rfl]
theorem turnL_greatest (rs l : List Int) : turnL "greatest" rs l = l.mergeSort (greLe rs) := by unfold turnL; rw [if_neg (by decide), if_pos rfl]
theorem turnL_perm (to : Str) (rs l : List Int) : (turnL to rs l).Perm l := by
  unfold turnL
  split
  · exact List.reverse_perm l
  · split
    · exact List.mergeSort_perm l _
    · exact List.Perm.refl l
/-- the tables stay when something that is no table and no code object is written -/
theorem tabs_upd {T : List (Addr × Str)} {H : Hp} {a : Addr} {o o' : HO} (t : LamX.Tabs T H) (h : H a = some o) (h1 : ∀ ps, o ≠ .tbl ps) (h2 : ∀ q, o ≠ LamX.CodeO a q) : LamX.Tabs T (upd H a o') := fun p hp => by
  obtain ⟨ps, e1, e2, e3⟩ := t p hp
  have n1 : p.1 ≠ a := by
    rintro z
    rw [z, h] at e1
    exact h1 ps (Option.some.inj e1)
  refine ⟨ps, by rw [upd_ne n1]; exact e1, e2, fun pos cv hc => ?_⟩
  obtain ⟨c, e4, e5⟩ := e3 pos cv hc
  have n2 : c ≠ a := by
    rintro rfl
    rw [h] at e5
    exact h2 _ (Option.some.inj e5)
  exact ⟨c, e4, by rw [upd_ne n2]; exact e5⟩
theorem tabs_same {T : List (Addr × Str)} {H H' : Hp} (t : LamX.Tabs T H) (e : Same H H') : LamX.Tabs T H' := LamX.Tabs.ext t e
section
variable {P : Program} {w : World} {K : PySem.W.Frag} {mg : Str → Option Value} {base : Heap} (T : Txt K mg w)
def spTurn (to : Str) : Sp := fun vs H Q _ => ∃ (a : Addr) (rs : List Int), vs = [.ref a] ∧ SqL K H a (rs.map V.int) ∧ rs.length ≤ 60 ∧ LamX.Tabs T.tabs H ∧
  ∀ H' p, FrN NoW H H' → LamX.Tabs T.tabs H' → NewT H p → H' p = some (.lst ((turnOf to rs).map V.int)) → Q (.ref p) H'
theorem ok_first : FnOk P w K mg base CX0 1 T.fFromFirst T.dFromFirst pFromFirst (spTurn T "first") := by
  refine T.FFromFirst.ok scFromFirst (fun vs H Q E h => ?_) (fun cdv A outer s H vs Q E hr h => ?_)
  · obtain ⟨a, rs, rfl, _⟩ := h; rfl
  · obtain ⟨a, rs, rfl, ha, hl, ht, k⟩ := h
    refine ⟨_, pss_one (ps_ret (pe_listRg rfl (by rfl) T.zList (prg_1 (by rfl) T.zRange (pe_callB call_len (by rfl) T.zLen boot_len (pa_cons (pv 0) pa_nil))))), ?_⟩
    refine ⟨_, rfl, _, rs.length, rfl, .inl ⟨_, ha, by rw [List.length_map]⟩, _, rfl, RgOk.of_le (by omega) (by omega) (by omega) (by omega), fun q nq => ?_⟩
    refine k _ q (.same (same_new nq)) (tabs_same ht (same_new nq)) (.none nq) ?_
    rw [upd_same, rgV_upTo]
    unfold turnOf
    rw [turnL_first]
theorem ok_last : FnOk P w K mg base CX0 1 T.fFromLast T.dFromLast pFromLast (spTurn T "last") := by
  refine T.FFromLast.ok scFromLast (fun vs H Q E h => ?_) (fun cdv A outer s H vs Q E hr h => ?_)
  · obtain ⟨a, rs, rfl, _⟩ := h; rfl
  · obtain ⟨a, rs, rfl, ha, hl, ht, k⟩ := h
    refine ⟨_, pss_one (ps_ret (pe_listRevRg rfl (by rfl) T.zList (by rfl) T.zReversed (prg_1 (by rfl) T.zRange (pe_callB call_len (by rfl) T.zLen boot_len (pa_cons (pv 0) pa_nil))))), ?_⟩
    refine ⟨_, rfl, _, rs.length, rfl, .inl ⟨_, ha, by rw [List.length_map]⟩, _, rfl, RgOk.of_le (by omega) (by omega) (by omega) (by omega), fun q nq => ?_⟩
    refine k _ q (.same (same_new nq)) (tabs_same ht (same_new nq)) (.none nq) ?_
    rw [upd_same, rgV_upTo]
    unfold turnOf
    rw [turnL_last, List.map_reverse]
theorem ok_greatest (B : TbOk T base) : FnOk P w K mg base CX0 2 T.fFromGreatest T.dFromGreatest pFromGreatest (spTurn T "greatest") := by
  refine T.CFromGreatest.ok scFromGreatest (fun vs H Q E h => ?_) (fun A outer s H vs Q E hr h => ?_)
  · obtain ⟨a, rs, rfl, _⟩ := h; rfl
  · obtain ⟨a, rs, rfl, ha, hl, ht, k⟩ := h
    refine ⟨_, pss_one (ps_ret (pe_sortGreR (T := T.tabs) (x := "at") (r := "rests") (j := 0) B.g rfl (.head _) (fun p hp e => ?_) (by rfl) rfl (by rfl) T.zSorted (by rfl) T.zRange hr (pe_callB call_len (by rfl) T.zLen boot_len (pa_cons (pv 0) pa_nil)))), ?_⟩
    · rcases List.mem_cons.mp hp with rfl | hp
      · rfl
      · rw [List.mem_singleton] at hp
        subst hp
        exact absurd e.symm T.nPGU
    · refine ⟨_, rfl, _, rs.length, rfl, .inl ⟨_, ha, by rw [List.length_map]⟩, _, rfl, by omega, by omega, ht, ?_, a, rs, rfl, ha, ?_, fun H1 p e1 t1 np => ?_⟩
      · rw [List.length_map, List.length_range, sizeLine_eq]
        omega
      · intro i hi
        have := upTo_mem (n := rs.length) (i := i) (by simpa [upTo] using hi)
        exact this
      · refine k _ p ((FrN.ext e1).updN np) (tabs_same t1 (same_new np)) (NewT.of (fun z => z) (FrN.ext e1) np) ?_
        rw [upd_same]
        unfold turnOf
        rw [turnL_greatest]
        rfl
end
end Kx
set_option maxHeartbeats 4000000
namespace Kx
open PySem PySem.Spec PyProof.Rows L2
/-! ### with_odd -/
def cutI (xs : List Int) (m : Int) : List Int := (xs.drop (HT.sIx xs.length 0 none)).take (HT.sIx xs.length xs.length (some m) - HT.sIx xs.length 0 none)
theorem cutV_int (xs : List Int) (m : Int) : cutV (xs.map V.int) none (some m) = (cutI xs m).map V.int := by
  unfold cutV cutI
  rw [List.map_take, List.map_drop, List.length_map]
theorem cutI_mem {xs : List Int} {m k : Int} (h : k ∈ cutI xs m) : k ∈ xs := List.mem_of_mem_drop (List.mem_of_mem_take h)
theorem cutI_len (xs : List Int) (m : Int) : (cutI xs m).length ≤ xs.length := by
  unfold cutI
  rw [List.length_take, List.length_drop]
  omega
def bump (us : List Int) (k : Int) : List Int := us.set k.toNat (us.getD k.toNat 0 + 1)
def bumps (us ks : List Int) : List Int := ks.foldl bump us
theorem bump_len (us : List Int) (k : Int) : (bump us k).length = us.length := by unfold bump; rw [List.length_set]
theorem bumps_len : ∀ (ks us : List Int), (bumps us ks).length = us.length
  | [], _ => rfl
  | k :: ks, us => by
    show (bumps (bump us k) ks).length = us.length
    rw [bumps_len ks, bump_len]
theorem bumps_take {us ks : List Int} {i : Nat} {k : Int} (h : ks[i]? = some k) : bumps us (ks.take (i + 1)) = bump (bumps us (ks.take i)) k := by
  unfold bumps
  rw [List.take_add_one, h, List.foldl_append]
  rfl
theorem inV_ints (k : Int) (bs : List Int) : inV (.int k) (bs.map V.int) = decide (k ∈ bs) := by
  unfold inV
  rw [List.any_map]
  by_cases h : k ∈ bs
  · rw [decide_eq_true h]
    exact List.any_eq_true.mpr ⟨k, h, by show (k == k) = true; exact beq_self_eq_true k⟩
  · rw [decide_eq_false h]
    refine Bool.eq_false_iff.mpr fun z => ?_
    obtain ⟨j, hj, e⟩ := List.any_eq_true.mp z
    have e' : (j == k) = true := e
    rw [beq_iff_eq] at e'
    subst e'
    exact h hj
theorem flat_ints (bs : List Int) : (bs.map V.int).all flatV = true := by
  rw [List.all_map]
  exact List.all_eq_true.mpr fun _ _ => rfl
theorem fm_filter (p : Int → Bool) (xs : List Int) : (xs.map V.int).filterMap (fun v => match v with | .int k => if p k = true then some (V.int k) else none | _ => none) = (xs.filter p).map V.int := by
  induction xs with
  | nil => rfl
  | cons x xs ih =>
    rw [List.map_cons, List.filterMap_cons]
    by_cases h : p x = true
    · simp only [h, if_true]
      rw [ih, List.filter_cons_of_pos h, List.map_cons]
    · simp only [h]
      rw [List.filter_cons_of_neg h]
      exact ih
theorem ints_at {l : List Int} {i : Nat} {x : V} (h : (l.map V.int)[i]? = some x) : ∃ k, x = .int k ∧ l[i]? = some k := by
  rw [List.getElem?_map] at h
  cases e : l[i]? with
  | none => rw [e] at h; cases h
  | some k => rw [e] at h; exact ⟨k, (Option.some.inj h).symm, rfl⟩
theorem ixN_nat {n : Nat} {k : Int} (h0 : 0 ≤ k) (h1 : k < n) : ixN n k = some k.toNat := by
  unfold ixN
  rw [if_pos h0, if_pos h1]
section
variable {P : Program} {w : World} {K : PySem.W.Frag} {mg : Str → Option Value} {base : Heap} (T : Txt K mg w)
theorem turns_ok (B : TbOk T base) {to : Str} (ht : Turn3 to) : ∃ f fd ps, (∃ u, PySem.W.nsIn K T.aTURNS to = some (some u) ∧ u = .ref f) ∧ FnOk P w K mg base CX0 2 f fd ps (spTurn T to) ∧ PySem.W.keepIn K (.ref f) = true ∧ Binds K fd ps [] := by
  cases ht with
  | first => exact ⟨_, _, _, ⟨_, T.iTURNSFirst, rfl⟩, (ok_first T).mono (by decide), T.FFromFirst.kp, T.bFromFirst⟩
  | last => exact ⟨_, _, _, ⟨_, T.iTURNSLast, rfl⟩, (ok_last T).mono (by decide), T.FFromLast.kp, T.bFromLast⟩
  | greatest => exact ⟨_, _, _, ⟨_, T.iTURNSGreatest, rfl⟩, ok_greatest T B, T.FFromGreatest.kp, T.bFromGreatest⟩
def oddF (to : Str) (us rs bs : List Int) (left : Int) : List Int := bumps us (cutI ((turnOf to rs).filter fun k => !decide (k ∈ bs)) left)
def spOdd : Sp := fun vs H Q _ => ∃ (a b c : Addr) (us rs bs : List Int) (left : Int) (to : Str), vs = [.ref a, .ref b, .int left, .str to, .ref c] ∧ SqL K H a (us.map V.int) ∧ SqL K H b (rs.map V.int) ∧ SqL K H c (bs.map V.int) ∧ us.length = rs.length ∧ rs.length ≤ 60 ∧ Turn3 to ∧ LamX.Tabs T.tabs H ∧
  ∀ H' p, FrN NoW H H' → LamX.Tabs T.tabs H' → NewT H p → H' p = some (.lst ((oddF to us rs bs left).map V.int)) → Q (.ref p) H'
theorem ok_odd (B : TbOk T base) : FnOk P w K mg base CX0 3 T.fWithOdd T.dWithOdd pWithOdd (spOdd T) := by
  refine T.FWithOdd.ok scWithOdd (fun vs H Q E h => ?_) (fun cdv A outer s H vs Q E hr h => ?_)
  · obtain ⟨a, b, c, us, rs, bs, left, to, rfl, _⟩ := h; rfl
  · obtain ⟨a, b, c, us, rs, bs, left, to, rfl, ha, hb, hc, hl, h60, h3, ht, k⟩ := h
    refine ⟨_, pss_cons (ps_set (i := 5) scWithOdd.nd rfl (Or.inl rfl) (pe_callTy call_list_of (by rfl) T.zList boot_list (pa_cons (pv 0) pa_nil)))
      (pss_cons (ps_for PassesOwn.never rfl (pi_list (pe_slice sl_list (pe_lc (own := [("place", 7)]) (g := gName 7) rfl scWithOdd.nd (pi_list (pe_callE (k := 2) (pe_ix ix_kdict (pe_glob (by rfl) T.gTURNS (v := .ref T.aTURNS) rfl) (pv 3) (fun _ _ => rfl)) hr pass0 (pa_cons (pv 1) pa_nil)))
            (blkOk_by (N := nWithOdd) (sc := defScope sWithOdd) (by decide +kernel)) (fun _ _ _ _ _ => pg_name (i := 7) scWithOdd.nd rfl (Or.inl rfl)) (fun _ _ _ _ _ => pts_one (pt_cmpR (r := rIn K true) op_notIn_seq (pv 7) (pv 4) rfl)) (fun _ _ _ _ _ => pv 7)) po_none (po_some (pv 2))))
          (pg_name (i := 6) scWithOdd.nd rfl (Or.inl rfl))
          (pss_one (ps_augS (pv 5) (pv 6) pget_list pe_int ip_add set_list)))
      (pss_one (ps_ret (pv 5)))), ?_⟩
    obtain ⟨f, fd, ps, ⟨u, hu1, hu2⟩, F, kp, bd⟩ := turns_ok (P := P) T B h3
    refine ⟨_, rfl, a, _, rfl, .inl ha, fun l nl => ?_⟩
    have s1 : Same H (upd H l (.lst (us.map V.int))) := same_new nl
    refine ⟨_, rfl, T.aTURNS, to, .ref f, rfl, rfl, ⟨T.eTURNS, T.kTURNS, _, T.KTURNS.at_, T.KTURNS.lit, hu1, hu2⟩, f, fd, ps, _, rfl, F, kp, bd, ?_⟩
    refine ⟨_, rfl, b, rs, rfl, s1.seq hb, h60, tabs_same ht s1, fun H2 p f2 t2 np hp => ?_⟩
    have fr2 : FrN NoW H H2 := (FrN.same s1).trans f2
    have hl2 : H2 l = some (.lst (us.map V.int)) := f2 _ _ (fun z => z) upd_same (fun ps z => by cases z)
    refine ⟨p, rfl, ⟨_, SqL.of hp⟩, fun D hD => ?_⟩
    have tlen : (turnOf to rs).length = rs.length := by
      unfold turnOf
      rw [(turnL_perm to rs _).length_eq, upTo_len]
    have hc2 : SqL K H2 c (bs.map V.int) := fr2.seq (fun _ z => z) hc
    refine lc_fm (K := K) (a := p) (xs := (turnOf to rs).map V.int) (fun v => match v with | .int k => if (!decide (k ∈ bs)) = true then some (V.int k) else none | _ => none) hD (SqL.of hp) (by rw [List.length_map, tlen, sizeLine_eq]; omega) (fun i x ys H3 hx f3 hDs put skip => ?_) fun H3 f3 hD3 => ?_
    · obtain ⟨q, rfl, hq⟩ := ints_at hx
      refine ⟨rfl, _, rfl, _, rfl, c, _, rfl, .inl (f3.seq hc2), rfl, flat_ints bs, _, rfl, ?_⟩
      rw [if_pos rfl, inV_ints]
      refine ite2 (fun c1 => ⟨_, rfl, put _ _ (Same.refl _) (if_pos c1)⟩) (fun c1 => skip _ (Same.refl _) (if_neg c1))
    · rw [fm_filter] at hD3
      refine ⟨_, rfl, _, rfl, D, _, rfl, SqL.of hD3, fun S nS => ?_⟩
      rw [cutV_int]
      have hbs : ∀ q ∈ cutI ((turnOf to rs).filter fun q => !decide (q ∈ bs)) left, 0 ≤ q ∧ q < rs.length := fun q hq => by
        have h1 := (List.mem_filter.mp (cutI_mem hq)).1
        exact upTo_mem ((turnL_perm to rs _).mem_iff.mp h1)
      have clen : (cutI ((turnOf to rs).filter fun q => !decide (q ∈ bs)) left).length ≤ 60 := by
        have := cutI_len ((turnOf to rs).filter fun q => !decide (q ∈ bs)) left
        have := List.length_filter_le (fun q => !decide (q ∈ bs)) (turnOf to rs)
        omega
      unfold oddF at k
      generalize hks : cutI ((turnOf to rs).filter fun q => !decide (q ∈ bs)) left = ks at *
      have fr4 : FrN NoW H (upd H3 S (.lst (ks.map V.int))) := ((fr2.trans (FrN.same f3))).updN nS
      have hl4 : H3 l = some (.lst (us.map V.int)) := f3 _ _ hl2
      have nlS : l ≠ S := ne_of_none hl4 nS
      have t4 : LamX.Tabs T.tabs (upd H3 S (.lst (ks.map V.int))) := tabs_same (tabs_same t2 f3) (same_new nS)
      refine ⟨S, rfl, ⟨_, SqL.of upd_same⟩, for_list (K := K) (a := S) (xs := ks.map V.int) (fun i σ H' => ∃ v, σ = [some (.ref a), some (.ref b), some (.int left), some (.str to), some (.ref c), some (.ref l), v, none] ∧ FrN NoW H H' ∧ LamX.Tabs T.tabs H' ∧ S ≠ l ∧ H' S = some (.lst (ks.map V.int)) ∧ H' l = some (.lst ((bumps us (ks.take i)).map V.int)))
        ⟨none, rfl, fr4, t4, nlS.symm, upd_same, by rw [upd_ne nlS]; exact hl4⟩ (fun i σ H' _ ⟨_, _, _, _, _, hS, _⟩ => SqL.of hS) ?_ ?_⟩
      · rintro i x σ H' hx ⟨v, rfl, fr, tt, nSl, hS, hl'⟩
        obtain ⟨q, rfl, hq⟩ := ints_at hx
        obtain ⟨q0, q1⟩ := hbs q (List.mem_of_getElem? hq)
        have bl := bumps_len (ks.take i) us
        have hlt : q.toNat < (bumps us (ks.take i)).length := by omega
        refine ⟨_, rfl, _, rfl, l, _, q.toNat, V.int ((bumps us (ks.take i)).getD q.toNat 0), rfl, by rw [Int.toNat_of_nonneg q0], SqL.of hl', ?_, _, _, rfl, rfl, l, _, q, q.toNat, rfl, rfl, hl', ixN_nat q0 (by rw [List.length_map]; omega), ?_⟩
        · rw [List.getElem?_map, List.getElem?_eq_getElem hlt]
          simp [List.getD, List.getElem?_eq_getElem hlt]
        · refine ⟨_, rfl, fr.updW (.none nl), tabs_upd tt hl' (fun ps z => by cases z) (fun q z => by cases z), nSl, ?_, ?_⟩
          · rw [upd_ne nSl]
            exact hS
          · rw [upd_same, bumps_take hq]
            unfold bump
            rw [List.map_set]
      · rintro σ H' ⟨v, rfl, fr, tt, nSl, hS, hl'⟩
        rw [List.length_map, List.take_length] at hl'
        exact ⟨_, rfl, k H' l fr tt (.none nl) hl'⟩
end
end Kx
set_option maxHeartbeats 4000000
namespace Kx
open PySem PySem.Spec PyProof.Rows L2
abbrev gPair (K : PySem.W.Frag) (i j : Nat) : TG := gTup K 2 (gCons (gName i) (gCons (gName j) gNil))
theorem fm_if {β : Type} (b : β → Bool) (f : β → V) (l : List β) : l.filterMap (fun p => if b p = true then some (f p) else none) = (l.filter b).map f := by
  induction l with
  | nil => rfl
  | cons x l ih =>
    rw [List.filterMap_cons]
    by_cases h : b x = true
    · simp only [h, if_true]
      rw [ih, List.filter_cons_of_pos h, List.map_cons]
    · simp only [h]
      rw [List.filter_cons_of_neg h]
      exact ih
/-- [f for x, n in rows if b]: nothing but the new list is touched -/
theorem lc_rows {K : PySem.W.Frag} {a : Addr} {tt : TT} {te : TE} {vs : List Nat} {σ : L2.St} {H1 : Hp} {D : Addr} {Qd : Hp → Prop} {ts : List Addr} {rows : List (Str × Int)} {i j : Nat} (b : Str × Int → Bool) (f : Str × Int → V)
    (hD : H1 D = none) (ha : H1 a = some (.lst (ts.map V.ref))) (ht : TupsAt H1 ts rows) (hsz : rows.length ≤ 1000) (hw : ∀ z n, wipe (((wipe σ vs).set i (some (V.str z))).set j (some (V.int n))) vs = wipe σ vs)
    (hb : ∀ p ∈ rows, ∀ H, Same H1 H → ∀ QT : Bool → Hp → Prop, QT (b p) H → tt (((wipe σ vs).set i (some (V.str p.1))).set j (some (V.int p.2))) H QT)
    (hf : ∀ p ∈ rows, ∀ H, Same H1 H → ∀ QE : V → Hp → Prop, QE (f p) H → te (((wipe σ vs).set i (some (V.str p.1))).set j (some (V.int p.2))) H QE)
    (hd : ∀ H, Same H1 H → H D = some (.lst ((rows.filter b).map f)) → Qd H) : LcW a K (gPair K i j) tt te vs σ H1 D Qd := by
  refine lc_by (K := K) (a := a) (xs := ts.map V.ref) rows (by rw [List.length_map]; exact ht.1) (fun p => if b p = true then some (f p) else none) hD (SqL.of ha) (by rw [List.length_map, ht.1, sizeLine_eq]; omega) (fun k x p ys H hx hp s hDs put skip => ?_) fun H s hDs => ?_
  · obtain ⟨t, p', rfl, ht1, hp', htt⟩ := ht.at_ hx
    rw [hp] at hp'
    obtain rfl := Option.some.inj hp'
    have pm : p ∈ rows := List.mem_of_getElem? hp
    refine ⟨t, _, rfl, SqT.of (s _ _ htt), rfl, _, _, rfl, _, _, rfl, rfl, hw _ _, hb p pm H s _ ?_⟩
    by_cases hbp : b p = true
    · rw [if_pos hbp]
      exact hf p pm H s _ (put _ _ (Same.refl _) (if_pos hbp))
    · rw [if_neg hbp]
      exact skip _ (Same.refl _) (if_neg hbp)
  · rw [fm_if] at hDs
    exact hd H s hDs
theorem filter_yes {β : Type} (l : List β) : l.filter (fun _ => true) = l := List.filter_eq_self.mpr fun _ _ => rfl
end Kx
set_option maxHeartbeats 4000000
namespace Kx
open PySem PySem.Spec PyProof.Rows L2
/-! ### parted -/
abbrev Rows := List (Str × Int)
def wholeOf (rows : Rows) : Int := (rows.map (·.2)).sum
def us0 (m : Int) (rows : Rows) : List Int := rows.map fun p => m * p.2 / wholeOf rows
def rs0 (m : Int) (rows : Rows) : List Int := rows.map fun p => m * p.2 % wholeOf rows
def bare0 (rows : Rows) : List Int := (upTo rows.length).filter fun k => decide ((rows.getD k.toNat ("", 0)).2 = 0)
def unitsP (m : Int) (rows : Rows) (to : Str) : List Int := oddF to (us0 m rows) (rs0 m rows) (bare0 rows) (m - (us0 m rows).sum)
theorem unitsP_len (m : Int) (rows : Rows) (to : Str) : (unitsP m rows to).length = rows.length := by
  unfold unitsP oddF
  rw [bumps_len]
  unfold us0
  rw [List.length_map]
theorem fm_map {β : Type} (g : β → V) (l : List β) : l.filterMap (fun b => some (g b)) = l.map g := by
  induction l with
  | nil => rfl
  | cons b l ih => rw [List.filterMap_cons, ih, List.map_cons]
theorem sum_nonneg : ∀ {l : List Int}, (∀ x ∈ l, 0 ≤ x) → 0 ≤ l.sum
  | [], _ => Int.le_refl 0
  | a :: l, h => by
    rw [List.sum_cons]
    have := h a (List.mem_cons_self ..)
    have := sum_nonneg (l := l) fun x hx => h x (List.mem_cons_of_mem _ hx)
    omega
theorem sum_ge : ∀ {l : List Int}, (∀ x ∈ l, 0 ≤ x) → ∀ x ∈ l, x ≤ l.sum
  | a :: l, h, x, hx => by
    rw [List.sum_cons]
    have h1 := h a (List.mem_cons_self ..)
    have h2 := sum_nonneg (l := l) fun x hx => h x (List.mem_cons_of_mem _ hx)
    rcases List.mem_cons.mp hx with rfl | hx
    · omega
    · have := sum_ge (l := l) (fun x hx => h x (List.mem_cons_of_mem _ hx)) x hx
      omega
theorem sum_le {b : Int} : ∀ {l : List Int}, (∀ x ∈ l, x ≤ b) → l.sum ≤ l.length * b
  | [], _ => by simp
  | a :: l, h => by
    rw [List.sum_cons, List.length_cons]
    have h1 := h a (List.mem_cons_self ..)
    have h2 := sum_le (b := b) (l := l) fun x hx => h x (List.mem_cons_of_mem _ hx)
    have e : ((l.length + 1 : Nat) : Int) * b = (l.length : Int) * b + b := by
      rw [Int.natCast_add, Int.add_mul]
      simp
    rw [e]
    omega
theorem RowsOk.whole {lo hi : Int} {many : Nat} {rows : Rows} (ok : RowsOk lo hi many rows) (h0 : 0 ≤ lo) : 0 < wholeOf rows := by
  obtain ⟨p, hp, p0⟩ := ok.pos
  have := sum_ge (l := rows.map (·.2)) (fun x hx => by
    obtain ⟨q, hq, rfl⟩ := List.mem_map.mp hx
    have := ok.lo q hq
    omega) p.2 (List.mem_map.mpr ⟨p, hp, rfl⟩)
  unfold wholeOf
  omega
theorem RowsOk.wholeLe {lo hi : Int} {many : Nat} {rows : Rows} (ok : RowsOk lo hi many rows) (h0 : 0 ≤ hi) : wholeOf rows ≤ many * hi := by
  have h := sum_le (b := hi) (l := rows.map (·.2)) fun x hx => by
    obtain ⟨q, hq, rfl⟩ := List.mem_map.mp hx
    exact ok.hi q hq
  rw [List.length_map] at h
  have h2 : (rows.length : Int) * hi ≤ many * hi := Int.mul_le_mul_of_nonneg_right (by have := ok.le; omega) h0
  unfold wholeOf
  omega
theorem dec_int (a b : Int) : decide (V.int a = V.int b) = decide (a = b) := by
  by_cases c : a = b
  · rw [c, decide_eq_true rfl, decide_eq_true rfl]
  · rw [decide_eq_false c, decide_eq_false (fun z => c (V.int.inj z))]
theorem dec_str (a b : Str) : decide (V.str a = V.str b) = decide (a = b) := by
  by_cases c : a = b
  · rw [c, decide_eq_true rfl, decide_eq_true rfl]
  · rw [decide_eq_false c, decide_eq_false (fun z => c (V.str.inj z))]
theorem dec_bl (a b : Bool) : decide (V.bl a = V.bl b) = decide (a = b) := by
  by_cases c : a = b
  · rw [c, decide_eq_true rfl, decide_eq_true rfl]
  · rw [decide_eq_false c, decide_eq_false (fun z => c (V.bl.inj z))]
theorem paired_len {α β : Type} {F : α → β → Prop} : ∀ {l : List α} {m : List β}, Paired F l m → l.length = m.length
  | _, _, .nil => rfl
  | _, _, .cons _ r => congrArg Nat.succ (paired_len r)
theorem paired_at {α β : Type} {F : α → β → Prop} : ∀ {l : List α} {m : List β} {i : Nat} {a : α} {b : β}, Paired F l m → l[i]? = some a → m[i]? = some b → F a b
  | _, _, i, a, b, .nil, h, _ => by simp at h
  | _, _, 0, a, b, .cons h1 _, ha, hb => by
    simp at ha hb
    subst ha hb
    exact h1
  | _, _, i + 1, a, b, .cons _ r, ha, hb => by
    simp at ha hb
    exact paired_at r ha hb
theorem tups_zip {H : Hp} {ts : List Addr} {ns : List Str} {us : List Int} (h : Paired (fun (t : Addr) (q : Str × V) => H t = some (.tup [.str q.1, q.2])) ts (ns.zip (us.map V.int))) : TupsAt H ts (ns.zip us) := by
  refine ⟨by rw [paired_len h, List.length_zip, List.length_zip, List.length_map], fun i t p h1 h2 => ?_⟩
  have h3 : (ns.zip (us.map V.int))[i]? = some (p.1, V.int p.2) := by
    rw [List.getElem?_zip_eq_some] at h2 ⊢
    exact ⟨h2.1, by rw [List.getElem?_map, h2.2]; rfl⟩
  exact paired_at (F := fun (t : Addr) (q : Str × V) => H t = some (.tup [.str q.1, q.2])) h h1 h3
section
variable {P : Program} {w : World} {K : PySem.W.Frag} {mg : Str → Option Value} {base : Heap} (T : Txt K mg w)
def spWant : Sp := fun vs H Q _ => ∃ to : Str, vs = [.str to] ∧ Turn3 to ∧ Q .non H
theorem turns_in {to : Str} (h3 : Turn3 to) : ∃ u, PySem.W.nsIn K T.aTURNS to = some (some u) := by
  cases h3 with
  | first => exact ⟨_, T.iTURNSFirst⟩
  | last => exact ⟨_, T.iTURNSLast⟩
  | greatest => exact ⟨_, T.iTURNSGreatest⟩
theorem ok_want : FnOk P w K mg base CX0 1 T.fWantTurn T.dWantTurn pWantTurn spWant := by
  refine T.FWantTurn.ok scWantTurn (fun vs H Q E h => ?_) (fun cdv A outer s H vs Q E hr h => ?_)
  · obtain ⟨n, rfl, _⟩ := h; rfl
  · obtain ⟨to, rfl, h3, k⟩ := h
    obtain ⟨u, hu⟩ := turns_in T h3
    refine ⟨_, pss_one (ps_if (pw_or (pt_not (pt_val (pe_callB call_isi (by rfl) T.zIsinstance boot_isinstance (pa_cons (pv 0) (pa_cons (e_str (by rfl) T.zStr) pa_nil)))))
        (pw_or1 (pt_cmpR (op_notIn_kd T.KTURNS) (pv 0) (pe_glob (by rfl) T.gTURNS (v := .ref T.aTURNS) rfl) rfl))).pt (pss_one ps_never) pss_nil), ?_⟩
    refine ⟨_, rfl, _, _, _, _, true, rfl, .ty "str", .base (.str to), kit_ty (by decide +kernel), true, rfl, iteF ?_⟩
    exact ⟨_, rfl, to, some u, rfl, rfl, hu, _, rfl, iteF k⟩
def spParted : Sp := fun vs H Q _ => ∃ (m : Int) (a : Addr) (rows : Rows) (to : Str), vs = [.int m, .ref a, .str to] ∧ RowsAt H a rows ∧ RowsOk 0 1000000 24 rows ∧ Turn3 to ∧ 0 ≤ m ∧ LamX.Tabs T.tabs H ∧
  ∀ H' p, FrN NoW H H' → LamX.Tabs T.tabs H' → NewT H p → RowsAt H' p ((rows.map (·.1)).zip (unitsP m rows to)) → Q (.ref p) H'
theorem ok_parted (B : TbOk T base) : FnOk P w K mg base CX0 5 T.fParted T.dParted pParted (spParted T) := by
  have GW : FnOk P w K mg base CX0 1 T.fWantTurn T.dWantTurn pWantTurn spWant := ok_want T
  have GC : FnOk P w K mg base CX0 4 T.fCheckPairs T.dCheckPairs pCheckPairs spCheck := ok_check T
  have GO : FnOk P w K mg base CX0 3 T.fWithOdd T.dWithOdd pWithOdd (spOdd T) := ok_odd T B
  refine T.FParted.ok scParted (fun vs H Q E h => ?_) (fun cdv A outer s H vs Q E hr h => ?_)
  · obtain ⟨m, a, rows, to, rfl, _⟩ := h; rfl
  · obtain ⟨m, a, rows, to, rfl, ⟨ts, ha, ht⟩, ok, h3, m0, htb, k⟩ := h
    obtain ⟨uS, gS, rS⟩ := T.vMostShares
    obtain ⟨uP, gP, rP⟩ := T.vMostPrice
    have hr1 : Room 1 _ := hr.mono (by decide)
    have tup2 : ∀ {X : Cx} {p1 p2 p3 : Pos} {i j : Nat}, True := fun {_ _ _ _ _ _} => trivial
    refine ⟨_, (pss_cons (ps_expr (pe_call GW hr1 (by rfl) T.gWantTurn T.FWantTurn.kp T.bWantTurn .nil pass0 (pa_cons (pv 2) pa_nil)))
      (pss_cons (ps_expr (pe_call GC hr (by rfl) T.gCheckPairs T.FCheckPairs.kp T.bCheckPairs .nil pass0 (pa_cons (pv 1) (pa_cons (pe_glob (by rfl) gS rS) (pa_cons (pe_int) (pa_cons (pe_glob (by rfl) gP rP) pa_nil))))))
      (pss_cons (ps_if (pt_cmpR op_lt (pv 0) pe_int (nomark _)) (pss_one ps_never) pss_nil)
      (pss_cons (ps_setLc (i := 3) (own := [("name", 8), ("part", 9)]) (g := gTup K 2 (gCons (gName 8) (gCons (gName 9) gNil))) (tt := tYes) rfl scParted.nd rfl rfl (sw_true rfl rfl rfl (by decide +kernel)) (pi_list (pv 1)) (blkOk_by (N := nParted) (sc := defScope sParted) (by decide +kernel))
          (fun _ _ _ _ _ => pg_tup rfl (pgs_cons (pg_name (i := 8) scParted.nd rfl (Or.inl rfl)) (pgs_cons (pg_name (i := 9) scParted.nd rfl (Or.inl rfl)) pgs_nil))) (fun _ _ _ _ _ => pts_nil) (fun _ _ _ _ _ => pv 8))
      (pss_cons (ps_set (i := 4) scParted.nd rfl (Or.inr rfl) (pe_callB (cr_sum rfl) (by rfl) T.zSum boot_sum (pa_cons (pe_lc (own := [("name", 8), ("part", 9)]) (g := gTup K 2 (gCons (gName 8) (gCons (gName 9) gNil))) (tt := tYes) rfl scParted.nd (pi_list (pv 1)) (blkOk_by (N := nParted) (sc := defScope sParted) (by decide +kernel))
          (fun _ _ _ _ _ => pg_tup rfl (pgs_cons (pg_name (i := 8) scParted.nd rfl (Or.inl rfl)) (pgs_cons (pg_name (i := 9) scParted.nd rfl (Or.inl rfl)) pgs_nil))) (fun _ _ _ _ _ => pts_nil) (fun _ _ _ _ _ => pv 9)) pa_nil)))
      (pss_cons (ps_setLc (i := 5) (own := [("name", 8), ("part", 9)]) (g := gTup K 2 (gCons (gName 8) (gCons (gName 9) gNil))) (tt := tYes) rfl scParted.nd rfl rfl (sw_true rfl rfl rfl (by decide +kernel)) (pi_list (pv 1)) (blkOk_by (N := nParted) (sc := defScope sParted) (by decide +kernel))
          (fun _ _ _ _ _ => pg_tup rfl (pgs_cons (pg_name (i := 8) scParted.nd rfl (Or.inl rfl)) (pgs_cons (pg_name (i := 9) scParted.nd rfl (Or.inl rfl)) pgs_nil))) (fun _ _ _ _ _ => pts_nil) (fun _ _ _ _ _ => pe_op op_fdiv (pe_op op_mul (pv 0) (pv 9)) (pv 4)))
      (pss_cons (ps_setLc (i := 6) (own := [("name", 8), ("part", 9)]) (g := gTup K 2 (gCons (gName 8) (gCons (gName 9) gNil))) (tt := tYes) rfl scParted.nd rfl rfl (sw_true rfl rfl rfl (by decide +kernel)) (pi_list (pv 1)) (blkOk_by (N := nParted) (sc := defScope sParted) (by decide +kernel))
          (fun _ _ _ _ _ => pg_tup rfl (pgs_cons (pg_name (i := 8) scParted.nd rfl (Or.inl rfl)) (pgs_cons (pg_name (i := 9) scParted.nd rfl (Or.inl rfl)) pgs_nil))) (fun _ _ _ _ _ => pts_nil) (fun _ _ _ _ _ => pe_op op_mod (pe_op op_mul (pv 0) (pv 9)) (pv 4)))
      (pss_cons (ps_setLc (i := 7) (own := [("at", 10)]) (g := gName 10) rfl scParted.nd rfl rfl (sw_true rfl rfl rfl (by decide +kernel)) (pi_range1 (by rfl) T.zRange (pa_cons (pe_callB call_len (by rfl) T.zLen boot_len (pa_cons (pv 1) pa_nil)) pa_nil)) (blkOk_by (N := nParted) (sc := defScope sParted) (by decide +kernel))
          (fun _ _ _ _ _ => pg_name (i := 10) scParted.nd rfl (Or.inl rfl)) (fun _ _ _ _ _ => pts_one (pt_cmpR op_eq (pe_ix (r := rIxT K) ix_tup (pe_ix (r := rIxL K) ix_list (pv 1) (pv 10) (fun _ _ => rfl)) pe_int (fun _ _ => rfl)) pe_int (nomark _))) (fun _ _ _ _ _ => pv 10))
      (pss_one (ps_ret (pe_listZip rfl (by rfl) T.zList (by rfl) T.zZip (pv 3) (pe_call GO (hr.mono (by decide)) (by rfl) T.gWithOdd T.FWithOdd.kp T.bWithOdd .nil pass0
          (pa_cons (pv 5) (pa_cons (pv 6) (pa_cons (pe_op op_sub (pv 0) (pe_callB (cr_sum rfl) (by rfl) T.zSum boot_sum (pa_cons (pv 5) pa_nil))) (pa_cons (pv 2) (pa_cons (pv 7) pa_nil))))))))))))))))), ?_⟩
    have w0 := ok.whole (Int.le_refl 0)
    have wle : wholeOf rows < 1073741824 := by have := ok.wholeLe (by decide); omega
    have l60 : rows.length ≤ 24 := ok.le
    refine ⟨_, rfl, to, rfl, h3, ?_⟩
    refine ⟨_, rfl, a, 24, 0, 1000000, rows, rfl, ⟨ts, ha, ht⟩, ok, by decide, fun H1 s1 => ?_⟩
    have ha1 := s1 _ _ ha
    refine ⟨_, rfl, m, 0, rfl, rfl, _, rfl, ?_⟩
    rw [decide_eq_false (by omega)]
    refine iteF ⟨_, rfl, a, rfl, ⟨_, SqL.of ha1⟩, fun D1 hD1 => ?_⟩
    refine lc_rows (fun _ => true) (fun p => V.str p.1) hD1 ha1 (ht.ext (.same s1)) (by omega) (fun _ _ => rfl) (fun p _ H _ QT q => q) (fun p _ H _ QE q => ⟨_, rfl, q⟩) fun H2 s2 d1 => ?_
    rw [filter_yes] at d1
    have s2' := s1.trans s2
    have ha2 := s2' _ _ ha
    refine ⟨_, rfl, a, rfl, ⟨_, SqL.of ha2⟩, fun D2 hD2 => ?_⟩
    refine lc_rows (fun _ => true) (fun p => V.int p.2) hD2 ha2 (ht.ext (.same s2')) (by omega) (fun _ _ => rfl) (fun p _ H _ QT q => q) (fun p _ H _ QE q => ⟨_, rfl, q⟩) fun H3 s3 d2 => ?_
    rw [filter_yes] at d2
    have s3' := s2'.trans s3
    have ha3 := s3' _ _ ha
    have e2 : rows.map (fun p => V.int p.2) = (rows.map (·.2)).map V.int := by rw [List.map_map]; rfl
    rw [e2] at d2
    refine ⟨D2, _, rfl, SqL.of d2, ?_⟩
    refine ⟨_, rfl, a, rfl, ⟨_, SqL.of ha3⟩, fun D3 hD3 => ?_⟩
    refine lc_rows (fun _ => true) (fun p => V.int (m * p.2 / wholeOf rows)) hD3 ha3 (ht.ext (.same s3')) (by omega) (fun _ _ => rfl) (fun p _ H _ QT q => q) (fun p hp H _ QE q => ?_) fun H4 s4 d3 => ?_
    · refine ⟨_, rfl, _, rfl, _, _, rfl, rfl, .inr ?_, _, rfl, _, _, rfl, rfl, ⟨w0, wle⟩, q⟩
      have := ok.lo p hp
      have := ok.hi p hp
      exact ⟨by omega, by omega⟩
    rw [filter_yes] at d3
    have s4' := s3'.trans s4
    have ha4 := s4' _ _ ha
    refine ⟨_, rfl, a, rfl, ⟨_, SqL.of ha4⟩, fun D4 hD4 => ?_⟩
    refine lc_rows (fun _ => true) (fun p => V.int (m * p.2 % wholeOf rows)) hD4 ha4 (ht.ext (.same s4')) (by omega) (fun _ _ => rfl) (fun p _ H _ QT q => q) (fun p hp H _ QE q => ?_) fun H5 s5 d4 => ?_
    · refine ⟨_, rfl, _, rfl, _, _, rfl, rfl, .inr ?_, _, rfl, _, _, rfl, rfl, w0, q⟩
      have := ok.lo p hp
      have := ok.hi p hp
      exact ⟨by omega, by omega⟩
    rw [filter_yes] at d4
    have s5' := s4'.trans s5
    have ha5 := s5' _ _ ha
    have hts := ht.1
    refine ⟨_, rfl, _, rows.length, rfl, .inl ⟨_, SqL.of ha5, by rw [List.length_map, hts]⟩, _, rfl, by omega, by omega, fun D5 hD5 => ?_⟩
    have en : ((rows.length : Nat) : Int).toNat = rows.length := by omega
    rw [en]
    refine lr_fm (fun k => if decide ((rows.getD k ("", 0)).2 = 0) = true then some (V.int (k : Nat)) else none) hD5 (by rw [sizeLine_eq]; omega) (fun k ys H hk s hDs put skip => ?_) fun H6 s6 d5 => ?_
    · obtain ⟨p, hp⟩ : ∃ p, rows[k]? = some p := ⟨_, List.getElem?_eq_getElem hk⟩
      obtain ⟨t, ht0⟩ : ∃ t, ts[k]? = some t := ⟨_, List.getElem?_eq_getElem (by omega)⟩
      have htt := s _ _ (s5' _ _ (ht.2 k t p ht0 hp))
      have gd : rows.getD k ("", 0) = p := by simp [List.getD, hp]
      refine ⟨rfl, _, rfl, _, rfl, a, _, _, _, rfl, rfl, SqL.of (s _ _ ha5), ?_, t, _, 1, _, rfl, rfl, SqT.of htt, rfl, rfl, _, rfl, ?_⟩
      · show atI (ts.map V.ref) (0 + (k : Int)) = some (V.ref t)
        have e0 : (0 : Int) + (k : Int) = (k : Nat) := by omega
        rw [e0]
        exact atI_nat (by rw [List.getElem?_map, ht0]; rfl)
      · rw [dec_int]
        refine ite2 (fun c => ⟨_, rfl, put _ _ (Same.refl _) ?_⟩) (fun c => skip _ (Same.refl _) ?_)
        · rw [gd, if_pos c]
          show some (V.int (k : Nat)) = some (V.int (0 + (k : Int)))
          rw [Int.zero_add]
        · rw [gd, if_neg c]
    have s6' := s5'.trans s6
    have e5 : (List.range rows.length).filterMap (fun k => if decide ((rows.getD k ("", 0)).2 = 0) = true then some (V.int (k : Nat)) else none) = (bare0 rows).map V.int := by
      rw [fm_if (fun k => decide ((rows.getD k ("", 0)).2 = 0)) (fun k => V.int (k : Nat))]
      unfold bare0 upTo
      rw [List.filter_map, List.map_map]
      rfl
    rw [e5] at d5
    have d1' := s6 _ _ (s5 _ _ (s4 _ _ (s3 _ _ d1)))
    have d3' := s6 _ _ (s5 _ _ d3)
    have d4' := s6 _ _ d4
    have e3 : rows.map (fun p => V.int (m * p.2 / wholeOf rows)) = (us0 m rows).map V.int := by unfold us0; rw [List.map_map]; rfl
    have e4 : rows.map (fun p => V.int (m * p.2 % wholeOf rows)) = (rs0 m rows).map V.int := by unfold rs0; rw [List.map_map]; rfl
    rw [e3] at d3'
    rw [e4] at d4'
    refine ⟨_, rfl, _, rfl, _, rfl, _, rfl, _, rfl, D3, _, rfl, SqL.of d3', _, _, rfl, rfl, _, rfl, _, rfl, ?_⟩
    refine ⟨D3, D4, D5, us0 m rows, rs0 m rows, bare0 rows, _, to, rfl, SqL.of d3', SqL.of d4', SqL.of d5, by unfold us0 rs0; rw [List.length_map, List.length_map], by unfold rs0; rw [List.length_map]; omega, h3, tabs_same htb s6', fun H7 p f7 t7 np hp => ?_⟩
    have e1 : rows.map (fun p => V.str p.1) = (rows.map (·.1)).map V.str := by rw [List.map_map]; rfl
    rw [e1] at d1'
    have d1'' := f7 _ _ (fun z => z) d1' (fun ps z => by cases z)
    have ul := unitsP_len m rows to
    refine ⟨D1, p, rows.map (·.1), (unitsP m rows to).map V.int, rfl, rfl, SqL.of d1'', SqL.of hp, by rw [List.length_map, List.length_map, ul], fun H8 q qs e8 nq nqs nm hq pr => ?_⟩
    have f8 : FrN NoW H H8 := ((FrN.same s6').trans f7).trans (.same e8)
    exact k H8 q f8 (tabs_same t7 e8) (NewT.back ((FrN.same s6').trans f7) (.none nq)) ⟨qs, hq, tups_zip pr⟩
end
end Kx
set_option maxHeartbeats 4000000
namespace Kx
open PySem PySem.Spec PyProof.Rows L2
/-- a def that lets nothing out, told with no way out -/
theorem ok0 {P : Program} {w : World} {K : PySem.W.Frag} {mg : Str → Option Value} {base : Heap} {k : Nat} {f : Addr} {fd : FuncData} {ps : List Str} {sp sp0 : Sp} (F : FnOk P w K mg base (L2.CX P w) k f fd ps sp) (h : ∀ vs H Q E, sp0 vs H Q E → sp vs H Q (fun _ _ _ => False)) :
    FnOk P w K mg base CX0 k f fd ps sp0 := by
  refine ⟨fun vs H Q E q => F.len _ _ _ _ (h vs H Q E q), fun A outer s H args us vs Q E hr e0 hb r q => codeAny_mono (F.run A outer s H args us vs Q (fun _ _ _ => False) hr e0 hb r (h vs H Q E q)) fun r s' hq => ?_⟩
  cases r with
  | ok fl => cases fl <;> exact hq
  | error e =>
    obtain ⟨_, _, _, _, _, _, _, _, _, _, _, _, z⟩ := hq
    exact z.elim
/-! ### the sale -/
structure MD where
  nets : Rows
  price : Int
  shares : Rows
  to : Str
  move : Str
  step : Int
  floor : Int
inductive Move3 : Str → Prop
  | keep : Move3 "keep"
  | fall : Move3 "fall"
  | cut : Move3 "cut"
structure MD.Ok (M : MD) : Prop where
  nets : RowsOk 1 1000000000 60 M.nets
  p0 : 0 ≤ M.price
  p1 : M.price ≤ 1000000
  shares : RowsOk 0 1000000 24 M.shares
  to : Turn3 M.to
  move : Move3 M.move
  s0 : 0 ≤ M.step
  s1 : M.step ≤ 1000000
  f0 : 0 ≤ M.floor
  f1 : M.floor ≤ 1000000
def saleF (M : MD) (a b o : Addr) : List (Str × V) := [("scaled", .ref a), ("told_price", .int M.price), ("buyers", .ref b), ("to", .str M.to), ("move", .str M.move), ("drop", .int M.step), ("least", .int M.floor), ("out", .ref o)]
theorem sf_scaled (M : MD) (a b o : Addr) : (saleF M a b o).lookup ("scaled" : Str) = some (.ref a) := by rfl
theorem sf_price (M : MD) (a b o : Addr) : (saleF M a b o).lookup ("told_price" : Str) = some (.int M.price) := by rfl
theorem sf_buyers (M : MD) (a b o : Addr) : (saleF M a b o).lookup ("buyers" : Str) = some (.ref b) := by rfl
theorem sf_to (M : MD) (a b o : Addr) : (saleF M a b o).lookup ("to" : Str) = some (.str M.to) := by rfl
theorem sf_move (M : MD) (a b o : Addr) : (saleF M a b o).lookup ("move" : Str) = some (.str M.move) := by rfl
theorem sf_drop (M : MD) (a b o : Addr) : (saleF M a b o).lookup ("drop" : Str) = some (.int M.step) := by rfl
theorem sf_least (M : MD) (a b o : Addr) : (saleF M a b o).lookup ("least" : Str) = some (.int M.floor) := by rfl
theorem sf_out (M : MD) (a b o : Addr) : (saleF M a b o).lookup ("out" : Str) = some (.ref o) := by rfl
def saleNames : List Str := ["scaled", "told_price", "buyers", "to", "move", "drop", "least", "out"]
theorem lk_none : ∀ {fs : List (Str × V)} {m : Str}, m ∉ fs.map (·.1) → fs.lookup m = none
  | [], _, _ => rfl
  | p :: fs, m, h => by
    have h1 : (m == p.1) = false := by
      rw [beq_eq_false_iff_ne]
      exact fun z => h (by rw [z]; exact List.mem_cons_self ..)
    rw [List.lookup_cons, h1]
    exact lk_none fun z => h (List.mem_cons_of_mem _ z)
theorem sf_no (M : MD) (a b o : Addr) {m : Str} (h : m ∉ saleNames) : (saleF M a b o).lookup m = none := lk_none h
section
variable {P : Program} {w : World} {K : PySem.W.Frag} {mg : Str → Option Value} {base : Heap} (T : Txt K mg w)
/-- at s stands a sale of M; its list of the refused is at o -/
def SaleAt (H : Hp) (s : Addr) (M : MD) (o : Addr) : Prop := ∃ dx a b, H s = some (.ins T.cSale dx (saleF M a b o)) ∧ H a = some (.dK (rowK M.nets)) ∧ RowsAt H b M.shares ∧ b ≠ o
theorem SaleAt.ext {T : Txt K mg w} {H H' : Hp} {s o : Addr} {M : MD} (f : FrN NoW H H') (h : SaleAt T H s M o) : SaleAt T H' s M o := by
  obtain ⟨dx, a, b, h1, h2, h3, h4⟩ := h
  exact ⟨dx, a, b, f _ _ (fun z => z) h1 (fun ps z => by cases z), f _ _ (fun z => z) h2 (fun ps z => by cases z), h3.ext f, h4⟩
theorem SaleAt.same {T : Txt K mg w} {H H' : Hp} {s o : Addr} {M : MD} (f : Same H H') (h : SaleAt T H s M o) : SaleAt T H' s M o := h.ext (.same f)
/-- the texts at o -/
def OutAt (H : Hp) (o : Addr) (outs : List Str) : Prop := H o = some (.lst (outs.map V.str))
/-! ### NoChest -/
def spNC : Sp := fun vs H Q _ => ∃ (a : Addr) (m : V), vs = [.ref a, m] ∧ H a = some (exo a T.cNoChest none) ∧ ∀ dx, H dx = none → dx ≠ a → Q .non (upd (upd H dx (exd dx [("mark", m)])) a (exo a T.cNoChest (some dx)))
theorem ok_nc : FnOk P w K mg base CX0 1 T.fNoChestInit T.dNoChestInit pNoChestInit (spNC T) := by
  refine T.FNoChestInit.ok scNoChestInit (fun vs H Q E h => ?_) (fun cdv A outer s H vs Q E hr h => ?_)
  · obtain ⟨a, m, rfl, _⟩ := h; rfl
  · obtain ⟨a, m, rfl, ha, k⟩ := h
    refine ⟨_, (pss_cons (ps_expr (pe_beinit (by rfl) T.gBreakError T.bBE (pa_cons (pv 0) (pa_cons (pe_str) pa_nil))))
      (pss_one (ps_ost (pv 0) (pv 1)))), ?_⟩
    refine ⟨_, rfl, a, _, _, rfl, by simp, T.oNC, ha, ?_⟩
    refine ⟨_, rfl, _, rfl, a, T.cNoChest, rfl, T.oNC, T.nNC, .inl ⟨ha, fun dx n1 n2 => k dx n1 n2⟩⟩
theorem exo_ne_xd {a C : Addr} {d : Option Addr} {fs : List (Str × V)} : exo a C d ≠ .xd fs := fun z => by
  unfold exo at z
  cases z
theorem nc_read {i : Nat} {σ : L2.St} {H : Hp} {m : V} {W : XK} (hv : σ[i]? = some (some m)) (h : ∀ H' d, Same H H' → H d = none → H' d = some (.xd [("mark", m)]) → W (.ref T.cNoChest) (some d) H') :
    tMkO T.cNoChest (spNC T) [] (tCons (tVar i) tNil) σ H W := by
  refine ⟨m, hv, by simp, fun a na => ⟨a, m, rfl, upd_same, fun dx n1 n2 => ⟨rfl, dx, [("mark", m)], upd_same, ?_, ?_, ?_⟩⟩⟩
  · rw [upd_ne n2, upd_same]
  · rw [upd_ne n2] at n1
    exact n1
  · rw [upd_ne n2] at n1
    refine h _ dx (fun b o e => ?_) n1 upd_same
    have b1 : b ≠ dx := ne_of_none e n1
    have b2 : b ≠ a := ne_of_none e na
    rw [upd_ne b1, del_ne b2, upd_ne b2, upd_ne b1, upd_ne b2]
    exact e
/-! ### marks -/
inductive MarkOk (H : Hp) : V → Prop
  | str (z : Str) : MarkOk H (.str z)
  | non : MarkOk H .non
  | bl (b : Bool) : MarkOk H (.bl b)
  | int (i : Int) : MarkOk H (.int i)
  | lst {a : Addr} {zs : List Str} (h : H a = some (.lst (zs.map V.str))) : MarkOk H (.ref a)
  | tup {a : Addr} {z : Str} (h : H a = some (.tup [.str z])) : MarkOk H (.ref a)
theorem MarkOk.same {H H' : Hp} {m : V} (e : Same H H') (h : MarkOk H m) : MarkOk H' m := by
  cases h with
  | str z => exact .str z
  | non => exact .non
  | bl b => exact .bl b
  | int i => exact .int i
  | lst h => exact .lst (e _ _ h)
  | tup h => exact .tup (e _ _ h)
def isStrV : V → Bool
  | .str _ => true
  | _ => false
theorem MarkOk.ty {K : PySem.W.Frag} {H : Hp} {m : V} (h : MarkOk H m) : ∃ t, TyX K H m t ∧ PySem.W.kitOne K t (.type "str") = some (isStrV m) := by
  have e1 : kitB "str" "str" = some true := by decide +kernel
  have e2 : kitB "NoneType" "str" = some false := by decide +kernel
  have e3 : kitB "bool" "str" = some false := by decide +kernel
  have e4 : kitB "int" "str" = some false := by decide +kernel
  have e5 : kitB "list" "str" = some false := by decide +kernel
  have e6 : kitB "tuple" "str" = some false := by decide +kernel
  cases h with
  | str z => exact ⟨_, .base (.str z), kit_ty e1⟩
  | non => exact ⟨_, .base .non, kit_ty e2⟩
  | bl b => exact ⟨_, .base (.bl b), kit_ty e3⟩
  | int i => exact ⟨_, .base (.int i), kit_ty e4⟩
  | lst h => exact ⟨_, .base (.lst h), kit_ty e5⟩
  | tup h => exact ⟨_, .base (.tup h), kit_ty e6⟩
def inNames (M : MD) : V → Bool
  | .str z => decide (z ∈ M.nets.map (·.1))
  | _ => false
theorem inNames_str {M : MD} {m : V} (h : inNames M m = true) : ∃ z, m = .str z ∧ z ∈ M.nets.map (·.1) := by
  cases m with
  | str z => exact ⟨z, rfl, of_decide_eq_true h⟩
  | _ => cases h
theorem val_names (rows : Rows) (z : Str) : (valV (rowK rows) (Sum.inr z)).isSome = decide (z ∈ rows.map (·.1)) := by
  rw [← valV_any]
  unfold rowK
  rw [List.any_map]
  by_cases h : z ∈ rows.map (·.1)
  · rw [decide_eq_true h]
    obtain ⟨p, hp, e⟩ := List.mem_map.mp h
    exact List.any_eq_true.mpr ⟨p, hp, decide_eq_true (by show (Sum.inr p.1 : Key) = Sum.inr z; rw [e])⟩
  · rw [decide_eq_false h]
    refine Bool.eq_false_iff.mpr fun y => ?_
    obtain ⟨p, hp, e⟩ := List.any_eq_true.mp y
    have e' : (Sum.inr p.1 : Key) = Sum.inr z := of_decide_eq_true e
    exact h (List.mem_map.mpr ⟨p, hp, Sum.inr.inj e'⟩)
theorem inV_strs (z : Str) (bs : List Str) : inV (.str z) (bs.map V.str) = decide (z ∈ bs) := by
  unfold inV
  rw [List.any_map]
  by_cases h : z ∈ bs
  · rw [decide_eq_true h]
    exact List.any_eq_true.mpr ⟨z, h, by show (z == z) = true; exact beq_self_eq_true z⟩
  · rw [decide_eq_false h]
    refine Bool.eq_false_iff.mpr fun y => ?_
    obtain ⟨j, hj, e⟩ := List.any_eq_true.mp y
    have e' : (j == z) = true := e
    rw [beq_iff_eq] at e'
    subst e'
    exact h hj
theorem flat_strs (bs : List Str) : (bs.map V.str).all flatV = true := by
  rw [List.all_map]
  exact List.all_eq_true.mpr fun _ _ => rfl
/-- what a raised NoChest tells -/
abbrev NCRaise (H : Hp) (m : V) (E : XK) : Prop := ∀ H' d, Same H H' → H d = none → H' d = some (.xd [("mark", m)]) → E (.ref T.cNoChest) (some d) H'
def spWC : Sp := fun vs H Q E => ∃ (s o : Addr) (M : MD) (m : V), vs = [.ref s, m] ∧ SaleAt T H s M o ∧ MarkOk H m ∧ (inNames M m = true → Q .non H) ∧ (inNames M m = false → NCRaise T H m E)
theorem ok_wc : FnOk P w K mg base (L2.CX P w) 3 T.fSaleWantChest T.dSaleWantChest pSaleWantChest (spWC T) := by
  have GN : FnOk P w K mg base CX0 1 T.fNoChestInit T.dNoChestInit pNoChestInit (spNC T) := ok_nc T
  refine T.FSaleWantChest.okX scSaleWantChest (fun vs H Q E h => ?_) (fun cdv A outer s H vs Q E hr h => ?_)
  · obtain ⟨a, o, M, m, rfl, _⟩ := h; rfl
  · obtain ⟨a, o, M, m, rfl, ⟨dx, da, b, h1, h2, h3, h4⟩, hm, k1, k2⟩ := h
    have hu := hu_of hr
    refine ⟨_, pss_one (ps_if (pw_or (pt_not (pt_val (pe_callB call_isi (by rfl) T.zIsinstance boot_isinstance (pa_cons (pv 1) (pa_cons (e_str (by rfl) T.zStr) pa_nil)))))
        (pw_or1 (pt_cmp (pc_dnotin hu (pv 1) (pe_fld (pv 0) rfl)) (by rfl)))).pt
        (pss_one (ps_raise rfl (takes_of rfl rfl rfl rfl) (pmk_oex T.oNC T.iNC T.tNC GN hr T.bNoChestInit .nil (fun _ _ _ _ _ _ _ z => z.elim) (by rfl) T.gNoChest (pa_cons (pv 1) pa_nil)))) pss_nil), ?_⟩
    obtain ⟨t, ty, kt⟩ := hm.ty (K := K)
    refine ⟨_, rfl, _, _, _, _, isStrV m, rfl, .ty "str", ty, kt, _, rfl, ?_⟩
    have rais : inNames M m = false → tMkO T.cNoChest (spNC T) [] (tCons (tVar 1) tNil) (L2.start nSaleWantChest [.ref a, m]) H (fun cls d H' => E cls d H') := fun z => nc_read T rfl (k2 z)
    cases hm with
    | str z =>
      refine iteF ⟨_, rfl, _, rfl, a, T.cSale, dx, _, _, rfl, h1, T.CSale, T.nS_scaled, sf_scaled _ _ _ _, da, _, rfl, DGet.k (k := Sum.inr z) h2, _, rfl, ?_⟩
      rw [val_names]
      by_cases c : z ∈ M.nets.map (·.1)
      · rw [decide_eq_true c]
        exact iteF (k1 (decide_eq_true c))
      · rw [decide_eq_false c]
        exact iteT (rais (decide_eq_false c))
    | non => exact iteT (rais rfl)
    | bl b => exact iteT (rais rfl)
    | int b => exact iteT (rais rfl)
    | lst b => exact iteT (rais rfl)
    | tup b => exact iteT (rais rfl)
def spStands : Sp := fun vs H Q E => ∃ (s o : Addr) (M : MD) (m : V) (outs : List Str), vs = [.ref s, m] ∧ SaleAt T H s M o ∧ OutAt H o outs ∧ MarkOk H m ∧ (∀ z, m = .str z → z ∈ M.nets.map (·.1) → Q (.bl (!decide (z ∈ outs))) H) ∧ (inNames M m = false → NCRaise T H m E)
theorem ok_stands : FnOk P w K mg base (L2.CX P w) 4 T.fSaleStands T.dSaleStands pSaleStands (spStands T) := by
  have GW : FnOk P w K mg base (L2.CX P w) 3 T.fSaleWantChest T.dSaleWantChest pSaleWantChest (spWC T) := ok_wc T
  refine T.FSaleStands.okX scSaleStands (fun vs H Q E h => ?_) (fun cdv A outer s H vs Q E hr h => ?_)
  · obtain ⟨a, o, M, m, outs, rfl, _⟩ := h; rfl
  · obtain ⟨a, o, M, m, outs, rfl, hs, ho, hm, k1, k2⟩ := h
    have hs' := hs
    obtain ⟨dx, da, b, h1, h2, h3, h4⟩ := hs
    refine ⟨_, (pss_cons (ps_expr (pe_meth (pv 0) T.CSale T.mSaleWantChest GW hr T.bSaleWantChest .nil (passes_call (takes_of rfl rfl rfl rfl) (fun _ _ _ _ z => z)) (pa_cons (pv 1) pa_nil)))
      (pss_one (ps_ret (pe_cmpR op_notIn_seq (pv 1) (pe_fld (pv 0) rfl) rfl)))), ?_⟩
    refine ⟨_, rfl, a, dx, _, rfl, h1, sf_no _ _ _ _ (by decide +kernel), _, rfl, a, o, M, m, rfl, hs', hm, fun hin => ?_, fun hin => k2 hin⟩
    obtain ⟨z, rfl, hz⟩ := inNames_str hin
    refine ⟨_, rfl, _, rfl, a, T.cSale, dx, _, _, rfl, h1, T.CSale, T.nS_out, sf_out _ _ _ _, o, _, rfl, .inl (SqL.of ho), rfl, flat_strs outs, ?_⟩
    show Q (.bl (if true = true then !inV (.str z) (outs.map V.str) else inV (.str z) (outs.map V.str))) H
    rw [if_pos rfl, inV_strs]
    exact k1 z rfl hz
end
end Kx
set_option maxHeartbeats 4000000
namespace Kx
open PySem PySem.Spec PyProof.Rows L2
theorem erase_at : ∀ {l : List Str} {z : Str}, z ∈ l → ∃ j, l[j]? = some z ∧ (∀ m : Nat, m < j → l[m]? ≠ some z) ∧ l.eraseIdx j = l.erase z
  | a :: l, z, h => by
    by_cases e : a = z
    · exact ⟨0, by simp [e], fun m hm => absurd hm (Nat.not_lt_zero _), by simp [e]⟩
    · have hz : z ∈ l := by
        rcases List.mem_cons.mp h with q | q
        · exact absurd q.symm e
        · exact q
      obtain ⟨j, h1, h2, h3⟩ := erase_at hz
      refine ⟨j + 1, by simpa using h1, fun m hm => ?_, ?_⟩
      · cases m with
        | zero => simpa using e
        | succ m => simpa using h2 m (by omega)
      · rw [List.eraseIdx_cons_succ, h3, List.erase_cons_tail]
        simpa using e
def standF (M : MD) (outs : List Str) : List Int := (M.nets.filter fun p => !decide (p.1 ∈ outs)).map (·.2)
def weightF (M : MD) (outs : List Str) : Int := (standF M outs).sum
def movedOf (M : MD) (outs : List Str) : Int := if M.move = "fall" then M.price - M.step * (outs.length : Nat) else M.price * weightF M outs / wholeOf M.nets
def mx (i j : Int) : Int := if j > i then j else i
def mn (i j : Int) : Int := if j < i then j else i
def pricedOf (M : MD) (outs : List Str) : Int := if M.move = "keep" then M.price else mn M.price (mx M.floor (movedOf M outs))
section
variable {P : Program} {w : World} {K : PySem.W.Frag} {mg : Str → Option Value} {base : Heap} (T : Txt K mg w)
/-- what a method that only reads asks -/
def Rd1 (H : Hp) (s o : Addr) (M : MD) (outs : List Str) : Prop := SaleAt T H s M o ∧ OutAt H o outs ∧ M.Ok ∧ outs.length ≤ 60
theorem Rd1.same {T : Txt K mg w} {H H' : Hp} {s o : Addr} {M : MD} {outs : List Str} (e : Same H H') (h : Rd1 T H s o M outs) : Rd1 T H' s o M outs := ⟨h.1.same e, e _ _ h.2.1, h.2.2.1, h.2.2.2⟩
theorem Rd1.ext {T : Txt K mg w} {H H' : Hp} {s o : Addr} {M : MD} {outs : List Str} (e : FrN NoW H H') (h : Rd1 T H s o M outs) : Rd1 T H' s o M outs := ⟨h.1.ext e, e _ _ (fun z => z) h.2.1 (fun ps z => by cases z), h.2.2.1, h.2.2.2⟩
/-! ### refuse, take_back -/
def spRefuse : Sp := fun vs H Q E => ∃ (s o : Addr) (M : MD) (m : V) (outs : List Str), vs = [.ref s, m] ∧ Rd1 T H s o M outs ∧ MarkOk H m ∧ (∀ z, m = .str z → z ∈ M.nets.map (·.1) → z ∉ outs → Q .non (upd H o (.lst ((outs ++ [z]).map V.str)))) ∧
  ((∀ z, m = .str z → z ∈ M.nets.map (·.1) → z ∈ outs) → NCRaise T H m E)
theorem ok_refuse : FnOk P w K mg base (L2.CX P w) 5 T.fSaleRefuse T.dSaleRefuse pSaleRefuse (spRefuse T) := by
  have GN : FnOk P w K mg base CX0 1 T.fNoChestInit T.dNoChestInit pNoChestInit (spNC T) := ok_nc T
  have GS : FnOk P w K mg base (L2.CX P w) 4 T.fSaleStands T.dSaleStands pSaleStands (spStands T) := ok_stands T
  refine T.FSaleRefuse.okX scSaleRefuse (fun vs H Q E h => ?_) (fun cdv A outer s H vs Q E hr h => ?_)
  · obtain ⟨a, o, M, m, outs, rfl, _⟩ := h; rfl
  · obtain ⟨a, o, M, m, outs, rfl, ⟨hs, ho, hM, hl⟩, hm, k1, k2⟩ := h
    have hs' := hs
    obtain ⟨dx, da, b, h1, h2, h3, h4⟩ := hs
    have hr2 : Room 2 _ := hr.mono (by decide)
    refine ⟨_, (pss_cons (ps_if (pt_not (pt_val (pe_meth (pv 0) T.CSale T.mSaleStands GS hr T.bSaleStands .nil (passes_call (takes_of rfl rfl rfl rfl) (fun _ _ _ _ z => z)) (pa_cons (pv 1) pa_nil))))
        (pss_one (ps_raise rfl (takes_of rfl rfl rfl rfl) (pmk_oex T.oNC T.iNC T.tNC GN hr2 T.bNoChestInit .nil (fun _ _ _ _ _ _ _ z => z.elim) (by rfl) T.gNoChest (pa_cons (pv 1) pa_nil)))) pss_nil)
      (pss_one (ps_expr (pe_bm PySem.F.plainAttrs_list PySem.F.slot_list_append PySem.F.type_list_append mt_append (pe_fld (pv 0) rfl) (pa_cons (pv 1) pa_nil))))), ?_⟩
    refine ⟨_, rfl, a, dx, _, rfl, h1, sf_no _ _ _ _ (by decide +kernel), _, rfl, a, o, M, m, outs, rfl, hs', ho, hm, fun z hz hin => ⟨_, rfl, ?_⟩, fun hin => k2 fun z hz hi => ?_⟩
    · subst hz
      by_cases c : z ∈ outs
      · rw [decide_eq_true c]
        exact iteT (nc_read T rfl (k2 fun z' e _ => by cases e; exact c))
      · rw [decide_eq_false c]
        refine iteF ⟨_, rfl, a, T.cSale, dx, _, _, rfl, h1, T.CSale, T.nS_out, sf_out _ _ _ _, .inl ⟨rfl, _, SqL.of ho⟩, _, rfl, o, _, _, rfl, rfl, ho, by rw [List.length_map, sizeLine_eq]; omega, ?_⟩
        have := k1 z rfl hin c
        rw [List.map_append] at this
        exact this
    · subst hz
      have hin' : decide (z ∈ M.nets.map (·.1)) = false := hin
      rw [decide_eq_true hi] at hin'
      cases hin'
def spTake : Sp := fun vs H Q E => ∃ (s o : Addr) (M : MD) (m : V) (outs : List Str), vs = [.ref s, m] ∧ Rd1 T H s o M outs ∧ MarkOk H m ∧ (∀ z, m = .str z → z ∈ M.nets.map (·.1) → z ∈ outs → Q .non (upd H o (.lst ((outs.erase z).map V.str)))) ∧
  ((∀ z, m = .str z → z ∈ M.nets.map (·.1) → z ∉ outs) → NCRaise T H m E)
theorem ok_take : FnOk P w K mg base (L2.CX P w) 5 T.fSaleTakeBack T.dSaleTakeBack pSaleTakeBack (spTake T) := by
  have GN : FnOk P w K mg base CX0 1 T.fNoChestInit T.dNoChestInit pNoChestInit (spNC T) := ok_nc T
  have GS : FnOk P w K mg base (L2.CX P w) 4 T.fSaleStands T.dSaleStands pSaleStands (spStands T) := ok_stands T
  refine T.FSaleTakeBack.okX scSaleTakeBack (fun vs H Q E h => ?_) (fun cdv A outer s H vs Q E hr h => ?_)
  · obtain ⟨a, o, M, m, outs, rfl, _⟩ := h; rfl
  · obtain ⟨a, o, M, m, outs, rfl, ⟨hs, ho, hM, hl⟩, hm, k1, k2⟩ := h
    have hs' := hs
    obtain ⟨dx, da, b, h1, h2, h3, h4⟩ := hs
    have hr2 : Room 2 _ := hr.mono (by decide)
    refine ⟨_, (pss_cons (ps_if (pt_val (pe_meth (pv 0) T.CSale T.mSaleStands GS hr T.bSaleStands .nil (passes_call (takes_of rfl rfl rfl rfl) (fun _ _ _ _ z => z)) (pa_cons (pv 1) pa_nil)))
        (pss_one (ps_raise rfl (takes_of rfl rfl rfl rfl) (pmk_oex T.oNC T.iNC T.tNC GN hr2 T.bNoChestInit .nil (fun _ _ _ _ _ _ _ z => z.elim) (by rfl) T.gNoChest (pa_cons (pv 1) pa_nil)))) pss_nil)
      (pss_one (ps_expr (pe_bm PySem.F.plainAttrs_list PySem.F.slot_list_remove PySem.F.type_list_remove mt_removeS (pe_fld (pv 0) rfl) (pa_cons (pv 1) pa_nil))))), ?_⟩
    refine ⟨_, rfl, a, dx, _, rfl, h1, sf_no _ _ _ _ (by decide +kernel), _, rfl, a, o, M, m, outs, rfl, hs', ho, hm, fun z hz hin => ⟨_, rfl, ?_⟩, fun hin => k2 fun z hz hi => ?_⟩
    · subst hz
      by_cases c : z ∈ outs
      · rw [decide_eq_true c]
        obtain ⟨j, j1, j2, j3⟩ := erase_at c
        refine iteF ⟨_, rfl, a, T.cSale, dx, _, _, rfl, h1, T.CSale, T.nS_out, sf_out _ _ _ _, .inl ⟨rfl, _, SqL.of ho⟩, _, rfl, o, outs, z, j, rfl, rfl, ho, j1, j2, ?_⟩
        rw [j3]
        exact k1 z rfl hin c
      · rw [decide_eq_false c]
        exact iteT (nc_read T rfl (k2 fun z' e _ => by cases e; exact c))
    · subst hz
      have hin' : decide (z ∈ M.nets.map (·.1)) = false := hin
      rw [decide_eq_true hi] at hin'
      cases hin'
/-! ### refused, standing, len, weight -/
def spRefused : Sp := fun vs H Q _ => ∃ (s o : Addr) (M : MD) (outs : List Str), vs = [.ref s] ∧ Rd1 T H s o M outs ∧ ∀ H' p, Same H H' → H p = none → H' p = some (.lst (outs.map V.str)) → Q (.ref p) H'
theorem ok_refused : FnOk P w K mg base CX0 1 T.fSaleRefused T.dSaleRefused pSaleRefused (spRefused T) := by
  refine T.FSaleRefused.ok scSaleRefused (fun vs H Q E h => ?_) (fun cdv A outer s H vs Q E hr h => ?_)
  · obtain ⟨a, o, M, outs, rfl, _⟩ := h; rfl
  · obtain ⟨a, o, M, outs, rfl, ⟨⟨dx, da, b, h1, h2, h3, h4⟩, ho, hM, hl⟩, k⟩ := h
    refine ⟨_, pss_one (ps_ret (pe_callTy call_list_of (by rfl) T.zList boot_list (pa_cons (pe_fld (pv 0) rfl) pa_nil))), ?_⟩
    exact ⟨_, rfl, a, T.cSale, dx, _, _, rfl, h1, T.CSale, T.nS_out, sf_out _ _ _ _, o, _, rfl, .inl (SqL.of ho), fun l nl => k _ l (same_new nl) nl upd_same⟩
def spStanding : Sp := fun vs H Q _ => ∃ (s o : Addr) (M : MD) (outs : List Str), vs = [.ref s] ∧ Rd1 T H s o M outs ∧ ∀ H' p, Same H H' → H p = none → H' p = some (.lst ((standF M outs).map V.int)) → Q (.ref p) H'
theorem ok_standing : FnOk P w K mg base CX0 1 T.fSaleStanding T.dSaleStanding pSaleStanding (spStanding T) := by
  refine T.FSaleStanding.ok scSaleStanding (fun vs H Q E h => ?_) (fun cdv A outer s H vs Q E hr h => ?_)
  · obtain ⟨a, o, M, outs, rfl, _⟩ := h; rfl
  · obtain ⟨a, o, M, outs, rfl, ⟨⟨dx, da, b, h1, h2, h3, h4⟩, ho, hM, hl⟩, k⟩ := h
    refine ⟨_, pss_one (ps_ret (pe_lock (pe_lc (own := [("mark", 1), ("net", 2)]) (g := gPair K 1 2) rfl scSaleStanding.nd (pi_items (pe_fld (pv 0) rfl)) (blkOk_by (N := nSaleStanding) (sc := defScope sSaleStanding) (by decide +kernel))
        (fun _ _ _ _ _ => pg_tup rfl (pgs_cons (pg_name (i := 1) scSaleStanding.nd rfl (Or.inl rfl)) (pgs_cons (pg_name (i := 2) scSaleStanding.nd rfl (Or.inl rfl)) pgs_nil)))
        (fun _ _ _ _ _ => pts_one (pt_cmpR (r := rIn K true) (tb := tFld K (tVar 0) "out") op_notIn_seq (pv 1) (pe_fld (pv 0) rfl) rfl)) (fun _ _ _ _ _ => pv 2)))), ?_⟩
    refine ⟨da, _, h2, trivial, fun od => ?_⟩
    have nad : a ≠ da := ne_of h1 h2 (by intro z; cases z)
    have nod : o ≠ da := ne_of ho h2 (by intro z; cases z)
    refine ⟨_, rfl, a, T.cSale, dx, _, _, rfl, by rw [upd_ne nad]; exact h1, T.CSale, T.nS_scaled, sf_scaled _ _ _ _, da, od, _, rfl, upd_same, fun D hD => ?_⟩
    have nD : D ≠ da := by
      rintro rfl
      rw [upd_same] at hD
      cases hD
    have hD0 : H D = none := by rw [upd_ne nD] at hD; exact hD
    have f60 := hM.nets.le
    generalize hH1 : upd H da (.frz od (.dK (rowK M.nets))) = H1 at *
    have b1 : H1 a = some (.ins T.cSale dx (saleF M da b o)) := by rw [← hH1, upd_ne nad]; exact h1
    have b2 : H1 o = some (.lst (outs.map V.str)) := by rw [← hH1, upd_ne nod]; exact ho
    have b3 : H1 da = some (.frz od (.dK (rowK M.nets))) := by rw [← hH1, upd_same]
    refine lc_it (walk_items (d := da) (o := od) (kvs := rowK M.nets)) (fun i H' => Same H1 H' ∧ H' D = some (.lst (((M.nets.take i).filter fun p => !decide (p.1 ∈ outs)).map fun p => V.int p.2))) ⟨same_new hD, upd_same⟩ (fun i H' _ ⟨s1, _⟩ => s1 _ _ b3) ?_ ?_
    · rintro i x H2 H3 hi ⟨s2, d2⟩ ⟨t, x1, x2, rfl, nt, rfl, e1, e2⟩
      have hi' : i < M.nets.length := by unfold rowK at hi; rw [List.length_map] at hi; exact hi
      obtain ⟨p, hp⟩ : ∃ p, M.nets[i]? = some p := ⟨_, List.getElem?_eq_getElem hi'⟩
      have ek : (rowK M.nets)[i]? = some (Sum.inr p.1, V.int p.2) := by unfold rowK; rw [List.getElem?_map, hp]; rfl
      dsimp only at e1 e2
      rw [ek] at e1 e2
      have e1' : some (kV (Sum.inr p.1)) = some x1 := e1
      have e2' : some (V.int p.2) = some x2 := e2
      cases e1'
      cases e2'
      have s3 : Same H1 (upd H2 t (.tup [kV (Sum.inr p.1), V.int p.2])) := same_upd s2 (s2.free nt)
      have nDt : D ≠ t := ne_of_none d2 nt
      have lt1 : (((M.nets.take i).filter fun p => !decide (p.1 ∈ outs)).map fun p => V.int p.2).length < sizeLine := by
        rw [List.length_map, sizeLine_eq]
        have := List.length_filter_le (fun p : Str × Int => !decide (p.1 ∈ outs)) (M.nets.take i)
        rw [List.length_take] at this
        omega
      have tk : M.nets.take (i + 1) = M.nets.take i ++ [p] := by rw [List.take_add_one, hp]; rfl
      refine ⟨t, _, rfl, SqT.of upd_same, rfl, _, _, rfl, _, _, rfl, rfl, rfl, _, rfl, _, rfl, a, T.cSale, dx, _, _, rfl, s3 _ _ b1, T.CSale, T.nS_out, sf_out _ _ _ _, o, _, rfl, .inl (SqL.of (s3 _ _ b2)), rfl, flat_strs outs, _, rfl, ?_⟩
      rw [if_pos rfl]
      show if (!inV (.str p.1) (outs.map V.str)) = true then _ else _
      rw [inV_strs]
      refine ite2 (fun c => ⟨_, rfl, _, by rw [upd_ne nDt]; exact d2, lt1, same_upd s3 hD, ?_⟩) (fun c => ⟨s3, ?_⟩)
      · rw [upd_same, tk, List.filter_append, List.map_append, List.filter_cons_of_pos (by exact c)]
        rfl
      · rw [upd_ne nDt, d2, tk, List.filter_append, List.map_append, List.filter_cons_of_neg (by exact c)]
        simp
    · rintro H2 ⟨s2, d2⟩
      refine ⟨s2 _ _ b3, k _ D (fun b u e => ?_) hD0 ?_⟩
      · by_cases hb : b = da
        · rw [hb, upd_same]
          rw [hb, h2] at e
          exact e
        · rw [upd_ne hb]
          refine s2 _ _ ?_
          rw [← hH1, upd_ne hb]
          exact e
      · rw [upd_ne nD, d2]
        unfold rowK standF
        rw [List.length_map, List.take_length, List.map_map]
        rfl
def spLen : Sp := fun vs H Q _ => ∃ (s o : Addr) (M : MD) (outs : List Str), vs = [.ref s] ∧ Rd1 T H s o M outs ∧ ∀ H', Same H H' → Q (.int (standF M outs).length) H'
theorem ok_len : FnOk P w K mg base CX0 2 T.fSaleLen T.dSaleLen pSaleLen (spLen T) := by
  have GS : FnOk P w K mg base CX0 1 T.fSaleStanding T.dSaleStanding pSaleStanding (spStanding T) := ok_standing T
  refine T.FSaleLen.ok scSaleLen (fun vs H Q E h => ?_) (fun cdv A outer s H vs Q E hr h => ?_)
  · obtain ⟨a, o, M, outs, rfl, _⟩ := h; rfl
  · obtain ⟨a, o, M, outs, rfl, hr1, k⟩ := h
    have hr1' := hr1
    obtain ⟨⟨dx, da, b, h1, h2, h3, h4⟩, ho, hM, hl⟩ := hr1
    refine ⟨_, pss_one (ps_ret (pe_callB call_len (by rfl) T.zLen boot_len (pa_cons (pe_meth0 (pv 0) T.CSale T.mSaleStanding GS hr T.bSaleStanding .nil pass0) pa_nil))), ?_⟩
    exact ⟨_, rfl, a, dx, _, rfl, h1, sf_no _ _ _ _ (by decide +kernel), a, o, M, outs, rfl, hr1', fun H' p s1 np hp => ⟨_, (standF M outs).length, rfl, .inl ⟨_, SqL.of hp, by rw [List.length_map]⟩, k H' s1⟩⟩
def spWeight : Sp := fun vs H Q _ => ∃ (s o : Addr) (M : MD) (outs : List Str), vs = [.ref s] ∧ Rd1 T H s o M outs ∧ ∀ H', Same H H' → Q (.int (weightF M outs)) H'
theorem ok_weight : FnOk P w K mg base CX0 2 T.fSaleWeight T.dSaleWeight pSaleWeight (spWeight T) := by
  have GS : FnOk P w K mg base CX0 1 T.fSaleStanding T.dSaleStanding pSaleStanding (spStanding T) := ok_standing T
  refine T.FSaleWeight.ok scSaleWeight (fun vs H Q E h => ?_) (fun cdv A outer s H vs Q E hr h => ?_)
  · obtain ⟨a, o, M, outs, rfl, _⟩ := h; rfl
  · obtain ⟨a, o, M, outs, rfl, hr1, k⟩ := h
    have hr1' := hr1
    obtain ⟨⟨dx, da, b, h1, h2, h3, h4⟩, ho, hM, hl⟩ := hr1
    refine ⟨_, pss_one (ps_ret (pe_callB (cr_sum rfl) (by rfl) T.zSum boot_sum (pa_cons (pe_meth0 (pv 0) T.CSale T.mSaleStanding GS hr T.bSaleStanding .nil pass0) pa_nil))), ?_⟩
    exact ⟨_, rfl, a, dx, _, rfl, h1, sf_no _ _ _ _ (by decide +kernel), a, o, M, outs, rfl, hr1', fun H' p s1 np hp => ⟨p, _, rfl, SqL.of hp, k H' s1⟩⟩
end
end Kx
set_option maxHeartbeats 4000000
namespace Kx
open PySem PySem.Spec PyProof.Rows L2
theorem RowsOk.sumNat {lo hi : Int} {many : Nat} {rows : Rows} (ok : RowsOk lo hi many rows) (h0 : 0 ≤ lo) (hh : 0 ≤ hi) : (wholeOf rows).natAbs ≤ (many * hi).natAbs := by
  have := ok.whole h0
  have := ok.wholeLe hh
  omega
section
variable {P : Program} {w : World} {K : PySem.W.Frag} {mg : Str → Option Value} {base : Heap} (T : Txt K mg w)
def movedV (M : MD) (outs : List Str) : Int := if M.move = "keep" then M.price else movedOf M outs
def spMove (mv : Str) : Sp := fun vs H Q _ => ∃ (s o : Addr) (M : MD) (outs : List Str), vs = [.ref s] ∧ Rd1 T H s o M outs ∧ M.move = mv ∧ ∀ H', Same H H' → Q (.int (movedV M outs)) H'
theorem ok_keep : FnOk P w K mg base CX0 1 T.fKeptPrice T.dKeptPrice pKeptPrice (spMove T "keep") := by
  refine T.FKeptPrice.ok scKeptPrice (fun vs H Q E h => ?_) (fun cdv A outer s H vs Q E hr h => ?_)
  · obtain ⟨a, o, M, outs, rfl, _⟩ := h; rfl
  · obtain ⟨a, o, M, outs, rfl, ⟨⟨dx, da, b, h1, h2, h3, h4⟩, ho, hM, hl⟩, hm, k⟩ := h
    refine ⟨_, pss_one (ps_ret (pe_fld (pv 0) rfl)), ?_⟩
    refine ⟨_, rfl, a, T.cSale, dx, _, _, rfl, h1, T.CSale, T.nS_told_price, sf_price _ _ _ _, ?_⟩
    have := k H (Same.refl H)
    unfold movedV at this
    rw [if_pos hm] at this
    exact this
theorem ok_fall : FnOk P w K mg base CX0 1 T.fFallenPrice T.dFallenPrice pFallenPrice (spMove T "fall") := by
  refine T.FFallenPrice.ok scFallenPrice (fun vs H Q E h => ?_) (fun cdv A outer s H vs Q E hr h => ?_)
  · obtain ⟨a, o, M, outs, rfl, _⟩ := h; rfl
  · obtain ⟨a, o, M, outs, rfl, ⟨⟨dx, da, b, h1, h2, h3, h4⟩, ho, hM, hl⟩, hm, k⟩ := h
    refine ⟨_, pss_one (ps_ret (pe_op op_sub (pe_fld (pv 0) rfl) (pe_op op_mul (pe_fld (pv 0) rfl) (pe_callB call_len (by rfl) T.zLen boot_len (pa_cons (pe_fld (pv 0) rfl) pa_nil))))), ?_⟩
    refine ⟨_, rfl, a, T.cSale, dx, _, _, rfl, h1, T.CSale, T.nS_told_price, sf_price _ _ _ _, _, rfl, a, T.cSale, dx, _, _, rfl, h1, T.CSale, T.nS_drop, sf_drop _ _ _ _, _, rfl, a, T.cSale, dx, _, _, rfl, h1, T.CSale, T.nS_out, sf_out _ _ _ _,
      _, outs.length, rfl, .inl ⟨_, SqL.of ho, by rw [List.length_map]⟩, _, _, rfl, rfl, .inl ⟨by have := hM.s0; omega, by have := hM.s1; omega⟩, _, _, rfl, rfl, ?_⟩
    have := k H (Same.refl H)
    unfold movedV movedOf at this
    rw [if_neg (by rw [hm]; decide), if_pos hm] at this
    exact this
theorem ok_cut : FnOk P w K mg base CX0 3 T.fCutPrice T.dCutPrice pCutPrice (spMove T "cut") := by
  have GW : FnOk P w K mg base CX0 2 T.fSaleWeight T.dSaleWeight pSaleWeight (spWeight T) := ok_weight T
  refine T.FCutPrice.ok scCutPrice (fun vs H Q E h => ?_) (fun cdv A outer s H vs Q E hr h => ?_)
  · obtain ⟨a, o, M, outs, rfl, _⟩ := h; rfl
  · obtain ⟨a, o, M, outs, rfl, hr1, hm, k⟩ := h
    have hr1' := hr1
    obtain ⟨⟨dx, da, b, h1, h2, h3, h4⟩, ho, hM, hl⟩ := hr1
    refine ⟨_, pss_one (ps_ret (pe_op op_fdivW (pe_op op_mul (pe_fld (pv 0) rfl) (pe_meth0 (pv 0) T.CSale T.mSaleWeight GW hr T.bSaleWeight .nil pass0)) (pe_sumVals rfl (by rfl) T.zSum (pe_fld (pv 0) rfl)))), ?_⟩
    refine ⟨_, rfl, a, T.cSale, dx, _, _, rfl, h1, T.CSale, T.nS_told_price, sf_price _ _ _ _, _, rfl, a, dx, _, rfl, h1, sf_no _ _ _ _ (by decide +kernel), a, o, M, outs, rfl, hr1', fun H' s1 => ?_⟩
    have w0 := hM.nets.whole (by decide)
    have w1 := hM.nets.wholeLe (by decide)
    refine ⟨_, _, rfl, rfl, .inl ⟨by have := hM.p0; omega, by have := hM.p1; omega⟩, _, rfl, a, T.cSale, dx, _, _, rfl, s1 _ _ h1, T.CSale, T.nS_scaled, sf_scaled _ _ _ _, da, _, M.nets.map (fun q : Str × Int => q.2), rfl, s1 _ _ h2, by unfold rowK; rw [List.map_map, List.map_map]; rfl,
      _, _, rfl, rfl, wide_div (b := 40) w0 ?_ (by decide) (by decide), ?_⟩
    · show (wholeOf M.nets).natAbs < 2 ^ 40
      have e : ((2 : Nat) ^ 40) = 1099511627776 := by decide
      omega
    · have := k H' s1
      unfold movedV movedOf at this
      rw [if_neg (by rw [hm]; decide), if_neg (by rw [hm]; decide)] at this
      exact this
theorem moves_ok {mv : Str} (hm : Move3 mv) : ∃ f fd ps, (∃ u, PySem.W.nsIn K T.aMOVES mv = some (some u) ∧ u = .ref f) ∧ FnOk P w K mg base CX0 3 f fd ps (spMove T mv) ∧ PySem.W.keepIn K (.ref f) = true ∧ Binds K fd ps [] := by
  cases hm with
  | keep => exact ⟨_, _, _, ⟨_, T.iMOVESKeep, rfl⟩, (ok_keep T).mono (by decide), T.FKeptPrice.kp, T.bKeptPrice⟩
  | fall => exact ⟨_, _, _, ⟨_, T.iMOVESFall, rfl⟩, (ok_fall T).mono (by decide), T.FFallenPrice.kp, T.bFallenPrice⟩
  | cut => exact ⟨_, _, _, ⟨_, T.iMOVESCut, rfl⟩, ok_cut T, T.FCutPrice.kp, T.bCutPrice⟩
def spPriced : Sp := fun vs H Q _ => ∃ (s o : Addr) (M : MD) (outs : List Str), vs = [.ref s] ∧ Rd1 T H s o M outs ∧ ∀ H', Same H H' → Q (.int (pricedOf M outs)) H'
theorem ok_priced : FnOk P w K mg base CX0 4 T.fSaleMovedPrice T.dSaleMovedPrice pSaleMovedPrice (spPriced T) := by
  refine T.FSaleMovedPrice.ok scSaleMovedPrice (fun vs H Q E h => ?_) (fun cdv A outer s H vs Q E hr h => ?_)
  · obtain ⟨a, o, M, outs, rfl, _⟩ := h; rfl
  · obtain ⟨a, o, M, outs, rfl, hr1, k⟩ := h
    have hr1' := hr1
    obtain ⟨⟨dx, da, b, h1, h2, h3, h4⟩, ho, hM, hl⟩ := hr1
    obtain ⟨f, fd, ps, ⟨u, hu1, hu2⟩, F, kp, bd⟩ := moves_ok (P := P) (base := base) T hM.move
    refine ⟨_, (pss_cons (ps_set (i := 1) scSaleMovedPrice.nd rfl (Or.inl rfl) (pe_callE (k := 3) (pe_ix ix_kdict (pe_glob (by rfl) T.gMOVES (v := .ref T.aMOVES) rfl) (pe_fld (pv 0) rfl) (fun _ _ => rfl)) hr pass0 (pa_cons (pv 0) pa_nil)))
      (pss_cons (ps_if (pt_cmpR op_eq (pe_fld (pv 0) rfl) pe_str (nomark _)) (pss_one (ps_ret (pv 1))) pss_nil)
      (pss_one (ps_ret (pe_callB (call_min2 rfl) (by rfl) T.zMin boot_min (pa_cons (pe_fld (pv 0) rfl) (pa_cons (pe_callB (call_max2 rfl) (by rfl) T.zMax boot_max (pa_cons (pe_fld (pv 0) rfl) (pa_cons (pv 1) pa_nil))) pa_nil))))))), ?_⟩
    refine ⟨_, rfl, a, T.cSale, dx, _, _, rfl, h1, T.CSale, T.nS_move, sf_move _ _ _ _, T.aMOVES, M.move, .ref f, rfl, rfl, ⟨T.eMOVES, T.kMOVES, _, T.KMOVES.at_, T.KMOVES.lit, hu1, hu2⟩, f, fd, ps, _, rfl, F, kp, bd, _, rfl, a, o, M, outs, rfl, hr1', rfl, fun H1 s1 => ?_⟩
    refine ⟨_, rfl, a, T.cSale, dx, _, _, rfl, s1 _ _ h1, T.CSale, T.nS_move, sf_move _ _ _ _, rfl, _, rfl, ?_⟩
    have kk := k H1 s1
    unfold pricedOf at kk
    rw [dec_str]
    refine ite2 (fun c => ⟨_, rfl, ?_⟩) (fun c => ?_)
    · have c' : M.move = "keep" := of_decide_eq_true c
      rw [if_pos c'] at kk
      unfold movedV
      rw [if_pos c']
      exact kk
    · have c' : ¬ M.move = "keep" := fun z => c (decide_eq_true z)
      rw [if_neg c'] at kk
      refine ⟨_, rfl, a, T.cSale, dx, _, _, rfl, s1 _ _ h1, T.CSale, T.nS_told_price, sf_price _ _ _ _, _, rfl, a, T.cSale, dx, _, _, rfl, s1 _ _ h1, T.CSale, T.nS_least, sf_least _ _ _ _, _, rfl, _, _, rfl, _, _, rfl, ?_⟩
      unfold movedV
      rw [if_neg c']
      exact kk
end
end Kx
set_option maxHeartbeats 4000000
namespace Kx
open PySem PySem.Spec PyProof.Rows L2
def lotF (n : Str) (u p : Int) : List (Str × V) := [("name", .str n), ("units", .int u), ("price", .int p)]
theorem lf_name (n : Str) (u p : Int) : (lotF n u p).lookup ("name" : Str) = some (.str n) := by rfl
theorem lf_units (n : Str) (u p : Int) : (lotF n u p).lookup ("units" : Str) = some (.int u) := by rfl
theorem lf_price (n : Str) (u p : Int) : (lotF n u p).lookup ("price" : Str) = some (.int p) := by rfl
theorem lf_no (n : Str) (u p : Int) {m : Str} (h : m ∉ (["name", "units", "price"] : List Str)) : (lotF n u p).lookup m = none := lk_none h
theorem lf_put (n : Str) (u p : Int) : putF "price" (.int p) (putF "units" (.int u) (putF "name" (.str n) [])) = lotF n u p := by rfl
theorem standF_nonneg {M : MD} {outs : List Str} (h : M.Ok) : 0 ≤ weightF M outs := by
  unfold weightF standF
  refine sum_nonneg fun x hx => ?_
  obtain ⟨p, hp, rfl⟩ := List.mem_map.mp hx
  have := h.nets.lo p (List.mem_filter.mp hp).1
  omega
theorem rows_zip {rows : Rows} {us : List Int} (h : us.length = rows.length) : ((rows.map (·.1)).zip us).map (·.1) = rows.map (·.1) := by
  rw [List.map_fst_zip]
  rw [List.length_map]
  omega
section
variable {P : Program} {w : World} {K : PySem.W.Frag} {mg : Str → Option Value} {base : Heap} (T : Txt K mg w)
theorem lot_binds : ∃ ds, Vals [] ds ∧ Binds K T.dLotInit pLotInit ds := by
  have h := T.FLotInit.binds1 (ps := pLotInit) 4 1 (by simp) (by rfl) (fun S kV doc pm an cdv ct us its h1 h2 => match us, h1, its, h2 with
    | [_, _, _, _], _, [_], _ => ⟨_, rfl, rfl⟩)
  exact h
def spLot : Sp := fun vs H Q _ => ∃ (p dx : Addr) (n : Str) (u pr : Int), vs = [.ref p, .str n, .int u, .int pr] ∧ H p = some (.ins T.cLot dx []) ∧ ∀ H', FrS (fun b => b = p) H H' → H' p = some (.ins T.cLot dx (lotF n u pr)) → Q .non H'
theorem ok_lot : FnOk P w K mg base CX0 1 T.fLotInit T.dLotInit pLotInit (spLot T) := by
  refine T.FLotInit.ok scLotInit (fun vs H Q E h => ?_) (fun cdv A outer s H vs Q E hr h => ?_)
  · obtain ⟨p, dx, n, u, pr, rfl, _⟩ := h; rfl
  · obtain ⟨p, dx, n, u, pr, rfl, hp, k⟩ := h
    refine ⟨_, (pss_cons (ps_fld (pv 0) (pv 1) rfl)
      (pss_cons (ps_fld (pv 0) (pv 2) rfl)
      (pss_one (ps_fld (pv 0) (pv 3) rfl)))), ?_⟩
    refine ⟨_, rfl, _, rfl, p, T.cLot, dx, _, rfl, hp, T.CLot, T.nL_name, by decide, _, rfl, _, rfl, p, T.cLot, dx, _, rfl, upd_same, T.CLot, T.nL_units, (by show 1 < 1000; decide), _, rfl, _, rfl, p, T.cLot, dx, _, rfl, upd_same, T.CLot, T.nL_price, (by show 2 < 1000; decide), ?_⟩
    refine k _ (fun b o nb e => ?_) upd_same
    rw [upd_ne nb, upd_ne nb, upd_ne nb]
    exact e
def spOwed : Sp := fun vs H Q _ => ∃ (p dx : Addr) (n : Str) (u pr : Int), vs = [.ref p] ∧ H p = some (.ins T.cLot dx (lotF n u pr)) ∧ 0 ≤ pr ∧ pr ≤ 1000000 ∧ Q (.int (u * pr)) H
theorem ok_owed : FnOk P w K mg base CX0 1 T.fLotOwed T.dLotOwed pLotOwed (spOwed T) := by
  refine T.FLotOwed.ok scLotOwed (fun vs H Q E h => ?_) (fun cdv A outer s H vs Q E hr h => ?_)
  · obtain ⟨p, dx, n, u, pr, rfl, _⟩ := h; rfl
  · obtain ⟨p, dx, n, u, pr, rfl, hp, p0, p1, k⟩ := h
    refine ⟨_, pss_one (ps_ret (pe_op op_mul (pe_fld (pv 0) rfl) (pe_fld (pv 0) rfl))), ?_⟩
    exact ⟨_, rfl, p, T.cLot, dx, _, _, rfl, hp, T.CLot, T.nL_units, lf_units _ _ _, _, rfl, p, T.cLot, dx, _, _, rfl, hp, T.CLot, T.nL_price, lf_price _ _ _, _, _, rfl, rfl, .inr ⟨by omega, by omega⟩, k⟩
/-- lots of the names and units xs, at one price -/
def LotsAt (H : Hp) (p : Addr) (xs : Rows) (pr : Int) : Prop := ∃ ts : List Addr, H p = some (.lst (ts.map V.ref)) ∧ ts.length = xs.length ∧ ∀ (i : Nat) t x, ts[i]? = some t → xs[i]? = some x → ∃ dx, H t = some (.ins T.cLot dx (lotF x.1 x.2 pr))
theorem priced_range {M : MD} {outs : List Str} (h : M.Ok) : 0 ≤ pricedOf M outs ∧ pricedOf M outs ≤ 1000000 := by
  have p0 := h.p0
  have p1 := h.p1
  have f0 := h.f0
  unfold pricedOf mn mx
  split
  · exact ⟨p0, p1⟩
  · split <;> split <;> omega
def unitsOf (M : MD) (outs : List Str) : List Int := unitsP (weightF M outs) M.shares M.to
def lotRows (M : MD) (outs : List Str) : Rows := (M.shares.map (·.1)).zip (unitsOf M outs)
theorem lotRows_len (M : MD) (outs : List Str) : (lotRows M outs).length = M.shares.length := by
  unfold lotRows unitsOf
  rw [List.length_zip, List.length_map, unitsP_len]
  omega
def spLots : Sp := fun vs H Q _ => ∃ (s o : Addr) (M : MD) (outs : List Str), vs = [.ref s] ∧ Rd1 T H s o M outs ∧ LamX.Tabs T.tabs H ∧ ∀ H' p, FrN NoW H H' → LamX.Tabs T.tabs H' → NewT H p → LotsAt T H' p (lotRows M outs) (pricedOf M outs) → Q (.ref p) H'
theorem ok_lots (B : TbOk T base) : FnOk P w K mg base CX0 6 T.fSaleLots T.dSaleLots pSaleLots (spLots T) := by
  have GW : FnOk P w K mg base CX0 2 T.fSaleWeight T.dSaleWeight pSaleWeight (spWeight T) := ok_weight T
  have GP : FnOk P w K mg base CX0 4 T.fSaleMovedPrice T.dSaleMovedPrice pSaleMovedPrice (spPriced T) := ok_priced T
  have GA : FnOk P w K mg base CX0 5 T.fParted T.dParted pParted (spParted T) := ok_parted T B
  have GL : FnOk P w K mg base CX0 1 T.fLotInit T.dLotInit pLotInit (spLot T) := ok_lot T
  obtain ⟨dL, vL, bL⟩ := lot_binds T
  obtain ⟨dP, vP, bP⟩ : ∃ ds, Vals [] ds ∧ Binds K T.dParted pParted ds := T.FParted.binds1 (ps := pParted) 3 1 (by simp) (by rfl) (fun S kV doc pm an cdv ct us its h1 h2 => match us, h1, its, h2 with
    | [_, _, _], _, [_], _ => ⟨_, rfl, rfl⟩)
  refine T.FSaleLots.ok scSaleLots (fun vs H Q E h => ?_) (fun cdv A outer s H vs Q E hr h => ?_)
  · obtain ⟨a, o, M, outs, rfl, _⟩ := h; rfl
  · obtain ⟨a, o, M, outs, rfl, hr1, htb, k⟩ := h
    have hr1' := hr1
    obtain ⟨⟨dx, da, b, h1, h2, h3, h4⟩, ho, hM, hl⟩ := hr1
    refine ⟨_, (pss_cons (ps_set (i := 1) scSaleLots.nd rfl (Or.inr rfl) (pe_meth0 (pv 0) T.CSale T.mSaleMovedPrice GP (hr.mono (by decide)) T.bSaleMovedPrice .nil pass0))
      (pss_one (ps_ret (pe_lc (own := [("name", 2), ("units", 3)]) (g := gPair K 2 3) (tt := tYes) (te := tMake T.cLot (spLot T) [] E0 (tCons (tVar 2) (tCons (tVar 3) (tCons (tVar 1) tNil)))) rfl scSaleLots.nd
        (pi_list (pe_call GA hr (by rfl) T.gParted T.FParted.kp bP vP pass0 (pa_cons (pe_meth0 (pv 0) T.CSale T.mSaleWeight GW (hr.mono (by decide)) T.bSaleWeight .nil pass0) (pa_cons (pe_fld (pv 0) rfl) (pa_cons (pe_fld (pv 0) rfl) pa_nil)))))
        (blkOk_by (N := nSaleLots) (sc := defScope sSaleLots) (by decide +kernel)) (fun _ _ _ _ _ => pg_tup rfl (pgs_cons (pg_name (i := 2) scSaleLots.nd rfl (Or.inl rfl)) (pgs_cons (pg_name (i := 3) scSaleLots.nd rfl (Or.inl rfl)) pgs_nil))) (fun _ _ _ _ _ => pts_nil)
        (fun _ _ _ _ _ => pe_make T.MLot GL (hr.mono (by decide)) (by rfl) T.gLot bL vL pass0 (pa_cons (pv 2) (pa_cons (pv 3) (pa_cons (pv 1) pa_nil)))))))), ?_⟩
    refine ⟨_, rfl, a, dx, _, rfl, h1, sf_no _ _ _ _ (by decide +kernel), a, o, M, outs, rfl, hr1', fun H1 s1 => ?_⟩
    refine ⟨_, rfl, a, dx, _, rfl, s1 _ _ h1, sf_no _ _ _ _ (by decide +kernel), a, o, M, outs, rfl, hr1'.same s1, fun H2 s2 => ?_⟩
    have s12 := s1.trans s2
    refine ⟨_, rfl, a, T.cSale, dx, _, _, rfl, s12 _ _ h1, T.CSale, T.nS_buyers, sf_buyers _ _ _ _, _, rfl, a, T.cSale, dx, _, _, rfl, s12 _ _ h1, T.CSale, T.nS_to, sf_to _ _ _ _, ?_⟩
    refine ⟨_, b, M.shares, M.to, rfl, h3.ext (.same s12), hM.shares, hM.to, standF_nonneg hM, tabs_same htb s12, fun H3 q f3 t3 nq hq => ?_⟩
    have hq' := hq
    obtain ⟨qs, q1, q2⟩ := hq'
    refine ⟨q, rfl, ⟨_, SqL.of q1⟩, fun D hD => ?_⟩
    have ll : (lotRows M outs).length ≤ 24 := by rw [lotRows_len]; exact hM.shares.le
    have ql : qs.length = (lotRows M outs).length := q2.1
    refine lc_ob (K := K) (a := q) (xs := qs.map V.ref) (fun i o => ∀ x, (lotRows M outs)[i]? = some x → ∃ dx, o = .ins T.cLot dx (lotF x.1 x.2 (pricedOf M outs))) hD (SqL.of q1) (by rw [List.length_map, sizeLine_eq]; omega) (fun i x ys H4 hx s4 d4 put => ?_) fun H4 ts s4 d4 l4 o4 => ?_
    · obtain ⟨t, p, rfl, e1, e2, e3⟩ := q2.at_ hx
      have e2' : (lotRows M outs)[i]? = some p := e2
      refine ⟨t, _, rfl, SqT.of (s4 _ _ e3), rfl, _, _, rfl, _, _, rfl, rfl, rfl, _, rfl, _, rfl, _, rfl, fun x dy nx ndy hne => ?_⟩
      refine ⟨x, dy, p.1, p.2, _, rfl, upd_same, fun H5 f5 h5 => ⟨rfl, ?_⟩⟩
      refine put H5 x _ (fun b u e => ?_) nx h5 fun y hy => ?_
      · have n1 : b ≠ x := ne_of_none e nx
        have n2 : b ≠ dy := ne_of_none e ndy
        exact f5 _ _ n1 (by rw [upd_ne n1, upd_ne n2]; exact e)
      · rw [e2'] at hy
        cases hy
        exact ⟨_, rfl⟩
    · have f4 : FrN NoW H H4 := ((FrN.same s12).trans f3).trans (.same s4)
      rw [List.length_map, ql] at l4
      refine k H4 D f4 (tabs_same t3 s4) (NewT.back ((FrN.same s12).trans f3) (.none hD)) ⟨ts, d4, l4, fun i t x ht hx => ?_⟩
      obtain ⟨_, o', e1, e2⟩ := o4 i t ht
      obtain ⟨dx', rfl⟩ := e2 x hx
      exact ⟨dx', e1⟩
end
end Kx
set_option maxHeartbeats 4000000
namespace Kx
open PySem PySem.Spec PyProof.Rows L2
theorem mergeK_app : ∀ (kvs acc : List (Key × V)), ((acc ++ kvs).map (·.1)).Nodup → mergeK acc kvs = acc ++ kvs
  | [], acc, _ => by simp [mergeK]
  | p :: kvs, acc, h => by
    have hn : valV acc p.1 = none := by
      cases e : valV acc p.1 with
      | none => rfl
      | some v =>
        exfalso
        have hm := valV_in e
        rw [List.map_append, List.map_cons, List.nodup_append] at h
        exact h.2.2 _ hm _ (List.mem_cons_self ..) rfl
    show mergeK (putK acc p.1 p.2) kvs = acc ++ p :: kvs
    rw [putK_new _ hn, mergeK_app kvs (acc ++ [(p.1, p.2)]) (by simpa using h)]
    simp
theorem mergeK_nd {kvs : List (Key × V)} (h : (kvs.map (·.1)).Nodup) : mergeK [] kvs = kvs := by
  have := mergeK_app kvs [] (by simpa using h)
  simpa using this
theorem rowK_nd {rows : Rows} (h : (rows.map (·.1)).Nodup) : ((rowK rows).map (·.1)).Nodup := by
  unfold rowK
  rw [List.map_map]
  have e : (rows.map ((fun x : Key × V => x.1) ∘ fun p : Str × Int => ((Sum.inr p.1 : Key), V.int p.2))) = (rows.map (·.1)).map (fun s => (Sum.inr s : Key)) := by rw [List.map_map]; rfl
  rw [e]
  exact List.Pairwise.map _ (fun a b hab z => hab (Sum.inr.inj z)) h
theorem paired_rowK {K : PySem.W.Frag} {H : Hp} : ∀ {ts : List Addr} {rows : Rows}, TupsAt H ts rows → Paired (fun p (kv : Key × V) => SqT K H p [kV kv.1, kv.2]) ts (rowK rows)
  | [], [], _ => .nil
  | [], _ :: _, h => by have := h.1; simp at this
  | _ :: _, [], h => by have := h.1; simp at this
  | t :: ts, p :: rows, h => by
    refine .cons (SqT.of (h.2 0 t p rfl rfl)) (paired_rowK ⟨by have := h.1; simpa using this, fun i t p h1 h2 => h.2 (i + 1) t p (by simpa using h1) (by simpa using h2)⟩)
theorem tups_rowK {H : Hp} {ts : List Addr} {rows : Rows} (h : Paired (fun (t : Addr) (q : Key × V) => H t = some (.tup [kV q.1, q.2])) ts (rowK rows)) : TupsAt H ts rows := by
  refine ⟨by rw [paired_len h]; unfold rowK; rw [List.length_map], fun i t p h1 h2 => ?_⟩
  exact paired_at (F := fun (t : Addr) (q : Key × V) => H t = some (.tup [kV q.1, q.2])) (b := (Sum.inr p.1, V.int p.2)) h h1 (by unfold rowK; rw [List.getElem?_map, h2]; rfl)
def owedRows (M : MD) (outs : List Str) : Rows := (lotRows M outs).map fun x => (x.1, x.2 * pricedOf M outs)
theorem lotRows_fst (M : MD) (outs : List Str) : (lotRows M outs).map (·.1) = M.shares.map (·.1) := by
  unfold lotRows unitsOf
  rw [rows_zip (unitsP_len _ _ _)]
theorem owedRows_fst (M : MD) (outs : List Str) : (owedRows M outs).map (·.1) = M.shares.map (·.1) := by
  unfold owedRows
  rw [List.map_map, ← lotRows_fst M outs]
  rfl
section
variable {P : Program} {w : World} {K : PySem.W.Frag} {mg : Str → Option Value} {base : Heap} (T : Txt K mg w)
def spSums : Sp := fun vs H Q _ => ∃ (s o : Addr) (M : MD) (outs : List Str), vs = [.ref s] ∧ Rd1 T H s o M outs ∧ LamX.Tabs T.tabs H ∧ ∀ H' p, FrN NoW H H' → LamX.Tabs T.tabs H' → NewT H p → H' p = some (.dK (rowK (owedRows M outs))) → Q (.ref p) H'
theorem ok_sums (B : TbOk T base) : FnOk P w K mg base CX0 7 T.fSaleSums T.dSaleSums pSaleSums (spSums T) := by
  have GL : FnOk P w K mg base CX0 6 T.fSaleLots T.dSaleLots pSaleLots (spLots T) := ok_lots T B
  have GO : FnOk P w K mg base CX0 1 T.fLotOwed T.dLotOwed pLotOwed (spOwed T) := ok_owed T
  refine T.FSaleSums.ok scSaleSums (fun vs H Q E h => ?_) (fun cdv A outer s H vs Q E hr h => ?_)
  · obtain ⟨a, o, M, outs, rfl, _⟩ := h; rfl
  · obtain ⟨a, o, M, outs, rfl, hr1, htb, k⟩ := h
    have hr1' := hr1
    obtain ⟨⟨dx, da, b, h1, h2, h3, h4⟩, ho, hM, hl⟩ := hr1
    refine ⟨_, pss_one (ps_ret (pe_callTy (call_dictP rfl) (by rfl) T.zDict (by decide +kernel) (pa_cons (pe_lc (own := [("lot", 1)]) (g := gName 1) (tt := tYes) (te := tTup (tCons (tFld K (tVar 1) "name") (tCons (tMeth T.cLot "owed" (spOwed T) [] E0 (tVar 1) tNil) tNil))) rfl scSaleSums.nd
        (pi_list (pe_meth0 (pv 0) T.CSale T.mSaleLots GL hr T.bSaleLots .nil pass0)) (blkOk_by (N := nSaleSums) (sc := defScope sSaleSums) (by decide +kernel)) (fun _ _ _ _ _ => pg_name (i := 1) scSaleSums.nd rfl (Or.inl rfl)) (fun _ _ _ _ _ => pts_nil)
        (fun _ _ _ _ _ => pe_tup (pa_cons (pe_fld (pv 1) rfl) (pa_cons (pe_meth0 (pv 1) T.CLot T.mLotOwed GO (hr.mono (by decide)) T.bLotOwed .nil pass0) pa_nil)))) pa_nil))), ?_⟩
    refine ⟨_, rfl, a, dx, _, rfl, h1, sf_no _ _ _ _ (by decide +kernel), a, o, M, outs, rfl, hr1', htb, fun H1 q f1 t1 nq hq => ?_⟩
    obtain ⟨ls, q1, q2, q3⟩ := hq
    obtain ⟨pr0, pr1⟩ := priced_range (outs := outs) hM
    refine ⟨q, rfl, ⟨_, SqL.of q1⟩, fun D hD => ?_⟩
    have ll : (lotRows M outs).length ≤ 24 := by rw [lotRows_len]; exact hM.shares.le
    refine lc_ob (K := K) (a := q) (xs := ls.map V.ref) (fun i o => ∀ x, (lotRows M outs)[i]? = some x → o = .tup [.str x.1, .int (x.2 * pricedOf M outs)]) hD (SqL.of q1) (by rw [List.length_map, sizeLine_eq]; omega) (fun i x ys H4 hx s4 d4 put => ?_) fun H4 ts s4 d4 l4 o4 => ?_
    · rw [List.getElem?_map] at hx
      cases ei : ls[i]? with
      | none => rw [ei] at hx; cases hx
      | some t =>
        rw [ei] at hx
        obtain rfl : V.ref t = x := Option.some.inj hx
        have il : i < (lotRows M outs).length := by rw [← q2]; exact (List.getElem?_eq_some_iff.mp ei).1
        obtain ⟨p, ep⟩ : ∃ p, (lotRows M outs)[i]? = some p := ⟨_, List.getElem?_eq_getElem il⟩
        obtain ⟨dy, ht⟩ := q3 i t p ei ep
        have ht4 := s4 _ _ ht
        refine ⟨rfl, _, rfl, t, T.cLot, dy, _, _, rfl, ht4, T.CLot, T.nL_name, lf_name _ _ _, _, rfl, t, dy, _, rfl, ht4, lf_no _ _ _ (by decide +kernel), t, dy, p.1, p.2, _, rfl, ht4, pr0, pr1, (by show 2 ≤ sizeLine; decide), fun u nu => ?_⟩
        refine put _ u _ (same_new nu) nu upd_same fun y hy => ?_
        rw [ep] at hy
        cases hy
        rfl
    · rw [List.length_map, q2] at l4
      have tt : TupsAt H4 ts (owedRows M outs) := ⟨by unfold owedRows; rw [List.length_map]; exact l4, fun i t p ht hp => by
        unfold owedRows at hp
        rw [List.getElem?_map] at hp
        cases ei : (lotRows M outs)[i]? with
        | none => rw [ei] at hp; cases hp
        | some x =>
          rw [ei] at hp
          obtain rfl := Option.some.inj hp
          obtain ⟨_, o', e1, e2⟩ := o4 i t ht
          rw [e1, e2 x ei]⟩
      refine ⟨D, ts, rowK (owedRows M outs), rfl, SqL.of d4, paired_rowK tt, fun p np => ?_⟩
      rw [mergeK_nd (rowK_nd (by rw [owedRows_fst]; exact hM.shares.nd))]
      have f4 : FrN NoW H H4 := f1.trans (.same s4)
      exact k _ p (f4.updN np) (tabs_same (tabs_same t1 s4) (same_new np)) (NewT.back f4 (.none np)) upd_same
end
end Kx
set_option maxHeartbeats 4000000
namespace Kx
open PySem PySem.Spec PyProof.Rows L2
theorem FunD.ok0 {P : Program} {w : World} {K : PySem.W.Frag} {mg : Str → Option Value} {base : Heap} {x qual : Str} {params : Arguments} {body : List Stmt} {scope : Scope} {dvs : List V} {kws : List (Str × V)} {f : Addr} {fd : FuncData} {N ps : List Str} {k : Nat} {sp : Sp} (F : FunD K x qual params body scope dvs kws f fd) (S : FnScope N ps scope) (len : ∀ vs H Q E, sp vs H Q E → vs.length = ps.length)
    (hbody : ∀ (cdv : Value) (A : Around) (outer : List Env) (s : Shared) (H : Hp) (vs : List V) (Q : VK) (E : XK), Room k (A.deeper (envOfC qual scope s.heap.objs.size f cdv)) → sp vs H Q E →
      ∃ t, PSs (cxOf CX0 P w K mg base N qual scope f cdv A outer s H E).nox body t ∧ t { nx := fun _ H' => Q .non H', rt := Q } (start N vs) H) : FnOk P w K mg base CX0 (k + 1) f fd ps sp := by
  refine FunD.ok F S len fun cdv A outer s H vs Q E hr hsp => ?_
  obtain ⟨t, h, q⟩ := hbody cdv A outer s H vs Q E hr hsp
  exact ⟨t, h.nox, q⟩
section
variable {P : Program} {w : World} {K : PySem.W.Frag} {mg : Str → Option Value} {base : Heap} (T : Txt K mg w)
theorem moves_in {mv : Str} (h3 : Move3 mv) : ∃ u, PySem.W.nsIn K T.aMOVES mv = some (some u) := by
  cases h3 with
  | keep => exact ⟨_, T.iMOVESKeep⟩
  | fall => exact ⟨_, T.iMOVESFall⟩
  | cut => exact ⟨_, T.iMOVESCut⟩
/-- a sale whose list of buyers is new -/
def SaleN (H0 H : Hp) (s : Addr) (M : MD) (o : Addr) : Prop := ∃ dx a b, H s = some (.ins T.cSale dx (saleF M a b o)) ∧ H a = some (.dK (rowK M.nets)) ∧ RowsAt H b M.shares ∧ b ≠ o ∧ H0 b = none
theorem SaleN.at_ {T : Txt K mg w} {H0 H : Hp} {s o : Addr} {M : MD} (h : SaleN T H0 H s M o) : SaleAt T H s M o := by
  obtain ⟨dx, a, b, h1, h2, h3, h4, _⟩ := h
  exact ⟨dx, a, b, h1, h2, h3, h4⟩
theorem SaleN.back {T : Txt K mg w} {H0 H1 H : Hp} {s o : Addr} {M : MD} (f : Same H0 H1) (h : SaleN T H1 H s M o) : SaleN T H0 H s M o := by
  obtain ⟨dx, a, b, h1, h2, h3, h4, h5⟩ := h
  exact ⟨dx, a, b, h1, h2, h3, h4, f.free h5⟩
/-- a sale of M as it is just made -/
def spSale : Sp := fun vs H Q _ => ∃ (p dx a b : Addr) (M : MD), vs = [.ref p, .ref a, .int M.price, .ref b, .str M.to, .str M.move, .int M.step, .int M.floor] ∧ H p = some (.ins T.cSale dx []) ∧ RowsAt H a M.nets ∧ RowsAt H b M.shares ∧ M.Ok ∧
  ∀ H' o, FrS (fun c => c = p) H H' → H o = none → SaleN T H H' p M o → OutAt H' o [] → Q .non H'
theorem ok_sale : FnOk P w K mg base CX0 5 T.fSaleInit T.dSaleInit pSaleInit (spSale T) := by
  have GC : FnOk P w K mg base CX0 4 T.fCheckPairs T.dCheckPairs pCheckPairs spCheck := ok_check T
  have GF : FnOk P w K mg base CX0 2 T.fIsFrom T.dIsFrom pIsFrom spIsFrom := ok_isFrom T
  have GW : FnOk P w K mg base CX0 1 T.fWantTurn T.dWantTurn pWantTurn spWant := ok_want T
  refine FunD.ok0 T.FSaleInit scSaleInit (fun vs H Q E h => ?_) (fun cdv A outer s H vs Q E hr h => ?_)
  · obtain ⟨p, dx, a, b, M, rfl, _⟩ := h; rfl
  · obtain ⟨p, dx, a, b, M, rfl, hp, ha, hb, hM, k⟩ := h
    obtain ⟨uC, gC, rC⟩ := T.vMostChests
    obtain ⟨uW, gW, rW⟩ := T.vMostWeight
    obtain ⟨uS, gS, rS⟩ := T.vMostShares
    obtain ⟨uP, gP, rP⟩ := T.vMostPrice
    obtain ⟨uM, hum⟩ := moves_in T hM.move
    have hr2 : Room 2 _ := hr.mono (by decide)
    have hr1 : Room 1 _ := hr.mono (by decide)
    refine ⟨_, (pss_cons (ps_expr (pe_call GC hr (by rfl) T.gCheckPairs T.FCheckPairs.kp T.bCheckPairs .nil pass0 (pa_cons (pv 1) (pa_cons (pe_glob (by rfl) gC rC) (pa_cons (pe_int) (pa_cons (pe_glob (by rfl) gW rW) pa_nil))))))
      (pss_cons (ps_if (pt_not (pt_val (pe_call GF hr2 (by rfl) T.gIsFrom T.FIsFrom.kp T.bIsFrom .nil pass0 (pa_cons (pv 2) (pa_cons (pe_int) (pa_cons (pe_glob (by rfl) gP rP) pa_nil)))))) (pss_one ps_never) pss_nil)
      (pss_cons (ps_expr (pe_call GC hr (by rfl) T.gCheckPairs T.FCheckPairs.kp T.bCheckPairs .nil pass0 (pa_cons (pv 3) (pa_cons (pe_glob (by rfl) gS rS) (pa_cons (pe_int) (pa_cons (pe_glob (by rfl) gP rP) pa_nil))))))
      (pss_cons (ps_expr (pe_call GW hr1 (by rfl) T.gWantTurn T.FWantTurn.kp T.bWantTurn .nil pass0 (pa_cons (pv 4) pa_nil)))
      (pss_cons (ps_if (pw_or (pt_not (pt_val (pe_callB call_isi (by rfl) T.zIsinstance boot_isinstance (pa_cons (pv 5) (pa_cons (e_str (by rfl) T.zStr) pa_nil)))))
        (pw_or1 (pt_cmpR (op_notIn_kd T.KMOVES) (pv 5) (pe_glob (by rfl) T.gMOVES (v := .ref T.aMOVES) rfl) rfl))).pt (pss_one ps_never) pss_nil)
      (pss_cons (ps_for PassesOwn.never rfl (pi_tup (pe_tup (pa_cons (pe_tup (pa_cons (pv 6) (pa_cons (pe_str) pa_nil))) (pa_cons (pe_tup (pa_cons (pv 7) (pa_cons (pe_str) pa_nil))) pa_nil)))) (pg_tup rfl (pgs_cons (pg_name (i := 8) scSaleInit.nd rfl (Or.inl rfl)) (pgs_cons (pg_name (i := 9) scSaleInit.nd rfl (Or.inl rfl)) pgs_nil)))
        (pss_one (ps_if (pt_not (pt_val (pe_call GF hr2 (by rfl) T.gIsFrom T.FIsFrom.kp T.bIsFrom .nil pass0 (pa_cons (pv 8) (pa_cons (pe_int) (pa_cons (pe_glob (by rfl) gP rP) pa_nil)))))) (pss_one ps_never) pss_nil)))
      (pss_cons (ps_fld (pv 0) (pe_callTy (call_dictP rfl) (by rfl) T.zDict (by decide +kernel) (pa_cons (pv 1) pa_nil)) rfl)
      (pss_cons (ps_fld (pv 0) (pv 2) rfl)
      (pss_cons (ps_fld (pv 0) (pe_callTy call_list_of (by rfl) T.zList boot_list (pa_cons (pv 3) pa_nil)) rfl)
      (pss_cons (ps_fld (pv 0) (pv 4) rfl)
      (pss_cons (ps_fld (pv 0) (pv 5) rfl)
      (pss_cons (ps_fld (pv 0) (pv 6) rfl)
      (pss_cons (ps_fld (pv 0) (pv 7) rfl)
      (pss_one (ps_fld (pv 0) (pe_lst pa_nil) rfl))))))))))))))), ?_⟩
    refine ⟨_, rfl, a, 60, 1, 1000000000, M.nets, rfl, ha, hM.nets, by decide, fun H1 s1 => ?_⟩
    refine ⟨_, rfl, M.price, 0, 1000000, rfl, hM.p0, hM.p1, _, rfl, iteF ?_⟩
    refine ⟨_, rfl, b, 24, 0, 1000000, M.shares, rfl, hb.ext (.same s1), hM.shares, by decide, fun H2 s2 => ?_⟩
    have s12 := s1.trans s2
    refine ⟨_, rfl, M.to, rfl, hM.to, ?_⟩
    refine ⟨_, rfl, _, _, _, _, true, rfl, .ty "str", .base (.str M.move), kit_ty (by decide +kernel), true, rfl, iteF ?_⟩
    refine ⟨_, rfl, M.move, some uM, rfl, rfl, hum, _, rfl, iteF ?_⟩
    refine ⟨_, rfl, (by show 2 ≤ sizeLine; decide), fun t1 n1 => ⟨_, rfl, (by show 2 ≤ sizeLine; decide), fun t2 n2 => ⟨(by show 2 ≤ sizeLine; decide), fun t3 n3 => ?_⟩⟩⟩
    have n2' : H2 t2 = none := by
      by_cases c : t2 = t1
      · rw [c, upd_same] at n2; cases n2
      · rw [upd_ne c] at n2; exact n2
    have d12 : t1 ≠ t2 := fun c => by rw [← c, upd_same] at n2; cases n2
    have d13 : t1 ≠ t3 := fun c => by rw [← c, upd_ne d12, upd_same] at n3; cases n3
    have d23 : t2 ≠ t3 := fun c => by rw [← c, upd_same] at n3; cases n3
    have n3' : H2 t3 = none := by rw [upd_ne d23.symm, upd_ne d13.symm] at n3; exact n3
    generalize hH3 : upd (upd (upd H2 t1 (.tup [.int M.step, .str "step"])) t2 (.tup [.int M.floor, .str "floor"])) t3 (.tup [.ref t1, .ref t2]) = H3
    have s23 : Same H2 H3 := by
      rw [← hH3]
      exact same_upd (same_upd (same_new n1) n2') n3'
    have e1 : H3 t1 = some (.tup [.int M.step, .str "step"]) := by rw [← hH3, upd_ne d13, upd_ne d12, upd_same]
    have e2 : H3 t2 = some (.tup [.int M.floor, .str "floor"]) := by rw [← hH3, upd_ne d23, upd_same]
    have e3 : H3 t3 = some (.tup [.ref t1, .ref t2]) := by rw [← hH3, upd_same]
    have s3 := s12.trans s23
    refine ⟨t3, rfl, ⟨_, SqT.of e3⟩, for_tup (K := K) (a := t3) (xs := [.ref t1, .ref t2]) (fun i σ H' => H' = H3 ∧ ∃ u v, σ = [some (.ref p), some (.ref a), some (.int M.price), some (.ref b), some (.str M.to), some (.str M.move), some (.int M.step), some (.int M.floor), u, v])
      ⟨rfl, none, none, rfl⟩ (fun i σ H' _ ⟨e, _⟩ => by rw [e]; exact SqT.of e3) ?_ ?_⟩
    · rintro i x σ H' hx ⟨rfl, u, v, rfl⟩
      have c2 : (x = .ref t1) ∨ (x = .ref t2) := by
        have := List.mem_of_getElem? hx
        simpa using this
      rcases c2 with rfl | rfl
      · refine ⟨t1, _, rfl, SqT.of e1, rfl, _, _, rfl, _, _, rfl, rfl, _, rfl, M.step, 0, 1000000, rfl, hM.s0, hM.s1, _, rfl, iteF ⟨rfl, _, _, rfl⟩⟩
      · refine ⟨t2, _, rfl, SqT.of e2, rfl, _, _, rfl, _, _, rfl, rfl, _, rfl, M.floor, 0, 1000000, rfl, hM.f0, hM.f1, _, rfl, iteF ⟨rfl, _, _, rfl⟩⟩
    · rintro σ H' ⟨rfl, u, v, rfl⟩
      obtain ⟨ts, a1, a2⟩ := ha.ext (.same s3)
      obtain ⟨us, b1, b2⟩ := hb.ext (.same s3)
      have hp3 := s3 _ _ hp
      refine ⟨_, rfl, a, ts, rowK M.nets, rfl, SqL.of a1, paired_rowK a2, fun dA nA => ?_⟩
      rw [mergeK_nd (rowK_nd hM.nets.nd)]
      have pA : p ≠ dA := ne_of_none hp3 nA
      refine ⟨_, rfl, p, T.cSale, dx, _, rfl, by rw [upd_ne pA]; exact hp3, T.CSale, T.nS_scaled, (by show 0 < 1000; decide), ?_⟩
      refine ⟨_, rfl, _, rfl, p, T.cSale, dx, _, rfl, upd_same, T.CSale, T.nS_told_price, (by show 1 < 1000; decide), ?_⟩
      have bp : b ≠ p := ne_of b1 hp3 (by intro z; cases z)
      have bA : b ≠ dA := ne_of_none b1 nA
      refine ⟨_, rfl, b, _, rfl, .inl (SqL.of (by rw [upd_ne bp, upd_ne bp, upd_ne bA]; exact b1)), fun dB nB => ?_⟩
      have pB : p ≠ dB := fun z => by rw [← z, upd_same] at nB; cases nB
      have AB : dA ≠ dB := fun z => by rw [← z, upd_ne pA.symm, upd_ne pA.symm, upd_same] at nB; cases nB
      have nB3 : H' dB = none := by rw [upd_ne pB.symm, upd_ne pB.symm, upd_ne AB.symm] at nB; exact nB
      refine ⟨_, rfl, p, T.cSale, dx, _, rfl, by rw [upd_ne pB, upd_same], T.CSale, T.nS_buyers, (by show 2 < 1000; decide), ?_⟩
      refine ⟨_, rfl, _, rfl, p, T.cSale, dx, _, rfl, upd_same, T.CSale, T.nS_to, (by show 3 < 1000; decide), ?_⟩
      refine ⟨_, rfl, _, rfl, p, T.cSale, dx, _, rfl, upd_same, T.CSale, T.nS_move, (by show 4 < 1000; decide), ?_⟩
      refine ⟨_, rfl, _, rfl, p, T.cSale, dx, _, rfl, upd_same, T.CSale, T.nS_drop, (by show 5 < 1000; decide), ?_⟩
      refine ⟨_, rfl, _, rfl, p, T.cSale, dx, _, rfl, upd_same, T.CSale, T.nS_least, (by show 6 < 1000; decide), ?_⟩
      refine ⟨Nat.zero_le _, fun o no => ?_⟩
      have po : p ≠ o := fun z => by rw [← z, upd_same] at no; cases no
      have Bo : dB ≠ o := fun z => by rw [← z, upd_ne pB.symm, upd_ne pB.symm, upd_ne pB.symm, upd_ne pB.symm, upd_ne pB.symm, upd_same] at no; cases no
      have Ao : dA ≠ o := fun z => by rw [← z, upd_ne pA.symm, upd_ne pA.symm, upd_ne pA.symm, upd_ne pA.symm, upd_ne pA.symm, upd_ne AB, upd_ne pA.symm, upd_ne pA.symm, upd_same] at no; cases no
      have no3 : H' o = none := by
        rw [upd_ne po.symm, upd_ne po.symm, upd_ne po.symm, upd_ne po.symm, upd_ne po.symm, upd_ne Bo.symm, upd_ne po.symm, upd_ne po.symm, upd_ne Ao.symm] at no
        exact no
      refine ⟨_, rfl, p, T.cSale, dx, _, rfl, by rw [upd_ne po, upd_same], T.CSale, T.nS_out, (by show 7 < 1000; decide), ?_⟩
      have off : ∀ c u, c ≠ p → H' c = some u → upd (upd (upd (upd (upd (upd (upd (upd (upd (upd (upd H' dA (.dK (rowK M.nets))) p (.ins T.cSale dx (putF "scaled" (.ref dA) []))) p (.ins T.cSale dx (putF "told_price" (.int M.price) (putF "scaled" (.ref dA) [])))) dB (.lst (us.map V.ref)))
          p (.ins T.cSale dx (putF "buyers" (.ref dB) (putF "told_price" (.int M.price) (putF "scaled" (.ref dA) []))))) p (.ins T.cSale dx (putF "to" (.str M.to) (putF "buyers" (.ref dB) (putF "told_price" (.int M.price) (putF "scaled" (.ref dA) [])))))) p (.ins T.cSale dx (putF "move" (.str M.move) (putF "to" (.str M.to) (putF "buyers" (.ref dB) (putF "told_price" (.int M.price) (putF "scaled" (.ref dA) []))))))) 
          p (.ins T.cSale dx (putF "drop" (.int M.step) (putF "move" (.str M.move) (putF "to" (.str M.to) (putF "buyers" (.ref dB) (putF "told_price" (.int M.price) (putF "scaled" (.ref dA) [])))))))) p (.ins T.cSale dx (putF "least" (.int M.floor) (putF "drop" (.int M.step) (putF "move" (.str M.move) (putF "to" (.str M.to) (putF "buyers" (.ref dB) (putF "told_price" (.int M.price) (putF "scaled" (.ref dA) []))))))))) o (.lst []))
          p (.ins T.cSale dx (saleF M dA dB o)) c = some u := fun c u hc e => by
        have cA : c ≠ dA := ne_of_none e nA
        have cB : c ≠ dB := ne_of_none e nB3
        have co : c ≠ o := ne_of_none e no3
        rw [upd_ne hc, upd_ne co, upd_ne hc, upd_ne hc, upd_ne hc, upd_ne hc, upd_ne hc, upd_ne cB, upd_ne hc, upd_ne hc, upd_ne cA]
        exact e
      refine k _ o (fun c u hc e => off c u hc (s3 _ _ e)) (s3.free no3) ⟨dx, dA, dB, upd_same, ?_, ⟨us, ?_, b2.1, fun i t q h1 h2 => ?_⟩, Bo, s3.free nB3⟩ ?_
      · rw [upd_ne pA.symm, upd_ne Ao, upd_ne pA.symm, upd_ne pA.symm, upd_ne pA.symm, upd_ne pA.symm, upd_ne pA.symm, upd_ne AB, upd_ne pA.symm, upd_ne pA.symm, upd_same]
      · rw [upd_ne pB.symm, upd_ne Bo, upd_ne pB.symm, upd_ne pB.symm, upd_ne pB.symm, upd_ne pB.symm, upd_ne pB.symm, upd_same]
      · have ht := b2.2 i t q h1 h2
        exact off t _ (ne_of ht hp3 (by intro z; cases z)) ht
      · show upd _ p _ o = _
        rw [upd_ne po.symm, upd_same]
        rfl
end
end Kx
set_option maxHeartbeats 4000000
namespace Kx
open PySem PySem.Spec PyProof.Rows L2
section
variable {P : Program} {w : World} {K : PySem.W.Frag} {mg : Str → Option Value} {base : Heap} (T : Txt K mg w)
def spTold : Sp := fun vs H Q _ => ∃ (s o : Addr) (M : MD) (outs : List Str), vs = [.ref s] ∧ Rd1 T H s o M outs ∧ ∀ H' t p b, Same H H' → H' t = some (.tup [.ref p, .int M.price, .ref b, .str M.to, .str M.move, .int M.step, .int M.floor]) → RowsAt H' p M.nets → RowsAt H' b M.shares → Q (.ref t) H'
theorem ok_told : FnOk P w K mg base CX0 1 T.fSaleTold T.dSaleTold pSaleTold (spTold T) := by
  refine T.FSaleTold.ok scSaleTold (fun vs H Q E h => ?_) (fun cdv A outer s H vs Q E hr h => ?_)
  · obtain ⟨a, o, M, outs, rfl, _⟩ := h; rfl
  · obtain ⟨a, o, M, outs, rfl, ⟨⟨dx, da, b, h1, h2, h3, h4⟩, ho, hM, hl⟩, k⟩ := h
    refine ⟨_, pss_one (ps_ret (pe_tup (pa_cons (LiI.pe_listItems rfl (pe_fld (pv 0) rfl) (by rfl) T.zList boot_list) (pa_cons (pe_fld (pv 0) rfl) (pa_cons (pe_fld (pv 0) rfl) (pa_cons (pe_fld (pv 0) rfl) (pa_cons (pe_fld (pv 0) rfl) (pa_cons (pe_fld (pv 0) rfl) (pa_cons (pe_fld (pv 0) rfl) pa_nil))))))))), ?_⟩
    refine ⟨_, rfl, a, T.cSale, dx, _, _, rfl, h1, T.CSale, T.nS_scaled, sf_scaled _ _ _ _, da, _, rfl, h2, fun H1 p ts s1 np nts pts hp pr => ?_⟩
    have h1' := s1 _ _ h1
    refine ⟨_, rfl, a, T.cSale, dx, _, _, rfl, h1', T.CSale, T.nS_told_price, sf_price _ _ _ _, _, rfl, a, T.cSale, dx, _, _, rfl, h1', T.CSale, T.nS_buyers, sf_buyers _ _ _ _, _, rfl, a, T.cSale, dx, _, _, rfl, h1', T.CSale, T.nS_to, sf_to _ _ _ _,
      _, rfl, a, T.cSale, dx, _, _, rfl, h1', T.CSale, T.nS_move, sf_move _ _ _ _, _, rfl, a, T.cSale, dx, _, _, rfl, h1', T.CSale, T.nS_drop, sf_drop _ _ _ _, _, rfl, a, T.cSale, dx, _, _, rfl, h1', T.CSale, T.nS_least, sf_least _ _ _ _, (by show 7 ≤ sizeLine; decide), fun t nt => ?_⟩
    have s2 : Same H1 (upd H1 t (.tup [.ref p, .int M.price, .ref b, .str M.to, .str M.move, .int M.step, .int M.floor])) := same_new nt
    exact k _ t p b (Same.trans s1 s2) upd_same (RowsAt.ext (.same s2) ⟨ts, hp, tups_rowK pr⟩) (h3.ext (.same (Same.trans s1 s2)))
/-- a new sale of M, as made -/
def NewSale (H H' : Hp) (x : Addr) (M : MD) : Prop := ∃ o, Same H H' ∧ H x = none ∧ H o = none ∧ SaleAt T H' x M o ∧ OutAt H' o []
def spUndone : Sp := fun vs H Q _ => ∃ (s o : Addr) (M : MD) (outs : List Str), vs = [.ref s] ∧ Rd1 T H s o M outs ∧ ∀ H' x o', Same H H' → H x = none → H o' = none → SaleAt T H' x M o' → OutAt H' o' [] → Q (.ref x) H'
theorem sale_kb : ∃ its : List Value, KBn K T.dSaleInit pSaleInit 4 ["to", "move", "step", "floor"] (fun us ws => us ++ ws) (fun vs zs => vs ++ zs) := by
  have h := FunD.kbindsD (ps := pSaleInit) T.FSaleInit 4 ["to", "move", "step", "floor"] (fun us its ws => us ++ ws) (by simp) (fun r1 _ r3 => r1.append r3) (fun S kV doc pm an cdv ct us its ws h1 h2 h3 => match us, h1, its, h2, ws, h3 with
    | [_, _, _, _], _, [_, _, _, _], _, [_, _, _, _], _ => ⟨_, rfl, rfl⟩)
  exact h
theorem ok_undone : FnOk P w K mg base CX0 7 T.fSaleUndone T.dSaleUndone pSaleUndone (spUndone T) := by
  have GT : FnOk P w K mg base CX0 1 T.fSaleTold T.dSaleTold pSaleTold (spTold T) := ok_told T
  have GS : FnOk P w K mg base CX0 5 T.fSaleInit T.dSaleInit pSaleInit (spSale T) := ok_sale T
  obtain ⟨its, kb⟩ := sale_kb T
  refine T.FSaleUndone.ok scSaleUndone (fun vs H Q E h => ?_) (fun cdv A outer s H vs Q E hr h => ?_)
  · obtain ⟨a, o, M, outs, rfl, _⟩ := h; rfl
  · obtain ⟨a, o, M, outs, rfl, hr1, k⟩ := h
    have hr1' := hr1
    obtain ⟨⟨dx, da, b, h1, h2, h3, h4⟩, ho, hM, hl⟩ := hr1
    have hr2 : Room 1 _ := hr.mono (by decide)
    refine ⟨_, (pss_cons (ps_asg (pe_meth0 (pv 0) T.CSale T.mSaleTold GT hr2 T.bSaleTold .nil pass0)
        (pg_tup rfl (pgs_cons (pg_name (i := 1) scSaleUndone.nd rfl (Or.inl rfl)) (pgs_cons (pg_name (i := 2) scSaleUndone.nd rfl (Or.inl rfl)) (pgs_cons (pg_name (i := 3) scSaleUndone.nd rfl (Or.inl rfl)) (pgs_cons (pg_name (i := 4) scSaleUndone.nd rfl (Or.inl rfl)) (pgs_cons (pg_name (i := 5) scSaleUndone.nd rfl (Or.inl rfl)) (pgs_cons (pg_name (i := 6) scSaleUndone.nd rfl (Or.inl rfl)) (pgs_cons (pg_name (i := 7) scSaleUndone.nd rfl (Or.inl rfl)) pgs_nil)))))))))
      (pss_one (ps_ret (pe_makeN (n := 3) T.MSale GS hr (by rfl) T.gSale kb pass0 (pa_cons (pv 1) (pa_cons (pv 2) (pa_cons (pv 3) pa_nil))) (pk_cons (pv 4) (pk_cons (pv 5) (pk_cons (pv 6) (pk_cons (pv 7) pk_nil)))))))), ?_⟩
    refine ⟨_, rfl, a, dx, _, rfl, h1, sf_no _ _ _ _ (by decide +kernel), a, o, M, outs, rfl, hr1', fun H1 t p b' s1 ht hp hb => ?_⟩
    refine ⟨t, _, rfl, SqT.of ht, rfl, _, _, rfl, _, _, rfl, _, _, rfl, _, _, rfl, _, _, rfl, _, _, rfl, _, _, rfl, rfl, ?_⟩
    refine ⟨_, rfl, _, rfl, _, rfl, _, rfl, _, rfl, _, rfl, _, rfl, rfl, rfl, fun x dy nx ndy hne => ?_⟩
    have s2 : Same H1 (upd (upd H1 dy (.own x)) x (.ins T.cSale dy [])) := same_upd (same_new ndy) nx
    refine ⟨x, dy, p, b', M, rfl, upd_same, hp.ext (.same s2), hb.ext (.same s2), hM, fun H3 o' f3 no hs3 ho3 => ⟨rfl, ?_⟩⟩
    have n1 : o' ≠ x := fun z => by rw [z, upd_same] at no; cases no
    have n2 : H1 o' = none := by
      rw [upd_ne n1] at no
      by_cases c : o' = dy
      · rw [c, upd_same] at no; cases no
      · rw [upd_ne c] at no; exact no
    refine k H3 x o' (fun c u e => ?_) (s1.free nx) (s1.free n2) hs3.at_ ho3
    have e1 := s1 _ _ e
    exact f3 _ _ (ne_of_none e1 nx) (s2 _ _ e1)
end
end Kx
set_option maxHeartbeats 4000000
namespace Kx
open PySem PySem.Spec PyProof.Rows L2
def numS (i : Int) : Str := (toString i : String)
theorem numS_len {i : Int} {k : Nat} (hk : 0 < k) (h0 : 0 ≤ i) (h : i < 10 ^ k) : (numS i).length ≤ k := by
  obtain ⟨n, rfl⟩ := Int.eq_ofNat_of_zero_le h0
  have e := TL.tl_num n
  have l := TL.numL_len (n := n) hk (by
    have : ((n : Nat) : Int) < ((10 ^ k : Nat) : Int) := by
      rw [Int.natCast_pow]
      exact h
    omega)
  have e2 : (numS (n : Int)).cps.toList = TL.numL n := e
  show (numS (n : Int)).cps.size ≤ k
  rw [← Array.length_toList, e2]
  exact l
theorem log_small {i : Int} (h0 : 0 ≤ i) (h : i < 10 ^ 12) : i.natAbs.log2 < 1920 := by
  refine Nat.lt_of_lt_of_le (PySem.Flt.log2_lt_of (k := 40) (by decide) ?_) (by decide)
  have e : (2 : Nat) ^ 40 = 1099511627776 := by decide
  have e2 : (10 : Int) ^ 12 = 1000000000000 := by decide
  omega
theorem weight_le {M : MD} {outs : List Str} (h : M.Ok) : weightF M outs ≤ 60000000000 := by
  unfold weightF standF
  have h1 := sum_le (b := 1000000000) (l := (M.nets.filter fun p => !decide (p.1 ∈ outs)).map (·.2)) fun x hx => by
    obtain ⟨p, hp, rfl⟩ := List.mem_map.mp hx
    exact h.nets.hi p (List.mem_filter.mp hp).1
  have h2 := List.length_filter_le (fun p : Str × Int => !decide (p.1 ∈ outs)) M.nets
  have h3 := h.nets.le
  rw [List.length_map] at h1
  omega
def textOf (M : MD) (outs : List Str) : Str := numS (weightF M outs) ++ " at " ++ numS (pricedOf M outs) ++ " to " ++ numS (M.shares.length : Nat)
theorem textOf_len {M : MD} {outs : List Str} (h : M.Ok) : (textOf M outs).length ≤ 100 := by
  have w0 := standF_nonneg (outs := outs) h
  have w1 := weight_le (outs := outs) h
  obtain ⟨p0, p1⟩ := priced_range (outs := outs) h
  have e12 : (10 : Int) ^ 12 = 1000000000000 := by decide
  have l1 := numS_len (i := weightF M outs) (k := 12) (by decide) w0 (by omega)
  have l2 := numS_len (i := pricedOf M outs) (k := 12) (by decide) p0 (by omega)
  have l3 := numS_len (i := (M.shares.length : Nat)) (k := 12) (by decide) (by omega) (by
    have := h.shares.le
    omega)
  unfold textOf
  rw [Str.length_append, Str.length_append, Str.length_append, Str.length_append]
  have a1 : (" at " : Str).length = 4 := by decide +kernel
  have a2 : (" to " : Str).length = 4 := by decide +kernel
  omega
section
variable {P : Program} {w : World} {K : PySem.W.Frag} {mg : Str → Option Value} {base : Heap} (T : Txt K mg w)
def spStr : Sp := fun vs H Q _ => ∃ (s o : Addr) (M : MD) (outs : List Str), vs = [.ref s] ∧ Rd1 T H s o M outs ∧ ∀ H', Same H H' → Q (.str (textOf M outs)) H'
theorem ok_str : FnOk P w K mg base CX0 5 T.fSaleStr T.dSaleStr pSaleStr (spStr T) := by
  have GW : FnOk P w K mg base CX0 2 T.fSaleWeight T.dSaleWeight pSaleWeight (spWeight T) := ok_weight T
  have GP : FnOk P w K mg base CX0 4 T.fSaleMovedPrice T.dSaleMovedPrice pSaleMovedPrice (spPriced T) := ok_priced T
  refine T.FSaleStr.ok scSaleStr (fun vs H Q E h => ?_) (fun cdv A outer s H vs Q E hr h => ?_)
  · obtain ⟨a, o, M, outs, rfl, _⟩ := h; rfl
  · obtain ⟨a, o, M, outs, rfl, hr1, k⟩ := h
    have hr1' := hr1
    obtain ⟨⟨dx, da, b, h1, h2, h3, h4⟩, ho, hM, hl⟩ := hr1
    obtain ⟨bs, b1, b2⟩ := h3
    refine ⟨_, pss_one (ps_ret (pe_joined (.cons (pe_fmt (pe_meth0 (pv 0) T.CSale T.mSaleWeight GW (hr.mono (by decide)) T.bSaleWeight .nil pass0)) (.cons pe_str (.cons (pe_fmt (pe_meth0 (pv 0) T.CSale T.mSaleMovedPrice GP hr T.bSaleMovedPrice .nil pass0)) (.cons pe_str
      (.cons (pe_fmt (pe_callB call_len (by rfl) T.zLen boot_len (pa_cons (pe_fld (pv 0) rfl) pa_nil))) .nil))))))), ?_⟩
    have w0 := standF_nonneg (outs := outs) hM
    have w1 := weight_le (outs := outs) hM
    obtain ⟨p0, p1⟩ := priced_range (outs := outs) hM
    have e12 : (10 : Int) ^ 12 = 1000000000000 := by decide
    have hsl := hM.shares.le
    have tl := textOf_len (outs := outs) hM
    have bb : ∀ {x y : Str}, (x ++ y).length ≤ 100 → x.length ≤ 100 := fun {x y} h => by rw [Str.length_append] at h; omega
    unfold textOf at tl
    have z100 : (100 : Nat) ≤ sizeLine := by decide
    have t4 := bb tl
    have t3 := bb t4
    have t2 := bb t3
    have t1 := bb t2
    refine ⟨_, rfl, a, dx, _, rfl, h1, sf_no _ _ _ _ (by decide +kernel), a, o, M, outs, rfl, hr1', fun H1 s1 => .inr ⟨_, rfl, log_small w0 (by omega), _, rfl, ?_, ?_⟩⟩
    · rw [Str.empty_append]
      exact Nat.le_trans t1 z100
    refine ⟨_, rfl, ?_, ?_⟩
    · rw [Str.empty_append]
      exact Nat.le_trans t2 z100
    refine ⟨_, rfl, a, dx, _, rfl, s1 _ _ h1, sf_no _ _ _ _ (by decide +kernel), a, o, M, outs, rfl, hr1'.same s1, fun H2 s2 => .inr ⟨_, rfl, log_small p0 (by omega), _, rfl, ?_, ?_⟩⟩
    · rw [Str.empty_append]
      exact Nat.le_trans t3 z100
    refine ⟨_, rfl, ?_, ?_⟩
    · rw [Str.empty_append]
      exact Nat.le_trans t4 z100
    have s12 := s1.trans s2
    have bl : bs.length = M.shares.length := b2.1
    refine ⟨_, rfl, a, T.cSale, dx, _, _, rfl, s12 _ _ h1, T.CSale, T.nS_buyers, sf_buyers _ _ _ _, _, M.shares.length, rfl, .inl ⟨_, SqL.of (s12 _ _ b1), by rw [List.length_map, bl]⟩, .inr ⟨_, rfl, log_small (by omega) (by omega), _, rfl, ?_, ?_⟩⟩
    · rw [Str.empty_append]
      exact Nat.le_trans tl z100
    · have kk := k H2 s12
      unfold textOf at kk
      show Q (.str (Str.empty ++ numS (weightF M outs) ++ " at " ++ numS (pricedOf M outs) ++ " to " ++ numS (M.shares.length : Nat))) H2
      rw [Str.empty_append]
      exact kk
def reprOf (M : MD) (outs : List Str) : Str := "Sale(" ++ textOf M outs ++ ")"
def spRepr : Sp := fun vs H Q _ => ∃ (s o : Addr) (M : MD) (outs : List Str), vs = [.ref s] ∧ Rd1 T H s o M outs ∧ ∀ H', Same H H' → Q (.str (reprOf M outs)) H'
theorem ok_repr : FnOk P w K mg base CX0 7 T.fSaleRepr T.dSaleRepr pSaleRepr (spRepr T) := by
  have GS : FnOk P w K mg base CX0 5 T.fSaleStr T.dSaleStr pSaleStr (spStr T) := ok_str T
  refine T.FSaleRepr.ok scSaleRepr (fun vs H Q E h => ?_) (fun cdv A outer s H vs Q E hr h => ?_)
  · obtain ⟨a, o, M, outs, rfl, _⟩ := h; rfl
  · obtain ⟨a, o, M, outs, rfl, hr1, k⟩ := h
    have hr1' := hr1
    obtain ⟨⟨dx, da, b, h1, h2, h3, h4⟩, ho, hM, hl⟩ := hr1
    refine ⟨_, pss_one (ps_ret (pe_joined (.cons pe_str (.cons (pe_fmtOwn T.fmtS GS T.bSaleStr hr pass0 (pv 0)) (.cons pe_str .nil))))), ?_⟩
    have tl := textOf_len (outs := outs) hM
    have z200 : (200 : Nat) ≤ sizeLine := by decide
    have a1 : ("Sale(" : Str).length = 5 := by decide +kernel
    have a2 : (")" : Str).length = 1 := by decide +kernel
    refine ⟨_, rfl, ?_, _, rfl, a, dx, _, rfl, h1, a, o, M, outs, rfl, hr1', fun H1 s1 => ⟨_, rfl, _, rfl, ?_, _, rfl, ?_, ?_⟩⟩
    · rw [Str.empty_append, a1]
      exact Nat.le_trans (by decide) z200
    · rw [Str.empty_append, Str.length_append, a1]
      omega
    · rw [Str.empty_append, Str.length_append, Str.length_append, a1, a2]
      omega
    · show Q (.str (Str.empty ++ "Sale(" ++ textOf M outs ++ ")")) H1
      rw [Str.empty_append]
      exact k H1 s1
end
end Kx
set_option maxHeartbeats 4000000
namespace Kx
open PySem PySem.Spec PyProof.Rows L2
section
variable {P : Program} {w : World} {K : PySem.W.Frag} {mg : Str → Option Value} {base : Heap} (T : Txt K mg w)
def spCell : Sp := fun vs H Q _ => ∃ (a : Addr) (ns : List Int) (k : Int), vs = [.ref a, .int k] ∧ SqL K H a (ns.map V.int) ∧ 0 ≤ k ∧ ∀ n, Q (.int n) H
theorem ok_cell : FnOk P w K mg base CX0 1 T.fLCellAt T.dLCellAt pLCellAt (spCell (K := K)) := by
  refine T.FLCellAt.ok scLCellAt (fun vs H Q E h => ?_) (fun cdv A outer s H vs Q E hr h => ?_)
  · obtain ⟨a, ns, k, rfl, _⟩ := h; rfl
  · obtain ⟨a, ns, n, rfl, ha, k0, k⟩ := h
    refine ⟨_, (pss_cons (ps_if (pt_cmpR op_lt (pv 1) (pe_callB call_len (by rfl) T.zLen boot_len (pa_cons (pv 0) pa_nil)) (nomark _)) (pss_one (ps_ret (pe_ix ix_list (pv 0) (pv 1) (fun _ _ => rfl)))) pss_nil)
      (pss_one (ps_ret pe_int))), ?_⟩
    refine ⟨_, rfl, _, rfl, _, ns.length, rfl, .inl ⟨_, ha, by rw [List.length_map]⟩, _, _, rfl, rfl, _, rfl, ?_⟩
    refine ite2 (fun c => ?_) (fun c => k 0)
    have c' : n < (ns.length : Int) := of_decide_eq_true c
    have hl : n.toNat < ns.length := by omega
    refine ⟨_, rfl, _, rfl, a, _, n, V.int ns[n.toNat], rfl, rfl, ha, ?_, k _⟩
    have e := atI_nat (xs := ns.map V.int) (j := n.toNat) (v := V.int ns[n.toNat]) (by rw [List.getElem?_map, List.getElem?_eq_getElem hl]; rfl)
    rw [Int.toNat_of_nonneg k0] at e
    exact e
/-- a well: a list of three numbers -/
def WellAt (H : Hp) (p : Addr) : Prop := ∃ x y z : Int, H p = some (.lst [.int x, .int y, .int z])
def spWell : Sp := fun vs H Q _ => ∃ c : Int, vs = [.int c] ∧ ∀ H' p, Same H H' → H p = none → WellAt H' p → Q (.ref p) H'
theorem ok_well : FnOk P w K mg base CX0 1 T.fLWell T.dLWell pLWell spWell := by
  refine T.FLWell.ok scLWell (fun vs H Q E h => ?_) (fun cdv A outer s H vs Q E hr h => ?_)
  · obtain ⟨c, rfl, _⟩ := h; rfl
  · obtain ⟨c, rfl, k⟩ := h
    refine ⟨_, pss_one (ps_ret (pe_lst (pa_cons (pe_op op_mul (pv 0) (pe_callTy call_int1 (by rfl) T.zInt (by decide +kernel) (pa_cons (pe_cmpR op_ge (pv 0) (pe_op op_pow pe_int pe_int) (nomark _)) pa_nil))) (pa_cons (pv 0) (pa_cons (pe_int) pa_nil))))), ?_⟩
    refine ⟨_, rfl, _, rfl, _, _, rfl, rfl, ⟨by decide, by decide, by decide⟩, _, _, rfl, rfl, .inr ⟨_, rfl, ?_⟩⟩
    refine ⟨_, _, rfl, rfl, .inr ?_, _, rfl, (by show 3 ≤ sizeLine; decide), fun p np => k _ p (same_new np) np ⟨_, _, _, upd_same⟩⟩
    split <;> decide
/-- drawing: the well is written, nothing else; the number lies below -/
def spDraw : Sp := fun vs H Q _ => ∃ (p : Addr) (m : Int), vs = [.ref p, .int m] ∧ WellAt H p ∧ 0 < m ∧ m ≤ 1000000001 ∧ ∀ H' r, FrS (fun b => b = p) H H' → WellAt H' p → 0 ≤ r → r < m → Q (.int r) H'
theorem wellAt_upd {H : Hp} {p : Addr} (x y z : Int) : WellAt (upd H p (.lst [.int x, .int y, .int z])) p := ⟨x, y, z, upd_same⟩
theorem frs_upd {H : Hp} {p : Addr} {o : HO} : FrS (fun b => b = p) H (upd H p o) := fun b u nb e => by rw [upd_ne nb]; exact e
theorem ok_draw : FnOk P w K mg base CX0 1 T.fLDraw T.dLDraw pLDraw spDraw := by
  refine T.FLDraw.ok scLDraw (fun vs H Q E h => ?_) (fun cdv A outer s H vs Q E hr h => ?_)
  · obtain ⟨p, m, rfl, _⟩ := h; rfl
  · obtain ⟨p, m, rfl, ⟨x, y, z, hp⟩, m0, m1, k⟩ := h
    refine ⟨_, (pss_cons (ps_if (pt_cmpR op_gt (pe_ix ix_list (pv 0) pe_int (fun _ _ => rfl)) pe_int (nomark _))
        (pss_cons (ps_set (i := 2) scLDraw.nd rfl (Or.inl rfl) (pe_op op_mod (pe_ix ix_list (pv 0) pe_int (fun _ _ => rfl)) (pv 1)))
      (pss_cons (ps_asg (pe_op op_fdivW (pe_ix ix_list (pv 0) pe_int (fun _ _ => rfl)) (pv 1)) (pg_sub (pv 0) pe_int set_list))
      (pss_one (ps_ret (pv 2))))) pss_nil)
      (pss_cons (ps_asg (pe_op op_add (pe_ix ix_list (pv 0) pe_int (fun _ _ => rfl)) pe_int) (pg_sub (pv 0) pe_int set_list))
      (pss_cons (ps_set (i := 3) scLDraw.nd rfl (Or.inl rfl) (pe_op op_mod (pe_op op_mul (pe_op op_add (pe_op op_add (pe_op op_mod (pe_ix ix_list (pv 0) pe_int (fun _ _ => rfl)) pe_int) (pe_op op_mul pe_int (pe_ix ix_list (pv 0) pe_int (fun _ _ => rfl)))) pe_int) pe_int) pe_int))
      (pss_cons (ps_set (i := 3) scLDraw.nd rfl (Or.inl rfl) (pe_op op_mod (pe_op op_mul (pv 3) (pe_op op_add (pe_op op_add (pe_op op_fdiv (pv 3) pe_int) pe_int) (pe_op op_mod (pe_op op_fdivW (pe_ix ix_list (pv 0) pe_int (fun _ _ => rfl)) pe_int) pe_int))) pe_int))
      (pss_one (ps_ret (pe_op op_mod (pe_op op_mod (pe_op op_mul (pe_op op_add (pv 3) (pe_op op_mul pe_int (pe_ix ix_list (pv 0) pe_int (fun _ _ => rfl)))) (pe_op op_add (pe_op op_fdiv (pv 3) pe_int) pe_int)) pe_int) (pv 1)))))))), ?_⟩
    have l0 : ∀ a b c : Int, atI [V.int a, V.int b, V.int c] 0 = some (V.int a) := fun _ _ _ => rfl
    have l1 : ∀ a b c : Int, atI [V.int a, V.int b, V.int c] 1 = some (V.int b) := fun _ _ _ => rfl
    have l2 : ∀ a b c : Int, atI [V.int a, V.int b, V.int c] 2 = some (V.int c) := fun _ _ _ => rfl
    refine ⟨_, rfl, p, _, 0, _, rfl, rfl, SqL.of hp, l0 _ _ _, _, _, rfl, rfl, _, rfl, ?_⟩
    refine ite2 (fun c => ?_) (fun c => ?_)
    · refine ⟨_, rfl, p, _, 0, _, rfl, rfl, SqL.of hp, l0 _ _ _, _, rfl, _, _, rfl, rfl, m0, ?_⟩
      refine ⟨_, rfl, p, _, 0, _, rfl, rfl, SqL.of hp, l0 _ _ _, _, rfl, _, _, rfl, rfl, ?_, ?_⟩
      · exact wide_div (b := 32) m0 (by have e : (2 : Nat) ^ 32 = 4294967296 := by decide
                                        omega) (by decide) (by decide)
      · refine ⟨_, rfl, p, _, 0, 0, rfl, rfl, hp, rfl, _, rfl, ?_⟩
        exact k _ _ frs_upd (wellAt_upd _ _ _) (Int.emod_nonneg _ (by omega)) (Int.emod_lt_of_pos _ m0)
    · refine ⟨_, rfl, p, _, 2, _, rfl, rfl, SqL.of hp, l2 _ _ _, _, _, rfl, rfl, _, rfl, p, _, 2, 2, rfl, rfl, hp, rfl, ?_⟩
      have hp' : upd H p (.lst ([V.int x, V.int y, V.int z].set 2 (V.int (z + 1)))) p = some (.lst [.int x, .int y, .int (z + 1)]) := upd_same
      refine ⟨_, rfl, p, _, 1, _, rfl, rfl, SqL.of hp', l1 _ _ _, _, _, rfl, rfl, (by show (0 : Int) < _; decide), ?_⟩
      refine ⟨_, rfl, p, _, 2, _, rfl, rfl, SqL.of hp', l2 _ _ _, _, _, rfl, rfl, .inl ⟨by decide, by decide⟩, ?_⟩
      refine ⟨_, _, rfl, rfl, _, _, rfl, rfl, _, _, rfl, rfl, .inr ⟨by decide, by decide⟩, _, _, rfl, rfl, (by show (0 : Int) < _; decide), ?_⟩
      generalize hlow : (y % 2147483647 + 104729 * (z + 1) + 1) * 48271 % 2147483647 = low
      have b0 : 0 ≤ low := by rw [← hlow]; exact Int.emod_nonneg _ (by decide)
      have b1 : low < 2147483647 := by rw [← hlow]; exact Int.emod_lt_of_pos _ (by decide)
      refine ⟨_, rfl, _, rfl, _, _, rfl, rfl, ⟨by decide, by decide⟩, _, _, rfl, rfl, _, rfl, p, _, 1, _, rfl, rfl, SqL.of hp', l1 _ _ _, _, _, rfl, rfl, wide_div (b := 32) (by decide) (by decide) (by decide) (by decide), _, _, rfl, rfl, (by show (0 : Int) < _; decide), _, _, rfl, rfl, _, _, rfl, rfl, .inl ⟨by omega, by omega⟩, _, _, rfl, rfl, (by show (0 : Int) < _; decide), ?_⟩
      generalize hlow2 : low * (low / 1009 + 69621 + y / 2147483647 % 9973) % 2147483629 = low2
      have c0 : 0 ≤ low2 := by rw [← hlow2]; exact Int.emod_nonneg _ (by decide)
      have c1 : low2 < 2147483629 := by rw [← hlow2]; exact Int.emod_lt_of_pos _ (by decide)
      have d0 : 0 ≤ low2 / 2003 := Int.ediv_nonneg c0 (by decide)
      have d1 : low2 / 2003 ≤ low2 := Int.ediv_le_self _ c0
      refine ⟨_, rfl, _, rfl, p, _, 2, _, rfl, rfl, SqL.of hp', l2 _ _ _, _, _, rfl, rfl, .inl ⟨by decide, by decide⟩, _, _, rfl, rfl, _, rfl, _, _, rfl, rfl, ⟨by decide, by decide⟩, _, _, rfl, rfl, _, _, rfl, rfl, .inr ⟨by omega, by omega⟩, _, _, rfl, rfl, (by show (0 : Int) < _; decide), _, rfl, _, _, rfl, rfl, m0, ?_⟩
      exact k _ _ frs_upd (wellAt_upd _ _ _) (Int.emod_nonneg _ (by omega)) (Int.emod_lt_of_pos _ m0)
end
end Kx
set_option maxHeartbeats 4000000
namespace Kx
open PySem PySem.Spec PyProof.Rows L2
/-! ### names -/
def isLet (c : Nat) : Prop := 97 ≤ c ∧ c ≤ 122
theorem let_at : ∀ i : Nat, i < 26 → atI ("abcdefghijklmnopqrstuvwxyz" : Str).cps.toList (i : Int) = some (97 + i) := by
  have e : ∀ i : Fin 26, atI ("abcdefghijklmnopqrstuvwxyz" : Str).cps.toList ((i.1 : Nat) : Int) = some (97 + i.1) := by decide +kernel
  exact fun i h => e ⟨i, h⟩
theorem join_lets {sep : Str} (hs : ∀ c ∈ sep.cps.toList, isLet c) : ∀ {parts : List Str}, (∀ p ∈ parts, ∀ c ∈ p.cps.toList, isLet c) → ∀ c ∈ (Str.join sep parts).cps.toList, isLet c
  | [], _, c, h => by simp [Str.join, Str.empty] at h
  | [x], hp, c, h => hp x (List.mem_cons_self ..) c h
  | x :: y :: r, hp, c, h => by
    have e : Str.join sep (x :: y :: r) = x ++ sep ++ Str.join sep (y :: r) := rfl
    rw [e, Str.cps_append, Str.cps_append, Array.toList_append, Array.toList_append] at h
    rcases List.mem_append.mp h with h | h
    · rcases List.mem_append.mp h with h | h
      · exact hp x (List.mem_cons_self ..) c h
      · exact hs c h
    · exact join_lets hs (parts := y :: r) (fun p q => hp p (List.mem_cons_of_mem _ q)) c h
theorem cutS_sub {z : Str} {lo hi : Option Int} {c : Nat} (h : c ∈ (cutS z lo hi).cps.toList) : c ∈ z.cps.toList := by
  unfold cutS at h
  simp only [List.toList_toArray] at h
  exact List.mem_of_mem_drop (List.mem_of_mem_take h)
theorem cutS_le (z : Str) (r : Nat) : (cutS z none (some (r : Int))).cps.size ≤ r := by
  unfold cutS
  rw [HT.sIx_none, HT.sIx_nat, List.size_toArray, List.length_take]
  omega
/-- the k-th name: up to six letters, then the two that tell k -/
def NameOf (st k : Nat) (z : Str) : Prop := ∃ pre : List Nat, pre.length ≤ 6 ∧ (∀ c ∈ pre, isLet c) ∧ z.cps.toList = pre ++ [97 + (st + 7 * k) % 26, 97 + k / 26]
theorem NameOf.nm {st k : Nat} {z : Str} (h : NameOf st k z) (hk : k < 60) : isNm z := by
  obtain ⟨pre, h1, h2, h3⟩ := h
  have l := congrArg List.length h3
  rw [Array.length_toList, List.length_append] at l
  simp at l
  refine ⟨by omega, by omega, fun c hc => ?_⟩
  rw [h3] at hc
  rcases List.mem_append.mp hc with q | q
  · exact h2 c q
  · simp at q
    rcases q with rfl | rfl <;> omega
theorem NameOf.inj {st j k : Nat} {z : Str} (h1 : NameOf st j z) (h2 : NameOf st k z) (hj : j < 60) (hk : k < 60) : j = k := by
  obtain ⟨p, _, _, a⟩ := h1
  obtain ⟨q, _, _, b⟩ := h2
  rw [a] at b
  have l := congrArg List.length b
  simp only [List.length_append, List.length_cons, List.length_nil] at l
  have e := List.append_inj_right b (by omega)
  simp only [List.cons.injEq, and_true] at e
  omega
theorem names_nd {st : Nat} {ns : List Str} (hl : ns.length ≤ 60) (h : ∀ (j : Nat) z, ns[j]? = some z → NameOf st j z) : ns.Nodup := by
  refine List.pairwise_iff_getElem.mpr fun i j hi hj hij e => ?_
  have e1 : ns[i]? = some ns[j] := by rw [← e, List.getElem?_eq_getElem hi]
  have e2 : ns[j]? = some ns[j] := List.getElem?_eq_getElem hj
  have := (h i _ e1).inj (h j _ e2) (by omega) (by omega)
  omega
theorem txt_join (sep : Str) (l : List Str) : PySem.Txt.join sep l = Str.join sep l := StrLaws.glued_eq_join sep l
theorem join_len (sep : Str) : ∀ parts : List Str, (Str.join sep parts).length ≤ (parts.map (·.length)).sum + parts.length * sep.length
  | [] => by simp [Str.join, Str.empty, Str.length]
  | [x] => by simp [Str.join]
  | x :: y :: r => by
    have ih := join_len sep (y :: r)
    have e : Str.join sep (x :: y :: r) = x ++ sep ++ Str.join sep (y :: r) := rfl
    rw [e, Str.length_append, Str.length_append, List.map_cons, List.sum_cons, List.length_cons, Nat.succ_mul]
    omega
section
variable {P : Program} {w : World} {K : PySem.W.Frag} {mg : Str → Option Value} {base : Heap} (T : Txt K mg w)
/-- only the well at p is written -/
abbrev Wl (p : Addr) : Addr → Prop := fun b => b = p
theorem WellAt.fr {H H' : Hp} {p : Addr} (h : WellAt H p) (f : Same H H') : WellAt H' p := by
  obtain ⟨x, y, z, e⟩ := h
  exact ⟨x, y, z, f _ _ e⟩
theorem WellAt.new {H : Hp} {p q : Addr} {o : HO} (h : WellAt H p) (n : H q = none) : WellAt (upd H q o) p := h.fr (same_new n)
theorem WellAt.ne {H : Hp} {p q : Addr} (h : WellAt H p) (n : H q = none) : p ≠ q := by
  obtain ⟨x, y, z, e⟩ := h
  exact ne_of_none e n
def GoodNames (ns : List Str) : Prop := (∀ z ∈ ns, isNm z) ∧ ns.Nodup
def spNames : Sp := fun vs H Q _ => ∃ (p : Addr) (n : Nat), vs = [.ref p, .int n] ∧ WellAt H p ∧ 1 ≤ n ∧ n ≤ 60 ∧ ∀ H' q ns, FrS (Wl p) H H' → WellAt H' p → H q = none → H' q = some (.lst (ns.map V.str)) → ns.length = n → GoodNames ns → Q (.ref q) H'
theorem ok_names : FnOk P w K mg base CX0 2 T.fLNames T.dLNames pLNames spNames := by
  have GD : FnOk P w K mg base CX0 1 T.fLDraw T.dLDraw pLDraw spDraw := ok_draw T
  refine T.FLNames.ok scLNames (fun vs H Q E h => ?_) (fun cdv A outer s H vs Q E hr h => ?_)
  · obtain ⟨p, n, rfl, _⟩ := h; rfl
  · obtain ⟨p, n, rfl, hw, n1, n60, k⟩ := h
    refine ⟨_, (pss_cons (ps_set (i := 2) scLNames.nd rfl (Or.inr rfl) pe_str)
      (pss_cons (ps_set (i := 3) scLNames.nd rfl (Or.inl rfl) (pe_call GD hr (by rfl) T.gLDraw T.FLDraw.kp T.bLDraw .nil pass0 (pa_cons (pv 0) (pa_cons (pe_int) pa_nil))))
      (pss_cons (ps_set (i := 5) scLNames.nd rfl (Or.inl rfl) (pe_join pe_str (pe_lc (own := [("_law_k", 4)]) (g := gName 4) (tt := tYes) (te := tOp rIxS (tVar 2) (tCall spDraw [] E0 (tCons (tVar 0) (tCons (tC (.int 26)) tNil)))) rfl scLNames.nd (pi_range1 (by rfl) T.zRange (pa_cons (pe_int) pa_nil)) (blkOk_by (N := nLNames) (sc := defScope sLNames) (by decide +kernel))
          (fun _ _ _ _ _ => pg_name (i := 4) scLNames.nd rfl (Or.inl rfl)) (fun _ _ _ _ _ => pts_nil)
          (fun _ _ _ _ _ => pe_ix ix_str (pv 2) (pe_call GD hr (by rfl) T.gLDraw T.FLDraw.kp T.bLDraw .nil pass0 (pa_cons (pv 0) (pa_cons (pe_int) pa_nil))) (fun _ _ => rfl)))))
      (pss_cons (ps_set (i := 6) scLNames.nd rfl (Or.inl rfl) (pe_lst pa_nil))
      (pss_cons (ps_for PassesOwn.never rfl (pi_range1 (by rfl) T.zRange (pa_cons (pv 1) pa_nil)) (pg_name (i := 4) scLNames.nd rfl (Or.inl rfl))
        (pss_one (ps_expr (pe_bm PySem.F.plainAttrs_list PySem.F.slot_list_append PySem.F.type_list_append mt_append (pv 6)
          (pa_cons (pe_op op_add_str (pe_op op_add_str (pe_slice sl_str (pv 5) po_none (po_some (pe_call GD hr (by rfl) T.gLDraw T.FLDraw.kp T.bLDraw .nil pass0 (pa_cons (pv 0) (pa_cons (pe_int) pa_nil)))))
              (pe_ix ix_str (pv 2) (pe_op op_mod (pe_op op_add (pv 3) (pe_op op_mul pe_int (pv 4))) pe_int) (fun _ _ => rfl)))
            (pe_ix ix_str (pv 2) (pe_op op_fdiv (pv 4) pe_int) (fun _ _ => rfl))) pa_nil)))))
      (pss_one (ps_ret (pv 6)))))))), ?_⟩
    have z26 : ("abcdefghijklmnopqrstuvwxyz" : Str).length ≤ sizeLine := by decide +kernel
    refine ⟨_, rfl, p, 26, rfl, hw, by decide, by decide, fun H1 st f1 w1 st0 st26 => ?_⟩
    obtain ⟨stn, rfl⟩ := Int.eq_ofNat_of_zero_le st0
    refine ⟨⟨_, rfl⟩, 6, rfl, by decide, by decide, fun D hD => ?_⟩
    have pD : p ≠ D := w1.ne hD
    refine lr_st (lo := 0) (n := Int.toNat 6) (Wl p) hD (fun i ys H' => WellAt H' p ∧ ∃ cs : List Nat, ys = (cs.map fun c => (⟨#[c]⟩ : Str)).map V.str ∧ (∀ c ∈ cs, isLet c)) ⟨w1.new hD, [], rfl, fun c hc => by cases hc⟩ (fun i ys H2 hi f2 d2 l2 ⟨w2, cs, e1, e2⟩ => ?_) fun ys H2 f2 d2 l2 ⟨w2, cs, e1, e2⟩ => ?_
    · refine ⟨rfl, _, rfl, _, rfl, p, 26, rfl, w2, by decide, by decide, fun H3 r f3 w3 r0 r26 => ?_⟩
      obtain ⟨rn, rfl⟩ := Int.eq_ofNat_of_zero_le r0
      refine ⟨_, _, _, rfl, rfl, z26, let_at rn (by omega), ?_⟩
      have nd : ¬ Wl p D := fun z => pD z.symm
      have d3 : H3 D = some (.lst ys) := f3 D _ (fun z => pD z.symm) d2
      refine lc_put hD nd (by rw [sizeLine_eq]; have : Int.toNat 6 = 6 := rfl; omega) f2 d2 l2 f3 ⟨?_, cs ++ [97 + rn], ?_, ?_⟩
      · obtain ⟨x, y, z, e⟩ := w3
        exact ⟨x, y, z, by rw [upd_ne pD]; exact e⟩
      · rw [e1, List.map_append, List.map_append]
        rfl
      · intro c hc
        rcases List.mem_append.mp hc with q | q
        · exact e2 c q
        · simp at q
          subst q
          exact ⟨by omega, by omega⟩
    · rw [e1, List.length_map, List.length_map] at l2
      have l6 : cs.length ≤ 6 := l2
      rw [e1] at d2
      have sums : ∀ l : List Nat, ((l.map fun c => (⟨#[c]⟩ : Str)).map (·.length)).sum = l.length := fun l => by
        induction l with
        | nil => rfl
        | cons c l ih =>
          rw [List.map_cons, List.map_cons, List.sum_cons, ih, List.length_cons]
          show 1 + l.length = l.length + 1
          omega
      refine ⟨_, D, _, rfl, rfl, .inl (SqL.of d2), ?_, ?_⟩
      · rw [sums, List.length_map]
        have : ("" : Str).length = 0 := by decide +kernel
        rw [this]
        omega
      have hst : ∀ c ∈ (Str.join "" (cs.map fun c => (⟨#[c]⟩ : Str))).cps.toList, isLet c := join_lets (fun c hc => by
        have : ("" : Str).cps.toList = [] := by decide +kernel
        rw [this] at hc
        cases hc) fun z hz c hc => by
          obtain ⟨c', hc', rfl⟩ := List.mem_map.mp hz
          simp at hc
          subst hc
          exact e2 c hc'
      have hlen : (PySem.Txt.join "" (cs.map fun c => (⟨#[c]⟩ : Str))).length ≤ sizeLine := by
        rw [txt_join]
        have := join_len "" (cs.map fun c => (⟨#[c]⟩ : Str))
        rw [sums, List.length_map] at this
        have e0 : ("" : Str).length = 0 := by decide +kernel
        rw [e0] at this
        rw [sizeLine_eq]
        omega
      have hst' : ∀ c ∈ (PySem.Txt.join "" (cs.map fun c => (⟨#[c]⟩ : Str))).cps.toList, isLet c := by rw [txt_join]; exact hst
      generalize PySem.Txt.join "" (cs.map fun c => (⟨#[c]⟩ : Str)) = stem at *
      refine ⟨Nat.zero_le _, fun F nF => ?_⟩
      have pF : p ≠ F := w2.ne nF
      have f3 : FrS (Wl p) H (upd H2 F (.lst [])) := (f1.trans f2).upd (.inr (FrS.back (fun z => pF z.symm) (f1.trans f2) nF))
      have nF0 : H F = none := FrS.back (fun z => pF z.symm) (f1.trans f2) nF
      refine ⟨_, rfl, n, rfl, by omega, by omega, ?_⟩
      have en : ((n : Nat) : Int).toNat = n := by omega
      rw [en]
      refine for_range (lo := 0) (n := n) (fun i σ H' => ∃ u zs, σ = [some (.ref p), some (.int n), some (.str "abcdefghijklmnopqrstuvwxyz"), some (.int stn), u, some (.str stem), some (.ref F)] ∧ FrS (Wl p) H H' ∧ WellAt H' p ∧ H' F = some (.lst (zs.map V.str)) ∧ zs.length = i ∧ ∀ (j : Nat) z, zs[j]? = some z → NameOf stn j z)
        ⟨none, [], rfl, f3, w2.new nF, upd_same, rfl, fun j z h => by simp at h⟩ ?_ ?_
      · rintro i σ H3 hi ⟨u, zs, rfl, g3, w3, d3, l3, n3⟩
        refine ⟨_, rfl, .inl ⟨rfl, _, SqL.of d3⟩, ?_⟩
        refine ⟨_, rfl, _, rfl, p, 7, rfl, w3, by decide, by decide, fun H4 r f4 w4 r0 r7 => ?_⟩
        obtain ⟨rn, rfl⟩ := Int.eq_ofNat_of_zero_le r0
        have d4 : H4 F = some (.lst (zs.map V.str)) := f4 F _ (fun z => pF z.symm) d3
        have q1 : (stn + 7 * i) % 26 < 26 := Nat.mod_lt _ (by decide)
        have a1 : ((stn : Int) + 7 * (0 + (i : Int))) % 26 = (((stn + 7 * i) % 26 : Nat) : Int) := by omega
        have a2 : (0 + (i : Int)) / 26 = ((i / 26 : Nat) : Int) := by omega
        have cl := cutS_le stem rn
        have clen : (cutS stem none (some (rn : Int))).length ≤ 6 := by show (cutS stem none (some (rn : Int))).cps.size ≤ 6; omega
        have one1 : ∀ c : Nat, (⟨#[c]⟩ : Str).length = 1 := fun _ => rfl
        refine ⟨_, rfl, _, rfl, hlen, _, rfl, _, rfl, _, rfl, _, _, rfl, rfl, .inl ⟨by decide, by decide⟩, _, _, rfl, rfl, _, _, rfl, rfl, (by show (0 : Int) < 26; decide), _, _, _, rfl, rfl, z26, (by rw [a1]; exact let_at _ q1), ?_⟩
        refine ⟨_, _, rfl, rfl, by rw [one1, sizeLine_eq]; omega, _, rfl, _, rfl, _, _, rfl, rfl, ⟨by decide, by decide⟩, _, _, _, rfl, rfl, z26, (by rw [a2]; exact let_at _ (by omega)), ?_⟩
        refine ⟨_, _, rfl, rfl, by rw [Str.length_append, one1, one1, sizeLine_eq]; omega, F, _, _, rfl, rfl, d4, by rw [List.length_map, sizeLine_eq]; omega, ?_⟩
        refine ⟨_, zs ++ [cutS stem none (some (rn : Int)) ++ ⟨#[97 + (stn + 7 * i) % 26]⟩ ++ ⟨#[97 + i / 26]⟩], rfl, (g3.trans f4).upd (.inr nF0), ?_, ?_, by rw [List.length_append, l3]; rfl, fun j z hj => ?_⟩
        · obtain ⟨x, y, z, e⟩ := w4
          exact ⟨x, y, z, by rw [upd_ne pF]; exact e⟩
        · rw [upd_same, List.map_append]
          rfl
        · by_cases hji : j < zs.length
          · rw [List.getElem?_append_left hji] at hj
            exact n3 j z hj
          · have hj2 : j < (zs ++ [cutS stem none (some (rn : Int)) ++ ⟨#[97 + (stn + 7 * i) % 26]⟩ ++ ⟨#[97 + i / 26]⟩]).length := (List.getElem?_eq_some_iff.mp hj).1
            rw [List.length_append, List.length_singleton] at hj2
            have hj3 : j = zs.length := by omega
            subst hj3
            rw [List.getElem?_append_right (Nat.le_refl _), Nat.sub_self] at hj
            obtain rfl := Option.some.inj hj
            rw [l3]
            refine ⟨(cutS stem none (some (rn : Int))).cps.toList, by rw [Array.length_toList]; omega, fun c hc => hst' c (cutS_sub hc), ?_⟩
            rw [Str.cps_append, Str.cps_append, Array.toList_append, Array.toList_append]
            simp
      · rintro σ H3 ⟨u, zs, rfl, g3, w3, d3, l3, n3⟩
        exact ⟨_, rfl, k H3 F zs g3 w3 nF0 d3 l3 ⟨fun z hz => by
          obtain ⟨j, hj⟩ := List.mem_iff_getElem?.mp hz
          have := (List.getElem?_eq_some_iff.mp hj).1
          exact (n3 j z hj).nm (by omega), names_nd (by omega) n3⟩⟩
end
end Kx
set_option maxHeartbeats 4000000
namespace Kx
open PySem PySem.Spec PyProof.Rows L2
theorem at_pick {xs : List V} {r : Int} (h0 : 0 ≤ r) (h1 : r < xs.length) : ∃ v, atI xs r = some v ∧ v ∈ xs := by
  obtain ⟨n, rfl⟩ := Int.eq_ofNat_of_zero_le h0
  have hl : n < xs.length := by omega
  exact ⟨xs[n], atI_nat (List.getElem?_eq_getElem hl), List.getElem_mem hl⟩
theorem rows_ne_well {H : Hp} {q p : Addr} {rows : Rows} (h : RowsAt H q rows) (hw : WellAt H p) : q ≠ p := by
  rintro rfl
  obtain ⟨ts, h1, _⟩ := h
  obtain ⟨x, y, z, h2⟩ := hw
  rw [h1] at h2
  have e : ts.map V.ref = [.int x, .int y, .int z] := by
    injection h2 with h2
    injection h2
  cases ts with
  | nil => cases e
  | cons t ts =>
    rw [List.map_cons] at e
    injection e with e _
    cases e
theorem RowsAt.well {H H' : Hp} {q p : Addr} {rows : Rows} (h : RowsAt H q rows) (hw : WellAt H p) (f : FrS (Wl p) H H') : RowsAt H' q rows := by
  have n := rows_ne_well h hw
  obtain ⟨ts, h1, h2⟩ := h
  refine ⟨ts, f _ _ n h1, h2.1, fun i t r e1 e2 => ?_⟩
  have ht := h2.2 i t r e1 e2
  obtain ⟨x, y, z, h3⟩ := hw
  exact f _ _ (fun z => by rw [show t = p from z, h3] at ht; cases ht) ht
theorem wl_ne {H : Hp} {p q : Addr} (hw : WellAt H p) (n : H q = none) : ¬ Wl p q := fun z => hw.ne n (show q = p from z).symm
theorem FrS.new {H H1 : Hp} {p q : Addr} {o : HO} (f : FrS (Wl p) H H1) (hw : WellAt H1 p) (n : H1 q = none) : FrS (Wl p) H (L2.upd H1 q o) := f.upd (.inr (FrS.back (wl_ne hw n) f n))
theorem WellAt.put {H : Hp} {p q : Addr} {o : HO} (h : WellAt H p) (n : p ≠ q) : WellAt (upd H q o) p := by
  obtain ⟨x, y, z, e⟩ := h
  exact ⟨x, y, z, by rw [upd_ne n]; exact e⟩
section
variable {P : Program} {w : World} {K : PySem.W.Frag} {mg : Str → Option Value} {base : Heap} (T : Txt K mg w)
def spShares : Sp := fun vs H Q _ => ∃ p : Addr, vs = [.ref p] ∧ WellAt H p ∧ ∀ H' q rows, FrS (Wl p) H H' → WellAt H' p → RowsAt H' q rows → RowsOk 0 1000000 24 rows → Q (.ref q) H'
theorem ok_shares : FnOk P w K mg base CX0 3 T.fLShares T.dLShares pLShares spShares := by
  have GD : FnOk P w K mg base CX0 1 T.fLDraw T.dLDraw pLDraw spDraw := ok_draw T
  have GN : FnOk P w K mg base CX0 2 T.fLNames T.dLNames pLNames spNames := ok_names T
  refine T.FLShares.ok scLShares (fun vs H Q E h => ?_) (fun cdv A outer s H vs Q E hr h => ?_)
  · obtain ⟨p, rfl, _⟩ := h; rfl
  · obtain ⟨p, rfl, hw, k⟩ := h
    have hr1 : Room 1 _ := hr.mono (by decide)
    refine ⟨_, (pss_cons (ps_set (i := 1) scLShares.nd rfl (Or.inl rfl) (pe_call GN hr (by rfl) T.gLNames T.FLNames.kp T.bLNames .nil pass0 (pa_cons (pv 0) (pa_cons (pe_ix ix_list (pe_lst (pa_cons (pe_op op_add pe_int (pe_call GD hr1 (by rfl) T.gLDraw T.FLDraw.kp T.bLDraw .nil pass0 (pa_cons (pv 0) (pa_cons (pe_int) pa_nil)))) (pa_cons (pe_op op_add pe_int (pe_call GD hr1 (by rfl) T.gLDraw T.FLDraw.kp T.bLDraw .nil pass0 (pa_cons (pv 0) (pa_cons (pe_int) pa_nil)))) pa_nil))) (pe_call GD hr1 (by rfl) T.gLDraw T.FLDraw.kp T.bLDraw .nil pass0 (pa_cons (pv 0) (pa_cons (pe_int) pa_nil))) (fun _ _ => rfl)) pa_nil))))
      (pss_cons (ps_set (i := 2) scLShares.nd rfl (Or.inr rfl) (pe_ix ix_list (pe_lst (pa_cons (pe_int) (pa_cons (pe_int) (pa_cons (pe_int) (pa_cons (pe_op op_add (pe_op op_pow pe_int pe_int) pe_int) pa_nil))))) (pe_call GD hr1 (by rfl) T.gLDraw T.FLDraw.kp T.bLDraw .nil pass0 (pa_cons (pv 0) (pa_cons (pe_int) pa_nil))) (fun _ _ => rfl)))
      (pss_cons (ps_setLc (i := 3) (own := [("_law_who", 5)]) (g := gName 5) (tt := tYes) (te := tCall spDraw [] E0 (tCons (tVar 0) (tCons (tVar 2) tNil))) rfl scLShares.nd rfl rfl (sw_true rfl rfl rfl (by decide +kernel)) (pi_list (pv 1)) (blkOk_by (N := nLShares) (sc := defScope sLShares) (by decide +kernel))
          (fun _ _ _ _ _ => pg_name (i := 5) scLShares.nd rfl (Or.inl rfl)) (fun _ _ _ _ _ => pts_nil) (fun _ _ _ _ _ => pe_call GD hr1 (by rfl) T.gLDraw T.FLDraw.kp T.bLDraw .nil pass0 (pa_cons (pv 0) (pa_cons (pv 2) pa_nil))))
      (pss_cons (ps_set (i := 4) scLShares.nd rfl (Or.inl rfl) (pe_call GD hr1 (by rfl) T.gLDraw T.FLDraw.kp T.bLDraw .nil pass0 (pa_cons (pv 0) (pa_cons (pe_callB call_len (by rfl) T.zLen boot_len (pa_cons (pv 1) pa_nil)) pa_nil))))
      (pss_cons (ps_asg (pe_callB (call_max2 rfl) (by rfl) T.zMax boot_max (pa_cons (pe_int) (pa_cons (pe_ix ix_list (pv 3) (pv 4) (fun _ _ => rfl)) pa_nil))) (pg_sub (pv 3) (pv 4) set_list))
      (pss_one (ps_ret (pe_listZip rfl (by rfl) T.zList (by rfl) T.zZip (pv 1) (pv 3))))))))), ?_⟩
    -- the names
    refine ⟨_, rfl, _, rfl, p, 5, rfl, hw, by decide, by decide, fun H1 r1 f1 w1 r10 r11 => ⟨_, _, rfl, rfl, _, rfl, p, 24, rfl, w1, by decide, by decide, fun H2 r2 f2 w2 r20 r21 => ⟨_, _, rfl, rfl, (by show 2 ≤ sizeLine; decide), fun l nl => ?_⟩⟩⟩
    refine ⟨_, rfl, p, 2, rfl, w2.new nl, by decide, by decide, fun H3 r3 f3 w3 r30 r31 => ?_⟩
    have l3 : H3 l = some (.lst [.int (1 + r1), .int (1 + r2)]) := f3 l _ (wl_ne w2 nl) upd_same
    obtain ⟨v, v1, v2⟩ := at_pick (xs := [V.int (1 + r1), V.int (1 + r2)]) r30 (by show r3 < 2; exact r31)
    obtain ⟨n, rfl, n1, n24⟩ : ∃ n : Nat, v = .int n ∧ 1 ≤ n ∧ n ≤ 24 := by
      rcases List.mem_cons.mp v2 with rfl | v2
      · exact ⟨(1 + r1).toNat, by congr 1; omega, by omega, by omega⟩
      · rw [List.mem_singleton] at v2
        subst v2
        exact ⟨(1 + r2).toNat, by congr 1; omega, by omega, by omega⟩
    have fr3 : FrS (Wl p) H H3 := ((f1.trans f2).new w2 nl).trans f3
    refine ⟨l, _, r3, _, rfl, rfl, SqL.of l3, v1, p, n, rfl, w3, n1, by omega, fun H4 q ns f4 w4 nq hq lq gq => ?_⟩
    have fr4 := fr3.trans f4
    have nqp : q ≠ p := (w3.ne nq).symm
    -- the most
    refine ⟨_, _, rfl, rfl, ⟨by decide, by decide, by decide⟩, _, _, rfl, rfl, (by show 4 ≤ sizeLine; decide), fun l2 nl2 => ?_⟩
    refine ⟨_, rfl, p, 4, rfl, w4.new nl2, by decide, by decide, fun H5 r5 f5 w5 r50 r51 => ?_⟩
    have l5 : H5 l2 = some (.lst [.int 3, .int 10, .int 1000, .int ((10 : Int) ^ (6 : Int).toNat + 1)]) := f5 l2 _ (wl_ne w4 nl2) upd_same
    obtain ⟨v, v1, v2⟩ := at_pick (xs := [V.int 3, V.int 10, V.int 1000, V.int ((10 : Int) ^ (6 : Int).toNat + 1)]) r50 (by show r5 < 4; exact r51)
    obtain ⟨mo, rfl, mo1, mo2⟩ : ∃ mo : Int, v = .int mo ∧ 0 < mo ∧ mo ≤ 1000001 := by
      have e6 : (10 : Int) ^ (6 : Int).toNat + 1 = 1000001 := by decide
      rw [e6] at v2
      simp only [List.mem_cons, List.not_mem_nil, or_false] at v2
      rcases v2 with rfl | rfl | rfl | rfl
      · exact ⟨_, rfl, by decide, by decide⟩
      · exact ⟨_, rfl, by decide, by decide⟩
      · exact ⟨_, rfl, by decide, by decide⟩
      · exact ⟨_, rfl, by decide, by decide⟩
    have fr5 : FrS (Wl p) H H5 := (fr4.new w4 nl2).trans f5
    refine ⟨l2, _, r5, _, rfl, rfl, SqL.of l5, v1, ?_⟩
    have q5 : H5 q = some (.lst (ns.map V.str)) := f5 q _ nqp (same_new nl2 _ _ hq)
    -- the parts
    refine ⟨_, rfl, q, rfl, ⟨_, SqL.of q5⟩, fun D hD => ?_⟩
    refine lc_st (K := K) (a := q) (xs := ns.map V.str) (Wl p) hD (SqL.of q5) (fun _ => nqp) (fun i ys H' => WellAt H' p ∧ ∃ cs : List Int, ys = cs.map V.int ∧ (∀ c ∈ cs, 0 ≤ c ∧ c ≤ 1000000) ∧ cs.length = i) ⟨w5.new hD, [], rfl, (fun c hc => by cases hc), rfl⟩ (fun i x ys H6 hx f6 d6 l6 ⟨w6, cs, e1, e2, e3⟩ => ?_) fun ys H6 f6 d6 l6 ⟨w6, cs, e1, e2, e3⟩ => ?_
    · have hi : i < n := by have := (List.getElem?_eq_some_iff.mp hx).1; rw [List.length_map] at this; omega
      refine ⟨rfl, _, rfl, _, rfl, p, mo, rfl, w6, mo1, by omega, fun H7 r f7 w7 r0 r1' => ?_⟩
      refine lc_put hD (wl_ne w5 hD) (by rw [sizeLine_eq]; omega) f6 d6 l6 f7 ⟨w7.put (w5.ne hD), cs ++ [r], by rw [e1, List.map_append]; rfl, fun c hc => ?_, by rw [List.length_append, e3]; rfl⟩
      rcases List.mem_append.mp hc with h | h
      · exact e2 c h
      · rw [List.mem_singleton] at h
        subst h
        exact ⟨by omega, by omega⟩
    subst e1
    rw [List.length_map, lq] at e3
    have pD := w5.ne hD
    have fr6 := fr5.trans f6
    have q6 : H6 q = some (.lst (ns.map V.str)) := f6 q _ nqp q5
    have nqD : q ≠ D := ne_of_none q5 hD
    refine ⟨_, rfl, _, rfl, _, n, rfl, .inl ⟨_, SqL.of q6, by rw [List.length_map, lq]⟩, p, n, rfl, w6, by omega, by omega, fun H7 at_ f7 w7 at0 at1 => ?_⟩
    obtain ⟨a, rfl⟩ := Int.eq_ofNat_of_zero_le at0
    have hal : a < cs.length := by omega
    have d7 : H7 D = some (.lst (cs.map V.int)) := f7 D _ (fun z => pD z.symm) d6
    have q7 : H7 q = some (.lst (ns.map V.str)) := f7 q _ nqp q6
    refine ⟨_, rfl, _, rfl, D, _, (a : Int), V.int cs[a], rfl, rfl, SqL.of d7, atI_nat (by rw [List.getElem?_map, List.getElem?_eq_getElem hal]; rfl), _, _, rfl, _, rfl, _, rfl, D, _, (a : Int), a, rfl, rfl, d7, ?_, ?_⟩
    · have := ixN_nat (n := (cs.map V.int).length) (k := (a : Int)) (by omega) (by rw [List.length_map]; omega)
      simpa using this
    have ca := e2 cs[a] (List.getElem_mem hal)
    have hmx : mx 1 cs[a] = (if cs[a] > 1 then cs[a] else 1) := rfl
    have m1 : 1 ≤ mx 1 cs[a] := by unfold mx; split <;> omega
    have m2 : mx 1 cs[a] ≤ 1000000 := by unfold mx; split <;> omega
    have d8 : upd H7 D (.lst ((cs.map V.int).set a (V.int (mx 1 cs[a])))) D = some (.lst ((cs.set a (mx 1 cs[a])).map V.int)) := by
      rw [upd_same, List.map_set]
    have q8 : upd H7 D (.lst ((cs.map V.int).set a (V.int (mx 1 cs[a])))) q = some (.lst (ns.map V.str)) := by rw [upd_ne nqD]; exact q7
    have f8 : FrS (Wl p) H (upd H7 D (.lst ((cs.map V.int).set a (V.int (mx 1 cs[a]))))) := (fr6.trans f7).upd (.inr (FrS.back (wl_ne w5 hD) fr5 hD))
    have w8 : WellAt (upd H7 D (.lst ((cs.map V.int).set a (V.int (mx 1 cs[a]))))) p := w7.put pD
    generalize hH8 : upd H7 D (.lst ((cs.map V.int).set a (V.int (mx 1 cs[a])))) = H8 at *
    refine ⟨_, rfl, _, rfl, q, D, ns, (cs.set a (mx 1 cs[a])).map V.int, rfl, rfl, ?_, ?_, by rw [List.length_map, List.length_set]; omega, fun H9 z zs e9 nz nzs nm hz pr => ?_⟩
    · show SqL K (upd H7 D (.lst ((cs.map V.int).set a (V.int (if cs[a] > 1 then cs[a] else 1))))) q _
      rw [← hmx, hH8]
      exact SqL.of q8
    · show SqL K (upd H7 D (.lst ((cs.map V.int).set a (V.int (if cs[a] > 1 then cs[a] else 1))))) D _
      rw [← hmx, hH8]
      exact SqL.of d8
    have e9' : Same H8 H9 := by
      rw [← hH8]
      exact e9
    have zl : (ns.zip (cs.set a (mx 1 cs[a]))).length = n := by rw [List.length_zip, List.length_set]; omega
    have zm : ∀ p ∈ ns.zip (cs.set a (mx 1 cs[a])), p.1 ∈ ns ∧ 0 ≤ p.2 ∧ p.2 ≤ 1000000 := fun p hp => by
      have h2 := (List.of_mem_zip hp).2
      refine ⟨(List.of_mem_zip hp).1, ?_⟩
      rcases List.mem_or_eq_of_mem_set h2 with h | h
      · exact e2 _ h
      · rw [h]; exact ⟨by omega, m2⟩
    refine k H9 z (ns.zip (cs.set a (mx 1 cs[a]))) (f8.trans (.of e9')) (w8.fr e9') ⟨zs, hz, tups_zip pr⟩ ⟨fun p hp => gq.1 _ (zm p hp).1, fun p hp => (zm p hp).2.1, fun p hp => (zm p hp).2.2, ?_, by omega, by omega, ?_⟩
    · rw [List.map_fst_zip (by rw [List.length_set]; omega)]
      exact gq.2
    · refine ⟨(ns[a], mx 1 cs[a]), ?_, by show 0 < mx 1 cs[a]; omega⟩
      refine List.mem_of_getElem? (i := a) ?_
      rw [List.getElem?_zip_eq_some]
      exact ⟨List.getElem?_eq_getElem (by omega), by rw [List.getElem?_set_self (by omega)]⟩
end
end Kx
set_option maxHeartbeats 4000000
namespace Kx
open PySem PySem.Spec PyProof.Rows L2
def mdK (M : MD) (a b o : Addr) : List (Key × V) := [(.inr "nets", .ref a), (.inr "price", .int M.price), (.inr "shares", .ref b), (.inr "out", .ref o), (.inr "to", .str M.to), (.inr "move", .str M.move), (.inr "step", .int M.step), (.inr "floor", .int M.floor)]
theorem md_nets (M : MD) (a b o : Addr) : valV (mdK M a b o) (.inr "nets") = some (.ref a) := by rfl
theorem md_price (M : MD) (a b o : Addr) : valV (mdK M a b o) (.inr "price") = some (.int M.price) := by rfl
theorem md_shares (M : MD) (a b o : Addr) : valV (mdK M a b o) (.inr "shares") = some (.ref b) := by rfl
theorem md_out (M : MD) (a b o : Addr) : valV (mdK M a b o) (.inr "out") = some (.ref o) := by rfl
theorem md_to (M : MD) (a b o : Addr) : valV (mdK M a b o) (.inr "to") = some (.str M.to) := by rfl
theorem md_move (M : MD) (a b o : Addr) : valV (mdK M a b o) (.inr "move") = some (.str M.move) := by rfl
theorem md_step (M : MD) (a b o : Addr) : valV (mdK M a b o) (.inr "step") = some (.int M.step) := by rfl
theorem md_floor (M : MD) (a b o : Addr) : valV (mdK M a b o) (.inr "floor") = some (.int M.floor) := by rfl
theorem md_made (M : MD) (a b o : Addr) : putK (putK (putK (putK (mergeK [] [(.inr "nets", .ref a), (.inr "price", .int M.price), (.inr "shares", .ref b), (.inr "out", .ref o)]) (.inr "to") (.str M.to)) (.inr "move") (.str M.move)) (.inr "step") (.int M.step)) (.inr "floor") (.int M.floor) = mdK M a b o := by rfl
theorem putK_le (c : List (Key × V)) (k : Key) (x : V) : (putK c k x).length ≤ c.length + 1 := by
  unfold putK
  split
  · rw [List.length_map]
    omega
  · rw [List.length_append]
    exact Nat.le_refl _
theorem RowsAt.dict {H : Hp} {a m : Addr} {rows : Rows} {kk : List (Key × V)} {o : HO} (h : RowsAt H a rows) (hm : H m = some (.dK kk)) : RowsAt (L2.upd H m o) a rows := by
  obtain ⟨ts, h1, h2⟩ := h
  refine ⟨ts, by rw [upd_ne (ne_of h1 hm (by intro z; cases z))]; exact h1, h2.1, fun i t r e1 e2 => ?_⟩
  have ht := h2.2 i t r e1 e2
  rw [upd_ne (ne_of ht hm (by intro z; cases z))]
  exact ht
def ModelAt (H : Hp) (m : Addr) (M : MD) (o : Addr) : Prop := ∃ a b, H m = some (.dK (mdK M a b o)) ∧ RowsAt H a M.nets ∧ RowsAt H b M.shares
theorem pick_read {K : PySem.W.Frag} {xs : List V} {n : Nat} {p : Addr} {Hx : Hp} {σ : L2.St} {Q : VK} (hv : σ[0]? = some (some (.ref p))) (hw : WellAt Hx p) (hn : xs.length = n) (n0 : 0 < n) (n1 : n ≤ 100)
    (h : ∀ H' v, FrS (Wl p) Hx H' → WellAt H' p → v ∈ xs → Q v H') :
    xs.length ≤ sizeLine ∧ ∀ l, Hx l = none → (tCall spDraw [] E0 (tCons (tVar 0) (tCons (tC (.int (n : Int))) tNil))) σ (upd Hx l (.lst xs)) (fun y H2 => rIxL K (.ref l) y H2 Q) := by
  refine ⟨by rw [sizeLine_eq]; omega, fun l nl => ⟨_, hv, p, n, rfl, hw.new nl, by omega, by omega, fun H' r f w r0 r1 => ?_⟩⟩
  have hl : H' l = some (.lst xs) := f l _ (wl_ne hw nl) upd_same
  obtain ⟨v, v1, v2⟩ := at_pick (xs := xs) r0 (by omega)
  exact ⟨l, xs, r, v, rfl, rfl, SqL.of hl, v1, h H' v (((FrS.refl _).new hw nl).trans f) w v2⟩
section
variable {P : Program} {w : World} {K : PySem.W.Frag} {mg : Str → Option Value} {base : Heap} (T : Txt K mg w)
def spModel : Sp := fun vs H Q _ => ∃ p : Addr, vs = [.ref p] ∧ WellAt H p ∧ ∀ H' m M o, FrS (Wl p) H H' → WellAt H' p → ModelAt H' m M o → OutAt H' o [] → M.Ok → H m = none → H o = none → Q (.ref m) H'
theorem ok_model : FnOk P w K mg base CX0 4 T.fLModel T.dLModel pLModel spModel := by
  have GD : FnOk P w K mg base CX0 1 T.fLDraw T.dLDraw pLDraw spDraw := ok_draw T
  have GN : FnOk P w K mg base CX0 2 T.fLNames T.dLNames pLNames spNames := ok_names T
  have GS : FnOk P w K mg base CX0 3 T.fLShares T.dLShares pLShares spShares := ok_shares T
  refine T.FLModel.ok scLModel (fun vs H Q E h => ?_) (fun cdv A outer s H vs Q E hr h => ?_)
  · obtain ⟨p, rfl, _⟩ := h; rfl
  · obtain ⟨p, rfl, hw, k⟩ := h
    have hr1 : Room 1 _ := hr.mono (by decide)
    have hr2 : Room 2 _ := hr.mono (by decide)
    have hu := hu_of hr
    refine ⟨_, (pss_cons (ps_set (i := 1) scLModel.nd rfl (Or.inl rfl) (pe_call GN hr2 (by rfl) T.gLNames T.FLNames.kp T.bLNames .nil pass0 (pa_cons (pv 0) (pa_cons (pe_ix ix_list (pe_lst (pa_cons (pe_op op_add pe_int (pe_call GD hr1 (by rfl) T.gLDraw T.FLDraw.kp T.bLDraw .nil pass0 (pa_cons (pv 0) (pa_cons (pe_int) pa_nil)))) (pa_cons (pe_op op_add pe_int (pe_call GD hr1 (by rfl) T.gLDraw T.FLDraw.kp T.bLDraw .nil pass0 (pa_cons (pv 0) (pa_cons (pe_int) pa_nil)))) pa_nil))) (pe_op op_fdiv (pe_call GD hr1 (by rfl) T.gLDraw T.FLDraw.kp T.bLDraw .nil pass0 (pa_cons (pv 0) (pa_cons (pe_int) pa_nil))) pe_int) (fun _ _ => rfl)) pa_nil))))
      (pss_cons (ps_set (i := 2) scLModel.nd rfl (Or.inr rfl) (pe_ix ix_list (pe_lst (pa_cons (pe_int) (pa_cons (pe_int) (pa_cons (pe_op op_pow pe_int pe_int) pa_nil)))) (pe_call GD hr1 (by rfl) T.gLDraw T.FLDraw.kp T.bLDraw .nil pass0 (pa_cons (pv 0) (pa_cons (pe_int) pa_nil))) (fun _ _ => rfl)))
      (pss_cons (ps_setLc (i := 3) (own := [("_law_mark_here", 7)]) (g := gName 7) (tt := tYes) (te := tTup (tCons (tVar 7) (tCons (tOp (rI0 fun i j => .int (i + j)) (tC (.int 1)) (tCall spDraw [] E0 (tCons (tVar 0) (tCons (tVar 2) tNil)))) tNil))) rfl scLModel.nd rfl rfl (sw_true rfl rfl rfl (by decide +kernel)) (pi_list (pv 1)) (blkOk_by (N := nLModel) (sc := defScope sLModel) (by decide +kernel))
          (fun _ _ _ _ _ => pg_name (i := 7) scLModel.nd rfl (Or.inl rfl)) (fun _ _ _ _ _ => pts_nil) (fun _ _ _ _ _ => pe_tup (pa_cons (pv 7) (pa_cons (pe_op op_add pe_int (pe_call GD hr1 (by rfl) T.gLDraw T.FLDraw.kp T.bLDraw .nil pass0 (pa_cons (pv 0) (pa_cons (pv 2) pa_nil)))) pa_nil))))
      (pss_cons (ps_set (i := 4) scLModel.nd rfl (Or.inl rfl) (pe_ix ix_list (pe_lst (pa_cons (pe_call GD hr1 (by rfl) T.gLDraw T.FLDraw.kp T.bLDraw .nil pass0 (pa_cons (pv 0) (pa_cons (pe_int) pa_nil))) (pa_cons (pe_call GD hr1 (by rfl) T.gLDraw T.FLDraw.kp T.bLDraw .nil pass0 (pa_cons (pv 0) (pa_cons (pe_op op_add (pe_op op_pow pe_int pe_int) pe_int) pa_nil))) (pa_cons (pe_op op_pow pe_int pe_int) (pa_cons (pe_int) pa_nil))))) (pe_call GD hr1 (by rfl) T.gLDraw T.FLDraw.kp T.bLDraw .nil pass0 (pa_cons (pv 0) (pa_cons (pe_int) pa_nil))) (fun _ _ => rfl)))
      (pss_cons (ps_set (i := 5) scLModel.nd rfl (Or.inl rfl) (pe_call GS hr (by rfl) T.gLShares T.FLShares.kp T.bLShares .nil pass0 (pa_cons (pv 0) pa_nil)))
      (pss_cons (ps_set (i := 6) scLModel.nd rfl (Or.inl rfl) (pe_disp (pps_cons pe_str (pv 3) (pps_cons pe_str (pv 4) (pps_cons pe_str (pv 5) (pps_cons pe_str (pe_lst pa_nil) pps_nil)))) (by rfl) (by rfl) (fun z => by cases z) (by decide)))
      (pss_cons (ps_dput hu (pv 6) pe_str (pe_ix ix_list (pe_lst (pa_cons (pe_str) (pa_cons (pe_str) (pa_cons (pe_str) pa_nil)))) (pe_call GD hr1 (by rfl) T.gLDraw T.FLDraw.kp T.bLDraw .nil pass0 (pa_cons (pv 0) (pa_cons (pe_int) pa_nil))) (fun _ _ => rfl)) rfl)
      (pss_cons (ps_dput hu (pv 6) pe_str (pe_ix ix_list (pe_lst (pa_cons (pe_str) (pa_cons (pe_str) (pa_cons (pe_str) pa_nil)))) (pe_call GD hr1 (by rfl) T.gLDraw T.FLDraw.kp T.bLDraw .nil pass0 (pa_cons (pv 0) (pa_cons (pe_int) pa_nil))) (fun _ _ => rfl)) rfl)
      (pss_cons (ps_dput hu (pv 6) pe_str (pe_ix ix_list (pe_lst (pa_cons (pe_int) (pa_cons (pe_call GD hr1 (by rfl) T.gLDraw T.FLDraw.kp T.bLDraw .nil pass0 (pa_cons (pv 0) (pa_cons (pe_int) pa_nil))) (pa_cons (pe_call GD hr1 (by rfl) T.gLDraw T.FLDraw.kp T.bLDraw .nil pass0 (pa_cons (pv 0) (pa_cons (pe_op op_add (pe_op op_pow pe_int pe_int) pe_int) pa_nil))) pa_nil)))) (pe_call GD hr1 (by rfl) T.gLDraw T.FLDraw.kp T.bLDraw .nil pass0 (pa_cons (pv 0) (pa_cons (pe_int) pa_nil))) (fun _ _ => rfl)) rfl)
      (pss_cons (ps_dput hu (pv 6) pe_str (pe_ix ix_list (pe_lst (pa_cons (pe_int) (pa_cons (pe_call GD hr1 (by rfl) T.gLDraw T.FLDraw.kp T.bLDraw .nil pass0 (pa_cons (pv 0) (pa_cons (pe_int) pa_nil))) (pa_cons (pe_call GD hr1 (by rfl) T.gLDraw T.FLDraw.kp T.bLDraw .nil pass0 (pa_cons (pv 0) (pa_cons (pe_op op_add (pe_op op_pow pe_int pe_int) pe_int) pa_nil))) pa_nil)))) (pe_call GD hr1 (by rfl) T.gLDraw T.FLDraw.kp T.bLDraw .nil pass0 (pa_cons (pv 0) (pa_cons (pe_int) pa_nil))) (fun _ _ => rfl)) rfl)
      (pss_one (ps_ret (pv 6))))))))))))), ?_⟩
    have e6 : (10 : Int) ^ (6 : Int).toNat = 1000000 := by decide
    have e9 : (10 : Int) ^ (9 : Int).toNat = 1000000000 := by decide
    have cp6 : CPow 10 6 := ⟨by decide, by decide, by decide⟩
    have cp9 : CPow 10 9 := ⟨by decide, by decide, by decide⟩
    -- the marks
    refine ⟨_, rfl, _, rfl, p, 6, rfl, hw, by decide, by decide, fun H1 r1 f1 w1 r10 r11 => ⟨_, _, rfl, rfl, _, rfl, p, 60, rfl, w1, by decide, by decide, fun H2 r2 f2 w2 r20 r21 => ⟨_, _, rfl, rfl, (by show 2 ≤ sizeLine; decide), fun l nl => ?_⟩⟩⟩
    refine ⟨_, rfl, p, 3, rfl, w2.new nl, by decide, by decide, fun H3 r3 f3 w3 r30 r31 => ⟨_, _, rfl, rfl, ⟨by decide, by decide⟩, ?_⟩⟩
    have l3 : H3 l = some (.lst [.int (1 + r1), .int (1 + r2)]) := f3 l _ (wl_ne w2 nl) upd_same
    obtain ⟨v, v1, v2⟩ := at_pick (xs := [V.int (1 + r1), V.int (1 + r2)]) (r := r3 / 2) (by omega) (by show r3 / 2 < 2; omega)
    obtain ⟨n, rfl, n1, n60⟩ : ∃ n : Nat, v = .int n ∧ 1 ≤ n ∧ n ≤ 60 := by
      rcases List.mem_cons.mp v2 with rfl | v2
      · exact ⟨(1 + r1).toNat, by congr 1; omega, by omega, by omega⟩
      · rw [List.mem_singleton] at v2
        subst v2
        exact ⟨(1 + r2).toNat, by congr 1; omega, by omega, by omega⟩
    have fr3 : FrS (Wl p) H H3 := ((f1.trans f2).new w2 nl).trans f3
    refine ⟨l, _, r3 / 2, _, rfl, rfl, SqL.of l3, v1, p, n, rfl, w3, n1, n60, fun H4 q ns f4 w4 nq hq lq gq => ?_⟩
    have fr4 := fr3.trans f4
    have nqp : q ≠ p := (w3.ne nq).symm
    -- the most
    refine ⟨_, _, rfl, rfl, cp9, ?_⟩
    refine pick_read (xs := [.int 5, .int 100, .int ((10 : Int) ^ (9 : Int).toNat)]) (n := 3) (p := p) rfl w4 rfl (by decide) (by decide) fun H5 v f5 w5 hv => ?_
    obtain ⟨mo, rfl, mo1, mo2⟩ : ∃ mo : Int, v = .int mo ∧ 0 < mo ∧ mo ≤ 1000000000 := by
      rw [e9] at hv
      simp only [List.mem_cons, List.not_mem_nil, or_false] at hv
      rcases hv with rfl | rfl | rfl
      · exact ⟨_, rfl, by decide, by decide⟩
      · exact ⟨_, rfl, by decide, by decide⟩
      · exact ⟨_, rfl, by decide, by decide⟩
    have fr5 : FrS (Wl p) H H5 := fr4.trans f5
    have q5 : H5 q = some (.lst (ns.map V.str)) := f5 q _ nqp hq
    -- the chests
    refine ⟨_, rfl, q, rfl, ⟨_, SqL.of q5⟩, fun D hD => ?_⟩
    have pD := w5.ne hD
    refine lc_st (K := K) (a := q) (xs := ns.map V.str) (Wl p) hD (SqL.of q5) (fun _ => nqp) (fun i ys H' => WellAt H' p ∧ ∃ (ts : List Addr) (rows : Rows), ys = ts.map V.ref ∧ TupsAt H' ts rows ∧ rows.length = i ∧ rows.map (·.1) = ns.take i ∧ ∀ x ∈ rows, 1 ≤ x.2 ∧ x.2 ≤ 1000000000)
      ⟨w5.new hD, [], [], rfl, ⟨rfl, fun i t p h => by simp at h⟩, rfl, rfl, fun x hx => by cases hx⟩ (fun i x ys H6 hx f6 d6 l6 ⟨w6, ts, rows, e1, e2, e3, e4, e5⟩ => ?_) fun ys H6 f6 d6 l6 ⟨w6, ts, rows, e1, e2, e3, e4, e5⟩ => ?_
    · have hi : i < n := by have := (List.getElem?_eq_some_iff.mp hx).1; rw [List.length_map] at this; omega
      obtain ⟨z, rfl, hz⟩ : ∃ z, x = .str z ∧ ns[i]? = some z := by
        rw [List.getElem?_map] at hx
        cases e : ns[i]? with
        | none => rw [e] at hx; cases hx
        | some z => rw [e] at hx; exact ⟨z, (Option.some.inj hx).symm, rfl⟩
      refine ⟨rfl, _, rfl, _, rfl, _, rfl, p, mo, rfl, w6, mo1, by omega, fun H7 r f7 w7 r0 r1' => ⟨_, _, rfl, rfl, (by show 2 ≤ sizeLine; decide), fun t nt => ?_⟩⟩
      have d7 : H7 D = some (.lst ys) := f7 D _ (fun z => pD z.symm) d6
      have Dt : D ≠ t := ne_of_none d7 nt
      refine lc_put hD (wl_ne w5 hD) (by rw [sizeLine_eq]; omega) f6 d6 l6 (f7.new w7 nt) ⟨(w7.new nt).put pD, ts ++ [t], rows ++ [(z, 1 + r)], by rw [e1, List.map_append]; rfl, ⟨by simp [e2.1], fun j u x h1 h2 => ?_⟩, by rw [List.length_append, e3]; rfl, ?_, fun x hx => ?_⟩
      · by_cases hj : j < ts.length
        · rw [List.getElem?_append_left hj] at h1
          rw [List.getElem?_append_left (by rw [← e2.1]; exact hj)] at h2
          have hu := e2.2 j u x h1 h2
          have up : ¬ Wl p u := fun z => by
            obtain ⟨x', y', z', e⟩ := w6
            rw [show u = p from z, e] at hu
            cases hu
          have hu7 := f7 u _ up hu
          rw [upd_ne (ne_of hu7 d7 (by intro z; cases z)), upd_ne (ne_of_none hu7 nt)]
          exact hu7
        · have hj2 : j < (ts ++ [t]).length := (List.getElem?_eq_some_iff.mp h1).1
          rw [List.length_append, List.length_singleton] at hj2
          have hj3 : j = ts.length := by omega
          subst hj3
          rw [List.getElem?_append_right (Nat.le_refl _), Nat.sub_self] at h1
          rw [e2.1, List.getElem?_append_right (Nat.le_refl _), Nat.sub_self] at h2
          obtain rfl := Option.some.inj h1
          obtain rfl := Option.some.inj h2
          rw [upd_ne Dt.symm, upd_same]
      · rw [List.map_append, e4, List.take_add_one, hz]
        rfl
      · rcases List.mem_append.mp hx with h | h
        · exact e5 x h
        · rw [List.mem_singleton] at h
          subst h
          exact ⟨by show 1 ≤ 1 + r; omega, by show 1 + r ≤ 1000000000; omega⟩
    subst e1
    have hn : ns.take (ns.map V.str).length = ns := by rw [List.length_map, List.take_length]
    rw [hn] at e4
    rw [List.length_map, lq] at e3
    have fr6 := fr5.trans f6
    have rows6 : RowsAt H6 D rows := ⟨ts, d6, e2⟩
    have okN : RowsOk 1 1000000000 60 rows := ⟨fun x hx => gq.1 _ (by rw [← e4]; exact List.mem_map.mpr ⟨x, hx, rfl⟩), fun x hx => (e5 x hx).1, fun x hx => (e5 x hx).2, by rw [e4]; exact gq.2, by omega, by omega, by
      cases rows with
      | nil => simp at e3; omega
      | cons x r => exact ⟨x, List.mem_cons_self .., by have := (e5 x (List.mem_cons_self ..)).1; omega⟩⟩
    -- the price
    refine ⟨_, rfl, p, 30, rfl, w6, by decide, by decide, fun H7 ra f7 w7 ra0 ra1 => ⟨_, rfl, _, _, rfl, rfl, cp6, _, _, rfl, rfl, p, _, rfl, w7, (by rw [e6]; decide), (by rw [e6]; decide), fun H8 rb f8 w8 rb0 rb1 => ⟨_, _, rfl, rfl, cp6, ?_⟩⟩⟩
    rw [e6] at rb1
    refine pick_read (xs := [.int ra, .int rb, .int ((10 : Int) ^ (6 : Int).toNat), .int 0]) (n := 4) (p := p) rfl w8 rfl (by decide) (by decide) fun H9 v f9 w9 hv => ?_
    obtain ⟨pr, rfl, pr0, pr1⟩ : ∃ pr : Int, v = .int pr ∧ 0 ≤ pr ∧ pr ≤ 1000000 := by
      rw [e6] at hv
      simp only [List.mem_cons, List.not_mem_nil, or_false] at hv
      rcases hv with rfl | rfl | rfl | rfl
      · exact ⟨_, rfl, by omega, by omega⟩
      · exact ⟨_, rfl, by omega, by omega⟩
      · exact ⟨_, rfl, by decide, by decide⟩
      · exact ⟨_, rfl, by decide, by decide⟩
    have fr9 := (fr6.trans f7).trans (f8.trans f9)
    have rows9 : RowsAt H9 D rows := rows6.well w6 (f7.trans (f8.trans f9))
    -- the shares
    refine ⟨_, rfl, p, rfl, w9, fun H10 sh shs f10 w10 hsh okS => ?_⟩
    have rows10 : RowsAt H10 D rows := rows9.well w9 f10
    have fr10 := fr9.trans f10
    -- the model
    refine fun m nm => ⟨_, rfl, _, rfl, _, rfl, Nat.zero_le _, fun o no => ⟨?_, [(.inr "nets", .ref D), (.inr "price", .int pr), (.inr "shares", .ref sh), (.inr "out", .ref o)], rfl, (by show 4 ≤ 15; decide), ?_⟩⟩
    · have : m ≠ o := fun z => by rw [← z, upd_same] at no; cases no
      rw [upd_ne this, upd_same]
    have mo' : m ≠ o := fun z => by rw [← z, upd_same] at no; cases no
    have no' : H10 o = none := by rw [upd_ne mo'.symm] at no; exact no
    have nm0 : H m = none := FrS.back (wl_ne w10 nm) fr10 nm
    have no0 : H o = none := FrS.back (wl_ne w10 no') fr10 no'
    have pm := w10.ne nm
    have po := w10.ne no'
    generalize hK1 : mergeK [] [(Sum.inr "nets", V.ref D), (Sum.inr "price", V.int pr), (Sum.inr "shares", V.ref sh), (Sum.inr "out", V.ref o)] = K1
    have k1 : K1.length ≤ 20 := by
      rw [← hK1]
      exact Nat.le_trans (Nat.le_of_eq (rfl : _ = 4)) (by decide)
    generalize hH11 : upd (upd (upd H10 m (.dK [])) o (.lst [])) m (.dK K1) = H11
    have s11 : Same H10 H11 := by
      rw [← hH11]
      intro b u e
      have b1 : b ≠ m := ne_of_none e nm
      have b2 : b ≠ o := ne_of_none e no'
      rw [upd_ne b1, upd_ne b2, upd_ne b1]
      exact e
    have m11 : H11 m = some (.dK K1) := by rw [← hH11, upd_same]
    have o11 : H11 o = some (.lst []) := by rw [← hH11, upd_ne mo'.symm, upd_same]
    have w11 : WellAt H11 p := w10.fr s11
    have fr11 : FrS (Wl p) H H11 := fr10.trans (.of s11)
    -- to
    refine pick_read (xs := [.str "first", .str "last", .str "greatest"]) (n := 3) (p := p) rfl w11 rfl (by decide) (by decide) fun H12 v f12 w12 hv => ?_
    obtain ⟨to, rfl, hto⟩ : ∃ to : Str, v = .str to ∧ Turn3 to := by
      simp only [List.mem_cons, List.not_mem_nil, or_false] at hv
      rcases hv with rfl | rfl | rfl
      · exact ⟨_, rfl, .first⟩
      · exact ⟨_, rfl, .last⟩
      · exact ⟨_, rfl, .greatest⟩
    have m12 : H12 m = some (.dK K1) := f12 m _ (fun z => pm z.symm) m11
    refine ⟨_, rfl, m, _, rfl, DPut.k (k := Sum.inr "to") m12 (by rw [sizeLine_eq]; omega), ?_⟩
    have k2 := putK_le K1 (Sum.inr "to") (.str to)
    generalize hK2 : putK K1 (Sum.inr "to") (.str to) = K2 at *
    have pw : ∀ {Hx : Hp} {o' : HO}, WellAt Hx p → WellAt (upd Hx m o') p := fun h => h.put pm
    have fm : ∀ {Hx : Hp} {o' : HO}, FrS (Wl p) H Hx → FrS (Wl p) H (upd Hx m o') := fun f => f.upd (.inr nm0)
    have fr13 := fm (o' := .dK K2) (fr11.trans f12)
    have w13 : WellAt (upd H12 m (.dK K2)) p := pw w12
    have m13 : upd H12 m (.dK K2) m = some (.dK K2) := upd_same
    have o13 : upd H12 m (.dK K2) o = some (.lst []) := by rw [upd_ne mo'.symm]; exact f12 o _ (fun z => po z.symm) o11
    have D13 : RowsAt (upd H12 m (.dK K2)) D rows := ((rows10.ext (.same s11)).well w11 f12).dict m12
    have S13 : RowsAt (upd H12 m (.dK K2)) sh shs := ((hsh.ext (.same s11)).well w11 f12).dict m12
    generalize upd H12 m (.dK K2) = H13 at *
    -- move
    refine pick_read (xs := [.str "keep", .str "fall", .str "cut"]) (n := 3) (p := p) rfl w13 rfl (by decide) (by decide) fun H14 v f14 w14 hv => ?_
    obtain ⟨mv, rfl, hmv⟩ : ∃ mv : Str, v = .str mv ∧ Move3 mv := by
      simp only [List.mem_cons, List.not_mem_nil, or_false] at hv
      rcases hv with rfl | rfl | rfl
      · exact ⟨_, rfl, .keep⟩
      · exact ⟨_, rfl, .fall⟩
      · exact ⟨_, rfl, .cut⟩
    have m14 : H14 m = some (.dK K2) := f14 m _ (fun z => pm z.symm) m13
    refine ⟨_, rfl, m, _, rfl, DPut.k (k := Sum.inr "move") m14 (by rw [sizeLine_eq]; omega), ?_⟩
    have k3 := putK_le K2 (Sum.inr "move") (.str mv)
    generalize hK3 : putK K2 (Sum.inr "move") (.str mv) = K3 at *
    have fr15 := fm (o' := .dK K3) (fr13.trans f14)
    have w15 : WellAt (upd H14 m (.dK K3)) p := pw w14
    have m15 : upd H14 m (.dK K3) m = some (.dK K3) := upd_same
    have o15 : upd H14 m (.dK K3) o = some (.lst []) := by rw [upd_ne mo'.symm]; exact f14 o _ (fun z => po z.symm) o13
    have D15 : RowsAt (upd H14 m (.dK K3)) D rows := (D13.well w13 f14).dict m14
    have S15 : RowsAt (upd H14 m (.dK K3)) sh shs := (S13.well w13 f14).dict m14
    generalize upd H14 m (.dK K3) = H15 at *
    -- step
    refine ⟨_, rfl, p, 9, rfl, w15, by decide, by decide, fun H16 rc f16 w16 rc0 rc1 => ⟨_, rfl, _, _, rfl, rfl, cp6, _, _, rfl, rfl, p, _, rfl, w16, (by rw [e6]; decide), (by rw [e6]; decide), fun H17 rd f17 w17 rd0 rd1 => ?_⟩⟩
    rw [e6] at rd1
    refine pick_read (xs := [.int 0, .int rc, .int rd]) (n := 3) (p := p) rfl w17 rfl (by decide) (by decide) fun H18 v f18 w18 hv => ?_
    obtain ⟨st, rfl, st0, st1⟩ : ∃ st : Int, v = .int st ∧ 0 ≤ st ∧ st ≤ 1000000 := by
      simp only [List.mem_cons, List.not_mem_nil, or_false] at hv
      rcases hv with rfl | rfl | rfl
      · exact ⟨_, rfl, by decide, by decide⟩
      · exact ⟨_, rfl, by omega, by omega⟩
      · exact ⟨_, rfl, by omega, by omega⟩
    have f18' := f16.trans (f17.trans f18)
    have m18 : H18 m = some (.dK K3) := f18' m _ (fun z => pm z.symm) m15
    refine ⟨_, rfl, m, _, rfl, DPut.k (k := Sum.inr "step") m18 (by rw [sizeLine_eq]; omega), ?_⟩
    have k4 := putK_le K3 (Sum.inr "step") (.int st)
    generalize hK4 : putK K3 (Sum.inr "step") (.int st) = K4 at *
    have fr19 := fm (o' := .dK K4) (fr15.trans f18')
    have w19 : WellAt (upd H18 m (.dK K4)) p := pw w18
    have m19 : upd H18 m (.dK K4) m = some (.dK K4) := upd_same
    have o19 : upd H18 m (.dK K4) o = some (.lst []) := by rw [upd_ne mo'.symm]; exact f18' o _ (fun z => po z.symm) o15
    have D19 : RowsAt (upd H18 m (.dK K4)) D rows := (D15.well w15 f18').dict m18
    have S19 : RowsAt (upd H18 m (.dK K4)) sh shs := (S15.well w15 f18').dict m18
    generalize upd H18 m (.dK K4) = H19 at *
    -- floor
    refine ⟨_, rfl, p, 20, rfl, w19, by decide, by decide, fun H20 re f20 w20 re0 re1 => ⟨_, rfl, _, _, rfl, rfl, cp6, _, _, rfl, rfl, p, _, rfl, w20, (by rw [e6]; decide), (by rw [e6]; decide), fun H21 rf f21 w21 rf0 rf1 => ?_⟩⟩
    rw [e6] at rf1
    refine pick_read (xs := [.int 0, .int re, .int rf]) (n := 3) (p := p) rfl w21 rfl (by decide) (by decide) fun H22 v f22 w22 hv => ?_
    obtain ⟨fl, rfl, fl0, fl1⟩ : ∃ fl : Int, v = .int fl ∧ 0 ≤ fl ∧ fl ≤ 1000000 := by
      simp only [List.mem_cons, List.not_mem_nil, or_false] at hv
      rcases hv with rfl | rfl | rfl
      · exact ⟨_, rfl, by decide, by decide⟩
      · exact ⟨_, rfl, by omega, by omega⟩
      · exact ⟨_, rfl, by omega, by omega⟩
    have f22' := f20.trans (f21.trans f22)
    have m22 : H22 m = some (.dK K4) := f22' m _ (fun z => pm z.symm) m19
    refine ⟨_, rfl, m, _, rfl, DPut.k (k := Sum.inr "floor") m22 (by rw [sizeLine_eq]; omega), ?_⟩
    have eK : putK K4 (Sum.inr "floor") (.int fl) = mdK ⟨rows, pr, shs, to, mv, st, fl⟩ D sh o := by
      rw [← hK4, ← hK3, ← hK2, ← hK1]
      rfl
    rw [eK]
    have fr23 := fm (o' := .dK (mdK ⟨rows, pr, shs, to, mv, st, fl⟩ D sh o)) (fr19.trans f22')
    refine ⟨_, rfl, k _ m ⟨rows, pr, shs, to, mv, st, fl⟩ o fr23 (pw w22) ⟨D, sh, upd_same, ?_, ?_⟩ ?_ ⟨okN, pr0, pr1, okS, hto, hmv, st0, st1, fl0, fl1⟩ nm0 no0⟩
    · exact (D19.well w19 f22').dict m22
    · exact (S19.well w19 f22').dict m22
    · show upd _ m _ o = _
      rw [upd_ne mo'.symm]
      exact f22' o _ (fun z => po z.symm) o19
end
end Kx
set_option maxHeartbeats 4000000
namespace Kx
open PySem PySem.Spec PyProof.Rows L2
structure Md1 (H : Hp) (m o : Addr) (M : MD) (outs : List Str) : Prop where
  at_ : ModelAt H m M o
  out : OutAt H o outs
  ok : M.Ok
  len : outs.length ≤ 60
theorem Md1.ext {H H' : Hp} {m o : Addr} {M : MD} {outs : List Str} (h : Md1 H m o M outs) (f : FrN NoW H H') : Md1 H' m o M outs := by
  obtain ⟨a, b, h1, h2, h3⟩ := h.at_
  exact ⟨⟨a, b, f _ _ (fun z => z) h1 (fun ps z => by cases z), h2.ext f, h3.ext f⟩, f _ _ (fun z => z) h.out (fun ps z => by cases z), h.ok, h.len⟩
theorem Md1.same {H H' : Hp} {m o : Addr} {M : MD} {outs : List Str} (h : Md1 H m o M outs) (f : Same H H') : Md1 H' m o M outs := h.ext (.same f)
section
variable {H : Hp} {m o a b : Addr} {M : MD}
theorem dg_nets (h : H m = some (.dK (mdK M a b o))) : DGet H m (.str "nets") (some (.ref a)) := by have e := DGet.k (k := Sum.inr "nets") h; rw [md_nets] at e; exact e
theorem dg_price (h : H m = some (.dK (mdK M a b o))) : DGet H m (.str "price") (some (.int M.price)) := by have e := DGet.k (k := Sum.inr "price") h; rw [md_price] at e; exact e
theorem dg_shares (h : H m = some (.dK (mdK M a b o))) : DGet H m (.str "shares") (some (.ref b)) := by have e := DGet.k (k := Sum.inr "shares") h; rw [md_shares] at e; exact e
theorem dg_out (h : H m = some (.dK (mdK M a b o))) : DGet H m (.str "out") (some (.ref o)) := by have e := DGet.k (k := Sum.inr "out") h; rw [md_out] at e; exact e
theorem dg_to (h : H m = some (.dK (mdK M a b o))) : DGet H m (.str "to") (some (.str M.to)) := by have e := DGet.k (k := Sum.inr "to") h; rw [md_to] at e; exact e
theorem dg_move (h : H m = some (.dK (mdK M a b o))) : DGet H m (.str "move") (some (.str M.move)) := by have e := DGet.k (k := Sum.inr "move") h; rw [md_move] at e; exact e
theorem dg_step (h : H m = some (.dK (mdK M a b o))) : DGet H m (.str "step") (some (.int M.step)) := by have e := DGet.k (k := Sum.inr "step") h; rw [md_step] at e; exact e
theorem dg_floor (h : H m = some (.dK (mdK M a b o))) : DGet H m (.str "floor") (some (.int M.floor)) := by have e := DGet.k (k := Sum.inr "floor") h; rw [md_floor] at e; exact e
end
section
variable {P : Program} {w : World} {K : PySem.W.Frag} {mg : Str → Option Value} {base : Heap} (T : Txt K mg w)
def spLWeighed : Sp := fun vs H Q _ => ∃ (m o : Addr) (M : MD) (outs : List Str), vs = [.ref m] ∧ Md1 H m o M outs ∧ ∀ H', Same H H' → Q (.int (weightF M outs)) H'
theorem ok_lweighed : FnOk P w K mg base CX0 1 T.fLWeighed T.dLWeighed pLWeighed spLWeighed := by
  refine T.FLWeighed.ok scLWeighed (fun vs H Q E h => ?_) (fun cdv A outer s H vs Q E hr h => ?_)
  · obtain ⟨m, o, M, outs, rfl, _⟩ := h; rfl
  · obtain ⟨m, o, M, outs, rfl, hm, k⟩ := h
    obtain ⟨a, b, h1, ⟨ts, h2, h2'⟩, h3⟩ := hm.at_
    have hu := hu_of hr
    refine ⟨_, pss_one (ps_ret (pe_callB (cr_sum rfl) (by rfl) T.zSum boot_sum (pa_cons (pe_lc (own := [("_law_mark_here", 1), ("_law_net", 2)]) (g := gPair K 1 2) rfl scLWeighed.nd (pi_list (pe_dget hu (pv 0) pe_str (fun _ _ => rfl))) (blkOk_by (N := nLWeighed) (sc := defScope sLWeighed) (by decide +kernel))
        (fun _ _ _ _ _ => pg_tup rfl (pgs_cons (pg_name (i := 1) scLWeighed.nd rfl (Or.inl rfl)) (pgs_cons (pg_name (i := 2) scLWeighed.nd rfl (Or.inl rfl)) pgs_nil)))
        (fun _ _ _ _ _ => pts_one (pt_cmpR (r := rIn K true) op_notIn_seq (pv 1) (pe_dget hu (pv 0) pe_str (fun _ _ => rfl)) rfl)) (fun _ _ _ _ _ => pv 2)) pa_nil))), ?_⟩
    refine ⟨_, rfl, m, _, rfl, dg_nets h1, a, rfl, ⟨_, SqL.of h2⟩, fun D hD => ?_⟩
    refine lc_rows (fun p => !decide (p.1 ∈ outs)) (fun p => V.int p.2) hD h2 h2' (by have := hm.ok.nets.le; omega) (fun _ _ => rfl) (fun p hp H' s' QT q => ?_) (fun p hp H' s' QE q => ⟨_, rfl, q⟩) fun H' s' d' => ?_
    · refine ⟨_, rfl, _, rfl, m, _, rfl, dg_out (s' _ _ h1), o, _, rfl, .inl (SqL.of (s' _ _ hm.out)), rfl, flat_strs outs, _, rfl, ?_⟩
      rw [if_pos rfl]
      show QT (!inV (.str p.1) (outs.map V.str)) H'
      rw [inV_strs]
      exact q
    · have e : ((M.nets.filter fun p => !decide (p.1 ∈ outs)).map fun p => V.int p.2) = (standF M outs).map V.int := by unfold standF; rw [List.map_map]; rfl
      rw [e] at d'
      exact ⟨D, _, rfl, SqL.of d', k H' s'⟩
def spLPriced : Sp := fun vs H Q _ => ∃ (m o : Addr) (M : MD) (outs : List Str), vs = [.ref m] ∧ Md1 H m o M outs ∧ ∀ H', Same H H' → Q (.int (pricedOf M outs)) H'
theorem ok_lpriced : FnOk P w K mg base CX0 2 T.fLPriced T.dLPriced pLPriced spLPriced := by
  have GW : FnOk P w K mg base CX0 1 T.fLWeighed T.dLWeighed pLWeighed spLWeighed := ok_lweighed T
  refine T.FLPriced.ok scLPriced (fun vs H Q E h => ?_) (fun cdv A outer s H vs Q E hr h => ?_)
  · obtain ⟨m, o, M, outs, rfl, _⟩ := h; rfl
  · obtain ⟨m, o, M, outs, rfl, hm, k⟩ := h
    obtain ⟨a, b, h1, ⟨ts, h2, h2'⟩, h3⟩ := hm.at_
    have hu := hu_of hr
    have hM := hm.ok
    refine ⟨_, (pss_cons (ps_set (i := 1) scLPriced.nd rfl (Or.inl rfl) (pe_dget hu (pv 0) pe_str (fun _ _ => rfl)))
      (pss_cons (ps_if (pt_cmpR op_eq (pe_dget hu (pv 0) pe_str (fun _ _ => rfl)) pe_str (nomark _)) (pss_one (ps_ret (pv 1))) pss_nil)
      (pss_cons (ps_if (pt_cmpR op_eq (pe_dget hu (pv 0) pe_str (fun _ _ => rfl)) pe_str (nomark _))
        (pss_one (ps_set (i := 2) scLPriced.nd rfl (Or.inl rfl) (pe_op op_sub (pv 1) (pe_op op_mul (pe_dget hu (pv 0) pe_str (fun _ _ => rfl)) (pe_callB call_len (by rfl) T.zLen boot_len (pa_cons (pe_dget hu (pv 0) pe_str (fun _ _ => rfl)) pa_nil))))))
        (pss_one (ps_set (i := 2) scLPriced.nd rfl (Or.inl rfl) (pe_op op_fdivW (pe_op op_mul (pv 1) (pe_call GW hr (by rfl) T.gLWeighed T.FLWeighed.kp T.bLWeighed .nil pass0 (pa_cons (pv 0) pa_nil)))
          (pe_callB (cr_sum rfl) (by rfl) T.zSum boot_sum (pa_cons (pe_lc (own := [("_law_mark_here", 3), ("_law_net", 4)]) (g := gPair K 3 4) (tt := tYes) rfl scLPriced.nd (pi_list (pe_dget hu (pv 0) pe_str (fun _ _ => rfl))) (blkOk_by (N := nLPriced) (sc := defScope sLPriced) (by decide +kernel))
            (fun _ _ _ _ _ => pg_tup rfl (pgs_cons (pg_name (i := 3) scLPriced.nd rfl (Or.inl rfl)) (pgs_cons (pg_name (i := 4) scLPriced.nd rfl (Or.inl rfl)) pgs_nil))) (fun _ _ _ _ _ => pts_nil) (fun _ _ _ _ _ => pv 4)) pa_nil))))))
      (pss_one (ps_ret (pe_callB (call_min2 rfl) (by rfl) T.zMin boot_min (pa_cons (pv 1) (pa_cons (pe_callB (call_max2 rfl) (by rfl) T.zMax boot_max (pa_cons (pe_dget hu (pv 0) pe_str (fun _ _ => rfl)) (pa_cons (pv 2) pa_nil))) pa_nil)))))))), ?_⟩
    refine ⟨_, rfl, m, _, rfl, dg_price h1, _, rfl, m, _, rfl, dg_move h1, rfl, _, rfl, ?_⟩
    have kk : ∀ H', Same H H' → Q (.int (pricedOf M outs)) H' := k
    unfold pricedOf at kk
    rw [dec_str]
    refine ite2 (fun c => ⟨_, rfl, ?_⟩) (fun c => ?_)
    · have c' : M.move = "keep" := of_decide_eq_true c
      have := kk H (Same.refl H)
      rw [if_pos c'] at this
      exact this
    have c' : ¬ M.move = "keep" := fun z => c (decide_eq_true z)
    refine ⟨_, rfl, m, _, rfl, dg_move h1, rfl, _, rfl, ?_⟩
    rw [dec_str]
    refine ite2 (fun e => ?_) (fun e => ?_)
    · have e' : M.move = "fall" := of_decide_eq_true e
      refine ⟨_, rfl, _, rfl, m, _, rfl, dg_step h1, _, rfl, m, _, rfl, dg_out h1, _, outs.length, rfl, .inl ⟨_, SqL.of hm.out, by rw [List.length_map]⟩, _, _, rfl, rfl, .inl ⟨by have := hM.s0; omega, by have := hM.s1; omega⟩, _, _, rfl, rfl, ?_⟩
      refine ⟨_, rfl, _, rfl, m, _, rfl, dg_floor h1, _, rfl, _, _, rfl, _, _, rfl, ?_⟩
      have := kk H (Same.refl H)
      rw [if_neg c'] at this
      unfold movedOf at this
      rw [if_pos e'] at this
      exact this
    · have e' : ¬ M.move = "fall" := fun z => e (decide_eq_true z)
      refine ⟨_, rfl, _, rfl, m, o, M, outs, rfl, hm, fun H1 s1 => ⟨_, _, rfl, rfl, .inl ⟨by have := hM.p0; omega, by have := hM.p1; omega⟩, _, rfl, m, _, rfl, dg_nets (s1 _ _ h1), a, rfl, ⟨_, SqL.of (s1 _ _ h2)⟩, fun D hD => ?_⟩⟩
      refine lc_rows (fun _ => true) (fun p => V.int p.2) hD (s1 _ _ h2) (h2'.ext (.same s1)) (by have := hM.nets.le; omega) (fun _ _ => rfl) (fun p hp H' s' QT q => q) (fun p hp H' s' QE q => ⟨_, rfl, q⟩) fun H2 s2 d2 => ?_
      rw [filter_yes] at d2
      have e2 : M.nets.map (fun p => V.int p.2) = (M.nets.map (fun q : Str × Int => q.2)).map V.int := by rw [List.map_map]; rfl
      rw [e2] at d2
      have s12 := s1.trans s2
      have w0 := hM.nets.whole (by decide)
      have w1 := hM.nets.wholeLe (by decide)
      refine ⟨D, _, rfl, SqL.of d2, _, _, rfl, rfl, wide_div (b := 40) w0 ?_ (by decide) (by decide), ?_⟩
      · show (wholeOf M.nets).natAbs < 2 ^ 40
        have e : ((2 : Nat) ^ 40) = 1099511627776 := by decide
        omega
      refine ⟨_, rfl, _, rfl, m, _, rfl, dg_floor (s12 _ _ h1), _, rfl, _, _, rfl, _, _, rfl, ?_⟩
      have := kk H2 s12
      rw [if_neg c'] at this
      unfold movedOf at this
      rw [if_neg e'] at this
      exact this
end
end Kx
set_option maxHeartbeats 4000000
namespace Kx
open PySem PySem.Spec PyProof.Rows L2
/-! ### the units both ways -/
theorem gre_total (rs : List Int) : PySem.W.TotalLe (greLe rs) where
  total i j := by
    unfold greLe
    simp only [decide_eq_true_eq]
    omega
  trans i j k h1 h2 := by
    unfold greLe at *
    simp only [decide_eq_true_eq] at *
    omega
theorem filter_comm (p q : Int → Bool) (l : List Int) : (l.filter p).filter q = (l.filter q).filter p := by
  rw [List.filter_filter, List.filter_filter]
  congr 1
  funext x
  exact Bool.and_comm _ _
theorem turnL_filter (to : Str) (rs l : List Int) (q : Int → Bool) : (turnL to rs l).filter q = turnL to rs (l.filter q) := by
  unfold turnL
  split
  · exact List.filter_reverse
  · split
    · refine PySem.W.sort_unique (gre_total rs) ?_ fun c => ?_
      · exact (PySem.W.sort_pairwise (gre_total rs) l).filter _
      · rw [filter_comm, PySem.W.sort_stable (gre_total rs), filter_comm]
    · rfl
def partAt (rows : Rows) (k : Int) : Int := (rows.getD k.toNat ("", 0)).2
def placesL (rows : Rows) : List Int := (upTo rows.length).filter fun k => decide (0 < partAt rows k)
def unitsL (m : Int) (rows : Rows) (to : Str) : List Int := bumps (us0 m rows) (cutI (turnL to (rs0 m rows) (placesL rows)) (m - (us0 m rows).sum))
theorem units_same {m : Int} {rows : Rows} {to : Str} (h : ∀ p ∈ rows, 0 ≤ p.2) : unitsL m rows to = unitsP m rows to := by
  unfold unitsL unitsP oddF
  congr 2
  unfold turnOf
  have e : (rs0 m rows).length = rows.length := by unfold rs0; rw [List.length_map]
  rw [turnL_filter, e]
  congr 1
  unfold placesL
  refine List.filter_congr fun k hk => ?_
  obtain ⟨k0, k1⟩ := upTo_mem hk
  have hl : k.toNat < rows.length := by omega
  have gd : rows.getD k.toNat ("", 0) = rows[k.toNat] := by simp [List.getD, List.getElem?_eq_getElem hl]
  have hp := h _ (List.getElem_mem hl)
  have hb : (k ∈ bare0 rows) ↔ rows[k.toNat].2 = 0 := by
    unfold bare0
    rw [List.mem_filter, gd]
    simp [hk]
  unfold partAt
  rw [gd]
  by_cases c : rows[k.toNat].2 = 0
  · rw [decide_eq_true (hb.mpr c), decide_eq_false (by omega)]
    rfl
  · rw [decide_eq_false (fun z => c (hb.mp z)), decide_eq_true (by omega)]
    rfl
theorem rest_eq (m part whole : Int) : m * part - m * part / whole * whole = m * part % whole := by
  rw [Int.emod_def, Int.mul_comm whole]
theorem fm_upTo (f : Nat → Int) (n : Nat) : (List.range n).filterMap (fun k => some (V.int (f k))) = ((List.range n).map f).map V.int := by
  rw [fm_map, List.map_map]
  rfl
theorem range_map {β γ : Type} (l : List β) (d : β) (f : β → γ) : (List.range l.length).map (fun k => f (l.getD k d)) = l.map f := by
  apply List.ext_getElem
  · simp
  · intro i h1 h2
    simp at h1 h2 ⊢
    simp [List.getD, h1]
end Kx
set_option maxHeartbeats 4000000
namespace Kx
open PySem PySem.Spec PyProof.Rows L2
section
variable {P : Program} {w : World} {K : PySem.W.Frag} {mg : Str → Option Value} {base : Heap} (T : Txt K mg w)
def spLUnits : Sp := fun vs H Q _ => ∃ (m : Int) (a : Addr) (rows : Rows) (to : Str), vs = [.int m, .ref a, .str to] ∧ RowsAt H a rows ∧ RowsOk 0 1000000 24 rows ∧ Turn3 to ∧ LamX.Tabs T.tabs H ∧
  ∀ H' p, FrN NoW H H' → LamX.Tabs T.tabs H' → NewT H p → H' p = some (.lst ((unitsP m rows to).map V.int)) → Q (.ref p) H'
theorem ok_lunits (B : TbOk T base) : FnOk P w K mg base CX0 2 T.fLUnits T.dLUnits pLUnits (spLUnits T) := by
  refine T.CLUnits.ok scLUnits (fun vs H Q E h => ?_) (fun A outer s H vs Q E hr h => ?_)
  · obtain ⟨m, a, rows, to, rfl, _⟩ := h; rfl
  · obtain ⟨m, a, rows, to, rfl, ⟨ts, ha, ht⟩, ok, h3, htb, k⟩ := h
    refine ⟨_, (pss_cons (ps_set (i := 3) scLUnits.nd rfl (Or.inr rfl) (pe_callB (cr_sum rfl) (by rfl) T.zSum boot_sum (pa_cons (pe_lc (own := [("_law_who", 8), ("_law_part", 9)]) (g := gPair K 8 9) (tt := tYes) rfl scLUnits.nd (pi_list (pv 1)) (blkOk_by (N := nLUnits) (sc := defScope sLUnits) (by decide +kernel))
          (fun _ _ _ _ _ => pg_tup rfl (pgs_cons (pg_name (i := 8) scLUnits.nd rfl (Or.inl rfl)) (pgs_cons (pg_name (i := 9) scLUnits.nd rfl (Or.inl rfl)) pgs_nil))) (fun _ _ _ _ _ => pts_nil) (fun _ _ _ _ _ => pv 9)) pa_nil)))
      (pss_cons (ps_set (i := 4) scLUnits.nd rfl (Or.inr rfl) (pe_lc (own := [("_law_who", 8), ("_law_part", 9)]) (g := gPair K 8 9) (tt := tYes) rfl scLUnits.nd (pi_list (pv 1)) (blkOk_by (N := nLUnits) (sc := defScope sLUnits) (by decide +kernel))
          (fun _ _ _ _ _ => pg_tup rfl (pgs_cons (pg_name (i := 8) scLUnits.nd rfl (Or.inl rfl)) (pgs_cons (pg_name (i := 9) scLUnits.nd rfl (Or.inl rfl)) pgs_nil))) (fun _ _ _ _ _ => pts_nil) (fun _ _ _ _ _ => pe_op op_fdiv (pe_op op_mul (pv 0) (pv 9)) (pv 3))))
      (pss_cons (ps_set (i := 7) scLUnits.nd rfl (Or.inr rfl) (pe_lc (own := [("_law_k", 5)]) (g := gName 5) (tt := tYes) rfl scLUnits.nd (pi_range1 (by rfl) T.zRange (pa_cons (pe_callB call_len (by rfl) T.zLen boot_len (pa_cons (pv 1) pa_nil)) pa_nil)) (blkOk_by (N := nLUnits) (sc := defScope sLUnits) (by decide +kernel))
          (fun _ _ _ _ _ => pg_name (i := 5) scLUnits.nd rfl (Or.inl rfl)) (fun _ _ _ _ _ => pts_nil)
          (fun _ _ _ _ _ => pe_op op_sub (pe_op op_mul (pv 0) (pe_ix (r := rIxT K) ix_tup (pe_ix (r := rIxL K) ix_list (pv 1) (pv 5) (fun _ _ => rfl)) pe_int (fun _ _ => rfl))) (pe_op op_mul (pe_ix (r := rIxL K) ix_list (pv 4) (pv 5) (fun _ _ => rfl)) (pv 3)))))
      (pss_cons (ps_setLc (i := 6) (own := [("_law_k", 5)]) (g := gName 5) rfl scLUnits.nd rfl rfl (sw_true rfl rfl rfl (by decide +kernel)) (pi_range1 (by rfl) T.zRange (pa_cons (pe_callB call_len (by rfl) T.zLen boot_len (pa_cons (pv 1) pa_nil)) pa_nil)) (blkOk_by (N := nLUnits) (sc := defScope sLUnits) (by decide +kernel))
          (fun _ _ _ _ _ => pg_name (i := 5) scLUnits.nd rfl (Or.inl rfl)) (fun _ _ _ _ _ => pts_one (pt_cmpR op_gt (pe_ix (r := rIxT K) ix_tup (pe_ix (r := rIxL K) ix_list (pv 1) (pv 5) (fun _ _ => rfl)) pe_int (fun _ _ => rfl)) pe_int (nomark _))) (fun _ _ _ _ _ => pv 5))
      (pss_cons (ps_if (pt_cmpR op_eq (pv 2) pe_str (nomark _)) (pss_one (ps_set (i := 6) scLUnits.nd rfl (Or.inl rfl) (pe_revL (pv 6)))) pss_nil)
      (pss_cons (ps_if (pt_cmpR op_eq (pv 2) pe_str (nomark _)) (pss_one (ps_set (i := 6) scLUnits.nd rfl (Or.inl rfl) (pe_sortGreL (T := T.tabs) (x := "_law_k") (r := "_law_rests") (j := 7) B.u rfl (.tail _ (.head _)) (fun p hp e => by
          rcases List.mem_cons.mp hp with rfl | hp
          · exact absurd e T.nPGU
          · rw [List.mem_singleton] at hp
            subst hp
            rfl) (by rfl) rfl (by rfl) T.zSorted hr (pv 6)))) pss_nil)
      (pss_cons (ps_for PassesOwn.never rfl (pi_list (pe_slice sl_list (pv 6) po_none (po_some (pe_op op_sub (pv 0) (pe_callB (cr_sum rfl) (by rfl) T.zSum boot_sum (pa_cons (pv 4) pa_nil)))))) (pg_name (i := 5) scLUnits.nd rfl (Or.inl rfl))
        (pss_one (ps_asg (pe_op op_add (pe_ix ix_list (pv 4) (pv 5) (fun _ _ => rfl)) pe_int) (pg_sub (pv 4) (pv 5) set_list))))
      (pss_one (ps_ret (pv 4)))))))))), ?_⟩
    have w0 := ok.whole (Int.le_refl 0)
    have wle : wholeOf rows < 1073741824 := by have := ok.wholeLe (by decide); omega
    have l24 : rows.length ≤ 24 := ok.le
    have hts := ht.1
    have pb : ∀ p ∈ rows, -(2 ^ 64) < p.2 ∧ p.2 < 2 ^ 64 := fun p hp => by
      have := ok.lo p hp
      have := ok.hi p hp
      exact ⟨by omega, by omega⟩
    -- whole
    refine ⟨_, rfl, a, rfl, ⟨_, SqL.of ha⟩, fun D1 hD1 => ?_⟩
    refine lc_rows (fun _ => true) (fun p => V.int p.2) hD1 ha ht (by omega) (fun _ _ => rfl) (fun p _ H _ QT q => q) (fun p _ H _ QE q => ⟨_, rfl, q⟩) fun H1 s1 d1 => ?_
    rw [filter_yes] at d1
    have e1 : rows.map (fun p => V.int p.2) = (rows.map (fun q : Str × Int => q.2)).map V.int := by rw [List.map_map]; rfl
    rw [e1] at d1
    refine ⟨D1, _, rfl, SqL.of d1, ?_⟩
    have ha1 := s1 _ _ ha
    -- units
    refine ⟨_, rfl, a, rfl, ⟨_, SqL.of ha1⟩, fun D2 hD2 => ?_⟩
    refine lc_rows (fun _ => true) (fun p => V.int (m * p.2 / wholeOf rows)) hD2 ha1 (ht.ext (.same s1)) (by omega) (fun _ _ => rfl) (fun p _ H _ QT q => q) (fun p hp H _ QE q => ?_) fun H2 s2 d2 => ?_
    · exact ⟨_, rfl, _, rfl, _, _, rfl, rfl, .inr (pb p hp), _, rfl, _, _, rfl, rfl, ⟨w0, wle⟩, q⟩
    rw [filter_yes] at d2
    have e2 : rows.map (fun p => V.int (m * p.2 / wholeOf rows)) = (us0 m rows).map V.int := by unfold us0; rw [List.map_map]; rfl
    rw [e2] at d2
    have s12 := s1.trans s2
    have ha2 := s12 _ _ ha
    have usl : (us0 m rows).length = rows.length := by unfold us0; rw [List.length_map]
    have en : ((rows.length : Nat) : Int).toNat = rows.length := by omega
    -- a row read by its place
    have row : ∀ {Hx : Hp}, Same H Hx → ∀ (k : Nat), k < rows.length → ∃ (t : Addr) (p : Str × Int), rows[k]? = some p ∧ atI (ts.map V.ref) (0 + (k : Int)) = some (V.ref t) ∧ Hx t = some (.tup [.str p.1, .int p.2]) := fun {Hx} sx k hk => by
      obtain ⟨t, ht0⟩ : ∃ t, ts[k]? = some t := ⟨_, List.getElem?_eq_getElem (by omega)⟩
      refine ⟨t, rows[k], List.getElem?_eq_getElem hk, ?_, sx _ _ (ht.2 k t _ ht0 (List.getElem?_eq_getElem hk))⟩
      rw [Int.zero_add]
      exact atI_nat (by rw [List.getElem?_map, ht0]; rfl)
    -- rests
    refine ⟨_, rfl, _, rows.length, rfl, .inl ⟨_, SqL.of ha2, by rw [List.length_map, hts]⟩, _, rfl, by omega, by omega, fun D3 hD3 => ?_⟩
    rw [en]
    refine lr_fm (fun k => some (V.int (m * (rows.getD k ("", 0)).2 % wholeOf rows))) hD3 (by rw [sizeLine_eq]; omega) (fun k ys Hx hk s hDs put skip => ?_) fun H3 s3 d3 => ?_
    · obtain ⟨t, p, hp, hat, htt⟩ := row (s12.trans s) k hk
      have gd : rows.getD k ("", 0) = p := by simp [List.getD, hp]
      have pm : p ∈ rows := List.mem_of_getElem? hp
      have hu : atI ((us0 m rows).map V.int) (0 + (k : Int)) = some (V.int (m * p.2 / wholeOf rows)) := by
        rw [Int.zero_add]
        refine atI_nat ?_
        rw [List.getElem?_map]
        unfold us0
        rw [List.getElem?_map, hp]
        rfl
      refine ⟨rfl, _, rfl, _, rfl, _, rfl, a, _, _, _, rfl, rfl, SqL.of (s _ _ ha2), hat, t, _, 1, _, rfl, rfl, SqT.of htt, rfl, _, _, rfl, rfl, .inr (pb p pm), _, rfl, _, rfl, D2, _, _, _, rfl, rfl, SqL.of (s _ _ d2), hu, _, rfl, _, _, rfl, rfl, .inr ⟨by show -(2 ^ 64) < wholeOf rows; omega, by show wholeOf rows < 2 ^ 64; omega⟩, _, _, rfl, rfl, ?_⟩
      refine put _ _ (Same.refl _) ?_
      rw [gd]
      show some (V.int (m * p.2 % wholeOf rows)) = some (V.int (m * p.2 - m * p.2 / wholeOf rows * wholeOf rows))
      rw [rest_eq]
    have e3 : (List.range rows.length).filterMap (fun k => some (V.int (m * (rows.getD k ("", 0)).2 % wholeOf rows))) = (rs0 m rows).map V.int := by
      rw [fm_upTo (fun k => m * (rows.getD k ("", 0)).2 % wholeOf rows)]
      rw [range_map rows ("", 0) (fun p => m * p.2 % wholeOf rows)]
      rfl
    rw [e3] at d3
    have s13 := s12.trans s3
    have ha3 := s13 _ _ ha
    have d23 := s3 _ _ d2
    have rsl : (rs0 m rows).length = rows.length := by unfold rs0; rw [List.length_map]
    -- places
    refine ⟨_, rfl, _, rows.length, rfl, .inl ⟨_, SqL.of ha3, by rw [List.length_map, hts]⟩, _, rfl, by omega, by omega, fun D4 hD4 => ?_⟩
    rw [en]
    refine lr_fm (fun k => if decide (0 < partAt rows (k : Nat)) = true then some (V.int (k : Nat)) else none) hD4 (by rw [sizeLine_eq]; omega) (fun k ys Hx hk s hDs put skip => ?_) fun H4 s4 d4 => ?_
    · obtain ⟨t, p, hp, hat, htt⟩ := row (s13.trans s) k hk
      have gd : partAt rows (k : Nat) = p.2 := by
        unfold partAt
        rw [show ((k : Nat) : Int).toNat = k by omega]
        simp [List.getD, hp]
      refine ⟨rfl, _, rfl, _, rfl, a, _, _, _, rfl, rfl, SqL.of (s _ _ ha3), hat, t, _, 1, _, rfl, rfl, SqT.of htt, rfl, _, _, rfl, rfl, _, rfl, ?_⟩
      refine ite2 (fun c => ⟨_, rfl, put _ _ (Same.refl _) ?_⟩) (fun c => skip _ (Same.refl _) ?_)
      · rw [gd, if_pos c]
        show some (V.int (k : Nat)) = some (V.int (0 + (k : Int)))
        rw [Int.zero_add]
      · rw [gd, if_neg c]
    have e4 : (List.range rows.length).filterMap (fun k => if decide (0 < partAt rows (k : Nat)) = true then some (V.int (k : Nat)) else none) = (placesL rows).map V.int := by
      rw [fm_if (fun k => decide (0 < partAt rows (k : Nat))) (fun k => V.int (k : Nat))]
      unfold placesL upTo
      rw [List.filter_map, List.map_map]
      rfl
    rw [e4] at d4
    have s14 := s13.trans s4
    have d24 := s4 _ _ d23
    have d34 := s4 _ _ d3
    have t4 := tabs_same htb s14
    have pl : ∀ q ∈ placesL rows, 0 ≤ q ∧ q < rows.length := fun q hq => upTo_mem (List.mem_filter.mp hq).1
    have pll : (placesL rows).length ≤ 24 := by
      have := List.length_filter_le (fun k => decide (0 < partAt rows k)) (upTo rows.length)
      rw [upTo_len] at this
      unfold placesL
      omega
    -- the two turns
    suffices fin : ∀ (Hx : Hp) (p : Addr), FrN NoW H4 Hx → LamX.Tabs T.tabs Hx → Hx p = some (.lst ((turnL to (rs0 m rows) (placesL rows)).map V.int)) → Hx D2 = some (.lst ((us0 m rows).map V.int)) →
        (tSeq (tFor (iList K (L2.tSl (rSlL K) (tVar 6) tNoPart (tPart (tOp (rI0 fun i j => .int (i - j)) (tVar 0) (tCB (rSum K) (tCons (tVar 4) tNil)))))) (gName 5) (tAsg (tOp (rI0 fun i j => .int (i + j)) (tOp (rIxL K) (tVar 4) (tVar 5)) (tC (.int 1))) (gSub (tVar 4) (tVar 5) rSetL))) (tRet (tVar 4)))
          { nx := fun _ H' => Q .non H', rt := Q } [some (.int m), some (.ref a), some (.str to), some (.int (wholeOf rows)), some (.ref D2), none, some (.ref p), some (.ref D3), none, none] Hx by
      cases h3 with
      | first =>
        refine ⟨_, rfl, rfl, _, rfl, ?_⟩
        rw [dec_str, decide_eq_false (by decide)]
        refine iteF ⟨_, rfl, rfl, _, rfl, ?_⟩
        rw [dec_str, decide_eq_false (by decide)]
        refine iteF (fin _ D4 (FrN.refl _) t4 ?_ d24)
        rw [turnL_first]
        exact d4
      | last =>
        refine ⟨_, rfl, rfl, _, rfl, ?_⟩
        rw [dec_str, decide_eq_true (by decide)]
        refine iteT ⟨_, rfl, D4, _, rfl, SqL.of d4, fun l nl => ⟨_, rfl, rfl, _, rfl, ?_⟩⟩
        rw [dec_str, decide_eq_false (by decide)]
        have sl : Same H4 (upd H4 l (.lst ((placesL rows).map V.int).reverse)) := same_new nl
        refine iteF (fin _ l (.same sl) (tabs_same t4 sl) ?_ (sl _ _ d24))
        rw [upd_same, turnL_last, List.map_reverse]
      | greatest =>
        refine ⟨_, rfl, rfl, _, rfl, ?_⟩
        rw [dec_str, decide_eq_false (by decide)]
        refine iteF ⟨_, rfl, rfl, _, rfl, ?_⟩
        rw [dec_str, decide_eq_true (by decide)]
        refine iteT ⟨_, rfl, D4, placesL rows, rfl, SqL.of d4, t4, by rw [sizeLine_eq]; omega, D3, rs0 m rows, rfl, SqL.of d34, fun i hi => by rw [rsl]; exact pl i hi, fun Hx p ex tx np => ?_⟩
        refine fin _ p ((FrN.ext ex).updN np) (tabs_same tx (same_new np)) ?_ ?_
        · rw [upd_same, turnL_greatest]
        · have dx := ex _ _ d24 (fun ps z => by cases z)
          rw [upd_ne (ne_of_none dx np)]
          exact dx
    intro Hx p fx tx hp hD2x
    refine ⟨_, rfl, _, rfl, _, rfl, D2, _, rfl, SqL.of hD2x, _, _, rfl, rfl, _, rfl, p, _, rfl, SqL.of hp, fun S nS => ?_⟩
    rw [cutV_int]
    have hbs : ∀ q ∈ cutI (turnL to (rs0 m rows) (placesL rows)) (m - (us0 m rows).sum), 0 ≤ q ∧ q < rows.length := fun q hq => pl q ((turnL_perm to _ _).mem_iff.mp (cutI_mem hq))
    have clen : (cutI (turnL to (rs0 m rows) (placesL rows)) (m - (us0 m rows).sum)).length ≤ 24 := by
      have h1 := cutI_len (turnL to (rs0 m rows) (placesL rows)) (m - (us0 m rows).sum)
      have h2 := (turnL_perm to (rs0 m rows) (placesL rows)).length_eq
      omega
    have ku := units_same (m := m) (rows := rows) (to := to) (fun p hp => ok.lo p hp)
    unfold unitsL at ku
    generalize hks : cutI (turnL to (rs0 m rows) (placesL rows)) (m - (us0 m rows).sum) = ks at *
    have nlS : D2 ≠ S := ne_of_none hD2x nS
    have fr4 : FrN NoW H (upd Hx S (.lst (ks.map V.int))) := ((FrN.same s14).trans fx).updN nS
    have nw : NewT H D2 := NewT.back (.same s1) (.none hD2)
    refine ⟨S, rfl, ⟨_, SqL.of upd_same⟩, for_list (K := K) (a := S) (xs := ks.map V.int) (fun i σ H' => ∃ v, σ = [some (.int m), some (.ref a), some (.str to), some (.int (wholeOf rows)), some (.ref D2), v, some (.ref p), some (.ref D3), none, none] ∧ FrN NoW H H' ∧ LamX.Tabs T.tabs H' ∧ H' S = some (.lst (ks.map V.int)) ∧ H' D2 = some (.lst ((bumps (us0 m rows) (ks.take i)).map V.int)))
      ⟨none, rfl, fr4, tabs_same tx (same_new nS), upd_same, by rw [upd_ne nlS]; exact hD2x⟩ (fun i σ H' _ ⟨_, _, _, _, hS, _⟩ => SqL.of hS) ?_ ?_⟩
    · rintro i x σ H' hx ⟨v, rfl, fr, tt, hS, hl'⟩
      obtain ⟨q, rfl, hq⟩ := ints_at hx
      obtain ⟨q0, q1⟩ := hbs q (List.mem_of_getElem? hq)
      have bl := bumps_len (ks.take i) (us0 m rows)
      have hlt : q.toNat < (bumps (us0 m rows) (ks.take i)).length := by omega
      have hat : atI ((bumps (us0 m rows) (ks.take i)).map V.int) q = some (V.int ((bumps (us0 m rows) (ks.take i)).getD q.toNat 0)) := by
        have e := atI_nat (xs := (bumps (us0 m rows) (ks.take i)).map V.int) (j := q.toNat) (v := V.int ((bumps (us0 m rows) (ks.take i)).getD q.toNat 0)) (by rw [List.getElem?_map, List.getElem?_eq_getElem hlt]; simp [List.getD, List.getElem?_eq_getElem hlt])
        rw [Int.toNat_of_nonneg q0] at e
        exact e
      refine ⟨_, rfl, _, rfl, D2, _, q, _, rfl, rfl, SqL.of hl', hat, _, _, rfl, rfl, _, rfl, _, rfl, D2, _, q, q.toNat, rfl, rfl, hl', ixN_nat q0 (by rw [List.length_map]; omega), ?_⟩
      refine ⟨_, rfl, fr.updW nw, tabs_upd tt hl' (fun ps z => by cases z) (fun q z => by cases z), ?_, ?_⟩
      · rw [upd_ne nlS.symm]
        exact hS
      · rw [upd_same, bumps_take hq]
        unfold bump
        rw [List.map_set]
    · rintro σ H' ⟨v, rfl, fr, tt, hS, hl'⟩
      rw [List.length_map, List.take_length, ku] at hl'
      exact ⟨_, rfl, k H' D2 fr tt nw hl'⟩
end
end Kx
set_option maxHeartbeats 4000000
namespace Kx
open PySem PySem.Spec PyProof.Rows L2
section
variable {lo : Int} {n : Nat} {g : TG} {tt : TT} {te : TE} {vs : List Nat} {σ : L2.St} {H1 : Hp} {D : Addr} {Qd : Hp → Prop}
/-- new objects over a range, nothing else touched -/
theorem lr_ob (O : Nat → HO → Prop) (hD : H1 D = none) (hsz : n < sizeLine)
    (hs : ∀ i ys H, i < n → Same H1 H → H D = some (.lst ys) → (∀ H4 t o, Same H H4 → H t = none → H4 t = some o → O i o → LcE NoW H1 D (obR O H1 D) i (.ref t) H4) →
      g (.int (lo + i)) (wipe σ vs) H fun σ2 H2 => wipe σ2 vs = wipe σ vs ∧ tt σ2 H2 fun b H3 => if b = true then te σ2 H3 fun y H4 => LcE NoW H1 D (obR O H1 D) i y H4 else LcP NoW H1 D (obR O H1 D) (i + 1) H3)
    (hd : ∀ H (ts : List Addr), Same H1 H → H D = some (.lst (ts.map V.ref)) → ts.length = n → (∀ j t, ts[j]? = some t → H1 t = none ∧ ∃ o, H t = some o ∧ O j o) → Qd H) : LrW lo n g tt te vs σ H1 D Qd := by
  refine lr_st NoW hD (obR O H1 D) ⟨[], rfl, rfl, fun j t h => by simp at h⟩ (fun i ys H hi fr d l r => ?_) fun ys H fr d l r => ?_
  · exact hs i ys H hi fr.same d fun H4 t o f4 ht h4 ho => lc_put hD (fun z => z) (by omega) fr d l (.of f4) (ob_put r fr (fun _ z => z.elim) d (.of f4) ht (fun z => z) h4 ho)
  · obtain ⟨ts, e1, e2, e3⟩ := r
    subst e1
    exact hd H ts fr.same d e2 fun j t h => ⟨(e3 j t h).1, (e3 j t h).2.2⟩
end
section
variable {X : Cx} {CX : CXT} {k n : Nat} {f C : Addr} {fd : FuncData} {ps ks : List Str} {sp : Sp} {E : XK} {x : Str} {p pos : Pos} {kws : List Keyword} {tk : TA} {g : List Value → List Value → List Value} {gV : List V → List V → List V}
/-- C(k = v, ..): keywords alone -/
theorem pe_makeN0 (M : Mk X.K C f) (F : FnOk X.prog X.w X.K X.mg X.base CX k f fd ps sp) (hr : Room (k + 1) X.A) (hg : Gl X x) (hm : X.mg x = some (.ref C)) (hb : KBn X.K fd ps (0 + 1) ks g gV) (hx : Passes CX X E)
    (hkw : PK X kws tk) (hall : (backToKw pos (keywordEach kws X.env)).all (·.1.isSome) = true := by rfl) (hks : (backToKw pos (keywordEach kws X.env)).filterMap (·.1) = ks := by rfl)
    (hdb : (x == ("__debug__" : Str)) = false := by decide)
    (hpl : ((backTo pos (starEach [] X.env)).any (·.1) || (backToKw pos (keywordEach kws X.env)).any (·.1.isNone)) = false := by rfl) :
    PE X (.Call (.Name x p) [] kws pos) (tMakeN C 0 ks.length sp gV E tNil tk) := by
  refine ⟨fun pins s σ H Q I h => ?_⟩
  refine wpAny_Call_Name_kw (ld_glob I hg hm ?_ hdb)
  refine PySem.W.callWith_KW0 (h₀ := X.base) I.ok.mod.kin M.kp hall (thn (hkw.run pos pins s σ H _ I h) fun ws s2 ⟨zs, H2, I2, rz, l1, l2, q2⟩ => ⟨I2.kIn, ?_⟩) hpl
  rw [hks]
  exact run_makeN M F hr hb hx I2 .nil rz l1 l2 q2
end
theorem vals_take {vs : List V} {us : List Value} (h : Vals vs us) (n : Nat) : Vals (vs.take n) (us.take n) := by
  induction h generalizing n with
  | nil => simp; exact .nil
  | cons a b ih =>
    cases n with
    | zero => exact .nil
    | succ n => exact .cons a (ih n)
theorem vals_reverse {vs : List V} {us : List Value} (h : Vals vs us) : Vals vs.reverse us.reverse := by
  induction h with
  | nil => exact .nil
  | cons a b ih =>
    rw [List.reverse_cons, List.reverse_cons]
    exact Vals.append ih (.cons a .nil)
section
variable {P : Program} {w : World} {K : PySem.W.Frag} {mg : Str → Option Value} {base : Heap} (T : Txt K mg w)
/-- tuples (name, units, price) -/
def DuesAt (H : Hp) (p : Addr) (xs : Rows) (pr : Int) : Prop := ∃ ts : List Addr, H p = some (.lst (ts.map V.ref)) ∧ ts.length = xs.length ∧ ∀ (i : Nat) t x, ts[i]? = some t → xs[i]? = some x → H t = some (.tup [.str x.1, .int x.2, .int pr])
theorem DuesAt.ext {H H' : Hp} {p : Addr} {xs : Rows} {pr : Int} (h : DuesAt H p xs pr) (f : FrN NoW H H') : DuesAt H' p xs pr := by
  obtain ⟨ts, h1, h2, h3⟩ := h
  exact ⟨ts, f _ _ (fun z => z) h1 (fun ps z => by cases z), h2, fun i t x a b => f _ _ (fun z => z) (h3 i t x a b) (fun ps z => by cases z)⟩
def spLLots : Sp := fun vs H Q _ => ∃ (m o : Addr) (M : MD) (outs : List Str), vs = [.ref m] ∧ Md1 H m o M outs ∧ LamX.Tabs T.tabs H ∧ ∀ H' p, FrN NoW H H' → LamX.Tabs T.tabs H' → NewT H p → DuesAt H' p (lotRows M outs) (pricedOf M outs) → Q (.ref p) H'
theorem ok_llots (B : TbOk T base) : FnOk P w K mg base CX0 3 T.fLLots T.dLLots pLLots (spLLots T) := by
  have GW : FnOk P w K mg base CX0 1 T.fLWeighed T.dLWeighed pLWeighed spLWeighed := ok_lweighed T
  have GP : FnOk P w K mg base CX0 2 T.fLPriced T.dLPriced pLPriced spLPriced := ok_lpriced T
  have GU : FnOk P w K mg base CX0 2 T.fLUnits T.dLUnits pLUnits (spLUnits T) := ok_lunits T B
  refine T.FLLots.ok scLLots (fun vs H Q E h => ?_) (fun cdv A outer s H vs Q E hr h => ?_)
  · obtain ⟨m, o, M, outs, rfl, _⟩ := h; rfl
  · obtain ⟨m, o, M, outs, rfl, hm, htb, k⟩ := h
    obtain ⟨a, b, h1, h2, h3⟩ := hm.at_
    have hu := hu_of hr
    have hM := hm.ok
    have hr1 : Room 1 _ := hr.mono (by decide)
    refine ⟨_, (pss_cons (ps_set (i := 1) scLLots.nd rfl (Or.inr rfl) (pe_call GU hr (by rfl) T.gLUnits T.FLUnits.kp T.bLUnits .nil pass0 (pa_cons (pe_call GW hr1 (by rfl) T.gLWeighed T.FLWeighed.kp T.bLWeighed .nil pass0 (pa_cons (pv 0) pa_nil)) (pa_cons (pe_dget hu (pv 0) pe_str (fun _ _ => rfl)) (pa_cons (pe_dget hu (pv 0) pe_str (fun _ _ => rfl)) pa_nil)))))
      (pss_one (ps_ret (pe_lc (own := [("_law_k", 2)]) (g := gName 2) (tt := tYes) (te := tTup (tCons (tOp (rIxT K) (tOp (rIxL K) (tDGet (tVar 0) (tC (.str "shares"))) (tVar 2)) (tC (.int 0))) (tCons (tOp (rIxL K) (tVar 1) (tVar 2)) (tCons (tCall spLPriced [] E0 (tCons (tVar 0) tNil)) tNil)))) rfl scLLots.nd
        (pi_range1 (by rfl) T.zRange (pa_cons (pe_callB call_len (by rfl) T.zLen boot_len (pa_cons (pv 1) pa_nil)) pa_nil)) (blkOk_by (N := nLLots) (sc := defScope sLLots) (by decide +kernel)) (fun _ _ _ _ _ => pg_name (i := 2) scLLots.nd rfl (Or.inl rfl)) (fun _ _ _ _ _ => pts_nil)
        (fun _ _ _ _ _ => pe_tup (pa_cons (pe_ix ix_tup (pe_ix ix_list (pe_dget hu (pv 0) pe_str (fun _ _ => rfl)) (pv 2) (fun _ _ => rfl)) pe_int (fun _ _ => rfl)) (pa_cons (pe_ix ix_list (pv 1) (pv 2) (fun _ _ => rfl)) (pa_cons (pe_call GP hr (by rfl) T.gLPriced T.FLPriced.kp T.bLPriced .nil pass0 (pa_cons (pv 0) pa_nil)) pa_nil)))))))), ?_⟩
    refine ⟨_, rfl, m, o, M, outs, rfl, hm, fun H1 s1 => ⟨_, rfl, m, _, rfl, dg_shares (s1 _ _ h1), _, rfl, m, _, rfl, dg_to (s1 _ _ h1), ?_⟩⟩
    refine ⟨_, b, M.shares, M.to, rfl, h3.ext (.same s1), hM.shares, hM.to, tabs_same htb s1, fun H2 u f2 t2 nu hu' => ?_⟩
    have fr2 : FrN NoW H H2 := (FrN.same s1).trans f2
    have hm2 := hm.ext fr2
    obtain ⟨a2, b2, g1, g2, ⟨ts, g3, g3'⟩⟩ := hm2.at_
    have ul : (unitsOf M outs).length = M.shares.length := by unfold unitsOf; rw [unitsP_len]
    have hsl := hM.shares.le
    refine ⟨_, rfl, _, M.shares.length, rfl, .inl ⟨_, SqL.of hu', by rw [List.length_map]; exact ul.symm⟩, _, rfl, by omega, by omega, fun D hD => ?_⟩
    have en : ((M.shares.length : Nat) : Int).toNat = M.shares.length := by omega
    rw [en]
    refine lr_ob (fun i o => ∀ x, (lotRows M outs)[i]? = some x → o = .tup [.str x.1, .int x.2, .int (pricedOf M outs)]) hD (by rw [sizeLine_eq]; omega) (fun i ys Hx hi s d put => ?_) fun H4 qs s4 d4 l4 o4 => ?_
    · obtain ⟨t, ht0⟩ : ∃ t, ts[i]? = some t := ⟨_, List.getElem?_eq_getElem (by rw [g3'.1]; exact hi)⟩
      have hp : M.shares[i]? = some M.shares[i] := List.getElem?_eq_getElem hi
      have htt := s _ _ (g3'.2 i t _ ht0 hp)
      have hui : (unitsOf M outs)[i]? = some (unitsOf M outs)[i] := List.getElem?_eq_getElem (by omega)
      have at1 : atI (ts.map V.ref) (0 + (i : Int)) = some (V.ref t) := by
        rw [Int.zero_add]
        exact atI_nat (by rw [List.getElem?_map, ht0]; rfl)
      have at2 : atI ((unitsOf M outs).map V.int) (0 + (i : Int)) = some (V.int (unitsOf M outs)[i]) := by
        rw [Int.zero_add]
        exact atI_nat (by rw [List.getElem?_map, hui]; rfl)
      refine ⟨rfl, _, rfl, m, _, rfl, dg_shares (s _ _ g1), _, rfl, b2, _, _, _, rfl, rfl, SqL.of (s _ _ g3), at1, t, _, 0, _, rfl, rfl, SqT.of htt, rfl, _, rfl, _, rfl, u, _, _, _, rfl, rfl, SqL.of (s _ _ hu'), at2, _, rfl, m, o, M, outs, rfl, hm2.same s, fun H5 s5 => ⟨(by show 3 ≤ sizeLine; decide), fun q nq => ?_⟩⟩
      refine put _ q _ (same_upd s5 (s5.free nq)) (s5.free nq) upd_same fun y hy => ?_
      have ey : y = (M.shares[i].1, (unitsOf M outs)[i]) := by
        unfold lotRows at hy
        rw [List.getElem?_zip_eq_some] at hy
        obtain ⟨y1, y2⟩ := hy
        rw [List.getElem?_map, hp] at y1
        rw [hui] at y2
        exact Prod.ext (Option.some.inj y1).symm (Option.some.inj y2).symm
      subst ey
      rfl
    · have f4 : FrN NoW H H4 := fr2.trans (.same s4)
      refine k H4 D f4 (tabs_same t2 s4) (NewT.back fr2 (.none hD)) ⟨qs, d4, by rw [lotRows_len]; exact l4, fun i t x ht hx => ?_⟩
      obtain ⟨_, o', e1, e2⟩ := o4 i t ht
      rw [e1, e2 x hx]
end
end Kx
set_option maxHeartbeats 4000000
namespace Kx
open PySem PySem.Spec PyProof.Rows L2
theorem shaped_a {a b : Str} {c d : Int} (ha : PyData.strOk a = true) (hb : PyData.strOk b = true) : SeqAt.shaped (.list [.str a, .str b, .int c, .int d]) = true := by
  simp [SeqAt.shaped, PyData.canLay0, PyData.canLayAll0, PyData.depth, PyData.depthAll, ha, hb]
theorem ok_turn {to : Str} (h : Turn3 to) : PyData.strOk to = true := by cases h <;> decide +kernel
theorem ok_mv {to : Str} (h : Move3 to) : PyData.strOk to = true := by cases h <;> decide +kernel
theorem ok_nm {z : Str} (h : isNm z) : PyData.strOk z = true := by
  unfold PyData.strOk
  rw [← Array.all_toList]
  refine List.all_eq_true.mpr fun c hc => decide_eq_true ?_
  have := h.2.2 c hc
  omega
section
variable {P : Program} {w : World} {K : PySem.W.Frag} {mg : Str → Option Value} {base : Heap} (T : Txt K mg w)
theorem made_read {H H1 : Hp} {x dy a b : Addr} {M : MD} {vs : List V} {Q : VK} {E : XK} (s1 : Same H H1) (nx : H1 x = none) (ndy : H1 dy = none) (ha : RowsAt H1 a M.nets) (hb : RowsAt H1 b M.shares) (hM : M.Ok)
    (hvs : vs = [.ref x, .ref a, .int M.price, .ref b, .str M.to, .str M.move, .int M.step, .int M.floor])
    (k : ∀ H' x o', Same H H' → H x = none → H o' = none → SaleN T H H' x M o' → OutAt H' o' [] → Q (.ref x) H') :
    spSale T vs (upd (upd H1 dy (.own x)) x (.ins T.cSale dy [])) (fun v H3 => v = .non ∧ Q (.ref x) H3) E := by
  have s2 : Same H1 (upd (upd H1 dy (.own x)) x (.ins T.cSale dy [])) := same_upd (same_new ndy) nx
  refine ⟨x, dy, a, b, M, hvs, upd_same, ha.ext (.same s2), hb.ext (.same s2), hM, fun H3 o' f3 no hs3 ho3 => ⟨rfl, ?_⟩⟩
  have n1 : o' ≠ x := fun z => by rw [z, upd_same] at no; cases no
  have n2 : H1 o' = none := by
    rw [upd_ne n1] at no
    by_cases c : o' = dy
    · rw [c, upd_same] at no; cases no
    · rw [upd_ne c] at no; exact no
  refine k H3 x o' (fun c u e => ?_) (s1.free nx) (s1.free n2) (SaleN.back (s1.trans s2) hs3) ho3
  have e1 := s1 _ _ e
  exact f3 _ _ (ne_of_none e1 nx) (s2 _ _ e1)
theorem sale_b7 : ∃ ds, Vals [] ds ∧ Binds K T.dSaleInit pSaleInit ds := by
  have h := FunD.binds1 (ps := pSaleInit) T.FSaleInit 8 4 (by simp) (by rfl) (fun S kV doc pm an cdv ct us its h1 h2 => match us, h1, its, h2 with
    | [_, _, _, _, _, _, _, _], _, [_, _, _, _], _ => ⟨_, rfl, rfl⟩)
  exact h
theorem sale_b3 : ∃ ds, Vals [V.str "first", V.str "keep", V.int 0, V.int 0] ds ∧ Binds K T.dSaleInit pSaleInit ds := by
  have h := FunD.binds1 (ps := pSaleInit) T.FSaleInit 4 0 (by simp) (by rfl) (fun S kV doc pm an cdv ct us its h1 h2 => match us, h1, its, h2 with
    | [_, _, _, _], _, [_, _, _, _], _ => ⟨_, rfl, rfl⟩)
  exact h
theorem sale_k1 : ∃ its : List Value, KBn K T.dSaleInit pSaleInit 4 ["floor", "step", "move", "to"] (fun us ws => us ++ ws.reverse) (fun vs zs => vs ++ zs.reverse) := by
  have h := FunD.kbindsD (ps := pSaleInit) T.FSaleInit 4 ["floor", "step", "move", "to"] (fun us its ws => us ++ ws.reverse) (by simp) (fun r1 _ r3 => r1.append (vals_reverse r3)) (fun S kV doc pm an cdv ct us its ws h1 h2 h3 => match us, h1, its, h2, ws, h3 with
    | [_, _, _, _], _, [_, _, _, _], _, [_, _, _, _], _ => ⟨_, rfl, rfl⟩)
  exact h
theorem sale_k2 : ∃ its : List Value, KBn K T.dSaleInit pSaleInit 1 ["shares", "price", "nets", "to", "move", "floor"] (fun us ws => us ++ ((ws.take 3).reverse ++ ((ws.drop 3).take 2 ++ ((its.drop 2).take 1 ++ ws.drop 5)))) (fun vs zs => vs ++ ((zs.take 3).reverse ++ ((zs.drop 3).take 2 ++ ([V.int 0] ++ zs.drop 5)))) := by
  have h := FunD.kbindsD (ps := pSaleInit) T.FSaleInit 1 ["shares", "price", "nets", "to", "move", "floor"] (fun us its ws => us ++ ((ws.take 3).reverse ++ ((ws.drop 3).take 2 ++ ((its.drop 2).take 1 ++ ws.drop 5)))) (by simp)
    (fun r1 r2 r3 => r1.append ((vals_reverse (vals_take r3 3)).append ((vals_take (r3.drop 3) 2).append ((vals_take (r2.drop 2) 1).append (r3.drop 5))))) (fun S kV doc pm an cdv ct us its ws h1 h2 h3 => match us, h1, its, h2, ws, h3 with
    | [_], _, [_, _, _, _], _, [_, _, _, _, _, _], _ => ⟨_, rfl, rfl⟩)
  exact h
theorem sale_k3 : ∃ its : List Value, KBn K T.dSaleInit pSaleInit 2 ["price", "shares", "to", "move", "step", "floor"] (fun us ws => us ++ ws) (fun vs zs => vs ++ zs) := by
  have h := FunD.kbindsD (ps := pSaleInit) T.FSaleInit 2 ["price", "shares", "to", "move", "step", "floor"] (fun us its ws => us ++ ws) (by simp) (fun r1 _ r3 => r1.append r3) (fun S kV doc pm an cdv ct us its ws h1 h2 h3 => match us, h1, its, h2, ws, h3 with
    | [_, _], _, [_, _, _, _], _, [_, _, _, _, _, _], _ => ⟨_, rfl, rfl⟩)
  exact h
def spMade : Sp := fun vs H Q _ => ∃ (m o : Addr) (M : MD) (way : Int), vs = [.ref m, .int way] ∧ ModelAt H m M o ∧ M.Ok ∧ ∀ H' x o', Same H H' → H x = none → H o' = none → SaleN T H H' x M o' → OutAt H' o' [] → Q (.ref x) H'
theorem ok_made : FnOk P w K mg base CX0 7 T.fLMade T.dLMade pLMade (spMade T) := by
  have GS : FnOk P w K mg base CX0 5 T.fSaleInit T.dSaleInit pSaleInit (spSale T) := ok_sale T
  obtain ⟨ds7, v7, b7⟩ := sale_b7 T
  obtain ⟨ds3, v3, b3⟩ := sale_b3 T
  obtain ⟨i1, k1⟩ := sale_k1 T
  obtain ⟨i2, k2⟩ := sale_k2 T
  obtain ⟨i3, k3⟩ := sale_k3 T
  refine T.FLMade.ok scLMade (fun vs H Q E h => ?_) (fun cdv A outer s H vs Q E hr h => ?_)
  · obtain ⟨m, o, M, way, rfl, _⟩ := h; rfl
  · obtain ⟨m, o, M, way, rfl, ⟨a, b, h1, h2, h3⟩, hM, k⟩ := h
    have hu := hu_of hr
    refine ⟨_, (pss_cons (ps_setLc (i := 2) (own := [("_law_word", 3)]) (g := gName 3) (tt := tYes) (te := tDGet (tVar 0) (tVar 3)) rfl scLMade.nd rfl rfl (sw_true rfl rfl rfl (by decide +kernel)) (pi_list (pe_lst (pa_cons (pe_str) (pa_cons (pe_str) (pa_cons (pe_str) (pa_cons (pe_str) (pa_cons (pe_str) (pa_cons (pe_str) (pa_cons (pe_str) pa_nil))))))))) (blkOk_by (N := nLMade) (sc := defScope sLMade) (by decide +kernel))
          (fun _ _ _ _ _ => pg_name (i := 3) scLMade.nd rfl (Or.inl rfl)) (fun _ _ _ _ _ => pts_nil) (fun _ _ _ _ _ => pe_dget hu (pv 0) (pv 3) (fun _ _ => rfl)))
      (pss_cons (ps_if (pt_cmpR op_eq (pv 1) pe_int (nomark _)) (pss_one (ps_ret (pe_make T.MSale GS hr (by rfl) T.gSale b7 v7 pass0 (pa_cons (pe_ix ix_list (pv 2) pe_int (fun _ _ => rfl)) (pa_cons (pe_ix ix_list (pv 2) pe_int (fun _ _ => rfl)) (pa_cons (pe_ix ix_list (pv 2) pe_int (fun _ _ => rfl)) (pa_cons (pe_ix ix_list (pv 2) pe_int (fun _ _ => rfl)) (pa_cons (pe_ix ix_list (pv 2) pe_int (fun _ _ => rfl)) (pa_cons (pe_ix ix_list (pv 2) pe_int (fun _ _ => rfl)) (pa_cons (pe_ix ix_list (pv 2) pe_int (fun _ _ => rfl)) pa_nil)))))))))) pss_nil)
      (pss_cons (ps_if (pt_cmpR op_eq (pv 1) pe_int (nomark _)) (pss_one (ps_ret (pe_makeN (n := 3) T.MSale GS hr (by rfl) T.gSale k1 pass0 (pa_cons (pe_ix ix_list (pv 2) pe_int (fun _ _ => rfl)) (pa_cons (pe_ix ix_list (pv 2) pe_int (fun _ _ => rfl)) (pa_cons (pe_ix ix_list (pv 2) pe_int (fun _ _ => rfl)) pa_nil))) (pk_cons (pe_ix ix_list (pv 2) pe_int (fun _ _ => rfl)) (pk_cons (pe_ix ix_list (pv 2) pe_int (fun _ _ => rfl)) (pk_cons (pe_ix ix_list (pv 2) pe_int (fun _ _ => rfl)) (pk_cons (pe_ix ix_list (pv 2) pe_int (fun _ _ => rfl)) pk_nil))))))) pss_nil)
      (pss_cons (ps_if (pt_cmpR (op_eqD hr.units) (pe_slice sl_list (pv 2) (po_some pe_int) po_none) (pe_lst (pa_cons (pe_str) (pa_cons (pe_str) (pa_cons (pe_int) (pa_cons (pe_int) pa_nil))))) (nomark _)) (pss_one (ps_ret (pe_make T.MSale GS hr (by rfl) T.gSale b3 v3 pass0 (pa_cons (pe_ix ix_list (pv 2) pe_int (fun _ _ => rfl)) (pa_cons (pe_ix ix_list (pv 2) pe_int (fun _ _ => rfl)) (pa_cons (pe_ix ix_list (pv 2) pe_int (fun _ _ => rfl)) pa_nil)))))) pss_nil)
      (pss_cons (ps_if (pt_cmpR op_eq (pe_ix ix_list (pv 2) pe_int (fun _ _ => rfl)) pe_int (nomark _)) (pss_one (ps_ret (pe_makeN0 T.MSale GS hr (by rfl) T.gSale k2 pass0 (pk_cons (pe_ix ix_list (pv 2) pe_int (fun _ _ => rfl)) (pk_cons (pe_ix ix_list (pv 2) pe_int (fun _ _ => rfl)) (pk_cons (pe_ix ix_list (pv 2) pe_int (fun _ _ => rfl)) (pk_cons (pe_ix ix_list (pv 2) pe_int (fun _ _ => rfl)) (pk_cons (pe_ix ix_list (pv 2) pe_int (fun _ _ => rfl)) (pk_cons (pe_ix ix_list (pv 2) pe_int (fun _ _ => rfl)) pk_nil))))))))) pss_nil)
      (pss_one (ps_ret (pe_makeN (n := 1) T.MSale GS hr (by rfl) T.gSale k3 pass0 (pa_cons (pe_ix ix_list (pv 2) pe_int (fun _ _ => rfl)) pa_nil) (pk_cons (pe_ix ix_list (pv 2) pe_int (fun _ _ => rfl)) (pk_cons (pe_ix ix_list (pv 2) pe_int (fun _ _ => rfl)) (pk_cons (pe_ix ix_list (pv 2) pe_int (fun _ _ => rfl)) (pk_cons (pe_ix ix_list (pv 2) pe_int (fun _ _ => rfl)) (pk_cons (pe_ix ix_list (pv 2) pe_int (fun _ _ => rfl)) (pk_cons (pe_ix ix_list (pv 2) pe_int (fun _ _ => rfl)) pk_nil)))))))))))))), ?_⟩
    generalize hsv : ([V.ref a, V.int M.price, V.ref b, V.str M.to, V.str M.move, V.int M.step, V.int M.floor] : List V) = sv
    refine ⟨(by show 7 ≤ sizeLine; decide), fun l nl => ⟨l, rfl, ⟨_, SqL.of upd_same⟩, fun D hD => ?_⟩⟩
    have sl : Same H (upd H l (.lst [.str "nets", .str "price", .str "shares", .str "to", .str "move", .str "step", .str "floor"])) := same_new nl
    refine lc_fm (K := K) (a := l) (xs := [.str "nets", .str "price", .str "shares", .str "to", .str "move", .str "step", .str "floor"]) (fun v => match v with | .str z => valV (mdK M a b o) (.inr z) | _ => none) hD (SqL.of upd_same) (by show 7 < sizeLine; decide) (fun i x ys Hx hx s' d' put skip => ?_) fun H1 s' d' => ?_
    · have hx' := List.mem_of_getElem? hx
      have hm := s' _ _ (sl _ _ h1)
      simp only [List.mem_cons, List.not_mem_nil, or_false] at hx'
      refine ⟨rfl, ?_⟩
      rcases hx' with rfl | rfl | rfl | rfl | rfl | rfl | rfl
      · exact ⟨_, rfl, _, rfl, m, _, rfl, dg_nets hm, put _ _ (Same.refl _) rfl⟩
      · exact ⟨_, rfl, _, rfl, m, _, rfl, dg_price hm, put _ _ (Same.refl _) rfl⟩
      · exact ⟨_, rfl, _, rfl, m, _, rfl, dg_shares hm, put _ _ (Same.refl _) rfl⟩
      · exact ⟨_, rfl, _, rfl, m, _, rfl, dg_to hm, put _ _ (Same.refl _) rfl⟩
      · exact ⟨_, rfl, _, rfl, m, _, rfl, dg_move hm, put _ _ (Same.refl _) rfl⟩
      · exact ⟨_, rfl, _, rfl, m, _, rfl, dg_step hm, put _ _ (Same.refl _) rfl⟩
      · exact ⟨_, rfl, _, rfl, m, _, rfl, dg_floor hm, put _ _ (Same.refl _) rfl⟩
    have d1 : H1 D = some (.lst sv) := by rw [← hsv]; exact d'
    have s1 : Same H H1 := sl.trans s'
    have g0 : atI sv 0 = some (V.ref a) := by rw [← hsv]; rfl
    have g1 : atI sv 1 = some (V.int M.price) := by rw [← hsv]; rfl
    have g2 : atI sv 2 = some (V.ref b) := by rw [← hsv]; rfl
    have g3 : atI sv 3 = some (V.str M.to) := by rw [← hsv]; rfl
    have g4 : atI sv 4 = some (V.str M.move) := by rw [← hsv]; rfl
    have g5 : atI sv 5 = some (V.int M.step) := by rw [← hsv]; rfl
    have g6 : atI sv 6 = some (V.int M.floor) := by rw [← hsv]; rfl
    have g36 : cutV sv (some 3) none = [V.str M.to, V.str M.move, V.int M.step, V.int M.floor] := by rw [← hsv]; rfl
    refine ⟨_, rfl, rfl, _, rfl, ite2 (fun _ => ?_) (fun _ => ?_)⟩
    · refine ⟨_, rfl, D, _, 0, _, rfl, rfl, SqL.of d1, g0, _, rfl, D, _, 1, _, rfl, rfl, SqL.of d1, g1, _, rfl, D, _, 2, _, rfl, rfl, SqL.of d1, g2, _, rfl, D, _, 3, _, rfl, rfl, SqL.of d1, g3, _, rfl, D, _, 4, _, rfl, rfl, SqL.of d1, g4, _, rfl, D, _, 5, _, rfl, rfl, SqL.of d1, g5, _, rfl, D, _, 6, _, rfl, rfl, SqL.of d1, g6, fun x dy nx ndy hne => ?_⟩
      exact made_read T s1 nx ndy (h2.ext (.same s1)) (h3.ext (.same s1)) hM rfl k
    refine ⟨_, rfl, rfl, _, rfl, ite2 (fun _ => ?_) (fun _ => ?_)⟩
    · refine ⟨_, rfl, D, _, 0, _, rfl, rfl, SqL.of d1, g0, _, rfl, D, _, 1, _, rfl, rfl, SqL.of d1, g1, _, rfl, D, _, 2, _, rfl, rfl, SqL.of d1, g2, _, rfl, D, _, 6, _, rfl, rfl, SqL.of d1, g6, _, rfl, D, _, 5, _, rfl, rfl, SqL.of d1, g5, _, rfl, D, _, 4, _, rfl, rfl, SqL.of d1, g4, _, rfl, D, _, 3, _, rfl, rfl, SqL.of d1, g3, rfl, rfl, fun x dy nx ndy hne => ?_⟩
      exact made_read T s1 nx ndy (h2.ext (.same s1)) (h3.ext (.same s1)) hM rfl k
    refine ⟨_, rfl, _, rfl, D, sv, rfl, SqL.of d1, fun l2 nl2 => ⟨(by show 4 ≤ sizeLine; decide), fun l3 nl3 => ?_⟩⟩
    have s2 : Same H1 (upd (upd H1 l2 (.lst (cutV sv (some 3) none))) l3 (.lst [.str "first", .str "keep", .int 0, .int 0])) := by
      intro c u e
      have c2 : c ≠ l2 := ne_of_none e nl2
      have c3 : c ≠ l3 := fun z => by rw [← z, upd_ne c2, e] at nl3; cases nl3
      rw [upd_ne c3, upd_ne c2]
      exact e
    have n23 : l2 ≠ l3 := fun z => by rw [← z, upd_same] at nl3; cases nl3
    have d2 : upd (upd H1 l2 (.lst (cutV sv (some 3) none))) l3 (.lst [.str "first", .str "keep", .int 0, .int 0]) D = some (.lst sv) := s2 _ _ d1
    have e2 : upd (upd H1 l2 (.lst (cutV sv (some 3) none))) l3 (.lst [.str "first", .str "keep", .int 0, .int 0]) l2 = some (.lst [V.str M.to, V.str M.move, V.int M.step, V.int M.floor]) := by rw [upd_ne n23, upd_same, g36]
    have e3 : upd (upd H1 l2 (.lst (cutV sv (some 3) none))) l3 (.lst [.str "first", .str "keep", .int 0, .int 0]) l3 = some (.lst [.str "first", .str "keep", .int 0, .int 0]) := upd_same
    have s3 : Same H (upd (upd H1 l2 (.lst (cutV sv (some 3) none))) l3 (.lst [.str "first", .str "keep", .int 0, .int 0])) := s1.trans s2
    generalize upd (upd H1 l2 (.lst (cutV sv (some 3) none))) l3 (.lst [.str "first", .str "keep", .int 0, .int 0]) = H2 at *
    refine ⟨.list [.str M.to, .str M.move, .int M.step, .int M.floor], .list [.str "first", .str "keep", .int 0, .int 0], .lst (SqL.of e2) (.cons (.str _) (.cons (.str _) (.cons (.int _) (.cons (.int _) .nil)))), .lst (SqL.of e3) (.cons (.str _) (.cons (.str _) (.cons (.int _) (.cons (.int _) .nil)))), ?_, ?_, _, rfl, ite2 (fun c => ?_) (fun _ => ?_)⟩
    · exact shaped_a (ok_turn hM.to) (ok_mv hM.move)
    · exact shaped_a (by decide +kernel) (by decide +kernel)
    · have c' : M.to = "first" ∧ M.move = "keep" ∧ M.step = 0 ∧ M.floor = 0 := by
        simpa [PyData.eqv, PyData.eqvAll] using c
      obtain ⟨c1, c2, c3, c4⟩ := c'
      refine ⟨_, rfl, D, _, 0, _, rfl, rfl, SqL.of d2, g0, _, rfl, D, _, 1, _, rfl, rfl, SqL.of d2, g1, _, rfl, D, _, 2, _, rfl, rfl, SqL.of d2, g2, fun x dy nx ndy hne => ?_⟩
      exact made_read T s3 nx ndy (h2.ext (.same s3)) (h3.ext (.same s3)) hM (by rw [c1, c2, c3, c4]; rfl) k
    refine ⟨_, rfl, D, _, 5, _, rfl, rfl, SqL.of d2, g5, rfl, _, rfl, ite2 (fun c => ?_) (fun _ => ?_)⟩
    · have c' : M.step = 0 := by
        rw [dec_int] at c
        exact of_decide_eq_true c
      refine ⟨_, rfl, D, _, 2, _, rfl, rfl, SqL.of d2, g2, _, rfl, D, _, 1, _, rfl, rfl, SqL.of d2, g1, _, rfl, D, _, 0, _, rfl, rfl, SqL.of d2, g0, _, rfl, D, _, 3, _, rfl, rfl, SqL.of d2, g3, _, rfl, D, _, 4, _, rfl, rfl, SqL.of d2, g4, _, rfl, D, _, 6, _, rfl, rfl, SqL.of d2, g6, rfl, rfl, fun x dy nx ndy hne => ?_⟩
      exact made_read T s3 nx ndy (h2.ext (.same s3)) (h3.ext (.same s3)) hM (by rw [c']; rfl) k
    · refine ⟨_, rfl, D, _, 0, _, rfl, rfl, SqL.of d2, g0, _, rfl, D, _, 1, _, rfl, rfl, SqL.of d2, g1, _, rfl, D, _, 2, _, rfl, rfl, SqL.of d2, g2, _, rfl, D, _, 3, _, rfl, rfl, SqL.of d2, g3, _, rfl, D, _, 4, _, rfl, rfl, SqL.of d2, g4, _, rfl, D, _, 5, _, rfl, rfl, SqL.of d2, g5, _, rfl, D, _, 6, _, rfl, rfl, SqL.of d2, g6, rfl, rfl, fun x dy nx ndy hne => ?_⟩
      exact made_read T s3 nx ndy (h2.ext (.same s3)) (h3.ext (.same s3)) hM rfl k
end
end Kx
set_option maxHeartbeats 4000000
namespace Kx
open PySem PySem.Spec PyProof.Rows L2
/-! ### data -/
theorem dpall_strs {K : PySem.W.Frag} {H : Hp} : ∀ zs : List Str, DpAll K H (zs.map V.str) (zs.map PyData.str)
  | [] => .nil
  | z :: zs => .cons (.str z) (dpall_strs zs)
theorem canlay_strs : ∀ {zs : List Str}, (∀ z ∈ zs, PyData.strOk z = true) → PyData.canLayAll0 (zs.map PyData.str) = true
  | [], _ => by simp [PyData.canLayAll0]
  | z :: zs, h => by
    rw [List.map_cons, PyData.canLayAll0, PyData.canLay0, h z (List.mem_cons_self ..), canlay_strs fun y hy => h y (List.mem_cons_of_mem _ hy)]
    rfl
theorem depth_strs : ∀ zs : List Str, PyData.depthAll (zs.map PyData.str) = 0
  | [] => by simp [PyData.depthAll]
  | z :: zs => by rw [List.map_cons, PyData.depthAll, depth_strs zs]; simp [PyData.depth]
theorem shaped_strs {zs : List Str} (h : ∀ z ∈ zs, PyData.strOk z = true) : SeqAt.shaped (.list (zs.map PyData.str)) = true := by
  simp [SeqAt.shaped, PyData.canLay0, canlay_strs h, PyData.depth, depth_strs]
/-- a list of rows of texts and ints -/
def tupD {β : Type} (f : β → List PyData) (l : List β) : PyData := .list (l.map fun b => .tuple (f b))
theorem canlay_tups {β : Type} {f : β → List PyData} : ∀ {l : List β}, (∀ b ∈ l, PyData.canLayAll0 (f b) = true) → PyData.canLayAll0 (l.map fun b => .tuple (f b)) = true
  | [], _ => by simp [PyData.canLayAll0]
  | b :: l, h => by
    rw [List.map_cons, PyData.canLayAll0, PyData.canLay0, h b (List.mem_cons_self ..), canlay_tups fun y hy => h y (List.mem_cons_of_mem _ hy)]
    rfl
theorem depth_tups {β : Type} {f : β → List PyData} : ∀ {l : List β}, (∀ b ∈ l, PyData.depthAll (f b) = 0) → PyData.depthAll (l.map fun b => .tuple (f b)) ≤ 1
  | [], _ => by simp [PyData.depthAll]
  | b :: l, h => by
    rw [List.map_cons, PyData.depthAll, PyData.depth, h b (List.mem_cons_self ..)]
    have := depth_tups (f := f) (l := l) fun y hy => h y (List.mem_cons_of_mem _ hy)
    omega
theorem shaped_tups {β : Type} {f : β → List PyData} {l : List β} (h1 : ∀ b ∈ l, PyData.canLayAll0 (f b) = true) (h2 : ∀ b ∈ l, PyData.depthAll (f b) = 0) : SeqAt.shaped (tupD f l) = true := by
  have := depth_tups h2
  unfold tupD SeqAt.shaped
  rw [PyData.canLay0, canlay_tups h1, PyData.depth]
  simp
  omega
theorem dpall_tups {K : PySem.W.Frag} {H : Hp} {β : Type} {f : β → List PyData} {g : β → List V} (hfg : ∀ b, DpAll K H (g b) (f b)) : ∀ {ts : List Addr} {l : List β}, ts.length = l.length → (∀ (i : Nat) t b, ts[i]? = some t → l[i]? = some b → H t = some (.tup (g b))) →
    DpAll K H (ts.map V.ref) (l.map fun b => .tuple (f b))
  | [], [], _, _ => .nil
  | [], _ :: _, h, _ => by simp at h
  | _ :: _, [], h, _ => by simp at h
  | t :: ts, b :: l, h, a => .cons (.tup (SqT.of (a 0 t b rfl rfl)) (hfg b)) (dpall_tups hfg (by simpa using h) fun i t b h1 h2 => a (i + 1) t b (by simpa using h1) (by simpa using h2))
theorem eqv_self {d : PyData} (h : SeqAt.shaped d = true) : PyData.eqv d d = true := SeqAt.eqv_refl d (SeqAt.canLay_of_shaped h)
/-- x != y of the same data -/
theorem ne_read {K : PySem.W.Frag} {H : Hp} {x y : V} {Q : VK} (d : PyData) (hx : Dp K H x d) (hy : Dp K H y d) (hs : SeqAt.shaped d = true) (q : Q (.bl false) H) : rNeD K x y H Q := by
  refine ⟨d, d, hx, hy, hs, hs, ?_⟩
  rw [eqv_self hs]
  exact q
def f2D (x : Str × Int) : List PyData := [.str x.1, .int x.2]
def f3D (pr : Int) (x : Str × Int) : List PyData := [.str x.1, .int x.2, .int pr]
theorem filter_two {β : Type} (p : β → Bool) : ∀ l : List β, (l.filter p).length + (l.filter fun x => !p x).length = l.length
  | [] => rfl
  | x :: l => by
    have ih := filter_two p l
    by_cases h : p x = true
    · rw [List.filter_cons_of_pos h, List.filter_cons_of_neg (by rw [h]; decide)]
      simp only [List.length_cons]
      omega
    · rw [List.filter_cons_of_neg h, List.filter_cons_of_pos (by simpa using h)]
      simp only [List.length_cons]
      omega
theorem len_out {rows : Rows} {outs : List Str} (nd : (rows.map (·.1)).Nodup) (on : outs.Nodup) (os : ∀ z ∈ outs, z ∈ rows.map (·.1)) : ((rows.filter fun p => !decide (p.1 ∈ outs)).length : Int) = rows.length - outs.length := by
  have e1 : (rows.filter fun p => decide (p.1 ∈ outs)).length + (rows.filter fun p => !decide (p.1 ∈ outs)).length = rows.length := by
    exact filter_two _ rows
  have e2 : ((rows.map (·.1)).filter fun z => decide (z ∈ outs)).length = (rows.filter fun p => decide (p.1 ∈ outs)).length := by
    rw [List.filter_map, List.length_map]
    rfl
  have e3 : ((rows.map (·.1)).filter fun z => decide (z ∈ outs)).Perm outs := by
    refine (List.perm_ext_iff_of_nodup (nd.filter _) on).mpr fun z => ?_
    rw [List.mem_filter]
    constructor
    · intro h
      exact of_decide_eq_true h.2
    · intro h
      exact ⟨os z h, decide_eq_true h⟩
  have := e3.length_eq
  omega
end Kx
set_option maxHeartbeats 4000000
namespace Kx
open PySem PySem.Spec PyProof.Rows L2
def outV (outs : List Str) : V → Option V := fun v => match v with | .str z => if decide (z ∈ outs) = true then some (V.str z) else none | _ => none
theorem fm_strs (outs : List Str) : ∀ l : List Str, (l.map V.str).filterMap (outV outs) = (l.filter fun z => decide (z ∈ outs)).map V.str
  | [] => rfl
  | x :: l => by
    rw [List.map_cons, List.filterMap_cons, List.filter_cons, fm_strs outs l]
    cases c : decide (x ∈ outs) with
    | true => 
      have e : outV outs (V.str x) = some (V.str x) := if_pos c
      rw [e]
      rfl
    | false =>
      have e : outV outs (V.str x) = none := if_neg (by rw [c]; decide)
      rw [e]
      rfl
section
variable {P : Program} {w : World} {K : PySem.W.Frag} {mg : Str → Option Value} {base : Heap} (T : Txt K mg w)
def spSt0 : Sp := fun vs H Q _ => ∃ (s o : Addr) (M : MD) (z : Str) (outs : List Str), vs = [.ref s, .str z] ∧ SaleAt T H s M o ∧ OutAt H o outs ∧ z ∈ M.nets.map (·.1) ∧ Q (.bl (!decide (z ∈ outs))) H
theorem ok_st0 : FnOk P w K mg base CX0 4 T.fSaleStands T.dSaleStands pSaleStands (spSt0 T) := by
  refine ok0 (ok_stands T) fun vs H Q E h => ?_
  obtain ⟨s, o, M, z, outs, rfl, h1, h2, h3, h4⟩ := h
  refine ⟨s, o, M, .str z, outs, rfl, h1, h2, .str z, fun z' e _ => ?_, fun z' => ?_⟩
  · cases e; exact h4
  · have : decide (z ∈ M.nets.map (·.1)) = false := z'
    rw [decide_eq_true h3] at this
    cases this
/-- the refused are chests of the sale, each once -/
def OutOk (M : MD) (outs : List Str) : Prop := outs.Nodup ∧ ∀ z ∈ outs, z ∈ M.nets.map (·.1)
def spRight : Sp := fun vs H Q _ => ∃ (s m o1 o2 : Addr) (M : MD) (outs : List Str), vs = [.ref s, .ref m] ∧ Rd1 T H s o1 M outs ∧ Md1 H m o2 M outs ∧ OutOk M outs ∧ LamX.Tabs T.tabs H ∧ ∀ H', FrN NoW H H' → LamX.Tabs T.tabs H' → Q (.bl true) H'
theorem ok_right (B : TbOk T base) : FnOk P w K mg base CX0 9 T.fLRight T.dLRight pLRight (spRight T) := by
  have G1 : FnOk P w K mg base CX0 2 T.fSaleLen T.dSaleLen pSaleLen (spLen T) := ok_len T
  have G2 : FnOk P w K mg base CX0 2 T.fSaleWeight T.dSaleWeight pSaleWeight (spWeight T) := ok_weight T
  have G3 : FnOk P w K mg base CX0 1 T.fLWeighed T.dLWeighed pLWeighed spLWeighed := ok_lweighed T
  have G4 : FnOk P w K mg base CX0 4 T.fSaleMovedPrice T.dSaleMovedPrice pSaleMovedPrice (spPriced T) := ok_priced T
  have G5 : FnOk P w K mg base CX0 2 T.fLPriced T.dLPriced pLPriced spLPriced := ok_lpriced T
  have G6 : FnOk P w K mg base CX0 1 T.fSaleRefused T.dSaleRefused pSaleRefused (spRefused T) := ok_refused T
  have G7 : FnOk P w K mg base CX0 4 T.fSaleStands T.dSaleStands pSaleStands (spSt0 T) := ok_st0 T
  have G8 : FnOk P w K mg base CX0 3 T.fLLots T.dLLots pLLots (spLLots T) := ok_llots T B
  have G9 : FnOk P w K mg base CX0 6 T.fSaleLots T.dSaleLots pSaleLots (spLots T) := ok_lots T B
  have G10 : FnOk P w K mg base CX0 7 T.fSaleSums T.dSaleSums pSaleSums (spSums T) := ok_sums T B
  have G11 : FnOk P w K mg base CX0 5 T.fSaleStr T.dSaleStr pSaleStr (spStr T) := ok_str T
  have G12 : FnOk P w K mg base CX0 7 T.fSaleRepr T.dSaleRepr pSaleRepr (spRepr T) := ok_repr T
  refine T.FLRight.ok scLRight (fun vs H Q E h => ?_) (fun cdv A outer s H vs Q E hr h => ?_)
  · obtain ⟨a, m, o1, o2, M, outs, rfl, _⟩ := h; rfl
  · obtain ⟨a, m, o1, o2, M, outs, rfl, hs, hm, ho, htb, k⟩ := h
    have hu := hu_of hr
    have hu64 := hr.units
    have hr2 : Room 2 _ := hr.mono (by decide)
    have hr3 : Room 3 _ := hr.mono (by decide)
    have hr1 : Room 1 _ := hr.mono (by decide)
    have hr4 : Room 4 _ := hr.mono (by decide)
    have hr6 : Room 6 _ := hr.mono (by decide)
    have hr7 : Room 7 _ := hr.mono (by decide)
    refine ⟨_, (pss_cons (ps_setLc (i := 2) (own := [("_law_mark_here", 7), ("_law_net", 8)]) (g := gPair K 7 8) (tt := tYes) rfl scLRight.nd rfl rfl (sw_true rfl rfl rfl (by decide +kernel)) (pi_list (pe_dget hu (pv 1) pe_str (fun _ _ => rfl))) (blkOk_by (N := nLRight) (sc := defScope sLRight) (by decide +kernel))
          (fun _ _ _ _ _ => pg_tup rfl (pgs_cons (pg_name (i := 7) scLRight.nd rfl (Or.inl rfl)) (pgs_cons (pg_name (i := 8) scLRight.nd rfl (Or.inl rfl)) pgs_nil))) (fun _ _ _ _ _ => pts_nil) (fun _ _ _ _ _ => pv 7))
      (pss_cons (ps_if (pw_or (pt_cmpR op_ne (pe_callB (cr_lenOwn T.lenS T.mSaleLen.fn G1 T.bSaleLen hr3 pass0) (by rfl) T.zLen boot_len (pa_cons (pv 0) pa_nil)) (pe_op op_sub (pe_callB call_len (by rfl) T.zLen boot_len (pa_cons (pv 2) pa_nil)) (pe_callB call_len (by rfl) T.zLen boot_len (pa_cons (pe_dget hu (pv 1) pe_str (fun _ _ => rfl)) pa_nil))) (nomark _))
        (pw_or1 (pt_cmpR op_ne (pe_meth0 (pv 0) T.CSale T.mSaleWeight G2 hr2 T.bSaleWeight .nil pass0) (pe_call G3 hr1 (by rfl) T.gLWeighed T.FLWeighed.kp T.bLWeighed .nil pass0 (pa_cons (pv 1) pa_nil)) (nomark _)))).pt (pss_one (ps_ret pe_bl)) pss_nil)
      (pss_cons (ps_if (pw_or (pt_cmpR op_ne (pe_meth0 (pv 0) T.CSale T.mSaleMovedPrice G4 hr4 T.bSaleMovedPrice .nil pass0) (pe_call G5 hr2 (by rfl) T.gLPriced T.FLPriced.kp T.bLPriced .nil pass0 (pa_cons (pv 1) pa_nil)) (nomark _))
        (pw_or1 (pt_cmpR (op_neD hu64) (pe_meth0 (pv 0) T.CSale T.mSaleRefused G6 hr1 T.bSaleRefused .nil pass0) (pe_dget hu (pv 1) pe_str (fun _ _ => rfl)) (nomark _)))).pt (pss_one (ps_ret pe_bl)) pss_nil)
      (pss_cons (ps_if (pt_cmpR (op_neD hu64) (pe_lc (own := [("_law_mark_here", 7)]) (g := gName 7) (tt := tNot (tB (tMeth T.cSale "stands" (spSt0 T) [] E0 (tVar 0) (tCons (tVar 7) tNil)))) rfl scLRight.nd (pi_list (pv 2)) (blkOk_by (N := nLRight) (sc := defScope sLRight) (by decide +kernel))
            (fun _ _ _ _ _ => pg_name (i := 7) scLRight.nd rfl (Or.inl rfl)) (fun _ _ _ _ _ => pts_one (pt_not (pt_val (pe_meth (pv 0) T.CSale T.mSaleStands G7 hr4 T.bSaleStands .nil pass0 (pa_cons (pv 7) pa_nil))))) (fun _ _ _ _ _ => pv 7))
          (pe_lc (own := [("_law_mark_here", 7)]) (g := gName 7) (tt := tTest (tOp (rIn K false) (tVar 7) (tDGet (tVar 1) (tC (.str "out"))))) rfl scLRight.nd (pi_list (pv 2)) (blkOk_by (N := nLRight) (sc := defScope sLRight) (by decide +kernel))
            (fun _ _ _ _ _ => pg_name (i := 7) scLRight.nd rfl (Or.inl rfl)) (fun _ _ _ _ _ => pts_one (pt_cmpR op_in_seq (pv 7) (pe_dget hu (pv 1) pe_str (fun _ _ => rfl)) rfl)) (fun _ _ _ _ _ => pv 7)) (nomark _)) (pss_one (ps_ret pe_bl)) pss_nil)
      (pss_cons (ps_set (i := 3) scLRight.nd rfl (Or.inl rfl) (pe_call G8 hr3 (by rfl) T.gLLots T.FLLots.kp T.bLLots .nil pass0 (pa_cons (pv 1) pa_nil)))
      (pss_cons (ps_set (i := 4) scLRight.nd rfl (Or.inl rfl) (pe_meth0 (pv 0) T.CSale T.mSaleLots G9 hr6 T.bSaleLots .nil pass0))
      (pss_cons (ps_if (pt_cmpR (op_neD hu64) (pe_lc (own := [("_law_lot", 9)]) (g := gName 9) (tt := tYes) (te := tTup (tCons (tFld K (tVar 9) "name") (tCons (tFld K (tVar 9) "units") (tCons (tFld K (tVar 9) "price") tNil)))) rfl scLRight.nd (pi_list (pv 4)) (blkOk_by (N := nLRight) (sc := defScope sLRight) (by decide +kernel))
            (fun _ _ _ _ _ => pg_name (i := 9) scLRight.nd rfl (Or.inl rfl)) (fun _ _ _ _ _ => pts_nil) (fun _ _ _ _ _ => pe_tup (pa_cons (pe_fld (pv 9) rfl) (pa_cons (pe_fld (pv 9) rfl) (pa_cons (pe_fld (pv 9) rfl) pa_nil))))) (pv 3) (nomark _)) (pss_one (ps_ret pe_bl)) pss_nil)
      (pss_cons (ps_set (i := 5) scLRight.nd rfl (Or.inl rfl) (pe_meth0 (pv 0) T.CSale T.mSaleSums G10 hr7 T.bSaleSums .nil pass0))
      (pss_cons (ps_if (pt_cmpR (op_neD hu64) (LiI.pe_listItems rfl (pv 5) (by rfl) T.zList boot_list)
          (pe_lc (own := [("_law_who", 10), ("_law_many", 11), ("_law_each", 12)]) (g := gTup K 3 (gCons (gName 10) (gCons (gName 11) (gCons (gName 12) gNil)))) (tt := tYes) (te := tTup (tCons (tVar 10) (tCons (tOp (rI CMul fun i j => .int (i * j)) (tVar 11) (tVar 12)) tNil))) rfl scLRight.nd (pi_list (pv 3)) (blkOk_by (N := nLRight) (sc := defScope sLRight) (by decide +kernel))
            (fun _ _ _ _ _ => pg_tup rfl (pgs_cons (pg_name (i := 10) scLRight.nd rfl (Or.inl rfl)) (pgs_cons (pg_name (i := 11) scLRight.nd rfl (Or.inl rfl)) (pgs_cons (pg_name (i := 12) scLRight.nd rfl (Or.inl rfl)) pgs_nil)))) (fun _ _ _ _ _ => pts_nil) (fun _ _ _ _ _ => pe_tup (pa_cons (pv 10) (pa_cons (pe_op op_mul (pv 11) (pv 12)) pa_nil)))) (nomark _)) (pss_one (ps_ret pe_bl)) pss_nil)
      (pss_cons (ps_expr (pe_bm PySem.F.plainAttrs_list PySem.F.slot_list_append PySem.F.type_list_append mt_append (pe_meth0 (pv 0) T.CSale T.mSaleRefused G6 hr1 T.bSaleRefused .nil pass0) (pa_cons (pe_str) pa_nil)))
      (pss_cons (ps_expr (pe_bm0 PySem.F.plainAttrs_list PySem.F.slot_list_clear PySem.F.type_list_clear mt_clear (pv 4)))
      (pss_cons (ps_expr (pe_dclear (pv 5)))
      (pss_cons (ps_set (i := 6) scLRight.nd rfl (Or.inl rfl) (pe_op op_add_str (pe_op op_add_str (pe_join pe_str (pe_lst (pa_cons (pe_callTy call_str_int (by rfl) T.zStr (by decide +kernel) (pa_cons (pe_call G3 hr1 (by rfl) T.gLWeighed T.FLWeighed.kp T.bLWeighed .nil pass0 (pa_cons (pv 1) pa_nil)) pa_nil)) (pa_cons (pe_callTy call_str_int (by rfl) T.zStr (by decide +kernel) (pa_cons (pe_call G5 hr2 (by rfl) T.gLPriced T.FLPriced.kp T.bLPriced .nil pass0 (pa_cons (pv 1) pa_nil)) pa_nil)) pa_nil)))) pe_str)
          (pe_callTy call_str_int (by rfl) T.zStr (by decide +kernel) (pa_cons (pe_callB call_len (by rfl) T.zLen boot_len (pa_cons (pv 3) pa_nil)) pa_nil))))
      (pss_one (ps_ret (pe_and (pe_cmpR op_eq (pe_callTy (cr_strOwn T.strS T.mSaleStr.fn G11 T.bSaleStr hr7 pass0) (by rfl) T.zStr (by decide +kernel) (pa_cons (pv 0) pa_nil)) (pv 6) (nomark _))
        (pe_one (pe_cmpR op_eq (pe_callB (cr_reprOwn T.repS T.mSaleRepr.fn G12 T.bSaleRepr hr pass0) (by rfl) T.zRepr (by decide +kernel) (pa_cons (pv 0) pa_nil)) (pe_op op_add_str (pe_op op_add_str pe_str (pv 6)) pe_str) (nomark _))))))))))))))))))), ?_⟩
    obtain ⟨⟨dx, da, sb, i1, i2, i3, i4⟩, io, iM, il⟩ := id hs
    obtain ⟨na, nb, g1, ⟨ts, g2, g2'⟩, g3⟩ := hm.at_
    have hM := hm.ok
    have n60 := hM.nets.le
    have hnames : ∀ z ∈ M.nets.map (·.1), PyData.strOk z = true := fun z hz => by
      obtain ⟨p, hp, rfl⟩ := List.mem_map.mp hz
      exact ok_nm (hM.nets.nm p hp)
    -- marks
    refine ⟨_, rfl, m, _, rfl, dg_nets g1, na, rfl, ⟨_, SqL.of g2⟩, fun D hD => ?_⟩
    refine lc_rows (fun _ => true) (fun p => V.str p.1) hD g2 g2' (by omega) (fun _ _ => rfl) (fun p _ H _ QT q => q) (fun p _ H _ QE q => ⟨_, rfl, q⟩) fun H1 s1 d1 => ?_
    rw [filter_yes] at d1
    have e1 : M.nets.map (fun p => V.str p.1) = (M.nets.map (fun q : Str × Int => q.1)).map V.str := by rw [List.map_map]; rfl
    rw [e1] at d1
    -- len, weight
    have stl : (standF M outs).length ≤ 60 := by
      unfold standF
      rw [List.length_map]
      have := List.length_filter_le (fun p : Str × Int => !decide (p.1 ∈ outs)) M.nets
      omega
    refine ⟨_, rfl, a, dx, _, rfl, s1 _ _ i1, a, o1, M, outs, rfl, hs.same s1, fun H2 s2 => ⟨_, rfl, by omega, _, rfl, _, M.nets.length, rfl, .inl ⟨_, SqL.of (s2 _ _ d1), by rw [List.length_map, List.length_map]⟩, _, rfl, m, _, rfl, dg_out (s2 _ _ (s1 _ _ g1)), _, outs.length, rfl, .inl ⟨_, SqL.of (s2 _ _ (s1 _ _ hm.out)), by rw [List.length_map]⟩, _, _, rfl, rfl, rfl, _, rfl, ?_⟩⟩
    have s12 := s1.trans s2
    refine iteNS ?_ ?_
    · have := len_out hM.nets.nd ho.1 ho.2
      unfold standF
      rw [List.length_map]
      congr 1
    refine ⟨_, rfl, a, dx, _, rfl, s12 _ _ i1, sf_no _ _ _ _ (by decide +kernel), a, o1, M, outs, rfl, hs.same s12, fun H3 s3 => ⟨_, rfl, m, o2, M, outs, rfl, hm.same (s12.trans s3), fun H4 s4 => ⟨rfl, _, rfl, ?_⟩⟩⟩
    have s14 := s12.trans (s3.trans s4)
    refine iteNS rfl ?_
    -- price, refused
    refine ⟨_, rfl, a, dx, _, rfl, s14 _ _ i1, sf_no _ _ _ _ (by decide +kernel), a, o1, M, outs, rfl, hs.same s14, fun H5 s5 => ⟨_, rfl, m, o2, M, outs, rfl, hm.same (s14.trans s5), fun H6 s6 => ⟨rfl, _, rfl, ?_⟩⟩⟩
    have s16 := s14.trans (s5.trans s6)
    refine iteNS rfl ?_
    have shO : SeqAt.shaped (.list (outs.map PyData.str)) = true := shaped_strs fun z hz => hnames z (ho.2 z hz)
    refine ⟨_, rfl, a, dx, _, rfl, s16 _ _ i1, sf_no _ _ _ _ (by decide +kernel), a, o1, M, outs, rfl, hs.same s16, fun H7 p7 s7 np7 hp7 => ⟨_, rfl, m, _, rfl, dg_out (s7 _ _ (s16 _ _ g1)), ?_⟩⟩
    have s17 := s16.trans s7
    refine ne_read (.list (outs.map PyData.str)) (.lst (SqL.of hp7) (dpall_strs outs)) (.lst (SqL.of (s17 _ _ hm.out)) (dpall_strs outs)) shO ⟨_, rfl, iteF ?_⟩
    -- the chests that do not stand
    have d7 : H7 D = some (.lst ((M.nets.map (fun q : Str × Int => q.1)).map V.str)) := s7 _ _ (s6 _ _ (s5 _ _ (s4 _ _ (s3 _ _ (s2 _ _ d1)))))
    refine ⟨_, rfl, D, rfl, ⟨_, SqL.of d7⟩, fun E1 hE1 => ?_⟩
    refine lc_fm (K := K) (a := D) (xs := (M.nets.map (fun q : Str × Int => q.1)).map V.str) (outV outs) hE1 (SqL.of d7) (by rw [List.length_map, List.length_map, sizeLine_eq]; omega) (fun i x ys Hx hx sx dx' put skip => ?_) fun H8 s8 d8 => ?_
    · have hx' := List.mem_of_getElem? hx
      obtain ⟨z, hz, rfl⟩ := List.mem_map.mp hx'
      have sx' := s17.trans sx
      refine ⟨rfl, _, rfl, a, dx, _, rfl, sx' _ _ i1, sf_no _ _ _ _ (by decide +kernel), _, rfl, a, o1, M, z, outs, rfl, hs.1.same sx', sx' _ _ io, hz, _, rfl, ?_⟩
      by_cases c : z ∈ outs
      · rw [decide_eq_true c]
        exact iteT ⟨_, rfl, put _ _ (Same.refl _) (if_pos (decide_eq_true c))⟩
      · rw [decide_eq_false c]
        exact iteF (skip _ (Same.refl _) (if_neg (by rw [decide_eq_false c]; decide)))
    rw [fm_strs] at d8
    have d8' := s8 _ _ d7
    have s18 := s17.trans s8
    refine ⟨_, rfl, D, rfl, ⟨_, SqL.of d8'⟩, fun E2 hE2 => ?_⟩
    refine lc_fm (K := K) (a := D) (xs := (M.nets.map (fun q : Str × Int => q.1)).map V.str) (outV outs) hE2 (SqL.of d8') (by rw [List.length_map, List.length_map, sizeLine_eq]; omega) (fun i x ys Hx hx sx dx' put skip => ?_) fun H9 s9 d9 => ?_
    · have hx' := List.mem_of_getElem? hx
      obtain ⟨z, hz, rfl⟩ := List.mem_map.mp hx'
      have sx' := s18.trans sx
      refine ⟨rfl, _, rfl, _, rfl, m, _, rfl, dg_out (sx' _ _ g1), o2, _, rfl, .inl (SqL.of (sx' _ _ hm.out)), rfl, flat_strs outs, _, rfl, ?_⟩
      rw [if_neg (by decide)]
      show if inV (.str z) (outs.map V.str) = true then _ else _
      rw [inV_strs]
      exact ite2 (fun c => ⟨_, rfl, put _ _ (Same.refl _) (if_pos c)⟩) (fun c => skip _ (Same.refl _) (if_neg c))
    rw [fm_strs] at d9
    have s19 := s18.trans s9
    refine ne_read (.list (((M.nets.map (fun q : Str × Int => q.1)).filter fun z => decide (z ∈ outs)).map PyData.str)) (.lst (SqL.of (s9 _ _ d8)) (dpall_strs _)) (.lst (SqL.of d9) (dpall_strs _)) (shaped_strs fun z hz => hnames z (List.mem_filter.mp hz).1) ⟨_, rfl, iteF ?_⟩
    -- dues, lots
    have htb9 := tabs_same htb s19
    obtain ⟨pr0, pr1⟩ := priced_range (outs := outs) hM
    have ll : (lotRows M outs).length ≤ 24 := by rw [lotRows_len]; exact hM.shares.le
    have lnm : ∀ x ∈ lotRows M outs, PyData.strOk x.1 = true := fun x hx => by
      have hx1 : x.1 ∈ M.shares.map (·.1) := by rw [← lotRows_fst M outs]; exact List.mem_map_of_mem hx
      obtain ⟨p, hp, e⟩ := List.mem_map.mp hx1
      rw [← e]
      exact ok_nm (hM.shares.nm p hp)
    refine ⟨_, rfl, m, o2, M, outs, rfl, hm.same s19, htb9, fun Ha pD fa ta nD dD => ?_⟩
    have f1a : FrN NoW H Ha := (FrN.same s19).trans fa
    refine ⟨_, rfl, a, dx, _, rfl, f1a _ _ (fun z => z) i1 (fun ps z => by cases z), sf_no _ _ _ _ (by decide +kernel), a, o1, M, outs, rfl, hs.ext f1a, ta, fun Hb pL fb tb nL hL => ?_⟩
    have f1b := f1a.trans fb
    have dDb := dD.ext fb
    obtain ⟨ls, q1, q2, q3⟩ := hL
    -- the lots are the dues
    refine ⟨_, rfl, pL, rfl, ⟨_, SqL.of q1⟩, fun E3 hE3 => ?_⟩
    refine lc_ob (K := K) (a := pL) (xs := ls.map V.ref) (fun i o => ∀ x, (lotRows M outs)[i]? = some x → o = .tup [.str x.1, .int x.2, .int (pricedOf M outs)]) hE3 (SqL.of q1) (by rw [List.length_map, sizeLine_eq]; omega) (fun i x ys H4 hx s4 d4 put => ?_) fun Hc tc sc dc lc oc => ?_
    · rw [List.getElem?_map] at hx
      cases ei : ls[i]? with
      | none => rw [ei] at hx; cases hx
      | some t =>
        rw [ei] at hx
        obtain rfl : V.ref t = x := Option.some.inj hx
        have il : i < (lotRows M outs).length := by rw [← q2]; exact (List.getElem?_eq_some_iff.mp ei).1
        obtain ⟨p, ep⟩ : ∃ p, (lotRows M outs)[i]? = some p := ⟨_, List.getElem?_eq_getElem il⟩
        obtain ⟨dy, ht⟩ := q3 i t p ei ep
        have ht4 := s4 _ _ ht
        refine ⟨rfl, _, rfl, t, T.cLot, dy, _, _, rfl, ht4, T.CLot, T.nL_name, lf_name _ _ _, _, rfl, t, T.cLot, dy, _, _, rfl, ht4, T.CLot, T.nL_units, lf_units _ _ _, _, rfl, t, T.cLot, dy, _, _, rfl, ht4, T.CLot, T.nL_price, lf_price _ _ _, (by show 3 ≤ sizeLine; decide), fun u nu => ?_⟩
        refine put _ u _ (same_new nu) nu upd_same fun y hy => ?_
        rw [ep] at hy
        cases hy
        rfl
    have f1c := f1b.trans (FrN.same sc)
    have tc' := tabs_same tb sc
    have dDc := dDb.ext (.same sc)
    rw [List.length_map, q2] at lc
    have tri : ∀ (H' : Hp) (b : Str × Int), DpAll K H' [V.str b.1, .int b.2, .int (pricedOf M outs)] (f3D (pricedOf M outs) b) := fun H' b => .cons (.str _) (.cons (.int _) (.cons (.int _) .nil))
    have two : ∀ (H' : Hp) (b : Str × Int), DpAll K H' [V.str b.1, .int b.2] (f2D b) := fun H' b => .cons (.str _) (.cons (.int _) .nil)
    have shT : SeqAt.shaped (tupD (f3D (pricedOf M outs)) (lotRows M outs)) = true := shaped_tups (fun b hb => by simp [f3D, PyData.canLayAll0, PyData.canLay0, lnm b hb]) fun b _ => by simp [f3D, PyData.depthAll, PyData.depth]
    have dpD : ∀ {H' : Hp}, DuesAt H' pD (lotRows M outs) (pricedOf M outs) → Dp K H' (.ref pD) (tupD (f3D (pricedOf M outs)) (lotRows M outs)) := fun {H'} h => by
      obtain ⟨ds, h1, h2, h3⟩ := h
      exact .lst (SqL.of h1) (dpall_tups (tri H') h2 h3)
    refine ⟨_, rfl, ne_read (tupD (f3D (pricedOf M outs)) (lotRows M outs)) (.lst (SqL.of dc) (dpall_tups (tri Hc) lc fun i t x ht hx => ?_)) (dpD dDc) shT ⟨_, rfl, iteF ?_⟩⟩
    · obtain ⟨_, o', e1, e2⟩ := oc i t ht
      rw [e1, e2 x hx]
    -- the sums
    refine ⟨_, rfl, a, dx, _, rfl, f1c _ _ (fun z => z) i1 (fun ps z => by cases z), sf_no _ _ _ _ (by decide +kernel), a, o1, M, outs, rfl, hs.ext f1c, tc', fun Hd pS fd td nS hS => ?_⟩
    have f1d := f1c.trans fd
    have dDd := dDc.ext fd
    refine ⟨_, rfl, pS, _, rfl, hS, fun He pI ti se npI npt pti hI prI => ?_⟩
    have dDe := dDd.ext (.same se)
    have f1e := f1d.trans (FrN.same se)
    obtain ⟨ds, d1', d2, d3⟩ := id dDe
    refine ⟨_, rfl, pD, rfl, ⟨_, SqL.of d1'⟩, fun E4 hE4 => ?_⟩
    refine lc_ob (K := K) (a := pD) (xs := ds.map V.ref) (fun i o => ∀ x, (owedRows M outs)[i]? = some x → o = .tup [.str x.1, .int x.2]) hE4 (SqL.of d1') (by rw [List.length_map, sizeLine_eq]; omega) (fun i x ys H4 hx s4 d4 put => ?_) fun Hf tf sf df lf of => ?_
    · rw [List.getElem?_map] at hx
      cases ei : ds[i]? with
      | none => rw [ei] at hx; cases hx
      | some t =>
        rw [ei] at hx
        obtain rfl : V.ref t = x := Option.some.inj hx
        have il : i < (lotRows M outs).length := by rw [← d2]; exact (List.getElem?_eq_some_iff.mp ei).1
        obtain ⟨p, ep⟩ : ∃ p, (lotRows M outs)[i]? = some p := ⟨_, List.getElem?_eq_getElem il⟩
        have ht := s4 _ _ (d3 i t p ei ep)
        refine ⟨t, _, rfl, SqT.of ht, rfl, _, _, rfl, _, _, rfl, _, _, rfl, rfl, rfl, _, rfl, _, rfl, _, rfl, _, _, rfl, rfl, .inr ⟨by omega, by omega⟩, (by show 2 ≤ sizeLine; decide), fun u nu => ?_⟩
        refine put _ u _ (same_new nu) nu upd_same fun y hy => ?_
        unfold owedRows at hy
        rw [List.getElem?_map, ep] at hy
        cases hy
        rfl
    have f1f := f1e.trans (FrN.same sf)
    have tf' := tabs_same (tabs_same td se) sf
    have ol : (owedRows M outs).length = (lotRows M outs).length := by unfold owedRows; rw [List.length_map]
    rw [List.length_map, d2] at lf
    have shS : SeqAt.shaped (tupD f2D (owedRows M outs)) = true := shaped_tups (fun b hb => by
      unfold owedRows at hb
      obtain ⟨x, hx, rfl⟩ := List.mem_map.mp hb
      simp [f2D, PyData.canLayAll0, PyData.canLay0, lnm x hx]) fun b _ => by simp [f2D, PyData.depthAll, PyData.depth]
    have tI : TupsAt He ti (owedRows M outs) := tups_rowK prI
    refine ne_read (tupD f2D (owedRows M outs)) (.lst (SqL.of (sf _ _ hI)) (dpall_tups (two Hf) tI.1 fun i t x ht hx => sf _ _ (tI.2 i t x ht hx))) (.lst (SqL.of df) (dpall_tups (two Hf) (by rw [lf, ol]) fun i t x ht hx => ?_)) shS ⟨_, rfl, iteF ?_⟩
    · obtain ⟨_, o', e1, e2⟩ := of i t ht
      rw [e1, e2 x hx]
    -- what is spoilt
    refine ⟨_, rfl, a, dx, _, rfl, f1f _ _ (fun z => z) i1 (fun ps z => by cases z), sf_no _ _ _ _ (by decide +kernel), a, o1, M, outs, rfl, hs.ext f1f, fun Hg pR sg npR hpR => ?_⟩
    have ol60 : outs.length ≤ 60 := by
      have := len_out hM.nets.nd ho.1 ho.2
      omega
    refine ⟨.inl ⟨rfl, _, SqL.of hpR⟩, pR, _, _, rfl, rfl, hpR, by rw [List.length_map, sizeLine_eq]; omega, ?_⟩
    have f1g : FrN NoW H Hg := f1f.trans (FrN.same sg)
    have tg' := tabs_same tf' sg
    generalize eh1 : upd Hg pR (.lst (outs.map V.str ++ [V.str "more"])) = Hh
    have fh : FrN NoW H Hh := by rw [← eh1]; exact f1g.updW (NewT.back f1f (.none npR))
    have th : LamX.Tabs T.tabs Hh := by rw [← eh1]; exact tabs_upd tg' hpR (fun ps z => by cases z) (fun q z => by cases z)
    have cf : FrN NoW Hb Hf := (FrN.same sc).trans (fd.trans ((FrN.same se).trans (FrN.same sf)))
    have q1f : Hf pL = some (.lst (ls.map V.ref)) := cf _ _ (fun z => z) q1 (fun ps z => by cases z)
    have hSf : Hf pS = some (.dK (rowK (owedRows M outs))) := sf _ _ (se _ _ hS)
    have q1h : Hh pL = some (.lst (ls.map V.ref)) := by rw [← eh1, upd_ne (ne_of_none q1f npR)]; exact sg _ _ q1f
    have hSh : Hh pS = some (.dK (rowK (owedRows M outs))) := by rw [← eh1, upd_ne (ne_of_none hSf npR)]; exact sg _ _ hSf
    have dDf : DuesAt Hf pD (lotRows M outs) (pricedOf M outs) := dDe.ext (.same sf)
    refine ⟨_, rfl, .inl ⟨rfl, _, SqL.of q1h⟩, pL, _, rfl, rfl, q1h, ?_⟩
    generalize eh2 : upd Hh pL (.lst []) = Hi
    have fi : FrN NoW H Hi := by rw [← eh2]; exact fh.updW (NewT.back f1a nL)
    have ti' : LamX.Tabs T.tabs Hi := by rw [← eh2]; exact tabs_upd th q1h (fun ps z => by cases z) (fun q z => by cases z)
    have nSL : pS ≠ pL := by
      rintro rfl
      rw [q1f] at hSf
      cases hSf
    have hSi : Hi pS = some (.dK (rowK (owedRows M outs))) := by rw [← eh2, upd_ne nSL]; exact hSh
    refine ⟨_, rfl, .inr (.inr (.inl ⟨rfl, .inl ⟨_, hSi⟩⟩)), pS, _, rfl, rfl, hSi, ?_⟩
    generalize eh3 : upd Hi pS (.dK []) = Hj
    have fj : FrN NoW H Hj := by rw [← eh3]; exact fi.updW (NewT.back f1c nS)
    have tj : LamX.Tabs T.tabs Hj := by rw [← eh3]; exact tabs_upd ti' hSi (fun ps z => by cases z) (fun q z => by cases z)
    have d1f : Hf pD = some (.lst (ds.map V.ref)) := sf _ _ d1'
    obtain ⟨da', d1a, _⟩ := id dD
    obtain ⟨dc', d1c, _⟩ := id dDc
    have nDL : pD ≠ pL := nL.ne d1a (fun ps z => by cases z)
    have nDS : pD ≠ pS := nS.ne d1c (fun ps z => by cases z)
    have d1j : Hj pD = some (.lst (ds.map V.ref)) := by
      rw [← eh3, upd_ne nDS, ← eh2, upd_ne nDL, ← eh1, upd_ne (ne_of_none d1f npR)]
      exact sg _ _ d1f
    -- the text
    have w0 := standF_nonneg (outs := outs) hM
    have w1 := weight_le (outs := outs) hM
    have tl := textOf_len (outs := outs) hM
    have bb : ∀ {x y : Str}, (x ++ y).length ≤ 100 → x.length ≤ 100 := fun {x y} h => by rw [Str.length_append] at h; omega
    unfold textOf at tl
    have z100 : (100 : Nat) ≤ sizeLine := by decide
    have t4 := bb tl
    have t3 := bb t4
    have hmj := hm.ext fj
    have e12 : (10 : Int) ^ 12 = 1000000000000 := by decide
    have lw := log_small w0 (by omega)
    have lp := log_small pr0 (by omega)
    refine ⟨⟨_, rfl⟩, _, rfl, m, o2, M, outs, rfl, hmj, fun Hk sk => ⟨_, rfl, lw, ?_⟩⟩
    refine ⟨_, rfl, m, o2, M, outs, rfl, hmj.same sk, fun Hl sl => ⟨_, rfl, lp, ?_⟩⟩
    refine ⟨(by show 2 ≤ sizeLine; decide), fun pJ npJ => ?_⟩
    have e4 : (" at " : Str).length = 4 := by decide +kernel
    have t2 := bb t3
    refine ⟨_, _, [numS (weightF M outs), numS (pricedOf M outs)], rfl, rfl, .inl (SqL.of upd_same), ?_, ?_⟩
    · have q := t3
      rw [Str.length_append, Str.length_append] at q
      show (numS (weightF M outs)).length + ((numS (pricedOf M outs)).length + 0) + 2 * (" at " : Str).length ≤ 16777216
      omega
    have ej : PySem.Txt.join " at " [numS (weightF M outs), numS (pricedOf M outs)] = numS (weightF M outs) ++ " at " ++ numS (pricedOf M outs) := by
      rw [txt_join]
      rfl
    rw [ej]
    have sjm : Same Hj (upd Hl pJ (.lst [V.str (numS (weightF M outs)), V.str (numS (pricedOf M outs))])) := (sk.trans sl).trans (same_new npJ)
    refine ⟨_, _, rfl, rfl, by rw [← Str.length_append]; exact Nat.le_trans t4 z100, ?_⟩
    have dl : (ds.map V.ref).length = (lotRows M outs).length := by rw [List.length_map]; exact d2
    refine ⟨_, rfl, _, (lotRows M outs).length, rfl, .inl ⟨_, SqL.of (sjm _ _ d1j), dl.symm⟩, _, rfl, log_small (by omega) (by omega), ?_⟩
    rw [lotRows_len]
    refine ⟨_, _, rfl, rfl, by rw [← Str.length_append]; exact Nat.le_trans tl z100, ?_⟩
    have ftm : FrN NoW H (upd Hl pJ (.lst [V.str (numS (weightF M outs)), V.str (numS (pricedOf M outs))])) := fj.trans (.same sjm)
    refine ⟨_, rfl, a, dx, _, rfl, ftm _ _ (fun z => z) i1 (fun ps z => by cases z), a, o1, M, outs, rfl, hs.ext ftm, fun Hn sn => ⟨_, rfl, _, rfl, rfl, _, rfl, ?_⟩⟩
    have ftn : FrN NoW H Hn := ftm.trans (.same sn)
    refine Eq.mpr (if_pos (decide_eq_true rfl)) ?_
    have a1 : ("Sale(" : Str).length = 5 := by decide +kernel
    have a2 : (")" : Str).length = 1 := by decide +kernel
    refine ⟨_, rfl, a, dx, _, rfl, ftn _ _ (fun z => z) i1 (fun ps z => by cases z), a, o1, M, outs, rfl, hs.ext ftn, fun Ho so => ⟨_, rfl, _, rfl, _, _, rfl, rfl, ?_, _, _, rfl, rfl, ?_, rfl, ?_⟩⟩
    · rw [a1]
      exact Nat.le_trans (Nat.add_le_add_left (textOf_len (outs := outs) hM) 5) (by decide)
    · rw [Str.length_append, a1, a2]
      exact Nat.le_trans (Nat.add_le_add_right (Nat.add_le_add_left (textOf_len (outs := outs) hM) 5) 1) (by decide)
    have fo : FrN NoW H Ho := ftn.trans (.same so)
    have to' : LamX.Tabs T.tabs Ho := tabs_same (tabs_same (tabs_same tj sjm) sn) so
    have e : decide (V.str (reprOf M outs) = V.str ("Sale(" ++ (numS (weightF M outs) ++ " at " ++ numS (pricedOf M outs) ++ " to " ++ numS (M.shares.length : Nat)) ++ ")")) = true := decide_eq_true (by unfold reprOf textOf; rfl)
    have kk := k Ho fo to'
    rw [← e] at kk
    exact kk
end
end Kx
set_option maxHeartbeats 4000000
namespace Kx
open PySem PySem.Spec PyProof.Rows L2
/-! ### deeds -/
inductive Word3 : Str → Prop
  | refuse : Word3 "refuse"
  | stands : Word3 "stands"
  | take : Word3 "take back"
def deedZ (M : MD) (outs : List Str) (wd z : Str) : Option V × List Str :=
  if z ∈ M.nets.map (·.1) then
      (if wd = "stands" then (some (.bl (!decide (z ∈ outs))), outs)
       else if wd = "refuse" then (if z ∈ outs then (none, outs) else (some .non, outs ++ [z]))
       else (if z ∈ outs then (some .non, outs.erase z) else (none, outs)))
    else (none, outs)
def deedF (M : MD) (outs : List Str) (wd : Str) : V → Option V × List Str
  | .str z => deedZ M outs wd z
  | _ => (none, outs)
def toldV (r : Option V) (m : V) : List V := match r with
  | some v => [.str "told", v]
  | none => [.str "refused", m]
theorem deed_no {M : MD} {outs : List Str} {wd : Str} {m : V} (h : inNames M m = false) : deedF M outs wd m = (none, outs) := by
  cases m with
  | str z =>
    have h' : z ∉ M.nets.map (·.1) := of_decide_eq_false h
    exact if_neg h'
  | _ => rfl
theorem deed_ok {M : MD} {outs : List Str} {wd : Str} {m : V} (h : OutOk M outs) : OutOk M (deedF M outs wd m).2 := by
  cases m with
  | str z =>
    show OutOk M (deedZ M outs wd z).2
    unfold deedZ
    split
    · rename_i hz
      split
      · exact h
      · split
        · split
          · exact h
          · rename_i hn
            refine ⟨?_, fun y hy => ?_⟩
            · refine List.nodup_append.mpr ⟨h.1, by simp, fun a ha b hb e => ?_⟩
              obtain rfl := List.mem_singleton.mp hb
              exact hn (e ▸ ha)
            · rcases List.mem_append.mp hy with q | q
              · exact h.2 y q
              · rw [List.mem_singleton.mp q]
                exact hz
        · split
          · exact ⟨h.1.erase _, fun y hy => h.2 y (List.mem_of_mem_erase hy)⟩
          · exact h
    · exact h
  | _ => exact h
theorem out_len {M : MD} {outs : List Str} (hM : M.Ok) (h : OutOk M outs) : outs.length ≤ 60 := by
  have n60 := hM.nets.le
  have := len_out hM.nets.nd h.1 h.2
  omega
/-- a mark and its data -/
inductive MarkD (K : PySem.W.Frag) (H : Hp) : V → PyData → Prop
  | str {z : Str} (h : PyData.strOk z = true) : MarkD K H (.str z) (.str z)
  | non : MarkD K H .non .none
  | bl (b : Bool) : MarkD K H (.bl b) (.bool b)
  | int (i : Int) : MarkD K H (.int i) (.int i)
  | lst {a : Addr} {zs : List Str} (h : H a = some (.lst (zs.map V.str))) (k : ∀ z ∈ zs, PyData.strOk z = true) : MarkD K H (.ref a) (.list (zs.map PyData.str))
  | tup {a : Addr} {z : Str} (h : H a = some (.tup [.str z])) (k : PyData.strOk z = true) : MarkD K H (.ref a) (.tuple [.str z])
theorem MarkD.ok {K : PySem.W.Frag} {H : Hp} {m : V} {d : PyData} (h : MarkD K H m d) : MarkOk H m := by
  cases h with
  | str h => exact .str _
  | non => exact .non
  | bl b => exact .bl b
  | int i => exact .int i
  | lst h k => exact .lst h
  | tup h k => exact .tup h
theorem MarkD.dp {K : PySem.W.Frag} {H : Hp} {m : V} {d : PyData} (h : MarkD K H m d) : Dp K H m d := by
  cases h with
  | str h => exact .str _
  | non => exact .non
  | bl b => exact .bl b
  | int i => exact .int i
  | lst h k => exact .lst (SqL.of h) (dpall_strs _)
  | tup h k => exact .tup (SqT.of h) (.cons (.str _) .nil)
theorem MarkD.lay {K : PySem.W.Frag} {H : Hp} {m : V} {d : PyData} (h : MarkD K H m d) : PyData.canLay0 d = true := by
  cases h with
  | str h => simpa [PyData.canLay0] using h
  | non => simp [PyData.canLay0]
  | bl b => simp [PyData.canLay0]
  | int i => simp [PyData.canLay0]
  | lst h k => simpa [PyData.canLay0] using canlay_strs k
  | tup h k => simpa [PyData.canLay0, PyData.canLayAll0] using k
theorem MarkD.dep {K : PySem.W.Frag} {H : Hp} {m : V} {d : PyData} (h : MarkD K H m d) : d.depth ≤ 2 := by
  cases h with
  | str h => simp [PyData.depth]
  | non => simp [PyData.depth]
  | bl b => simp [PyData.depth]
  | int i => simp [PyData.depth]
  | lst h k => rw [PyData.depth, depth_strs]; decide
  | tup h k => simp [PyData.depth, PyData.depthAll]
theorem MarkD.sh {K : PySem.W.Frag} {H : Hp} {m : V} {d : PyData} (h : MarkD K H m d) : SeqAt.shaped d = true := by
  unfold SeqAt.shaped
  rw [h.lay]
  have := h.dep
  simp
  omega
theorem any_names {K : PySem.W.Frag} {H : Hp} {M : MD} {m : V} {d : PyData} (h : MarkD K H m d) : ((M.nets.map (·.1)).map PyData.str).any (fun z => PyData.eqv z d) = inNames M m := by
  have h2 := h.dp
  have no : ∀ e : PyData, (∀ x, PyData.eqv (.str x) e = false) → ((M.nets.map (·.1)).map PyData.str).any (fun z => PyData.eqv z e) = false := fun e he => by
    rw [List.any_map]
    refine Bool.eq_false_iff.mpr fun z => ?_
    obtain ⟨x, _, q⟩ := List.any_eq_true.mp z
    rw [Function.comp_apply, he x] at q
    cases q
  cases h2 with
  | non => exact no _ fun x => by simp [PyData.eqv]
  | bl b => exact no _ fun x => by simp [PyData.eqv]
  | int i => exact no _ fun x => by simp [PyData.eqv]
  | lst _ _ => exact no _ fun x => by simp [PyData.eqv]
  | tup _ _ => exact no _ fun x => by simp [PyData.eqv]
  | str z =>
    show _ = decide (z ∈ M.nets.map (·.1))
    rw [List.any_map]
    by_cases c : z ∈ M.nets.map (·.1)
    · rw [decide_eq_true c]
      exact List.any_eq_true.mpr ⟨z, c, by simp [PyData.eqv]⟩
    · rw [decide_eq_false c]
      refine Bool.eq_false_iff.mpr fun y => ?_
      obtain ⟨x, hx, q⟩ := List.any_eq_true.mp y
      simp [PyData.eqv] at q
      exact c (q ▸ hx)
theorem MarkD.fr {K : PySem.W.Frag} {H H' : Hp} {m : V} {d : PyData} {W : Addr → Prop} (h : MarkD K H m d) (hw : ∀ b, W b → m ≠ .ref b) (f : FrS W H H') : MarkD K H' m d := by
  cases h with
  | str h => exact .str h
  | non => exact .non
  | bl b => exact .bl b
  | int i => exact .int i
  | lst h k => exact .lst (f _ _ (fun z => hw _ z rfl) h) k
  | tup h k => exact .tup (f _ _ (fun z => hw _ z rfl) h) k
section
variable {P : Program} {w : World} {K : PySem.W.Frag} {mg : Str → Option Value} {base : Heap} (T : Txt K mg w)
def spLDue : Sp := fun vs H Q _ => ∃ (m o : Addr) (M : MD) (outs : List Str) (wd : Str) (mk : V) (d : PyData), vs = [.ref m, .str wd, mk] ∧ Md1 H m o M outs ∧ Word3 wd ∧ MarkD K H mk d ∧ mk ≠ .ref o ∧
  ∀ H' t, FrS (fun b => b = o) H H' → H t = none → t ≠ o → H' o = some (.lst ((deedF M outs wd mk).2.map V.str)) → H' t = some (.tup (toldV (deedF M outs wd mk).1 mk)) → Q (.ref t) H'
theorem bne1 (b : Bool) : (!decide (V.bl b = V.bl (decide (V.str "refuse" = V.str "take back")))) = b := by cases b <;> decide +kernel
theorem bne2 (b : Bool) : (!decide (V.bl b = V.bl (decide (V.str "take back" = V.str "take back")))) = !b := by cases b <;> decide +kernel
theorem w_rs : decide (V.str "refuse" = V.str "stands") = false := by decide +kernel
theorem w_ts : decide (V.str "take back" = V.str "stands") = false := by decide +kernel
theorem w_ss : decide (V.str "stands" = V.str "stands") = true := by decide +kernel
theorem w_rr : decide (V.str "refuse" = V.str "refuse") = true := by decide +kernel
theorem w_tr : decide (V.str "take back" = V.str "refuse") = false := by decide +kernel
theorem w_sr : decide (V.str "stands" = V.str "refuse") = false := by decide +kernel
theorem w_rt : decide (V.str "refuse" = V.str "take back") = false := by decide +kernel
theorem w_tt : decide (V.str "take back" = V.str "take back") = true := by decide +kernel
theorem w_st : decide (V.str "stands" = V.str "take back") = false := by decide +kernel
theorem ok_ldue : FnOk P w K mg base CX0 1 T.fLDue T.dLDue pLDue (spLDue (K := K)) := by
  refine T.FLDue.ok scLDue (fun vs H Q E h => ?_) (fun cdv A outer s H vs Q E hr h => ?_)
  · obtain ⟨m, o, M, outs, wd, mk, d, rfl, _⟩ := h; rfl
  · obtain ⟨m, o, M, outs, wd, mk, d, rfl, hm, hw, hk, hko, k⟩ := h
    have hu := hu_of hr
    have hu65 : ∀ {B : Around}, Room 0 B → B.units + 65 < cLine := fun r => by have := r.un; omega
    refine ⟨_, (pss_cons (ps_setLc (i := 3) (own := [("_law_one", 4), ("_law_net", 5)]) (g := gPair K 4 5) (tt := tYes) rfl scLDue.nd rfl rfl (sw_true rfl rfl rfl (by decide +kernel)) (pi_list (pe_dget hu (pv 0) pe_str (fun _ _ => rfl))) (blkOk_by (N := nLDue) (sc := defScope sLDue) (by decide +kernel))
          (fun _ _ _ _ _ => pg_tup rfl (pgs_cons (pg_name (i := 4) scLDue.nd rfl (Or.inl rfl)) (pgs_cons (pg_name (i := 5) scLDue.nd rfl (Or.inl rfl)) pgs_nil))) (fun _ _ _ _ _ => pts_nil) (fun _ _ _ _ _ => pv 4))
      (pss_cons (ps_if (pw_or (pt_cmpR (op_notInD (hu65 hr)) (pv 2) (pv 3) rfl)
        (pw_or1 (pw_and (pt_cmpR op_ne (pv 1) pe_str (nomark _)) (pw_and1 (pt_cmpR op_ne (pe_cmpR op_in_seq (pv 2) (pe_dget hu (pv 0) pe_str (fun _ _ => rfl)) rfl) (pe_cmpR op_eq (pv 1) pe_str (nomark _)) (nomark _)))).pt)).pt
        (pss_one (ps_ret (pe_tup (pa_cons (pe_str) (pa_cons (pv 2) pa_nil))))) pss_nil)
      (pss_cons (ps_if (pt_cmpR op_eq (pv 1) pe_str (nomark _)) (pss_one (ps_expr (pe_bm PySem.F.plainAttrs_list PySem.F.slot_list_append PySem.F.type_list_append mt_append (pe_dget hu (pv 0) pe_str (fun _ _ => rfl)) (pa_cons (pv 2) pa_nil)))) pss_nil)
      (pss_cons (ps_if (pt_cmpR op_eq (pv 1) pe_str (nomark _)) (pss_one (ps_expr (pe_bm PySem.F.plainAttrs_list PySem.F.slot_list_remove PySem.F.type_list_remove mt_removeS (pe_dget hu (pv 0) pe_str (fun _ _ => rfl)) (pa_cons (pv 2) pa_nil)))) pss_nil)
      (pss_one (ps_ret (pe_tup (pa_cons (pe_str) (pa_cons (pe_ix ix_list (pe_lst (pa_cons (pe_non) (pa_cons (pe_cmpR op_notIn_seq (pv 2) (pe_dget hu (pv 0) pe_str (fun _ _ => rfl)) rfl) pa_nil))) (pe_callTy call_int1 (by rfl) T.zInt (by decide +kernel) (pa_cons (pe_cmpR op_eq (pv 1) pe_str (nomark _)) pa_nil)) (fun _ _ => rfl)) pa_nil))))))))), ?_⟩
    obtain ⟨a, b, g1, ⟨ts, g2, g2'⟩, g3⟩ := hm.at_
    have hM := hm.ok
    have n60 := hM.nets.le
    have hnames : ∀ z ∈ M.nets.map (·.1), PyData.strOk z = true := fun z hz => by
      obtain ⟨p, hp, rfl⟩ := List.mem_map.mp hz
      exact ok_nm (hM.nets.nm p hp)
    refine ⟨_, rfl, m, _, rfl, dg_nets g1, a, rfl, ⟨_, SqL.of g2⟩, fun D hD => ?_⟩
    refine lc_rows (fun _ => true) (fun p => V.str p.1) hD g2 g2' (by omega) (fun _ _ => rfl) (fun p _ H _ QT q => q) (fun p _ H _ QE q => ⟨_, rfl, q⟩) fun H1 s1 d1 => ?_
    rw [filter_yes] at d1
    have e1 : M.nets.map (fun p => V.str p.1) = (M.nets.map (fun q : Str × Int => q.1)).map V.str := by rw [List.map_map]; rfl
    rw [e1] at d1
    have hk1 : MarkD K H1 mk d := hk.fr (W := NoW) (fun _ z => z.elim) (.of s1)
    refine ⟨_, rfl, _, rfl, d, (M.nets.map (·.1)).map PyData.str, hk1.dp, .lst (SqL.of d1) (dpall_strs _), hk1.sh, shaped_strs hnames, _, rfl, ?_⟩
    rw [any_names hk1]
    have o1 : H1 o = some (.lst (outs.map V.str)) := s1 _ _ hm.out
    have g11 := s1 _ _ g1
    have nom : m ≠ o := ne_of g1 hm.out (by intro z; cases z)
    have f1 : FrS (fun b => b = o) H H1 := .of s1
    have oN : ∀ {t : Addr}, H1 t = none → t ≠ o := fun {t} h e => by rw [e, o1] at h; cases h
    cases hin : inNames M mk with
    | false =>
      refine iteT (iteT ⟨_, rfl, (by show 2 ≤ sizeLine; decide), fun t nt => ?_⟩)
      refine k _ t (f1.upd (.inr (FrS.back (W := NoW) (fun z => z) (.of s1) nt))) (FrS.back (W := NoW) (fun z => z) (.of s1) nt) (oN nt) ?_ ?_
      · rw [deed_no hin, upd_ne (oN nt).symm]
        exact o1
      · rw [deed_no hin]
        exact upd_same
    | true =>
      obtain ⟨z, rfl, hz⟩ := inNames_str hin
      have hd : deedF M outs wd (.str z) = (if wd = "stands" then (some (V.bl (!decide (z ∈ outs))), outs)
       else if wd = "refuse" then (if z ∈ outs then (none, outs) else (some .non, outs ++ [z]))
       else (if z ∈ outs then (some .non, outs.erase z) else (none, outs))) := if_pos hz
      have ref_ : deedF M outs wd (.str z) = (none, outs) → ∀ t, H1 t = none → Q (.ref t) (upd H1 t (.tup [.str "refused", .str z])) := fun e t nt => by
        refine k _ t (f1.upd (.inr (FrS.back (W := NoW) (fun z => z) (.of s1) nt))) (FrS.back (W := NoW) (fun z => z) (.of s1) nt) (oN nt) ?_ ?_
        · rw [e, upd_ne (oN nt).symm]
          exact o1
        · rw [e]
          exact upd_same
      have told_ : ∀ (H2 : Hp) (l2 : List Str) (v : V), FrS (fun b => b = o) H1 H2 → H2 o = some (.lst (l2.map V.str)) → deedF M outs wd (.str z) = (some v, l2) → ∀ q t, ∀ xs, H2 q = none → (upd H2 q (.lst xs)) t = none → Q (.ref t) (upd (upd H2 q (.lst xs)) t (.tup [.str "told", v])) := fun H2 l2 v f2 o2 e q t xs nq nt => by
        have qo : q ≠ o := fun y => by rw [y, o2] at nq; cases nq
        have tq : t ≠ q := fun y => by rw [y, upd_same] at nt; cases nt
        have nt2 : H2 t = none := by rw [upd_ne tq] at nt; exact nt
        have to_ : t ≠ o := fun y => by rw [y, o2] at nt2; cases nt2
        have f12 := f1.trans f2
        have bk : ∀ {c : Addr}, c ≠ o → H2 c = none → H c = none := fun {c} hc n => FrS.back hc f12 n
        refine k _ t ((f12.upd (.inr (bk qo nq))).upd (.inr (bk to_ nt2))) (bk to_ nt2) to_ ?_ ?_
        · rw [e, upd_ne to_.symm, upd_ne qo.symm]
          exact o2
        · rw [e]
          exact upd_same
      refine iteF ?_
      cases hw with
      | stands =>
        rw [if_pos rfl] at hd
        refine ⟨_, rfl, rfl, _, rfl, ?_⟩
        rw [w_ss]
        refine iteF (iteF ?_)
        refine ⟨_, rfl, rfl, _, rfl, ?_⟩
        rw [w_sr]
        refine iteF ?_
        refine ⟨_, rfl, rfl, _, rfl, ?_⟩
        rw [w_st]
        refine iteF ?_
        refine ⟨_, rfl, _, rfl, m, _, rfl, dg_out g11, o, _, rfl, .inl (SqL.of o1), rfl, flat_strs _, (by show 2 ≤ sizeLine; decide), fun q nq => ⟨_, rfl, rfl, .inr ⟨_, rfl, q, _, _, V.bl (!decide (z ∈ outs)), rfl, rfl, SqL.of upd_same, ?_, (by show 2 ≤ sizeLine; decide), fun t nt => ?_⟩⟩⟩
        · rw [w_ss, if_pos rfl, inV_strs]
          rfl
        · exact told_ H1 outs _ (.refl _) o1 hd q t _ nq nt
      | refuse =>
        rw [if_neg (by decide +kernel : ¬ ("refuse" : Str) = "stands"), if_pos rfl] at hd
        refine ⟨_, rfl, rfl, _, rfl, ?_⟩
        rw [w_rs]
        refine iteT ?_
        refine ⟨_, rfl, _, rfl, m, _, rfl, dg_out g11, o, _, rfl, .inl (SqL.of o1), rfl, flat_strs _, _, rfl, rfl, rfl, _, rfl, ?_⟩
        rw [if_neg (by decide : ¬ (false = true)), inV_strs, bne1]
        by_cases c : z ∈ outs
        · rw [decide_eq_true c]
          exact iteT ⟨_, rfl, (by show 2 ≤ sizeLine; decide), fun t nt => ref_ (by rw [hd, if_pos c]) t nt⟩
        rw [decide_eq_false c]
        rw [if_neg c] at hd
        refine iteF ?_
        refine ⟨_, rfl, rfl, _, rfl, ?_⟩
        rw [w_rr]
        refine iteT ?_
        have ol := hm.len
        refine ⟨_, rfl, m, _, rfl, dg_out g11, .inl ⟨rfl, _, SqL.of o1⟩, _, rfl, o, _, _, rfl, rfl, o1, by rw [List.length_map, sizeLine_eq]; omega, ?_⟩
        have o2 : upd H1 o (.lst (outs.map V.str ++ [V.str z])) o = some (.lst ((outs ++ [z]).map V.str)) := by rw [List.map_append]; exact upd_same
        have f2 : FrS (fun b => b = o) H1 (upd H1 o (.lst (outs.map V.str ++ [V.str z]))) := frs_upd
        generalize upd H1 o (.lst (outs.map V.str ++ [V.str z])) = H2 at o2 f2 ⊢
        have g12 := f2 _ _ nom g11
        refine ⟨_, rfl, rfl, _, rfl, ?_⟩
        rw [w_rt]
        refine iteF ?_
        refine ⟨_, rfl, _, rfl, m, _, rfl, dg_out g12, o, _, rfl, .inl (SqL.of o2), rfl, flat_strs _, (by show 2 ≤ sizeLine; decide), fun q nq => ⟨_, rfl, rfl, .inr ⟨_, rfl, q, _, _, V.non, rfl, rfl, SqL.of upd_same, ?_, (by show 2 ≤ sizeLine; decide), fun t nt => ?_⟩⟩⟩
        · rw [w_rs]
          rfl
        · exact told_ H2 (outs ++ [z]) _ f2 o2 hd q t _ nq nt
      | take =>
        rw [if_neg (by decide +kernel : ¬ ("take back" : Str) = "stands"), if_neg (by decide +kernel : ¬ ("take back" : Str) = "refuse")] at hd
        refine ⟨_, rfl, rfl, _, rfl, ?_⟩
        rw [w_ts]
        refine iteT ?_
        refine ⟨_, rfl, _, rfl, m, _, rfl, dg_out g11, o, _, rfl, .inl (SqL.of o1), rfl, flat_strs _, _, rfl, rfl, rfl, _, rfl, ?_⟩
        rw [if_neg (by decide : ¬ (false = true)), inV_strs, bne2]
        by_cases c : z ∈ outs
        case neg =>
          rw [decide_eq_false c]
          exact iteT ⟨_, rfl, (by show 2 ≤ sizeLine; decide), fun t nt => ref_ (by rw [hd, if_neg c]) t nt⟩
        rw [decide_eq_true c]
        rw [if_pos c] at hd
        refine iteF ?_
        refine ⟨_, rfl, rfl, _, rfl, ?_⟩
        rw [w_tr]
        refine iteF ?_
        refine ⟨_, rfl, rfl, _, rfl, ?_⟩
        rw [w_tt]
        refine iteT ?_
        obtain ⟨j, j1, j2, j3⟩ := erase_at c
        refine ⟨_, rfl, m, _, rfl, dg_out g11, .inl ⟨rfl, _, SqL.of o1⟩, _, rfl, o, outs, z, j, rfl, rfl, o1, j1, j2, ?_⟩
        rw [j3]
        have o2 : upd H1 o (.lst ((outs.erase z).map V.str)) o = some (.lst ((outs.erase z).map V.str)) := upd_same
        have f2 : FrS (fun b => b = o) H1 (upd H1 o (.lst ((outs.erase z).map V.str))) := frs_upd
        generalize upd H1 o (.lst ((outs.erase z).map V.str)) = H2 at o2 f2 ⊢
        have g12 := f2 _ _ nom g11
        refine ⟨_, rfl, _, rfl, m, _, rfl, dg_out g12, o, _, rfl, .inl (SqL.of o2), rfl, flat_strs _, (by show 2 ≤ sizeLine; decide), fun q nq => ⟨_, rfl, rfl, .inr ⟨_, rfl, q, _, _, V.non, rfl, rfl, SqL.of upd_same, ?_, (by show 2 ≤ sizeLine; decide), fun t nt => ?_⟩⟩⟩
        · rw [w_ts]
          rfl
        · exact told_ H2 (outs.erase z) _ f2 o2 hd q t _ nq nt
end
end Kx
set_option maxHeartbeats 4000000
namespace Kx
open PySem PySem.Spec PyProof.Rows L2
section
variable {P : Program} {w : World} {K : PySem.W.Frag} {mg : Str → Option Value} {base : Heap} (T : Txt K mg w)
def tbSaid (W : WX) : TS :=
  tSeq (tIfS (tTest (tOp rEq (tVar 1) (tC (.str "refuse")))) (tRet (tTup (tCons (tC (.str "told")) (tCons (tMethSD T.cSale "refuse" (spRefuse T) (WE W) (tVar 0) (tCons (tVar 2) tNil)) tNil)))) tNext)
    (tSeq (tIfS (tTest (tOp rEq (tVar 1) (tC (.str "stands")))) (tRet (tTup (tCons (tC (.str "told")) (tCons (tMethSD T.cSale "stands" (spStands T) (WE W) (tVar 0) (tCons (tVar 2) tNil)) tNil)))) tNext)
      (tRet (tTup (tCons (tC (.str "told")) (tCons (tMethSD T.cSale "take_back" (spTake T) (WE W) (tVar 0) (tCons (tVar 2) tNil)) tNil)))))
def tsSaid : Addr → Value → Option Addr → TS := fun a cls d => tRet (tTup (tCons (tC (.str "refused")) (tCons (tXf a cls d T.cNoChest "mark" (tVar 3)) tNil)))
def spLSaid : Sp := fun vs H Q _ => ∃ (s o : Addr) (M : MD) (outs : List Str) (wd : Str) (mk : V) (d : PyData), vs = [.ref s, .str wd, mk] ∧ Rd1 T H s o M outs ∧ Word3 wd ∧ MarkD K H mk d ∧
  ∀ H' t, FrS (fun b => b = o) H H' → H t = none → t ≠ o → H' o = some (.lst ((deedF M outs wd mk).2.map V.str)) → H' t = some (.tup (toldV (deedF M outs wd mk).1 mk)) → Q (.ref t) H'
theorem ok_lsaid : FnOk P w K mg base CX0 6 T.fLSaid T.dLSaid pLSaid (spLSaid T) := by
  have GR : FnOk P w K mg base (L2.CX P w) 5 T.fSaleRefuse T.dSaleRefuse pSaleRefuse (spRefuse T) := ok_refuse T
  have GS : FnOk P w K mg base (L2.CX P w) 4 T.fSaleStands T.dSaleStands pSaleStands (spStands T) := ok_stands T
  have GT : FnOk P w K mg base (L2.CX P w) 5 T.fSaleTakeBack T.dSaleTakeBack pSaleTakeBack (spTake T) := ok_take T
  refine T.FLSaid.ok scLSaid (fun vs H Q E h => ?_) (fun cdv A outer s H vs Q E hr h => ?_)
  · obtain ⟨a, o, M, outs, wd, mk, d, rfl, _⟩ := h; rfl
  · obtain ⟨a, o, M, outs, wd, mk, d, rfl, hs, hw, hk, k⟩ := h
    have hr4 : Room 4 _ := hr.mono (by decide)
    refine ⟨_, pss_one (ps_try_as (i := 3) (tb := tbSaid T) (ts := tsSaid T) (Wout := fun _ _ _ _ => False) rfl rfl scLSaid.nd rfl rfl ⟨rfl, by decide, Or.inl T.gNoChest⟩ takes0
      (fun W pn xe tk _ => (pss_cons (ps_if (pt_cmpR op_eq (pv 1) pe_str (nomark _)) (pss_one (ps_ret (pe_tup (pa_cons (pe_str) (pa_cons (pe_methSD (pv 0) T.CSale T.mSaleRefuse GR hr T.bSaleRefuse (fun σ => passAt tk σ) (pa_cons (pv 2) pa_nil)) pa_nil))))) pss_nil)
      (pss_cons (ps_if (pt_cmpR op_eq (pv 1) pe_str (nomark _)) (pss_one (ps_ret (pe_tup (pa_cons (pe_str) (pa_cons (pe_methSD (pv 0) T.CSale T.mSaleStands GS hr4 T.bSaleStands (fun σ => passAt tk σ) (pa_cons (pv 2) pa_nil)) pa_nil))))) pss_nil)
      (pss_one (ps_ret (pe_tup (pa_cons (pe_str) (pa_cons (pe_methSD (pv 0) T.CSale T.mSaleTakeBack GT hr T.bSaleTakeBack (fun σ => passAt tk σ) (pa_cons (pv 2) pa_nil)) pa_nil))))))))
      (fun a oe cls d pn hz hf => pss_one (ps_ret (pe_tup (pa_cons (pe_str) (pa_cons (pe_xf T.xNC T.nNC hz hf (pv 3)) pa_nil)))))), ?_⟩
    have hs' := hs
    obtain ⟨⟨dx, da, b, h1, h2, h3, h4⟩, ho, hM, hl⟩ := hs
    have n60 := hM.nets.le
    have raise_ : deedF M outs wd mk = (none, outs) → ∀ (D : Ends) (σ : L2.St), D.rt = Q → (∀ x, (σ.set 3 x)[3]? = some x) → NCRaise T H mk (WE (wAs K (.ref T.cNoChest) 3 (tsSaid T) (fun _ _ _ _ => False) D) σ) := fun e D σ hD hσ H' dd sm nd hd => by
      refine ⟨true, T.eNC, fun _ a0 n0 => ?_, fun q => nomatch q⟩
      refine ⟨_, hσ _, rfl, rfl, dd, _, _, rfl, hd, rfl, (by show 2 ≤ sizeLine; decide), fun t nt => ?_⟩
      have to_ : t ≠ o := fun y => by rw [y, sm _ _ ho] at nt; cases nt
      have nt0 : H t = none := FrS.back (W := NoW) (fun z => z) (.of sm) nt
      show D.rt _ _
      rw [hD]
      refine k _ t ((FrS.of sm).upd (.inr nt0)) nt0 to_ ?_ ?_
      · rw [e, upd_ne to_.symm]
        exact sm _ _ ho
      · rw [e]
        exact upd_same
    have told_ : ∀ (H2 : Hp) (l2 : List Str) (v : V), FrS (fun b => b = o) H H2 → H2 o = some (.lst (l2.map V.str)) → deedF M outs wd mk = (some v, l2) → ∀ t, H2 t = none → Q (.ref t) (upd H2 t (.tup [.str "told", v])) := fun H2 l2 v f2 o2 e t nt => by
      have to_ : t ≠ o := fun y => by rw [y, o2] at nt; cases nt
      refine k _ t (f2.upd (.inr (FrS.back to_ f2 nt))) (FrS.back to_ f2 nt) to_ ?_ ?_
      · rw [e, upd_ne to_.symm]
        exact o2
      · rw [e]
        exact upd_same
    have hdz : ∀ z, z ∈ M.nets.map (·.1) → deedF M outs wd (.str z) = (if wd = "stands" then (some (V.bl (!decide (z ∈ outs))), outs)
       else if wd = "refuse" then (if z ∈ outs then (none, outs) else (some .non, outs ++ [z]))
       else (if z ∈ outs then (some .non, outs.erase z) else (none, outs))) := fun z hz => if_pos hz
    have rno : (∀ z, mk = .str z → z ∈ M.nets.map (·.1) → deedF M outs wd (.str z) = (none, outs)) → deedF M outs wd mk = (none, outs) := fun h => by
      cases hin : inNames M mk with
      | false => exact deed_no hin
      | true =>
        obtain ⟨z, rfl, hz⟩ := inNames_str hin
        exact h z rfl hz
    cases hw with
    | refuse =>
      refine ⟨_, rfl, rfl, _, rfl, ?_⟩
      rw [w_rr]
      refine iteT ⟨_, rfl, a, dx, _, rfl, h1, sf_no _ _ _ _ (by decide +kernel), _, rfl, a, o, M, mk, outs, rfl, hs', hk.ok, fun z e hz hn => ?_, fun hno => ?_⟩
      · subst e
        refine ⟨(by show 2 ≤ sizeLine; decide), fun t nt => told_ _ (outs ++ [z]) .non frs_upd upd_same ?_ t nt⟩
        rw [hdz z hz, if_neg (by decide +kernel : ¬ ("refuse" : Str) = "stands"), if_pos rfl, if_neg hn]
      · refine raise_ (rno fun z e hz => ?_) _ _ rfl (fun _ => rfl)
        rw [hdz z hz, if_neg (by decide +kernel : ¬ ("refuse" : Str) = "stands"), if_pos rfl, if_pos (hno z e hz)]
    | stands =>
      refine ⟨_, rfl, rfl, _, rfl, ?_⟩
      rw [w_sr]
      refine iteF ⟨_, rfl, rfl, _, rfl, ?_⟩
      rw [w_ss]
      refine iteT ⟨_, rfl, a, dx, _, rfl, h1, sf_no _ _ _ _ (by decide +kernel), _, rfl, a, o, M, mk, outs, rfl, hs'.1, ho, hk.ok, fun z e hz => ?_, fun hno => ?_⟩
      · subst e
        refine ⟨(by show 2 ≤ sizeLine; decide), fun t nt => told_ _ outs _ (.refl _) ho ?_ t nt⟩
        rw [hdz z hz, if_pos rfl]
      · exact raise_ (deed_no hno) _ _ rfl (fun _ => rfl)
    | take =>
      refine ⟨_, rfl, rfl, _, rfl, ?_⟩
      rw [w_tr]
      refine iteF ⟨_, rfl, rfl, _, rfl, ?_⟩
      rw [w_ts]
      refine iteF ⟨_, rfl, a, dx, _, rfl, h1, sf_no _ _ _ _ (by decide +kernel), _, rfl, a, o, M, mk, outs, rfl, hs', hk.ok, fun z e hz hn => ?_, fun hno => ?_⟩
      · subst e
        refine ⟨(by show 2 ≤ sizeLine; decide), fun t nt => told_ _ (outs.erase z) .non frs_upd upd_same ?_ t nt⟩
        rw [hdz z hz, if_neg (by decide +kernel : ¬ ("take back" : Str) = "stands"), if_neg (by decide +kernel : ¬ ("take back" : Str) = "refuse"), if_pos hn]
      · refine raise_ (rno fun z e hz => ?_) _ _ rfl (fun _ => rfl)
        rw [hdz z hz, if_neg (by decide +kernel : ¬ ("take back" : Str) = "stands"), if_neg (by decide +kernel : ¬ ("take back" : Str) = "refuse"), if_neg (hno z e hz)]
end
end Kx
set_option maxHeartbeats 4000000
namespace Kx
open PySem PySem.Spec PyProof.Rows L2
theorem strOk_of {z : Str} (h : ∀ c ∈ z.cps.toList, c < 1114112) : PyData.strOk z = true := by
  unfold PyData.strOk
  rw [← Array.all_toList]
  exact List.all_eq_true.mpr fun c hc => decide_eq_true (h c hc)
theorem nm_lt {z : Str} (h : isNm z) : ∀ c ∈ z.cps.toList, c < 1114112 := fun c hc => by
  have := h.2.2 c hc
  omega
theorem ok_cutS {z : Str} (h : isNm z) (lo hi : Option Int) : PyData.strOk (cutS z lo hi) = true := by
  refine strOk_of fun c hc => nm_lt h c ?_
  unfold cutS at hc
  exact List.mem_of_mem_drop (List.mem_of_mem_take (by simpa using hc))
theorem ok_z {z : Str} (h : isNm z) : PyData.strOk (z ++ "z") = true := by
  refine strOk_of fun c hc => ?_
  have e : (z ++ ("z" : Str)).cps.toList = z.cps.toList ++ ("z" : Str).cps.toList := by
    show (z.cps ++ ("z" : Str).cps).toList = _
    exact Array.toList_append
  rw [e] at hc
  rcases List.mem_append.mp hc with q | q
  · exact nm_lt h c q
  · have e2 : ("z" : Str).cps.toList = [122] := by decide +kernel
    rw [e2] at q
    rw [List.mem_singleton.mp q]
    decide
section
variable {P : Program} {w : World} {K : PySem.W.Frag} {mg : Str → Option Value} {base : Heap} (T : Txt K mg w)
def spLMark : Sp := fun vs H Q _ => ∃ (p m o : Addr) (M : MD), vs = [.ref p, .ref m] ∧ WellAt H p ∧ ModelAt H m M o ∧ M.Ok ∧ ∀ H' mk d, FrS (Wl p) H H' → WellAt H' p → MarkD K H' mk d → (∀ b, mk = .ref b → H b = none) → Q mk H'
theorem ok_lmark : FnOk P w K mg base CX0 2 T.fLMark T.dLMark pLMark (spLMark (K := K)) := by
  have GD : FnOk P w K mg base CX0 1 T.fLDraw T.dLDraw pLDraw spDraw := ok_draw T
  refine T.FLMark.ok scLMark (fun vs H Q E h => ?_) (fun cdv A outer s H vs Q E hr h => ?_)
  · obtain ⟨p, m, o, M, rfl, _⟩ := h; rfl
  · obtain ⟨p, m, o, M, rfl, hw, hm, hM, k⟩ := h
    have hu := hu_of hr
    refine ⟨_, (pss_cons (ps_setLc (i := 2) (own := [("_law_mark_here", 4), ("_law_net", 5)]) (g := gPair K 4 5) (tt := tYes) rfl scLMark.nd rfl rfl (sw_true rfl rfl rfl (by decide +kernel)) (pi_list (pe_dget hu (pv 1) pe_str (fun _ _ => rfl))) (blkOk_by (N := nLMark) (sc := defScope sLMark) (by decide +kernel))
          (fun _ _ _ _ _ => pg_tup rfl (pgs_cons (pg_name (i := 4) scLMark.nd rfl (Or.inl rfl)) (pgs_cons (pg_name (i := 5) scLMark.nd rfl (Or.inl rfl)) pgs_nil))) (fun _ _ _ _ _ => pts_nil) (fun _ _ _ _ _ => pv 4))
      (pss_cons (ps_set (i := 3) scLMark.nd rfl (Or.inl rfl) (pe_lst (pa_cons (pe_str) (pa_cons (pe_str) (pa_cons (pe_non) (pa_cons (pe_int) (pa_cons (pe_bl) (pa_cons (pv 2) (pa_cons (pe_tup (pa_cons (pe_ix ix_list (pv 2) pe_int (fun _ _ => rfl)) pa_nil)) (pa_cons (pe_op op_add_str (pe_ix ix_list (pv 2) pe_int (fun _ _ => rfl)) pe_str) (pa_cons (pe_slice sl_str (pe_ix ix_list (pv 2) pe_int (fun _ _ => rfl)) po_none (po_some pe_int)) (pa_cons (pe_str) pa_nil))))))))))))
      (pss_cons (ps_if (pt_cmpR op_eq (pe_call GD hr (by rfl) T.gLDraw T.FLDraw.kp T.bLDraw .nil pass0 (pa_cons (pv 0) (pa_cons (pe_int) pa_nil))) pe_int (nomark _)) (pss_one (ps_ret (pe_ix ix_list (pv 3) (pe_call GD hr (by rfl) T.gLDraw T.FLDraw.kp T.bLDraw .nil pass0 (pa_cons (pv 0) (pa_cons (pe_int) pa_nil))) (fun _ _ => rfl)))) pss_nil)
      (pss_one (ps_ret (pe_ix ix_list (pv 2) (pe_call GD hr (by rfl) T.gLDraw T.FLDraw.kp T.bLDraw .nil pass0 (pa_cons (pv 0) (pa_cons (pe_callB call_len (by rfl) T.zLen boot_len (pa_cons (pv 2) pa_nil)) pa_nil))) (fun _ _ => rfl))))))), ?_⟩
    obtain ⟨a, b, g1, ⟨ts, g2, g2'⟩, g3⟩ := hm
    have n60 := hM.nets.le
    have n1 := hM.nets.ne
    refine ⟨_, rfl, m, _, rfl, dg_nets g1, a, rfl, ⟨_, SqL.of g2⟩, fun D hD => ?_⟩
    refine lc_rows (fun _ => true) (fun p => V.str p.1) hD g2 g2' (by omega) (fun _ _ => rfl) (fun p _ H _ QT q => q) (fun p _ H _ QE q => ⟨_, rfl, q⟩) fun H1 s1 d1 => ?_
    rw [filter_yes] at d1
    have e1 : M.nets.map (fun p => V.str p.1) = (M.nets.map (fun q : Str × Int => q.1)).map V.str := by rw [List.map_map]; rfl
    rw [e1] at d1
    have hnm : ∀ z ∈ M.nets.map (·.1), isNm z := fun z hz => by
      obtain ⟨p, hp, rfl⟩ := List.mem_map.mp hz
      exact hM.nets.nm p hp
    obtain ⟨p0, hp0⟩ : ∃ p0, M.nets[0]? = some p0 := ⟨_, List.getElem?_eq_getElem n1⟩
    have nm0 : isNm p0.1 := hM.nets.nm p0 (List.mem_of_getElem? hp0)
    have at0 : atI ((M.nets.map (fun q : Str × Int => q.1)).map V.str) 0 = some (V.str p0.1) := atI_nat (j := 0) (by rw [List.getElem?_map, List.getElem?_map, hp0]; rfl)
    have l0 : p0.1.length ≤ 8 := nm0.2.1
    have lz : ("z" : Str).length = 1 := by decide +kernel
    refine ⟨_, rfl, _, rfl, D, _, 0, _, rfl, rfl, SqL.of d1, at0, (by show 1 ≤ sizeLine; decide), fun t nt => ?_⟩
    have d2 : upd H1 t (.tup [V.str p0.1]) D = some (.lst ((M.nets.map (fun q : Str × Int => q.1)).map V.str)) := same_new nt _ _ d1
    refine ⟨_, rfl, D, _, 0, _, rfl, rfl, SqL.of d2, at0, _, _, rfl, rfl, by rw [sizeLine_eq]; omega, ?_⟩
    refine ⟨_, rfl, D, _, 0, _, rfl, rfl, SqL.of d2, at0, _, rfl, p0.1, rfl, by rw [sizeLine_eq]; omega, (by show 10 ≤ sizeLine; decide), fun L nL => ?_⟩
    have d3 : ∀ o, upd (upd H1 t (.tup [V.str p0.1])) L o D = some (.lst ((M.nets.map (fun q : Str × Int => q.1)).map V.str)) := fun o => same_new nL _ _ d2
    have t3 : ∀ o, upd (upd H1 t (.tup [V.str p0.1])) L o t = some (.tup [V.str p0.1]) := fun o => same_new nL _ _ upd_same
    have w1 : WellAt H1 p := hw.fr s1
    have w2 := w1.new (o := .tup [V.str p0.1]) nt
    have fw : ∀ o, FrS (Wl p) H (upd (upd H1 t (.tup [V.str p0.1])) L o) := fun o => ((FrS.of s1).new w1 nt).new w2 nL
    have nD : H D = none := hD
    have nt0 : H t = none := FrS.back (W := NoW) (fun z => z) (.of s1) nt
    have pD : ¬ Wl p D := wl_ne hw nD
    have pt : ¬ Wl p t := wl_ne hw nt0
    have pL : ¬ Wl p L := wl_ne w2 nL
    have w3 : ∀ o, WellAt (upd (upd H1 t (.tup [V.str p0.1])) L o) p := fun o => w2.new nL
    refine ⟨_, rfl, p, 7, rfl, w3 _, by decide, by decide, fun H4 r f4 w4 r0 r1 => ⟨rfl, _, rfl, ?_⟩⟩
    have hL4 := f4 _ _ pL upd_same
    have hD4 := f4 _ _ pD (d3 _)
    have ht4 := f4 _ _ pt (t3 _)
    have f04 := (fw _).trans f4
    refine ite2 (fun c => ?_) (fun c => ?_)
    · refine ⟨_, rfl, _, rfl, p, 10, rfl, w4, by decide, by decide, fun H5 r' f5 w5 q0 q1 => ?_⟩
      obtain ⟨v, v1, v2⟩ := at_pick (xs := [V.str "nobody", V.str "", .non, .int 7, .bl true, .ref D, .ref t, V.str (p0.1 ++ "z"), V.str (cutS p0.1 none (some 1)), V.str "Oak"]) q0 (by show r' < 10; exact q1)
      refine ⟨L, _, r', v, rfl, rfl, SqL.of (f5 _ _ pL hL4), v1, ?_⟩
      have hD5 := f5 _ _ pD hD4
      have ht5 := f5 _ _ pt ht4
      have f05 := f04.trans f5
      simp only [List.mem_cons, List.not_mem_nil, or_false] at v2
      rcases v2 with rfl | rfl | rfl | rfl | rfl | rfl | rfl | rfl | rfl | rfl
      · exact k H5 _ _ f05 w5 (.str (by decide +kernel)) (fun b e => by cases e)
      · exact k H5 _ _ f05 w5 (.str (by decide +kernel)) (fun b e => by cases e)
      · exact k H5 _ _ f05 w5 .non (fun b e => by cases e)
      · exact k H5 _ _ f05 w5 (.int 7) (fun b e => by cases e)
      · exact k H5 _ _ f05 w5 (.bl true) (fun b e => by cases e)
      · exact k H5 _ _ f05 w5 (.lst hD5 fun z hz => ok_nm (hnm z hz)) (fun b e => by cases e; exact nD)
      · exact k H5 _ _ f05 w5 (.tup ht5 (ok_nm nm0)) (fun b e => by cases e; exact nt0)
      · exact k H5 _ _ f05 w5 (.str (ok_z nm0)) (fun b e => by cases e)
      · exact k H5 _ _ f05 w5 (.str (ok_cutS nm0 _ _)) (fun b e => by cases e)
      · exact k H5 _ _ f05 w5 (.str (by decide +kernel)) (fun b e => by cases e)
    · refine ⟨_, rfl, _, rfl, _, rfl, _, M.nets.length, rfl, .inl ⟨_, SqL.of hD4, by rw [List.length_map, List.length_map]⟩, p, M.nets.length, rfl, w4, by omega, by omega, fun H5 r' f5 w5 q0 q1 => ?_⟩
      obtain ⟨v, v1, v2⟩ := at_pick (xs := (M.nets.map (fun q : Str × Int => q.1)).map V.str) q0 (by rw [List.length_map, List.length_map]; exact q1)
      refine ⟨D, _, r', v, rfl, rfl, SqL.of (f5 _ _ pD hD4), v1, ?_⟩
      obtain ⟨z, hz, rfl⟩ := List.mem_map.mp v2
      exact k H5 _ _ (f04.trans f5) w5 (.str (ok_nm (hnm z hz))) (fun b e => by cases e)
/-! ### a deed's word -/
def spLDeed : Sp := fun vs H Q _ => ∃ p : Addr, vs = [.ref p] ∧ WellAt H p ∧ ∀ H' wd, FrS (Wl p) H H' → WellAt H' p → Word3 wd → Q (.str wd) H'
theorem ok_ldeed : FnOk P w K mg base CX0 2 T.fLDeed T.dLDeed pLDeed spLDeed := by
  have GD : FnOk P w K mg base CX0 1 T.fLDraw T.dLDraw pLDraw spDraw := ok_draw T
  refine T.FLDeed.ok scLDeed (fun vs H Q E h => ?_) (fun cdv A outer s H vs Q E hr h => ?_)
  · obtain ⟨p, rfl, _⟩ := h; rfl
  · obtain ⟨p, rfl, hw, k⟩ := h
    refine ⟨_, pss_one (ps_ret (pe_ix ix_list (pe_lst (pa_cons (pe_str) (pa_cons (pe_str) (pa_cons (pe_str) (pa_cons (pe_str) pa_nil))))) (pe_call GD hr (by rfl) T.gLDraw T.FLDraw.kp T.bLDraw .nil pass0 (pa_cons (pv 0) (pa_cons (pe_int) pa_nil))) (fun _ _ => rfl))), ?_⟩
    refine pick_read rfl hw rfl (by decide) (by decide) fun H' v f w' hv => ?_
    simp only [List.mem_cons, List.not_mem_nil, or_false] at hv
    rcases hv with rfl | rfl | rfl | rfl
    · exact k H' _ f w' .refuse
    · exact k H' _ f w' .take
    · exact k H' _ f w' .refuse
    · exact k H' _ f w' .stands
end
end Kx
set_option maxHeartbeats 4000000
namespace Kx
open PySem PySem.Spec PyProof.Rows L2
/-! ### what stays: all but the lists of texts, of numbers, of objects -/
def Hard (H : Hp) : HO → Prop
  | .lst (.ref t :: _) => ∃ xs, H t = some (.tup xs)
  | .lst _ => False
  | .tbl _ => False
  | _ => True
theorem hard_strs {H : Hp} : ∀ {zs : List Str}, ¬ Hard H (.lst (zs.map V.str))
  | [], h => h
  | _ :: _, h => h
theorem hard_ints {H : Hp} : ∀ {zs : List Int}, ¬ Hard H (.lst (zs.map V.int))
  | [], h => h
  | _ :: _, h => h
theorem frz_ex (H : Hp) (pc : Addr) : ∃ H0 : Hp, ∀ b o, H0 b = some o ↔ (H b = some o ∧ (b = pc ∧ (∀ ps, o ≠ .tbl ps) ∨ Hard H o)) := by
  refine ⟨fun b => (H b).bind fun o => @ite _ (b = pc ∧ (∀ ps, o ≠ .tbl ps) ∨ Hard H o) (Classical.propDecidable _) (some o) none, fun b o => ?_⟩
  show (H b).bind _ = some o ↔ _
  cases H b with
  | none =>
    constructor
    · intro h; cases h
    · intro h; cases h.1
  | some o' =>
    rw [Option.bind_some]
    by_cases c : b = pc ∧ (∀ ps, o' ≠ .tbl ps) ∨ Hard H o'
    · rw [if_pos c]
      constructor
      · intro h
        obtain rfl := Option.some.inj h
        exact ⟨rfl, c⟩
      · intro h
        exact h.1
    · rw [if_neg c]
      constructor
      · intro h; cases h
      · intro h
        obtain rfl := Option.some.inj h.1
        exact absurd h.2 c
theorem RowsAt.hard {H H0 : Hp} {a : Addr} {rows : Rows} (h : RowsAt H a rows) (n : 1 ≤ rows.length) (f : ∀ b o, H b = some o → Hard H o → H0 b = some o) : RowsAt H0 a rows := by
  obtain ⟨ts, h1, h2⟩ := h
  have tl := h2.1
  refine ⟨ts, ?_, tl, fun i t p e1 e2 => f _ _ (h2.2 i t p e1 e2) True.intro⟩
  match ts, h1, h2, tl with
  | [], _, _, tl => rw [← tl] at n; cases n
  | t :: ts, h1, h2, tl =>
    refine f _ _ h1 ?_
    obtain ⟨p, hp⟩ : ∃ p, rows[0]? = some p := ⟨_, List.getElem?_eq_getElem n⟩
    exact ⟨_, h2.2 0 t p rfl hp⟩
structure Rec where
  s : Addr
  m : Addr
  o1 : Addr
  o2 : Addr
  M : MD
  outs : List Str
theorem map_set_same {β : Type} {ds : List Rec} {k : Nat} {d d' : Rec} (f : Rec → β) (hk : ds[k]? = some d) (e : f d' = f d) : (ds.set k d').map f = ds.map f := by
  rw [List.map_set, e]
  refine List.ext_getElem? fun i => ?_
  rw [List.getElem?_set]
  by_cases c : k = i
  · subst c
    rw [if_pos rfl, List.getElem?_map, hk]
    have := (List.getElem?_eq_some_iff.mp hk).1
    rw [if_pos (by rw [List.length_map]; exact this)]
    rfl
  · rw [if_neg c]
theorem set_at {ds : List Rec} {k j : Nat} {d' e : Rec} (h : (ds.set k d')[j]? = some e) : (j = k ∧ e = d') ∨ (j ≠ k ∧ ds[j]? = some e) := by
  rw [List.getElem?_set] at h
  by_cases c : k = j
  · subst c
    rw [if_pos rfl] at h
    split at h
    · exact .inl ⟨rfl, (Option.some.inj h).symm⟩
    · cases h
  · rw [if_neg c] at h
    exact .inr ⟨fun z => c z.symm, h⟩
section
variable {P : Program} {w : World} {K : PySem.W.Frag} {mg : Str → Option Value} {base : Heap} (T : Txt K mg w)
theorem SaleAt.hard {T : Txt K mg w} {H H0 : Hp} {s o : Addr} {M : MD} (h : SaleAt T H s M o) (hM : M.Ok) (f : ∀ b o, H b = some o → Hard H o → H0 b = some o) : SaleAt T H0 s M o := by
  obtain ⟨dx, a, b, h1, h2, h3, h4⟩ := h
  exact ⟨dx, a, b, f _ _ h1 True.intro, f _ _ h2 True.intro, h3.hard hM.shares.ne f, h4⟩
theorem ModelAt.hard {H H0 : Hp} {m o : Addr} {M : MD} (h : ModelAt H m M o) (hM : M.Ok) (f : ∀ b o, H b = some o → Hard H o → H0 b = some o) : ModelAt H0 m M o := by
  obtain ⟨a, b, h1, h2, h3⟩ := h
  exact ⟨a, b, f _ _ h1 True.intro, h2.hard hM.nets.ne f, h3.hard hM.shares.ne f⟩
theorem ModelAt.same {H H' : Hp} {m o : Addr} {M : MD} (h : ModelAt H m M o) (f : Same H H') : ModelAt H' m M o := by
  obtain ⟨a, b, h1, h2, h3⟩ := h
  exact ⟨a, b, f _ _ h1, h2.ext (.same f), h3.ext (.same f)⟩
structure RecOk (H0 H : Hp) (d : Rec) : Prop where
  sale : SaleAt T H0 d.s d.M d.o1
  model : ModelAt H0 d.m d.M d.o2
  ok : d.M.Ok
  oo : OutOk d.M d.outs
  h1 : OutAt H d.o1 d.outs
  h2 : OutAt H d.o2 d.outs
structure Sta (H0 H : Hp) (ps pm : Addr) (ds : List Rec) : Prop where
  sub : Same H0 H
  nt : ∀ b ps, H0 b ≠ some (.tbl ps)
  len : ds.length = 3
  ok : ∀ (k : Nat) d, ds[k]? = some d → RecOk T H0 H d
  nd : ∀ (j k : Nat) d e, ds[j]? = some d → ds[k]? = some e → d.o1 ≠ e.o2 ∧ (j ≠ k → d.o1 ≠ e.o1 ∧ d.o2 ≠ e.o2)
  hs : H ps = some (.lst (ds.map fun d => V.ref d.s))
  hm : H pm = some (.lst (ds.map fun d => V.ref d.m))
  n0 : ∀ (k : Nat) d, ds[k]? = some d → H0 d.o1 = none ∧ H0 d.o2 = none
  ps0 : H0 ps = none
  pm0 : H0 pm = none
  pn : ps ≠ pm
  tb : LamX.Tabs T.tabs H
theorem tabs_fr {tabs : List (Addr × Str)} {W : Addr → Prop} {H H' : Hp} (t : LamX.Tabs tabs H) (f : FrS W H H') (h : ∀ b, W b → ∃ xs, H b = some (.lst xs)) : LamX.Tabs tabs H' := fun p hp => by
  obtain ⟨ps, e1, e2, e3⟩ := t p hp
  refine ⟨ps, f _ _ (fun z => ?_) e1, e2, fun pos cv hc => ?_⟩
  · obtain ⟨xs, q⟩ := h _ z
    rw [e1] at q
    cases q
  · obtain ⟨c, e4, e5⟩ := e3 pos cv hc
    refine ⟨c, e4, f _ _ (fun z => ?_) e5⟩
    obtain ⟨xs, q⟩ := h _ z
    rw [e5] at q
    cases q
theorem same_of {W : Addr → Prop} {H0 H H' : Hp} (s : Same H0 H) (f : FrS W H H') (h : ∀ b, W b → H0 b = none) : Same H0 H' := fun b o e => f _ _ (fun z => by rw [h _ z] at e; cases e) (s _ _ e)
variable {T}
theorem RecOk.fr {H0 H H' : Hp} {d : Rec} (h : RecOk T H0 H d) (h1 : OutAt H' d.o1 d.outs) (h2 : OutAt H' d.o2 d.outs) : RecOk T H0 H' d := ⟨h.sale, h.model, h.ok, h.oo, h1, h2⟩
theorem out_ntbl {zs : List Str} : ∀ ps, HO.lst (zs.map V.str) ≠ .tbl ps := fun ps z => by cases z
theorem Sta.ext {H0 H H' : Hp} {ps pm : Addr} {ds : List Rec} (S : Sta T H0 H ps pm ds) (f : FrN NoW H H') (t : LamX.Tabs T.tabs H') : Sta T H0 H' ps pm ds where
  sub := fun b o e => f _ _ (fun z => z) (S.sub _ _ e) (fun ps z => S.nt b ps (by rw [e, z]))
  nt := S.nt
  len := S.len
  ok := fun k d h => (S.ok k d h).fr (f _ _ (fun z => z) (S.ok k d h).h1 out_ntbl) (f _ _ (fun z => z) (S.ok k d h).h2 out_ntbl)
  nd := S.nd
  hs := f _ _ (fun z => z) S.hs (fun ps z => by cases z)
  hm := f _ _ (fun z => z) S.hm (fun ps z => by cases z)
  n0 := S.n0
  ps0 := S.ps0
  pm0 := S.pm0
  pn := S.pn
  tb := t
theorem Sta.same {H0 H H' : Hp} {ps pm : Addr} {ds : List Rec} (S : Sta T H0 H ps pm ds) (f : Same H H') : Sta T H0 H' ps pm ds := S.ext (.same f) (tabs_same S.tb f)
theorem strs_ne_ints {zs : List Str} {i : Int} {xs : List V} : HO.lst (.int i :: xs) ≠ .lst (zs.map V.str) := fun z => by
  have e := HO.lst.inj z
  cases zs with
  | nil => cases e
  | cons a zs => cases (List.cons.inj e).1
theorem strs_ne_refs {zs : List Str} {i : Addr} {xs : List V} : HO.lst (.ref i :: xs) ≠ .lst (zs.map V.str) := fun z => by
  have e := HO.lst.inj z
  cases zs with
  | nil => cases e
  | cons a zs => cases (List.cons.inj e).1
/-- the three stand -/
theorem Sta.three {H0 H : Hp} {ps pm : Addr} {ds : List Rec} (S : Sta T H0 H ps pm ds) : ∃ d0 d1 d2, ds = [d0, d1, d2] := by
  have := S.len
  match ds, this with
  | [a, b, c], _ => exact ⟨a, b, c, rfl⟩
/-- a list that begins with a number is none of what is written -/
theorem Sta.ne_int {H0 H : Hp} {ps pm : Addr} {ds : List Rec} (S : Sta T H0 H ps pm ds) {b : Addr} {i : Int} {xs : List V} (h : H b = some (.lst (.int i :: xs))) : b ≠ ps ∧ b ≠ pm ∧ ∀ (k : Nat) d, ds[k]? = some d → b ≠ d.o1 ∧ b ≠ d.o2 := by
  obtain ⟨d0, d1, d2, rfl⟩ := S.three
  refine ⟨ne_of h S.hs (fun z => ?_), ne_of h S.hm (fun z => ?_), fun k d hk => ⟨ne_of h (S.ok k d hk).h1 strs_ne_ints, ne_of h (S.ok k d hk).h2 strs_ne_ints⟩⟩
  · cases (List.cons.inj (HO.lst.inj z)).1
  · cases (List.cons.inj (HO.lst.inj z)).1
/-- a well is written -/
theorem Sta.well {H0 H H' : Hp} {ps pm p : Addr} {ds : List Rec} (S : Sta T H0 H ps pm ds) (hw : WellAt H p) (n : H0 p = none) (f : FrS (Wl p) H H') : Sta T H0 H' ps pm ds := by
  obtain ⟨x, y, z, e⟩ := hw
  obtain ⟨n1, n2, n3⟩ := S.ne_int e
  exact {
    sub := same_of S.sub f fun b q => by rw [show b = p from q]; exact n
    nt := S.nt
    len := S.len
    ok := fun k d h => (S.ok k d h).fr (f _ _ (fun q => (n3 k d h).1 (Eq.symm q)) (S.ok k d h).h1) (f _ _ (fun q => (n3 k d h).2 (Eq.symm q)) (S.ok k d h).h2)
    nd := S.nd
    hs := f _ _ (fun q => n1 (Eq.symm q)) S.hs
    hm := f _ _ (fun q => n2 (Eq.symm q)) S.hm
    n0 := S.n0
    ps0 := S.ps0
    pm0 := S.pm0
    pn := S.pn
    tb := tabs_fr S.tb f fun b q => by obtain rfl : b = p := q; exact ⟨_, e⟩ }
/-- a deed is done at the k-th, in both -/
theorem Sta.deed {H0 H H' : Hp} {ps pm : Addr} {ds : List Rec} {k : Nat} {d : Rec} {outs : List Str} (S : Sta T H0 H ps pm ds) (hk : ds[k]? = some d) (f : FrS (fun b => b = d.o1 ∨ b = d.o2) H H') (h1 : OutAt H' d.o1 outs) (h2 : OutAt H' d.o2 outs) (ho : OutOk d.M outs) :
    Sta T H0 H' ps pm (ds.set k { d with outs := outs }) := by
  have D := S.ok k d hk
  have N := S.n0 k d hk
  have back : ∀ (j : Nat) e, (ds.set k { d with outs := outs })[j]? = some e → ∃ e', ds[j]? = some e' ∧ e.o1 = e'.o1 ∧ e.o2 = e'.o2 := fun j e h => by
    rcases set_at h with ⟨rfl, rfl⟩ | ⟨_, q⟩
    · exact ⟨d, hk, rfl, rfl⟩
    · exact ⟨e, q, rfl, rfl⟩
  obtain ⟨d0, d1, d2, e3⟩ := S.three
  have ps1 : ∀ b zs, OutAt H b zs → ps ≠ b ∧ pm ≠ b := fun b zs hb => by
    have a1 := S.hs
    have a2 := S.hm
    rw [e3] at a1 a2
    exact ⟨ne_of a1 hb strs_ne_refs, ne_of a2 hb strs_ne_refs⟩
  exact {
    sub := same_of S.sub f fun b q => by rcases q with rfl | rfl; exact N.1; exact N.2
    nt := S.nt
    len := by rw [List.length_set]; exact S.len
    ok := fun j e h => by
      rcases set_at h with ⟨rfl, rfl⟩ | ⟨c, q⟩
      · exact ⟨D.sale, D.model, D.ok, ho, h1, h2⟩
      · have E := S.ok j e q
        have n1 := S.nd j k e d q hk
        have n2 := S.nd k j d e hk q
        refine E.fr (f _ _ (fun z => ?_) E.h1) (f _ _ (fun z => ?_) E.h2)
        · rcases z with z | z
          · exact (n1.2 c).1 z
          · exact n1.1 z
        · rcases z with z | z
          · exact n2.1 z.symm
          · exact (n1.2 c).2 z
    nd := fun i j a b ha hb => by
      obtain ⟨a', a1, a2, a3⟩ := back i a ha
      obtain ⟨b', b1, b2, b3⟩ := back j b hb
      rw [a2, a3, b2, b3]
      exact S.nd i j a' b' a1 b1
    hs := by
      rw [map_set_same _ hk (by rfl)]
      refine f _ _ (fun z => ?_) S.hs
      rcases z with z | z
      · exact (ps1 _ _ D.h1).1 z
      · exact (ps1 _ _ D.h2).1 z
    hm := by
      rw [map_set_same _ hk (by rfl)]
      refine f _ _ (fun z => ?_) S.hm
      rcases z with z | z
      · exact (ps1 _ _ D.h1).2 z
      · exact (ps1 _ _ D.h2).2 z
    n0 := fun j e h => by
      obtain ⟨e', a1, a2, a3⟩ := back j e h
      rw [a2, a3]
      exact S.n0 j e' a1
    ps0 := S.ps0
    pm0 := S.pm0
    pn := S.pn
    tb := tabs_fr S.tb f fun b q => by
      rcases q with rfl | rfl
      · exact ⟨_, D.h1⟩
      · exact ⟨_, D.h2⟩ }
/-- the state, from what stands in the heap -/
theorem sta_mk {H : Hp} {ps pm pc : Addr} {ds : List Rec} {c0 : Int} {cs : List Int} (len : ds.length = 3) (ok : ∀ (k : Nat) d, ds[k]? = some d → RecOk T H H d)
    (nd : ∀ (j k : Nat) d e, ds[j]? = some d → ds[k]? = some e → d.o1 ≠ e.o2 ∧ (j ≠ k → d.o1 ≠ e.o1 ∧ d.o2 ≠ e.o2))
    (hs : H ps = some (.lst (ds.map fun d => V.ref d.s))) (hm : H pm = some (.lst (ds.map fun d => V.ref d.m))) (pn : ps ≠ pm) (tb : LamX.Tabs T.tabs H) (hc : H pc = some (.lst ((c0 :: cs).map V.int))) :
    ∃ H0, Sta T H0 H ps pm ds ∧ H0 pc = some (.lst ((c0 :: cs).map V.int)) := by
  obtain ⟨H0, h0⟩ := frz_ex H pc
  have hf : ∀ b o, H b = some o → Hard H o → H0 b = some o := fun b o e h => (h0 b o).mpr ⟨e, .inr h⟩
  have hno : ∀ b o, H b = some o → ¬ Hard H o → b ≠ pc → H0 b = none := fun b o e h n => by
    cases q : H0 b with
    | none => rfl
    | some u =>
      obtain ⟨e1, e2⟩ := (h0 b u).mp q
      rw [e] at e1
      obtain rfl := Option.some.inj e1
      rcases e2 with ⟨e2, _⟩ | e2
      · exact absurd e2 n
      · exact absurd e2 h
  obtain ⟨d0, d1, d2, e3⟩ : ∃ d0 d1 d2, ds = [d0, d1, d2] := by
    match ds, len with
    | [a, b, c], _ => exact ⟨a, b, c, rfl⟩
  have pcne : ∀ b zs, OutAt H b zs → b ≠ pc := fun b zs hb z => (ne_of hc hb strs_ne_ints) z.symm
  have k0 : ds[0]? = some d0 := by rw [e3]; rfl
  refine ⟨H0, ⟨fun b o e => ((h0 b o).mp e).1, fun b qs e => ?_, len, fun k d h => ?_, nd, hs, hm, fun k d h => ?_, ?_, ?_, pn, tb⟩, (h0 _ _).mpr ⟨hc, .inl ⟨rfl, fun ps z => by cases z⟩⟩⟩
  · rcases ((h0 b _).mp e).2 with ⟨_, z⟩ | z
    · exact z _ rfl
    · exact z
  · have E := ok k d h
    exact ⟨E.sale.hard E.ok hf, E.model.hard E.ok hf, E.ok, E.oo, E.h1, E.h2⟩
  · have E := ok k d h
    exact ⟨hno _ _ E.h1 hard_strs (pcne _ _ E.h1), hno _ _ E.h2 hard_strs (pcne _ _ E.h2)⟩
  · rw [e3] at hs
    refine hno _ _ hs (fun z => ?_) (fun z => ?_)
    · obtain ⟨xs, z⟩ := z
      obtain ⟨dx, a, b, q, _⟩ := (ok 0 d0 k0).sale
      rw [q] at z
      cases z
    · rw [z, hc] at hs
      cases (List.cons.inj (HO.lst.inj (Option.some.inj hs))).1
  · rw [e3] at hm
    refine hno _ _ hm (fun z => ?_) (fun z => ?_)
    · obtain ⟨xs, z⟩ := z
      obtain ⟨a, b, q, _⟩ := (ok 0 d0 k0).model
      rw [q] at z
      cases z
    · rw [z, hc] at hm
      cases (List.cons.inj (HO.lst.inj (Option.some.inj hm))).1
/-- the k-th is made anew -/
theorem Sta.undone {H0 H H' : Hp} {ps pm pc : Addr} {ds : List Rec} {k : Nat} {d : Rec} {c0 : Int} {cs : List Int} {x m' o1 o2 : Addr} (S : Sta T H0 H ps pm ds) (hk : ds[k]? = some d) (f : FrS (fun b => b = ps ∨ b = pm) H H') (hx : SaleAt T H' x d.M o1) (hm : ModelAt H' m' d.M o2)
    (h1 : OutAt H' o1 []) (h2 : OutAt H' o2 []) (n1 : H o1 = none) (n2 : H o2 = none) (n12 : o1 ≠ o2) (es : H' ps = some (.lst ((ds.map fun d => V.ref d.s).set k (.ref x)))) (em : H' pm = some (.lst ((ds.map fun d => V.ref d.m).set k (.ref m')))) (hc : H0 pc = some (.lst ((c0 :: cs).map V.int))) :
    ∃ H0', Sta T H0' H' ps pm (ds.set k ⟨x, m', o1, o2, d.M, []⟩) ∧ H0' pc = some (.lst ((c0 :: cs).map V.int)) := by
  have s0 : Same H0 H' := same_of S.sub f fun b q => by rcases q with rfl | rfl; exact S.ps0; exact S.pm0
  obtain ⟨d0, d1, d2, e3⟩ := S.three
  have ps1 : ∀ b zs, OutAt H b zs → ¬ (b = ps ∨ b = pm) := fun b zs hb z => by
    have a1 := S.hs
    have a2 := S.hm
    rw [e3] at a1 a2
    rcases z with z | z
    · exact ne_of a1 hb strs_ne_refs z.symm
    · exact ne_of a2 hb strs_ne_refs z.symm
  refine sta_mk (by rw [List.length_set]; exact S.len) (fun j e h => ?_) (fun i j a b ha hb => ?_) (by rw [List.map_set]; exact es) (by rw [List.map_set]; exact em) S.pn (tabs_fr S.tb f fun b q => ?_) (s0 _ _ hc)
  · rcases set_at h with ⟨rfl, rfl⟩ | ⟨c, q⟩
    · exact ⟨hx, hm, (S.ok _ d hk).ok, ⟨List.nodup_nil, fun z hz => nomatch hz⟩, h1, h2⟩
    · have E := S.ok j e q
      exact ⟨E.sale.same s0, E.model.same s0, E.ok, E.oo, f _ _ (ps1 _ _ E.h1) E.h1, f _ _ (ps1 _ _ E.h2) E.h2⟩
  · rcases set_at ha with ⟨rfl, rfl⟩ | ⟨c, q⟩
    · rcases set_at hb with ⟨rfl, rfl⟩ | ⟨c', q'⟩
      · exact ⟨n12, fun z => absurd rfl z⟩
      · have E := S.ok j b q'
        exact ⟨fun z => ne_of_none E.h2 n1 z.symm, fun _ => ⟨fun z => ne_of_none E.h1 n1 z.symm, fun z => ne_of_none E.h2 n2 z.symm⟩⟩
    · have A := S.ok i a q
      rcases set_at hb with ⟨rfl, rfl⟩ | ⟨c', q'⟩
      · exact ⟨ne_of_none A.h1 n2, fun _ => ⟨ne_of_none A.h1 n1, ne_of_none A.h2 n2⟩⟩
      · exact S.nd i j a b q q'
  · rcases q with rfl | rfl
    · exact ⟨_, S.hs⟩
    · exact ⟨_, S.hm⟩
theorem Sta.rd {H0 H : Hp} {ps pm : Addr} {ds : List Rec} {k : Nat} {d : Rec} (S : Sta T H0 H ps pm ds) (hk : ds[k]? = some d) : Rd1 T H d.s d.o1 d.M d.outs := by
  have E := S.ok k d hk
  exact ⟨E.sale.same S.sub, E.h1, E.ok, out_len E.ok E.oo⟩
theorem Sta.md {H0 H : Hp} {ps pm : Addr} {ds : List Rec} {k : Nat} {d : Rec} (S : Sta T H0 H ps pm ds) (hk : ds[k]? = some d) : Md1 H d.m d.o2 d.M d.outs := by
  have E := S.ok k d hk
  exact ⟨E.model.same S.sub, E.h2, E.ok, out_len E.ok E.oo⟩
end
end Kx
set_option maxHeartbeats 4000000
namespace Kx
open PySem PySem.Spec PyProof.Rows L2
theorem pick_at {K : PySem.W.Frag} {xs : List V} {n j : Nat} {p : Addr} {Hx : Hp} {σ : L2.St} {Q : VK} (hv : σ[j]? = some (some (.ref p))) (hw : WellAt Hx p) (hn : xs.length = n) (n0 : 0 < n) (n1 : n ≤ 100)
    (h : ∀ H' v, FrS (Wl p) Hx H' → WellAt H' p → v ∈ xs → Q v H') :
    xs.length ≤ sizeLine ∧ ∀ l, Hx l = none → (tCall spDraw [] E0 (tCons (tVar j) (tCons (tC (.int (n : Int))) tNil))) σ (upd Hx l (.lst xs)) (fun y H2 => rIxL K (.ref l) y H2 Q) := by
  refine ⟨by rw [sizeLine_eq]; omega, fun l nl => ⟨_, hv, p, n, rfl, hw.new nl, by omega, by omega, fun H' r f w r0 r1 => ?_⟩⟩
  have hl : H' l = some (.lst xs) := f l _ (wl_ne hw nl) upd_same
  obtain ⟨v, v1, v2⟩ := at_pick (xs := xs) r0 (by omega)
  exact ⟨l, xs, r, v, rfl, rfl, SqL.of hl, v1, h H' v (((FrS.refl _).new hw nl).trans f) w v2⟩
theorem FrS.trN {W : Addr → Prop} {H H1 H2 : Hp} {p : Addr} (f : FrS W H H1) (g : FrS (Wl p) H1 H2) (n : H p = none) : FrS W H H2 := fun b o h e => g _ _ (ne_of_none e n) (f _ _ h e)
theorem FrS.updN {W : Addr → Prop} {H H1 : Hp} {p : Addr} {o : HO} (f : FrS W H H1) (n : H p = none) : FrS W H (L2.upd H1 p o) := f.upd (.inr n)
theorem refs_ne_ints {ts : List Addr} {i : Int} {xs : List V} : HO.lst (.int i :: xs) ≠ .lst (ts.map V.ref) := fun z => by
  have e := HO.lst.inj z
  cases ts with
  | nil => cases e
  | cons a zs => cases (List.cons.inj e).1
theorem RowsAt.wellR {H H' : Hp} {a p : Addr} {rows : Rows} (h : RowsAt H a rows) (hw : WellAt H p) (f : FrS (Wl p) H H') : RowsAt H' a rows := by
  obtain ⟨ts, h1, h2⟩ := h
  obtain ⟨x, y, z, e⟩ := hw
  refine ⟨ts, f _ _ (fun q => ?_) h1, h2.1, fun i t r e1 e2 => f _ _ (fun q => ?_) (h2.2 i t r e1 e2)⟩
  · exact ne_of e h1 refs_ne_ints (Eq.symm q)
  · exact ne_of e (h2.2 i t r e1 e2) (by intro z; cases z) (Eq.symm q)
theorem ModelAt.well {H H' : Hp} {m o p : Addr} {M : MD} (h : ModelAt H m M o) (hw : WellAt H p) (f : FrS (Wl p) H H') : ModelAt H' m M o := by
  obtain ⟨a, b, h1, h2, h3⟩ := h
  have hw' := hw
  obtain ⟨x, y, z, e⟩ := hw'
  exact ⟨a, b, f _ _ (fun q => ne_of e h1 (by intro z; cases z) (Eq.symm q)) h1, h2.wellR hw f, h3.wellR hw f⟩
theorem OutAt.well {H H' : Hp} {o p : Addr} {zs : List Str} (h : OutAt H o zs) (hw : WellAt H p) (f : FrS (Wl p) H H') : OutAt H' o zs := by
  obtain ⟨x, y, z, e⟩ := hw
  exact f _ _ (fun q => ne_of e h strs_ne_ints (Eq.symm q)) h
theorem rows_ne {H : Hp} {a p t : Addr} {rows : Rows} {r : List V} {kk : List (Key × V)} (h : RowsAt H a rows) (n : 1 ≤ rows.length) (hp : H p = some (.lst (.ref t :: r))) (ht : H t = some (.dK kk)) : a ≠ p := by
  obtain ⟨ts, h1, h2⟩ := h
  rintro rfl
  rw [hp] at h1
  have e := HO.lst.inj (Option.some.inj h1)
  cases ts with
  | nil => cases e
  | cons t' ts =>
    have e1 := V.ref.inj (List.cons.inj e).1
    obtain ⟨p, hp⟩ : ∃ p, rows[0]? = some p := ⟨_, List.getElem?_eq_getElem n⟩
    have := h2.2 0 t' p rfl hp
    rw [← e1, ht] at this
    cases this
theorem RowsAt.off {H H' : Hp} {a : Addr} {rows : Rows} {W : Addr → Prop} (h : RowsAt H a rows) (f : FrS W H H') (n : ¬ W a) (hw : ∀ b xs, W b → H b ≠ some (.tup xs)) : RowsAt H' a rows := by
  obtain ⟨ts, h1, h2⟩ := h
  exact ⟨ts, f _ _ n h1, h2.1, fun i t r e1 e2 => f _ _ (fun q => hw _ _ q (h2.2 i t r e1 e2)) (h2.2 i t r e1 e2)⟩
theorem ModelAt.put {H : Hp} {m o p t : Addr} {M : MD} {r : List V} {kk : List (Key × V)} {u : HO} (h : ModelAt H m M o) (hM : M.Ok) (hp : H p = some (.lst (.ref t :: r))) (ht : H t = some (.dK kk)) : ModelAt (upd H p u) m M o := by
  obtain ⟨a, b, h1, h2, h3⟩ := h
  have f : FrS (fun b => b = p) H (upd H p u) := frs_upd
  have hw : ∀ b xs, b = p → H b ≠ some (.tup xs) := fun b xs e z => by rw [e, hp] at z; cases z
  exact ⟨a, b, f _ _ (ne_of h1 hp (by intro z; cases z)) h1, h2.off f (rows_ne h2 hM.nets.ne hp ht) hw, h3.off f (rows_ne h3 hM.shares.ne hp ht) hw⟩
theorem OutAt.put {H : Hp} {o p t : Addr} {zs : List Str} {r : List V} {u : HO} (h : OutAt H o zs) (hp : H p = some (.lst (.ref t :: r))) : OutAt (upd H p u) o zs := by
  show upd H p u o = _
  rw [upd_ne (ne_of hp h strs_ne_refs).symm]
  exact h
theorem WellAt.ne' {H : Hp} {p q : Addr} {o : HO} (hw : WellAt H p) (h : H q = some o) (n : ∀ x y z : Int, o ≠ .lst [.int x, .int y, .int z] := by intro x y z e; cases e) : p ≠ q := by
  obtain ⟨x, y, z, e⟩ := hw
  exact ne_of e h (fun q => n x y z q.symm)
theorem next_turn {t : Str} (h : Turn3 t) : ∃ n, Turn3 n ∧ valV (mergeK [] [((Sum.inr "first" : Key), V.str "last"), (.inr "last", .str "greatest"), (.inr "greatest", .str "first")]) (.inr t) = some (.str n) := by
  cases h
  · exact ⟨_, .last, by rfl⟩
  · exact ⟨_, .greatest, by rfl⟩
  · exact ⟨_, .first, by rfl⟩
section
variable {w : World} {K : PySem.W.Frag} {mg : Str → Option Value} {T : Txt K mg w}
theorem SaleN.off {W : Addr → Prop} {Hq H H' : Hp} {s o : Addr} {M : MD} (h : SaleN T Hq H s M o) (f : FrS W H H') (hw : ∀ b, W b → (∃ xs, H b = some (.lst xs)) ∧ Hq b ≠ none) : SaleN T Hq H' s M o := by
  obtain ⟨dx, a, b, h1, h2, h3, h4, h5⟩ := h
  refine ⟨dx, a, b, f _ _ (fun z => ?_) h1, f _ _ (fun z => ?_) h2, h3.off f (fun z => (hw _ z).2 h5) (fun c xs z q => ?_), h4, h5⟩
  · obtain ⟨xs, q⟩ := (hw _ z).1
    rw [h1] at q
    cases q
  · obtain ⟨xs, q⟩ := (hw _ z).1
    rw [h2] at q
    cases q
  · obtain ⟨ys, q'⟩ := (hw _ z).1
    rw [q] at q'
    cases q'
end
theorem cut_ints (ns : List Int) (lo hi : Option Int) : ∃ cs : List Int, cutV (ns.map V.int) lo hi = cs.map V.int ∧ cs.length ≤ ns.length := by
  refine ⟨(ns.drop _).take _, by unfold cutV; rw [← List.map_drop, ← List.map_take], ?_⟩
  rw [List.length_take, List.length_drop]
  omega
theorem deed_val {M : MD} {outs : List Str} {wd : Str} {mk : V} : (deedF M outs wd mk).1 = none ∨ (deedF M outs wd mk).1 = some .non ∨ ∃ b, (deedF M outs wd mk).1 = some (.bl b) := by
  cases mk with
  | str z =>
    show (deedZ M outs wd z).1 = none ∨ (deedZ M outs wd z).1 = some .non ∨ ∃ b, (deedZ M outs wd z).1 = some (.bl b)
    unfold deedZ
    split
    · split
      · exact .inr (.inr ⟨_, rfl⟩)
      · split
        · split
          · exact .inl rfl
          · exact .inr (.inl rfl)
        · split
          · exact .inr (.inl rfl)
          · exact .inl rfl
    · exact .inl rfl
  | _ => exact .inl rfl
theorem told_dp {K : PySem.W.Frag} {H : Hp} {M : MD} {outs : List Str} {wd : Str} {mk : V} {dt : PyData} (h : MarkD K H mk dt) : ∃ DD, DpAll K H (toldV (deedF M outs wd mk).1 mk) DD ∧ SeqAt.shaped (.tuple DD) = true := by
  have st : PyData.strOk "told" = true := by decide +kernel
  have sr : PyData.strOk "refused" = true := by decide +kernel
  rcases deed_val (M := M) (outs := outs) (wd := wd) (mk := mk) with e | e | ⟨b, e⟩
  · rw [e]
    refine ⟨[.str "refused", dt], .cons (.str _) (.cons h.dp .nil), ?_⟩
    have := h.dep
    have l := h.lay
    simp [SeqAt.shaped, PyData.canLay0, PyData.canLayAll0, PyData.depth, PyData.depthAll, sr, l]
    omega
  · rw [e]
    refine ⟨[.str "told", .none], .cons (.str _) (.cons .non .nil), ?_⟩
    simp [SeqAt.shaped, PyData.canLay0, PyData.canLayAll0, PyData.depth, PyData.depthAll, st]
  · rw [e]
    refine ⟨[.str "told", .bool b], .cons (.str _) (.cons (.bl b) .nil), ?_⟩
    simp [SeqAt.shaped, PyData.canLay0, PyData.canLayAll0, PyData.depth, PyData.depthAll, st]
section
variable {w : World} {K : PySem.W.Frag} {mg : Str → Option Value} {T : Txt K mg w}
theorem Sta.ps_ne {H0 H : Hp} {ps pm : Addr} {ds : List Rec} (S : Sta T H0 H ps pm ds) {b : Addr} {zs : List Str} (hb : OutAt H b zs) : ps ≠ b ∧ pm ≠ b := by
  obtain ⟨d0, d1, d2, e3⟩ := S.three
  have a1 := S.hs
  have a2 := S.hm
  rw [e3] at a1 a2
  exact ⟨ne_of a1 hb strs_ne_refs, ne_of a2 hb strs_ne_refs⟩
theorem Sta.get {H0 H : Hp} {ps pm : Addr} {ds : List Rec} (S : Sta T H0 H ps pm ds) {q : Int} (h0 : 0 ≤ q) (h1 : q < 3) : ∃ (k : Nat) (d : Rec), q = k ∧ ds[k]? = some d ∧ atI (ds.map fun d => V.ref d.s) q = some (.ref d.s) ∧ atI (ds.map fun d => V.ref d.m) q = some (.ref d.m) := by
  obtain ⟨n, rfl⟩ := Int.eq_ofNat_of_zero_le h0
  have hl : n < ds.length := by rw [S.len]; omega
  exact ⟨n, ds[n], rfl, List.getElem?_eq_getElem hl, atI_nat (by rw [List.getElem?_map, List.getElem?_eq_getElem hl]; rfl), atI_nat (by rw [List.getElem?_map, List.getElem?_eq_getElem hl]; rfl)⟩
end
end Kx
set_option maxHeartbeats 8000000
namespace Kx
open PySem PySem.Spec PyProof.Rows L2
section
variable {P : Program} {w : World} {K : PySem.W.Frag} {mg : Str → Option Value} {base : Heap} (T : Txt K mg w)
def rLOf (K : PySem.W.Frag) : List V → Hp → VK → Prop := fun xs H Q => ∃ p ys, xs = [.ref p] ∧ (SqL K H p ys ∨ SqT K H p ys) ∧ ∀ l, H l = none → Q (.ref l) (upd H l (.lst ys))
def spLaw : Sp := fun vs H Q _ => ∃ (a : Addr) (ns : List Int), vs = [.ref a] ∧ SqL K H a (ns.map V.int) ∧ ns.length ≤ 63 ∧ LamX.Tabs T.tabs H ∧ ∀ H', Q (.bl true) H'
theorem ok_law (B : TbOk T base) : FnOk P w K mg base CX0 10 T.fLaw T.dLaw pLaw (spLaw T) := by
  have GCell : FnOk P w K mg base CX0 1 T.fLCellAt T.dLCellAt pLCellAt (spCell (K := K)) := ok_cell T
  have GWell : FnOk P w K mg base CX0 1 T.fLWell T.dLWell pLWell spWell := ok_well T
  have GD : FnOk P w K mg base CX0 1 T.fLDraw T.dLDraw pLDraw spDraw := ok_draw T
  have GModel : FnOk P w K mg base CX0 4 T.fLModel T.dLModel pLModel spModel := ok_model T
  have GMade : FnOk P w K mg base CX0 7 T.fLMade T.dLMade pLMade (spMade T) := ok_made T
  have GUndone : FnOk P w K mg base CX0 7 T.fSaleUndone T.dSaleUndone pSaleUndone (spUndone T) := ok_undone T
  have GRight : FnOk P w K mg base CX0 9 T.fLRight T.dLRight pLRight (spRight T) := ok_right T B
  have GSaid : FnOk P w K mg base CX0 6 T.fLSaid T.dLSaid pLSaid (spLSaid T) := ok_lsaid T
  have GDue : FnOk P w K mg base CX0 1 T.fLDue T.dLDue pLDue (spLDue (K := K)) := ok_ldue T
  have GMark : FnOk P w K mg base CX0 2 T.fLMark T.dLMark pLMark (spLMark (K := K)) := ok_lmark T
  have GDeed : FnOk P w K mg base CX0 2 T.fLDeed T.dLDeed pLDeed spLDeed := ok_ldeed T
  refine T.FLaw.ok scLaw (fun vs H Q E h => ?_) (fun cdv A outer s H vs Q E hr h => ?_)
  · obtain ⟨a, ns, rfl, _⟩ := h; rfl
  · obtain ⟨a, ns, rfl, hsc, hln, htb, k⟩ := h
    have hu := hu_of hr
    have hu64 := hr.units
    have hu1 : ∀ {B : Around}, Room 0 B → B.units + 1 < cLine := fun r => by have := r.un; omega
    have hr0 : Room 0 _ := hr.mono (by decide)
    have hr1 : Room 1 _ := hr.mono (by decide)
    have hr2 : Room 2 _ := hr.mono (by decide)
    have hr4 : Room 4 _ := hr.mono (by decide)
    have hr6 : Room 6 _ := hr.mono (by decide)
    have hr7 : Room 7 _ := hr.mono (by decide)
    refine ⟨_, (pss_cons (ps_set (i := 1) scLaw.nd rfl (Or.inl rfl) (pe_call GWell hr1 (by rfl) T.gLWell T.FLWell.kp T.bLWell .nil pass0 (pa_cons (pe_call GCell hr1 (by rfl) T.gLCellAt T.FLCellAt.kp T.bLCellAt .nil pass0 (pa_cons (pv 0) (pa_cons (pe_int) pa_nil))) pa_nil)))
      (pss_cons (ps_set (i := 2) scLaw.nd rfl (Or.inl rfl) (pe_lst (pa_cons (pe_call GModel hr4 (by rfl) T.gLModel T.FLModel.kp T.bLModel .nil pass0 (pa_cons (pv 1) pa_nil)) pa_nil)))
      (pss_cons (ps_expr (pe_bm PySem.F.plainAttrs_list PySem.F.slot_list_append PySem.F.type_list_append mt_append (pv 2) (pa_cons (pe_callTy call_dictD (by rfl) T.zDict (by decide +kernel) (pa_cons (pe_ix ix_list (pv 2) pe_int (fun _ _ => rfl)) pa_nil)) pa_nil)))
      (pss_cons (ps_dput hu (pe_ix ix_list (pv 2) pe_int (fun _ _ => rfl)) pe_str (pe_dget hu (pe_disp (pps_cons pe_str pe_str (pps_cons pe_str pe_str (pps_cons pe_str pe_str pps_nil))) (by rfl) (by rfl) (fun z => by cases z) (by decide)) (pe_dget hu (pe_ix ix_list (pv 2) pe_int (fun _ _ => rfl)) pe_str (fun _ _ => rfl)) (fun _ _ => rfl)) rfl)
      (pss_cons (ps_dput hu (pe_ix ix_list (pv 2) pe_int (fun _ _ => rfl)) pe_str (pe_ix ix_list (pe_lst (pa_cons (pe_str) (pa_cons (pe_str) pa_nil))) (pe_call GD hr1 (by rfl) T.gLDraw T.FLDraw.kp T.bLDraw .nil pass0 (pa_cons (pv 1) (pa_cons (pe_int) pa_nil))) (fun _ _ => rfl)) rfl)
      (pss_cons (ps_dput hu (pe_ix ix_list (pv 2) pe_int (fun _ _ => rfl)) pe_str (pe_lst pa_nil) rfl)
      (pss_cons (ps_expr (pe_bm PySem.F.plainAttrs_list PySem.F.slot_list_append PySem.F.type_list_append mt_append (pv 2) (pa_cons (pe_call GModel hr4 (by rfl) T.gLModel T.FLModel.kp T.bLModel .nil pass0 (pa_cons (pe_call GWell hr1 (by rfl) T.gLWell T.FLWell.kp T.bLWell .nil pass0 (pa_cons (pe_op op_add (pe_call GCell hr1 (by rfl) T.gLCellAt T.FLCellAt.kp T.bLCellAt .nil pass0 (pa_cons (pv 0) (pa_cons (pe_int) pa_nil))) pe_int) pa_nil)) pa_nil)) pa_nil)))
      (pss_cons (ps_setLc (i := 4) (own := [("_law_model_here", 3)]) (g := gName 3) (tt := tYes) (te := tTup (tCons (tCB (rLOf K) (tCons (tDGet (tVar 3) (tC (.str "nets"))) tNil)) (tCons (tCB (rLOf K) (tCons (tDGet (tVar 3) (tC (.str "shares"))) tNil)) tNil))) rfl scLaw.nd rfl rfl (sw_true rfl rfl rfl (by decide +kernel)) (pi_list (pe_lst (pa_cons (pe_ix ix_list (pv 2) pe_int (fun _ _ => rfl)) (pa_cons (pe_ix ix_list (pv 2) pe_int (fun _ _ => rfl)) pa_nil)))) (blkOk_by (N := nLaw) (sc := defScope sLaw) (by decide +kernel))
          (fun _ _ _ _ _ => pg_name (i := 3) scLaw.nd rfl (Or.inl rfl)) (fun _ _ _ _ _ => pts_nil) (fun _ _ _ _ _ => pe_tup (pa_cons (pe_callTy call_list_of (by rfl) T.zList boot_list (pa_cons (pe_dget hu (pv 3) pe_str (fun _ _ => rfl)) pa_nil)) (pa_cons (pe_callTy call_list_of (by rfl) T.zList boot_list (pa_cons (pe_dget hu (pv 3) pe_str (fun _ _ => rfl)) pa_nil)) pa_nil))))
      (pss_cons (ps_set (i := 5) scLaw.nd rfl (Or.inl rfl) (pe_lst pa_nil))
      (pss_cons (ps_for PassesOwn.never rfl (pi_enum (by rfl) T.zEnumerate (pa_cons (pv 2) pa_nil)) (pg_tup rfl (pgs_cons (pg_name (i := 6) scLaw.nd rfl (Or.inl rfl)) (pgs_cons (pg_name (i := 3) scLaw.nd rfl (Or.inl rfl)) pgs_nil)))
        (pss_cons (ps_set (i := 7) scLaw.nd rfl (Or.inl rfl) (pe_callTy call_dictD (by rfl) T.zDict (by decide +kernel) (pa_cons (pv 3) pa_nil)))
      (pss_cons (ps_asg (pe_ix ix_list (pv 4) (pe_op op_fdiv (pv 6) pe_int) (fun _ _ => rfl)) (pg_tup rfl (pgs_cons (pg_sub (pv 7) pe_str (set_dict (hu1 hr0))) (pgs_cons (pg_sub (pv 7) pe_str (set_dict (hu1 hr0))) pgs_nil))))
      (pss_one (ps_expr (pe_bm PySem.F.plainAttrs_list PySem.F.slot_list_append PySem.F.type_list_append mt_append (pv 5) (pa_cons (pe_call GMade hr7 (by rfl) T.gLMade T.FLMade.kp T.bLMade .nil pass0 (pa_cons (pv 7) (pa_cons (pv 6) pa_nil))) pa_nil)))))))
      (pss_cons (ps_for PassesOwn.never rfl (pi_list (pv 4)) (pg_tup rfl (pgs_cons (pg_name (i := 8) scLaw.nd rfl (Or.inl rfl)) (pgs_cons (pg_name (i := 9) scLaw.nd rfl (Or.inl rfl)) pgs_nil)))
        (pss_cons (ps_expr (pe_bm0 PySem.F.plainAttrs_list PySem.F.slot_list_clear PySem.F.type_list_clear mt_clear (pv 8)))
      (pss_one (ps_expr (pe_bm PySem.F.plainAttrs_list PySem.F.slot_list_append PySem.F.type_list_append mt_append (pv 9) (pa_cons (pe_tup (pa_cons (pe_str) (pa_cons (pe_int) pa_nil))) pa_nil))))))
      (pss_cons (ps_for PassesOwn.never rfl (pi_list (pe_op op_cat (pe_lst (pa_cons (pe_int) (pa_cons (pe_int) (pa_cons (pe_int) pa_nil)))) (pe_slice sl_list (pv 0) (po_some pe_int) (po_some pe_int)))) (pg_name (i := 10) scLaw.nd rfl (Or.inl rfl))
        (pss_cons (ps_set (i := 1) scLaw.nd rfl (Or.inl rfl) (pe_call GWell hr1 (by rfl) T.gLWell T.FLWell.kp T.bLWell .nil pass0 (pa_cons (pv 10) pa_nil)))
      (pss_cons (ps_set (i := 11) scLaw.nd rfl (Or.inl rfl) (pe_ix ix_list (pe_lst (pa_cons (pe_lst (pa_cons (pe_int) pa_nil)) (pa_cons (pe_lst (pa_cons (pe_int) pa_nil)) (pa_cons (pe_lst (pa_cons (pe_int) pa_nil)) (pa_cons (pe_lst (pa_cons (pe_int) (pa_cons (pe_int) (pa_cons (pe_int) pa_nil)))) pa_nil))))) (pe_call GD hr1 (by rfl) T.gLDraw T.FLDraw.kp T.bLDraw .nil pass0 (pa_cons (pv 1) (pa_cons (pe_int) pa_nil))) (fun _ _ => rfl)))
      (pss_cons (ps_if (pt_cmpR op_eq (pe_call GD hr1 (by rfl) T.gLDraw T.FLDraw.kp T.bLDraw .nil pass0 (pa_cons (pv 1) (pa_cons (pe_int) pa_nil))) pe_int (nomark _))
            (pss_cons (ps_set (i := 12) scLaw.nd rfl (Or.inl rfl) (pe_call GD hr1 (by rfl) T.gLDraw T.FLDraw.kp T.bLDraw .nil pass0 (pa_cons (pv 1) (pa_cons (pe_int) pa_nil))))
      (pss_cons (ps_asg (pe_meth0 (pe_ix ix_list (pv 5) (pv 12) (fun _ _ => rfl)) T.CSale T.mSaleUndone GUndone hr7 T.bSaleUndone .nil pass0) (pg_sub (pv 5) (pv 12) set_list))
      (pss_cons (ps_asg (pe_callTy call_dictD (by rfl) T.zDict (by decide +kernel) (pa_cons (pe_ix ix_list (pv 2) (pv 12) (fun _ _ => rfl)) pa_nil)) (pg_sub (pv 2) (pv 12) set_list))
      (pss_one (ps_dput hu (pe_ix ix_list (pv 2) (pv 12) (fun _ _ => rfl)) pe_str (pe_lst pa_nil) rfl)))))
            (pss_cons (ps_set (i := 13) scLaw.nd rfl (Or.inl rfl) (pe_call GDeed hr2 (by rfl) T.gLDeed T.FLDeed.kp T.bLDeed .nil pass0 (pa_cons (pv 1) pa_nil)))
      (pss_cons (ps_set (i := 14) scLaw.nd rfl (Or.inl rfl) (pe_call GMark hr2 (by rfl) T.gLMark T.FLMark.kp T.bLMark .nil pass0 (pa_cons (pv 1) (pa_cons (pe_ix ix_list (pv 2) (pe_ix ix_list (pv 11) pe_int (fun _ _ => rfl)) (fun _ _ => rfl)) pa_nil))))
      (pss_one (ps_for PassesOwn.never rfl (pi_list (pv 11)) (pg_name (i := 12) scLaw.nd rfl (Or.inl rfl))
                (pss_cons (ps_set (i := 15) scLaw.nd rfl (Or.inl rfl) (pe_call GDue hr1 (by rfl) T.gLDue T.FLDue.kp T.bLDue .nil pass0 (pa_cons (pe_ix ix_list (pv 2) (pv 12) (fun _ _ => rfl)) (pa_cons (pv 13) (pa_cons (pv 14) pa_nil)))))
      (pss_one (ps_if (pt_cmpR (op_neD hu64) (pe_call GSaid hr6 (by rfl) T.gLSaid T.FLSaid.kp T.bLSaid .nil pass0 (pa_cons (pe_ix ix_list (pv 5) (pv 12) (fun _ _ => rfl)) (pa_cons (pv 13) (pa_cons (pv 14) pa_nil)))) (pv 15) (nomark _)) (pss_one (ps_ret pe_bl)) pss_nil))))))))
      (pss_one (ps_for PassesOwn.never rfl (pi_list (pe_lst (pa_cons (pe_int) (pa_cons (pe_int) (pa_cons (pe_int) (pa_cons (pe_int) (pa_cons (pe_int) pa_nil))))))) (pg_name (i := 12) scLaw.nd rfl (Or.inl rfl))
            (pss_one (ps_if (pt_not (pt_val (pe_call GRight hr (by rfl) T.gLRight T.FLRight.kp T.bLRight .nil pass0 (pa_cons (pe_ix ix_list (pv 5) (pv 12) (fun _ _ => rfl)) (pa_cons (pe_ix ix_list (pv 2) (pv 12) (fun _ _ => rfl)) pa_nil))))) (pss_one (ps_ret pe_bl)) pss_nil))))))))
      (pss_one (ps_ret pe_bl)))))))))))))), ?_⟩
    -- A: the models
    refine ⟨_, rfl, a, ns, 0, rfl, hsc, by decide, fun c0 => ⟨c0, rfl, fun Ha pw sa na wa => ?_⟩⟩
    refine ⟨_, rfl, pw, rfl, wa, fun Hb m0 M0 o0 fb wb mb ob okM nm0 no0 => ⟨(by show 1 ≤ sizeLine; decide), fun pm npm => ?_⟩⟩
    obtain ⟨a0, b0, md, mr1, mr2⟩ := id mb
    have sHb : Same H Hb := same_of sa fb fun b q => by obtain rfl : b = pw := q; exact na
    refine ⟨_, rfl, .inl ⟨rfl, _, SqL.of upd_same⟩, _, rfl, pm, _, 0, _, rfl, rfl, SqL.of upd_same, rfl, m0, _, rfl, .inl (same_new npm _ _ md), fun m1 nm1 => ?_⟩
    have m1pm : m1 ≠ pm := fun z => by rw [z, upd_same] at nm1; cases nm1
    have nm1b : Hb m1 = none := by rw [upd_ne m1pm] at nm1; exact nm1
    refine ⟨pm, _, _, rfl, rfl, by rw [upd_ne m1pm.symm]; exact upd_same, (by show 1 < sizeLine; decide), ?_⟩
    show tSeq _ _ _ _ _
    generalize eHe : upd (upd (upd Hb pm (.lst [V.ref m0])) m1 (.dK (mdK M0 a0 b0 o0))) pm (.lst ([V.ref m0] ++ [V.ref m1])) = He
    have pe : He pm = some (.lst [V.ref m0, V.ref m1]) := by rw [← eHe]; exact upd_same
    have d1e : He m1 = some (.dK (mdK M0 a0 b0 o0)) := by rw [← eHe, upd_ne m1pm, upd_same]
    have fe : FrS (Wl pw) Hb He := by rw [← eHe]; exact (((FrS.refl _).updN npm).updN nm1b).updN npm
    have we : WellAt He pw := by
      rw [← eHe]
      exact (((wb.put (wb.ne npm)).put (wb.ne nm1b)).put (wb.ne npm))
    have d0e : He m0 = some (.dK (mdK M0 a0 b0 o0)) := by
      obtain ⟨x, y, z, e⟩ := wb
      exact fe _ _ (fun q => ne_of e md (by intro z; cases z) (Eq.symm q)) md
    -- to
    obtain ⟨nt, hnt, ent⟩ := next_turn okM.to
    refine fun pd npd => ⟨upd_same, [(.inr "first", .str "last"), (.inr "last", .str "greatest"), (.inr "greatest", .str "first")], rfl, (by show 3 ≤ 15; decide), ?_⟩
    have pdpm : pm ≠ pd := ne_of_none pe npd
    have pdm0 : m0 ≠ pd := ne_of_none d0e npd
    have pdm1 : m1 ≠ pd := ne_of_none d1e npd
    rw [upd_upd]
    generalize eHf : upd He pd (.dK (mergeK [] [((Sum.inr "first" : Key), V.str "last"), (.inr "last", .str "greatest"), (.inr "greatest", .str "first")])) = Hf
    have sf : Same He Hf := by rw [← eHf]; exact same_new npd
    have ed : Hf pd = some (.dK (mergeK [] [((Sum.inr "first" : Key), V.str "last"), (.inr "last", .str "greatest"), (.inr "greatest", .str "first")])) := by rw [← eHf]; exact upd_same
    have dgn : DGet Hf pd (.str M0.to) (some (.str nt)) := by
      have e := DGet.k (k := Sum.inr M0.to) ed
      rw [ent] at e
      exact e
    have pf := sf _ _ pe
    refine ⟨_, rfl, pm, _, 0, _, rfl, rfl, SqL.of pf, rfl, m0, _, rfl, dg_to (sf _ _ d0e), pd, _, rfl, dgn, ?_⟩
    refine ⟨_, rfl, pm, _, 1, _, rfl, rfl, SqL.of pf, rfl, m1, _, rfl, DPut.k (k := Sum.inr "to") (sf _ _ d1e) (by show 8 < sizeLine; decide), ?_⟩
    show tSeq _ _ _ _ _
    have pm1 : pm ≠ m1 := ne_of pe d1e (by intro z; cases z)
    have ff : FrS (Wl pw) Hb Hf := fe.trans (.of sf)
    have wf : WellAt Hf pw := we.fr sf
    generalize eHg : upd Hf m1 (.dK (putK (mdK M0 a0 b0 o0) (Sum.inr "to") (.str nt))) = Hg
    have pg : Hg pm = some (.lst [V.ref m0, V.ref m1]) := by rw [← eHg, upd_ne pm1]; exact pf
    have d1g : Hg m1 = some (.dK (mdK { M0 with to := nt } a0 b0 o0)) := by rw [← eHg]; exact upd_same
    have fg : FrS (Wl pw) Hb Hg := by rw [← eHg]; exact ff.updN nm1b
    have wg : WellAt Hg pw := by rw [← eHg]; exact wf.put (wf.ne' (sf _ _ d1e))
    -- move
    refine pick_at (xs := [.str "fall", .str "cut"]) (n := 2) (p := pw) (j := 1) rfl wg rfl (by decide) (by decide) fun Hh v fh wh hv => ?_
    obtain ⟨mv, hmv, rfl⟩ : ∃ mv, Move3 mv ∧ v = .str mv := by
      simp only [List.mem_cons, List.not_mem_nil, or_false] at hv
      rcases hv with rfl | rfl
      · exact ⟨_, .fall, rfl⟩
      · exact ⟨_, .cut, rfl⟩
    have ph : Hh pm = some (.lst [V.ref m0, V.ref m1]) := fh _ _ (fun q => absurd (Eq.symm q) (wg.ne' pg)) pg
    have d1h := fh _ _ (fun q => absurd (Eq.symm q) (wg.ne' d1g)) d1g
    refine ⟨_, rfl, pm, _, 1, _, rfl, rfl, SqL.of ph, rfl, m1, _, rfl, DPut.k (k := Sum.inr "move") d1h (by show 8 < sizeLine; decide), ?_⟩
    show tSeq _ _ _ _ _
    generalize eHi : upd Hh m1 (.dK (putK (mdK { M0 with to := nt } a0 b0 o0) (Sum.inr "move") (.str mv))) = Hi
    have pi' : Hi pm = some (.lst [V.ref m0, V.ref m1]) := by rw [← eHi, upd_ne pm1]; exact ph
    have d1i : Hi m1 = some (.dK (mdK { M0 with to := nt, move := mv } a0 b0 o0)) := by rw [← eHi]; exact upd_same
    have fi : FrS (Wl pw) Hb Hi := by rw [← eHi]; exact (fg.trans fh).updN nm1b
    have wi : WellAt Hi pw := by rw [← eHi]; exact wh.put (wh.ne' d1h)
    -- out
    refine ⟨Nat.zero_le _, fun o1 no1 => ?_⟩
    have po1 : pm ≠ o1 := ne_of_none pi' no1
    have mo1 : m1 ≠ o1 := ne_of_none d1i no1
    have pi2 : upd Hi o1 (.lst []) pm = some (.lst [V.ref m0, V.ref m1]) := by rw [upd_ne po1]; exact pi'
    have d1i2 : upd Hi o1 (.lst []) m1 = some (.dK (mdK { M0 with to := nt, move := mv } a0 b0 o0)) := by rw [upd_ne mo1]; exact d1i
    refine ⟨_, rfl, pm, _, 1, _, rfl, rfl, SqL.of pi2, rfl, m1, _, rfl, DPut.k (k := Sum.inr "out") d1i2 (by show 8 < sizeLine; decide), ?_⟩
    show tSeq _ _ _ _ _
    generalize eHj : upd (upd Hi o1 (.lst [])) m1 (.dK (putK (mdK { M0 with to := nt, move := mv } a0 b0 o0) (Sum.inr "out") (.ref o1))) = Hj
    obtain ⟨M1, eM1⟩ : ∃ M1 : MD, M1 = { M0 with to := nt, move := mv } := ⟨_, rfl⟩
    have pj : Hj pm = some (.lst [V.ref m0, V.ref m1]) := by rw [← eHj, upd_ne pm1]; exact pi2
    have d1j : Hj m1 = some (.dK (mdK M1 a0 b0 o1)) := by rw [← eHj, eM1]; exact upd_same
    have o1j : OutAt Hj o1 [] := by
      show Hj o1 = _
      rw [← eHj, upd_ne mo1.symm]
      exact upd_same
    have no1b : Hb o1 = none := FrS.back (wl_ne wi no1) fi no1
    have fj : FrS (Wl pw) Hb Hj := by rw [← eHj]; exact (fi.updN no1b).updN nm1b
    have okM1 : M1.Ok := by
      rw [eM1]
      exact ⟨okM.nets, okM.p0, okM.p1, okM.shares, hnt, hmv, okM.s0, okM.s1, okM.f0, okM.f1⟩
    have m0j : ModelAt Hj m0 M0 o0 := mb.well wb fj
    have o0j : OutAt Hj o0 [] := ob.well wb fj
    have m1j : ModelAt Hj m1 M1 o1 := by
      obtain ⟨a', b', q1, q2, q3⟩ := id m0j
      refine ⟨a0, b0, d1j, ?_, ?_⟩
      · rw [eM1]; exact mr1.well wb fj
      · rw [eM1]; exact mr2.well wb fj
    have d0j : Hj m0 = some (.dK (mdK M0 a0 b0 o0)) := by
      obtain ⟨x, y, z, e⟩ := wb
      exact fj _ _ (fun q => ne_of e md (by intro z; cases z) (Eq.symm q)) md
    have o01 : o0 ≠ o1 := ne_of_none ob no1b
    have sHj : Same H Hj := same_of sHb fj fun b q => by obtain rfl : b = pw := q; exact na
    clear eHj eHi eHg eHf eHe
    -- the third
    refine ⟨_, rfl, .inl ⟨rfl, _, SqL.of pj⟩, _, rfl, a, ns, 1, rfl, (FrS.of (W := NoW) sHj).seq (fun _ z => z) hsc, by decide, fun c1 => ⟨_, _, rfl, rfl, c1 + 2, rfl, fun Hk pw2 sk nk wk => ⟨pw2, rfl, wk, fun Hl m2 M2 o2 fl wl ml ol okM2 nm2 no2 => ?_⟩⟩⟩
    have pk := sk _ _ pj
    have pl : Hl pm = some (.lst [V.ref m0, V.ref m1]) := fl _ _ (fun q => absurd (Eq.symm q) (wk.ne' pk)) pk
    have d0l : Hl m0 = some (.dK (mdK M0 a0 b0 o0)) := fl _ _ (fun q => absurd (Eq.symm q) (wk.ne' (sk _ _ d0j))) (sk _ _ d0j)
    refine ⟨pm, _, _, rfl, rfl, pl, (by show 2 < sizeLine; decide), ?_⟩
    show tSeq _ _ _ _ _
    have nkH : H pw2 = none := sHj.free nk
    have npmH : H pm = none := sHb.free npm
    have sHl : Same H Hl := same_of (sHj.trans sk) fl fun b q => by obtain rfl : b = pw2 := q; exact nkH
    generalize eHm : upd Hl pm (.lst ([V.ref m0, V.ref m1] ++ [V.ref m2])) = Hm
    have pmm : Hm pm = some (.lst [V.ref m0, V.ref m1, V.ref m2]) := by rw [← eHm]; exact upd_same
    have sHm : Same H Hm := by rw [← eHm]; exact same_upd sHl npmH
    have m0m : ModelAt Hm m0 M0 o0 := by rw [← eHm]; exact ((m0j.same sk).well wk fl).put okM pl d0l
    have m1m : ModelAt Hm m1 M1 o1 := by rw [← eHm]; exact ((m1j.same sk).well wk fl).put okM1 pl d0l
    have m2m : ModelAt Hm m2 M2 o2 := by rw [← eHm]; exact ml.put okM2 pl d0l
    have o0m : OutAt Hm o0 [] := by rw [← eHm]; exact OutAt.put (OutAt.well (sk _ _ o0j) wk fl) pl
    have o1m : OutAt Hm o1 [] := by rw [← eHm]; exact OutAt.put (OutAt.well (sk _ _ o1j) wk fl) pl
    have o2m : OutAt Hm o2 [] := by rw [← eHm]; exact OutAt.put ol pl
    have o02 : o0 ≠ o2 := ne_of_none (sk _ _ o0j) no2
    have o12 : o1 ≠ o2 := ne_of_none (sk _ _ o1j) no2
    clear eHm
    -- B: the lists
    refine ⟨_, rfl, pm, _, 0, _, rfl, rfl, SqL.of pmm, rfl, _, rfl, pm, _, 2, _, rfl, rfl, SqL.of pmm, rfl, (by show 2 ≤ sizeLine; decide), fun ll nll => ⟨ll, rfl, ⟨_, SqL.of upd_same⟩, fun D hD => ?_⟩⟩
    generalize eHn : upd Hm ll (.lst [V.ref m0, V.ref m2]) = Hn at hD ⊢
    have sn : Same Hm Hn := by rw [← eHn]; exact same_new nll
    have ln : Hn ll = some (.lst [V.ref m0, V.ref m2]) := by rw [← eHn]; exact upd_same
    clear eHn
    refine lc_st (K := K) (a := ll) (xs := [V.ref m0, V.ref m2]) NoW hD (SqL.of ln) (fun _ z => z) (fun i ys H => ∃ ts : List Addr, ys = ts.map V.ref ∧ ts.length = i ∧ ∀ (j : Nat) t, ts[j]? = some t → ∃ la lb M, [M0, M2][j]? = some M ∧ H t = some (.tup [.ref la, .ref lb]) ∧ RowsAt H la M.nets ∧ RowsAt H lb M.shares ∧ Hn la = none ∧ Hn lb = none ∧ la ≠ D ∧ lb ≠ D ∧ la ≠ lb) ⟨[], rfl, rfl, fun j t z => by simp at z⟩ (fun i x ys Hx hx fx dx' lx rx => ?_) fun ys Ho fo dO lO rO => ?_
    · have hi : i < 2 := (List.getElem?_eq_some_iff.mp hx).1
      obtain ⟨m, M, o, rfl, hMi, hmx, okx⟩ : ∃ m M o, x = .ref m ∧ [M0, M2][i]? = some M ∧ ModelAt Hn m M o ∧ M.Ok := by
        match i, hi with
        | 0, _ => exact ⟨m0, M0, o0, (Option.some.inj hx).symm, rfl, m0m.same sn, okM⟩
        | 1, _ => exact ⟨m2, M2, o2, (Option.some.inj hx).symm, rfl, m2m.same sn, okM2⟩
      obtain ⟨xa, xb, x1, ⟨us, x2, x2'⟩, ⟨vs, x3, x3'⟩⟩ := hmx.same fx.same
      refine ⟨rfl, _, rfl, m, _, rfl, dg_nets x1, xa, _, rfl, .inl (SqL.of x2), fun la nla => ?_⟩
      have s1 : Same Hx (upd Hx la (.lst (us.map V.ref))) := same_new nla
      refine ⟨_, rfl, m, _, rfl, dg_shares (s1 _ _ x1), xb, _, rfl, .inl (SqL.of (s1 _ _ x3)), fun lb nlb => ⟨(by show 2 ≤ sizeLine; decide), fun t nt => ?_⟩⟩
      have s2 := s1.trans (same_new (o := .lst (vs.map V.ref)) nlb)
      have s3 := s2.trans (same_new (o := .tup [V.ref la, V.ref lb]) nt)
      have nlb' : Hx lb = none := s1.free nlb
      have lab : la ≠ lb := fun z => by rw [← z, upd_same] at nlb; cases nlb
      have laD : la ≠ D := fun z => by rw [z, dx'] at nla; cases nla
      have lbD : lb ≠ D := fun z => by rw [z, dx'] at nlb'; cases nlb'
      have latt : upd (upd Hx la (.lst (us.map V.ref))) lb (.lst (vs.map V.ref)) la = some (.lst (us.map V.ref)) := by rw [upd_ne lab]; exact upd_same
      have tla : la ≠ t := ne_of_none latt nt
      have tlb : lb ≠ t := fun z => by rw [← z, upd_same] at nt; cases nt
      have d4 := s3 _ _ dx'
      have tD : t ≠ D := fun z => by rw [z, s2 _ _ dx'] at nt; cases nt
      generalize eH4 : upd (upd (upd Hx la (.lst (us.map V.ref))) lb (.lst (vs.map V.ref))) t (.tup [V.ref la, V.ref lb]) = H4 at s3 d4 ⊢
      have la4 : H4 la = some (.lst (us.map V.ref)) := by rw [← eH4, upd_ne tla]; exact latt
      have lb4 : H4 lb = some (.lst (vs.map V.ref)) := by rw [← eH4, upd_ne tlb]; exact upd_same
      have t4 : H4 t = some (.tup [V.ref la, V.ref lb]) := by rw [← eH4]; exact upd_same
      have fD : FrS (fun b => b = D) H4 (upd H4 D (.lst (ys ++ [V.ref t]))) := frs_upd
      have nDt : ∀ b xs, b = D → H4 b ≠ some (.tup xs) := fun b xs e z => by rw [e, d4] at z; cases z
      obtain ⟨ts, r1, r2, r3⟩ := rx
      refine lc_put hD (fun z => z) (by rw [sizeLine_eq]; omega) fx dx' lx (.of s3) ⟨ts ++ [t], by rw [r1, List.map_append]; rfl, by rw [List.length_append, r2]; rfl, fun j t' h => ?_⟩
      by_cases hj : j < ts.length
      · rw [List.getElem?_append_left hj] at h
        obtain ⟨la', lb', M', e1, e2, e3, e4, e5, e6, e7, e8, e9⟩ := r3 j t' h
        refine ⟨la', lb', M', e1, ?_, (e3.ext (.same s3)).off fD e7 nDt, (e4.ext (.same s3)).off fD e8 nDt, e5, e6, e7, e8, e9⟩
        rw [upd_ne (ne_of e2 dx' (by intro z; cases z))]
        exact s3 _ _ e2
      · have hje : j = ts.length := by
          have := (List.getElem?_eq_some_iff.mp h).1
          rw [List.length_append, List.length_singleton] at this
          omega
        subst hje
        rw [List.getElem?_append_right (Nat.le_refl _), Nat.sub_self] at h
        obtain rfl := Option.some.inj h
        refine ⟨la, lb, M, by rw [r2]; exact hMi, by rw [upd_ne tD]; exact t4, ?_, ?_, ?_, ?_, laD, lbD, lab⟩
        · exact RowsAt.off ⟨us, la4, x2'.ext (.same s3)⟩ fD laD nDt
        · exact RowsAt.off ⟨vs, lb4, x3'.ext (.same s3)⟩ fD lbD nDt
        · exact fx.same.free nla
        · exact fx.same.free nlb'
    have sno : Same Hn Ho := fo.same
    have smo : Same Hm Ho := sn.trans sno
    obtain ⟨ts, rfl, tl, r3⟩ := rO
    obtain ⟨t0, t2, rfl⟩ : ∃ t0 t2, ts = [t0, t2] := by
      match ts, tl with
      | [x, y], _ => exact ⟨x, y, rfl⟩
    obtain ⟨la0, lb0, M0', e0, q0, ra0, rb0, na0, nb0, naD0, nbD0, _⟩ := r3 0 t0 rfl
    obtain rfl : M0 = M0' := Option.some.inj e0
    obtain ⟨la2, lb2, M2', e2, q2, ra2, rb2, na2, nb2, naD2, nbD2, _⟩ := r3 1 t2 rfl
    obtain rfl : M2 = M2' := Option.some.inj e2
    -- C: the sales
    refine ⟨Nat.zero_le _, fun ps nps => ?_⟩
    show tSeq _ _ _ _ _
    generalize eHq : upd Ho ps (.lst []) = Hq
    have soq : Same Ho Hq := by rw [← eHq]; exact same_new nps
    have psq : Hq ps = some (.lst []) := by rw [← eHq]; exact upd_same
    clear eHq
    have smq : Same Hm Hq := smo.trans soq
    have pmq := smq _ _ pmm
    have Dq : Hq D = some (.lst [V.ref t0, V.ref t2]) := soq _ _ dO
    have psne : ∀ {b o}, Ho b = some o → b ≠ ps := fun h => ne_of_none h nps
    refine ⟨_, rfl, pm, _, rfl, SqL.of pmq, for_it (walk_enum (K := K) (a := pm) (xs := [V.ref m0, V.ref m1, V.ref m2])) (fun i σ H' => (∃ v3 v6 v7, σ = [some (.ref a), some (.ref pw), some (.ref pm), v3, some (.ref D), some (.ref ps), v6, v7, none, none, none, none, none, none, none, none]) ∧ FrS (fun b => b = ps) Hq H' ∧
      ∃ sl : List (Addr × Addr), sl.length = i ∧ H' ps = some (.lst (sl.map fun p => V.ref p.1)) ∧ (∀ (j : Nat) p M, sl[j]? = some p → [M0, M1, M2][j]? = some M → SaleN T Hq H' p.1 M p.2 ∧ OutAt H' p.2 [] ∧ Hq p.2 = none) ∧ ∀ (j k : Nat) p q, sl[j]? = some p → sl[k]? = some q → j ≠ k → p.2 ≠ q.2)
      ⟨⟨none, none, none, rfl⟩, .refl _, [], rfl, psq, fun j p M z => by simp at z, fun j k p q z => by simp at z⟩ (fun i σ H' _ ⟨_, f, _⟩ => SqL.of (f _ _ (psne (smo _ _ pmm)) pmq)) ?_ ?_⟩
    · rintro i x σ H' H'' hi ⟨⟨v3, v6, v7, rfl⟩, f, sl, sl1, sl2, sl3, sl4⟩ ⟨t, u, v, rfl, nt, rfl, hu', hv'⟩
      obtain rfl : V.int (i : Nat) = u := Option.some.inj hu'
      obtain ⟨m, M, o, tt, la, lb, rfl, hMi, hmm, okx, hat, htt, hla, hlb⟩ : ∃ m M o tt la lb, v = .ref m ∧ [M0, M1, M2][i]? = some M ∧ ModelAt Hm m M o ∧ M.Ok ∧ atI [V.ref t0, V.ref t2] ((i : Int) / 2) = some (V.ref tt) ∧ Ho tt = some (.tup [.ref la, .ref lb]) ∧ RowsAt Ho la M.nets ∧ RowsAt Ho lb M.shares := by
        have hi3 : i < 3 := hi
        match i, hi3 with
        | 0, _ => exact ⟨m0, M0, o0, t0, la0, lb0, (Option.some.inj hv').symm, rfl, m0m, okM, by rfl, q0, ra0, rb0⟩
        | 1, _ => exact ⟨m1, M1, o1, t0, la0, lb0, (Option.some.inj hv').symm, rfl, m1m, okM1, by rfl, q0, by rw [eM1]; exact ra0, by rw [eM1]; exact rb0⟩
        | 2, _ => exact ⟨m2, M2, o2, t2, la2, lb2, (Option.some.inj hv').symm, rfl, m2m, okM2, by rfl, q2, ra2, rb2⟩
      obtain ⟨xa, xb, x1, _, _⟩ := id hmm
      have up : ∀ {b o}, Ho b = some o → H' b = some o := fun {b o} h => f _ _ (psne h) (soq _ _ h)
      have s1 : Same H' (upd H' t (.tup [V.int (i : Nat), V.ref m])) := same_new nt
      refine ⟨t, _, rfl, SqT.of upd_same, rfl, _, _, rfl, _, _, rfl, rfl, ?_⟩
      refine ⟨_, rfl, m, _, rfl, .inl (s1 _ _ (up (smo _ _ x1))), fun h nh => ?_⟩
      have s2 := s1.trans (same_new (o := .dK (mdK M xa xb o)) nh)
      refine ⟨_, rfl, _, rfl, _, _, rfl, rfl, ⟨by decide, by decide⟩, D, _, _, _, rfl, rfl, SqL.of (s2 _ _ (up dO)), hat, ?_⟩
      refine ⟨tt, _, rfl, SqT.of (s2 _ _ (up htt)), rfl, _, _, rfl, ?_⟩
      refine ⟨_, rfl, h, _, rfl, DPut.k (k := Sum.inr "nets") upd_same (by show 8 < sizeLine; decide), _, _, rfl, _, rfl, h, _, rfl, DPut.k (k := Sum.inr "shares") upd_same (by show 8 < sizeLine; decide), rfl, ?_⟩
      rw [upd_upd, upd_upd]
      generalize eH5 : upd (upd H' t (.tup [V.int (i : Nat), V.ref m])) h (.dK (putK (putK (mdK M xa xb o) (Sum.inr "nets") (.ref la)) (Sum.inr "shares") (.ref lb))) = H5
      have s5 : Same H' H5 := by rw [← eH5]; exact same_upd s1 (s1.free nh)
      have h5 : H5 h = some (.dK (mdK M la lb o)) := by rw [← eH5]; exact upd_same
      clear eH5
      have ps5 := s5 _ _ sl2
      have f5 : FrS (fun b => b = ps) Hq H5 := f.trans (.of s5)
      have up5 : ∀ {b rows}, RowsAt Ho b rows → RowsAt H5 b rows := fun {b rows} hb => by
        refine RowsAt.off (hb.ext (.same soq)) f5 ?_ (fun c xs e z => by rw [e, psq] at z; cases z)
        obtain ⟨us, u1, _⟩ := hb
        exact psne u1
      have sll : sl.length < 3 := by rw [sl1]; exact hi
      refine ⟨_, rfl, .inl ⟨rfl, _, SqL.of ps5⟩, _, rfl, _, rfl, h, o, M, i, rfl, ⟨la, lb, h5, up5 hla, up5 hlb⟩, okx, fun H6 x o' s6 nx no hsale hout => ⟨ps, _, _, rfl, rfl, s6 _ _ ps5, by rw [List.length_map, sizeLine_eq]; omega, ?_⟩⟩
      have f6 : FrS (fun b => b = ps) Hq H6 := f5.trans (.of s6)
      have ps6 := s6 _ _ ps5
      have fp : FrS (fun b => b = ps) H6 (upd H6 ps (.lst (sl.map (fun p => V.ref p.1) ++ [V.ref x]))) := frs_upd
      have hw : ∀ b, b = ps → (∃ xs, H6 b = some (.lst xs)) ∧ Hq b ≠ none := fun b e => by
        rw [e]
        exact ⟨⟨_, ps6⟩, by rw [psq]; simp⟩
      have bkq : ∀ {b}, H5 b = none → Hq b = none := fun {b} n => FrS.back (fun e => by rw [show b = ps from e, ps5] at n; cases n) f5 n
      have noq := bkq no
      have o'ps : o' ≠ ps := fun e => by rw [e, ps5] at no; cases no
      refine ⟨⟨_, _, _, rfl⟩, f6.trans fp, sl ++ [(x, o')], by rw [List.length_append, sl1]; rfl, by rw [List.map_append]; exact upd_same, fun j p M' hj hM' => ?_, fun j k p q hj hk hne => ?_⟩
      · by_cases c : j < sl.length
        · rw [List.getElem?_append_left c] at hj
          obtain ⟨g1, g2, g3⟩ := sl3 j p M' hj hM'
          have s56 := s5.trans s6
          refine ⟨SaleN.off (SaleN.off g1 (.of (W := NoW) s56) (fun _ z => z.elim)) fp hw, ?_, g3⟩
          show upd H6 ps _ p.2 = _
          rw [upd_ne (fun e => by rw [e, psq] at g3; cases g3)]
          exact s56 _ _ g2
        · have hje : j = sl.length := by
            have := (List.getElem?_eq_some_iff.mp hj).1
            rw [List.length_append, List.length_singleton] at this
            omega
          subst hje
          rw [List.getElem?_append_right (Nat.le_refl _), Nat.sub_self] at hj
          obtain rfl := Option.some.inj hj
          rw [sl1, hMi] at hM'
          obtain rfl := Option.some.inj hM'
          obtain ⟨dx, c1', c2, z1, z2, z3, z4, z5⟩ := hsale
          refine ⟨SaleN.off ⟨dx, c1', c2, z1, z2, z3, z4, bkq z5⟩ fp hw, ?_, noq⟩
          show upd H6 ps _ o' = _
          rw [upd_ne o'ps]
          exact hout
      · have old : ∀ (j : Nat) p, sl[j]? = some p → p.2 ≠ o' := fun j p hj => by
          have hj3 : j < 3 := by
            have := (List.getElem?_eq_some_iff.mp hj).1
            omega
          obtain ⟨M', hM'⟩ : ∃ M', [M0, M1, M2][j]? = some M' := ⟨_, List.getElem?_eq_getElem hj3⟩
          obtain ⟨_, g2, _⟩ := sl3 j p M' hj hM'
          exact ne_of_none (s5 _ _ g2) no
        by_cases c : j < sl.length
        · rw [List.getElem?_append_left c] at hj
          by_cases c' : k < sl.length
          · rw [List.getElem?_append_left c'] at hk
            exact sl4 j k p q hj hk hne
          · rw [List.getElem?_append_right (by omega)] at hk
            have e := List.mem_singleton.mp (List.mem_of_getElem? hk)
            rw [e]
            exact old j p hj
        · rw [List.getElem?_append_right (by omega)] at hj
          have e := List.mem_singleton.mp (List.mem_of_getElem? hj)
          by_cases c' : k < sl.length
          · rw [List.getElem?_append_left c'] at hk
            rw [e]
            exact (old k q hk).symm
          · have h1 := (List.getElem?_eq_some_iff.mp hj).1
            have h2 := (List.getElem?_eq_some_iff.mp hk).1
            rw [List.length_append, List.length_singleton] at h2
            rw [List.length_singleton] at h1
            omega
    · rintro σ Hr ⟨⟨v3, v6, v7, rfl⟩, fr, sl, sl1, sl2, sl3, sl4⟩
      obtain ⟨⟨s0, p0⟩, ⟨s1, p1⟩, ⟨s2, p2⟩, rfl⟩ : ∃ x y z, sl = [x, y, z] := by
        match sl, sl1 with
        | [x, y, z], _ => exact ⟨x, y, z, rfl⟩
      obtain ⟨sa0, oa0, na0'⟩ := sl3 0 _ M0 rfl rfl
      obtain ⟨sa1, oa1, na1'⟩ := sl3 1 _ M1 rfl rfl
      obtain ⟨sa2, oa2, na2'⟩ := sl3 2 _ M2 rfl rfl
      have p01 : p0 ≠ p1 := sl4 0 1 _ _ rfl rfl (by decide)
      have p02 : p0 ≠ p2 := sl4 0 2 _ _ rfl rfl (by decide)
      have p12 : p1 ≠ p2 := sl4 1 2 _ _ rfl rfl (by decide)
      have upr : ∀ {b o}, Ho b = some o → Hr b = some o := fun {b o} h => fr _ _ (psne h) (soq _ _ h)
      have nps0 : Hm ps = none := smo.free nps
      have smr : Same Hm Hr := same_of smq fr fun b e => by rw [show b = ps from e]; exact nps0
      -- D: what was handed in is emptied
      obtain ⟨xa0, y1, y1'⟩ := id ra0
      obtain ⟨xb0, y2, y2'⟩ := id rb0
      obtain ⟨xa2, y3, y3'⟩ := id ra2
      obtain ⟨xb2, y4, y4'⟩ := id rb2
      have n60 := okM.nets.le
      have n24 := okM.shares.le
      have n62 := okM2.nets.le
      have n26 := okM2.shares.le
      have w4l : ∀ b, (b = la0 ∨ b = lb0 ∨ b = la2 ∨ b = lb2) → (∃ xs, Ho b = some (.lst xs) ∧ xs.length ≤ 100) ∧ Hn b = none := fun b e => by
        rcases e with rfl | rfl | rfl | rfl
        · exact ⟨⟨_, y1, by rw [List.length_map, y1'.1]; omega⟩, na0⟩
        · exact ⟨⟨_, y2, by rw [List.length_map, y2'.1]; omega⟩, nb0⟩
        · exact ⟨⟨_, y3, by rw [List.length_map, y3'.1]; omega⟩, na2⟩
        · exact ⟨⟨_, y4, by rw [List.length_map, y4'.1]; omega⟩, nb2⟩
      have w4D : ¬ (D = la0 ∨ D = lb0 ∨ D = la2 ∨ D = lb2) := fun e => by
        rcases e with e | e | e | e
        · exact naD0 e.symm
        · exact nbD0 e.symm
        · exact naD2 e.symm
        · exact nbD2 e.symm
      have Dr := upr dO
      refine ⟨_, rfl, D, rfl, ⟨_, SqL.of Dr⟩, for_list (K := K) (a := D) (xs := [V.ref t0, V.ref t2]) (fun i σ H' => (∃ v3 v6 v7 v8 v9, σ = [some (.ref a), some (.ref pw), some (.ref pm), v3, some (.ref D), some (.ref ps), v6, v7, v8, v9, none, none, none, none, none, none]) ∧ FrS (fun b => b = la0 ∨ b = lb0 ∨ b = la2 ∨ b = lb2) Hr H' ∧ ∀ b, (b = la0 ∨ b = lb0 ∨ b = la2 ∨ b = lb2) → ∃ xs, H' b = some (.lst xs) ∧ xs.length ≤ 100 + i)
        ⟨⟨_, _, _, _, _, rfl⟩, .refl _, fun b e => by obtain ⟨⟨xs, e1, e2⟩, _⟩ := w4l b e; exact ⟨xs, upr e1, e2⟩⟩ (fun i σ H' _ ⟨_, f, _⟩ => SqL.of (f _ _ w4D Dr)) ?_ ?_⟩
      · rintro i x σ H' hx ⟨⟨v3, v6, v7, v8, v9, rfl⟩, f, hl⟩
        have hi : i < 2 := (List.getElem?_eq_some_iff.mp hx).1
        obtain ⟨t, la, lb, rfl, ht, wla, wlb⟩ : ∃ t la lb, x = .ref t ∧ Ho t = some (.tup [.ref la, .ref lb]) ∧ (la = la0 ∨ la = lb0 ∨ la = la2 ∨ la = lb2) ∧ (lb = la0 ∨ lb = lb0 ∨ lb = la2 ∨ lb = lb2) := by
          match i, hi with
          | 0, _ => exact ⟨t0, la0, lb0, (Option.some.inj hx).symm, q0, .inl rfl, .inr (.inl rfl)⟩
          | 1, _ => exact ⟨t2, la2, lb2, (Option.some.inj hx).symm, q2, .inr (.inr (.inl rfl)), .inr (.inr (.inr rfl))⟩
        have htx : H' t = some (.tup [.ref la, .ref lb]) := f _ _ (fun e => by
          obtain ⟨⟨xs, e1, _⟩, _⟩ := w4l t e
          rw [ht] at e1
          cases e1) (upr ht)
        obtain ⟨xs1, h1, l1⟩ := hl la wla
        refine ⟨t, _, rfl, SqT.of htx, rfl, _, _, rfl, _, _, rfl, rfl, ?_⟩
        refine ⟨_, rfl, .inl ⟨rfl, _, SqL.of h1⟩, la, _, rfl, rfl, h1, ?_⟩
        have hl2 : ∀ b, (b = la0 ∨ b = lb0 ∨ b = la2 ∨ b = lb2) → ∃ xs, upd H' la (.lst []) b = some (.lst xs) ∧ xs.length ≤ 100 + i := fun b e => by
          by_cases c : b = la
          · rw [c, upd_same]
            exact ⟨[], rfl, Nat.zero_le _⟩
          · rw [upd_ne c]
            exact hl b e
        have f2 : FrS (fun b => b = la0 ∨ b = lb0 ∨ b = la2 ∨ b = lb2) Hr (upd H' la (.lst [])) := f.upd (.inl wla)
        generalize upd H' la (.lst []) = H2 at hl2 f2 ⊢
        obtain ⟨xs2, h2, l2⟩ := hl2 lb wlb
        refine ⟨_, rfl, .inl ⟨rfl, _, SqL.of h2⟩, (by show 2 ≤ sizeLine; decide), fun q nq => ⟨lb, _, _, rfl, rfl, same_new nq _ _ h2, by rw [sizeLine_eq]; omega, ?_⟩⟩
        have f3 : FrS (fun b => b = la0 ∨ b = lb0 ∨ b = la2 ∨ b = lb2) Hr (upd H2 q (.tup [.str "more", .int 1])) := f2.trans (.of (same_new nq))
        refine ⟨⟨_, _, _, _, _, rfl⟩, f3.upd (.inl wlb), fun b e => ?_⟩
        by_cases c : b = lb
        · rw [c, upd_same]
          exact ⟨_, rfl, by rw [List.length_append, List.length_singleton]; omega⟩
        · rw [upd_ne c]
          obtain ⟨xs, e1, e2⟩ := hl2 b e
          exact ⟨xs, same_new nq _ _ e1, by omega⟩
      · rintro σ Hs ⟨⟨v3, v6, v7, v8, v9, rfl⟩, fs, _⟩
        have sms : Same Hm Hs := same_of smr fs fun b e => sn.free (w4l b e).2
        have sHs : Same H Hs := sHm.trans sms
        have w4q : ∀ b, (b = la0 ∨ b = lb0 ∨ b = la2 ∨ b = lb2) → (∃ xs, Hr b = some (.lst xs)) ∧ Hq b ≠ none := fun b e => by
          obtain ⟨⟨xs, e1, _⟩, _⟩ := w4l b e
          exact ⟨⟨_, upr e1⟩, by rw [soq _ _ e1]; simp⟩
        have nq4 : ∀ b, Hq b = none → ¬ (b = la0 ∨ b = lb0 ∨ b = la2 ∨ b = lb2) := fun b n e => (w4q b e).2 n
        have sb0 := (sa0.off fs w4q).at_
        have sb1 := (sa1.off fs w4q).at_
        have sb2 := (sa2.off fs w4q).at_
        have ob0 : OutAt Hs p0 [] := fs _ _ (nq4 _ na0') oa0
        have ob1 : OutAt Hs p1 [] := fs _ _ (nq4 _ na1') oa1
        have ob2 : OutAt Hs p2 [] := fs _ _ (nq4 _ na2') oa2
        have pss : Hs ps = some (.lst [V.ref s0, V.ref s1, V.ref s2]) := fs _ _ (fun e => by
          obtain ⟨⟨xs, e1, _⟩, _⟩ := w4l ps e
          rw [nps] at e1
          cases e1) sl2
        have pms := sms _ _ pmm
        -- E: the cells
        obtain ⟨cs, ecs, lcs⟩ := cut_ints ns (some 2) (some 18)
        refine ⟨(by show 3 ≤ sizeLine; decide), fun l1 nl1 => ⟨_, rfl, _, rfl, _, rfl, a, _, rfl, (FrS.of (W := NoW) (sHs.trans (same_new nl1))).seq (fun _ z => z) hsc, fun l2 nl2 => ?_⟩⟩
        rw [ecs]
        refine ⟨l1, l2, _, _, rfl, rfl, same_new nl2 _ _ upd_same, upd_same, by rw [List.length_map, sizeLine_eq]; show 3 + _ ≤ _; omega, fun pc npc => ?_⟩
        have sst : Same Hs (upd (upd (upd Hs l1 (.lst [V.int 4, V.int 9, V.int 14])) l2 (.lst (cs.map V.int))) pc (.lst ([V.int 4, V.int 9, V.int 14] ++ cs.map V.int))) := ((same_new nl1).trans (same_new nl2)).trans (same_new npc)
        have ept : upd (upd (upd Hs l1 (.lst [V.int 4, V.int 9, V.int 14])) l2 (.lst (cs.map V.int))) pc (.lst ([V.int 4, V.int 9, V.int 14] ++ cs.map V.int)) pc = some (.lst (((4 : Int) :: (9 :: 14 :: cs)).map V.int)) := upd_same
        generalize upd (upd (upd Hs l1 (.lst [V.int 4, V.int 9, V.int 14])) l2 (.lst (cs.map V.int))) pc (.lst ([V.int 4, V.int 9, V.int 14] ++ cs.map V.int)) = Ht at sst ept ⊢
        have smt : Same Hm Ht := sms.trans sst
        have psm : ps ≠ pm := (ne_of_none pmm nps0).symm
        have pmo : ∀ {b zs}, OutAt Hm b zs → ∀ {p}, Hq p = none → p ≠ b := fun {b zs} hb {p} n e => by
          have := smq _ _ hb
          rw [← e, n] at this
          cases this
        have hok : ∀ (k : Nat) (d : Rec), ([⟨s0, m0, p0, o0, M0, []⟩, ⟨s1, m1, p1, o1, M1, []⟩, ⟨s2, m2, p2, o2, M2, []⟩] : List Rec)[k]? = some d → RecOk T Ht Ht d := fun k d hk => by
          have z : OutOk d.M d.outs := by
            have hk3 := (List.getElem?_eq_some_iff.mp hk).1
            match k, hk3 with
            | 0, _ => obtain rfl := Option.some.inj hk; exact ⟨List.nodup_nil, fun z hz => nomatch hz⟩
            | 1, _ => obtain rfl := Option.some.inj hk; exact ⟨List.nodup_nil, fun z hz => nomatch hz⟩
            | 2, _ => obtain rfl := Option.some.inj hk; exact ⟨List.nodup_nil, fun z hz => nomatch hz⟩
          have hk3 := (List.getElem?_eq_some_iff.mp hk).1
          match k, hk3 with
          | 0, _ => obtain rfl := Option.some.inj hk; exact ⟨sb0.same sst, m0m.same smt, okM, z, sst _ _ ob0, smt _ _ o0m⟩
          | 1, _ => obtain rfl := Option.some.inj hk; exact ⟨sb1.same sst, m1m.same smt, okM1, z, sst _ _ ob1, smt _ _ o1m⟩
          | 2, _ => obtain rfl := Option.some.inj hk; exact ⟨sb2.same sst, m2m.same smt, okM2, z, sst _ _ ob2, smt _ _ o2m⟩
        have hnd : ∀ (j k : Nat) (d e : Rec), ([⟨s0, m0, p0, o0, M0, []⟩, ⟨s1, m1, p1, o1, M1, []⟩, ⟨s2, m2, p2, o2, M2, []⟩] : List Rec)[j]? = some d → ([⟨s0, m0, p0, o0, M0, []⟩, ⟨s1, m1, p1, o1, M1, []⟩, ⟨s2, m2, p2, o2, M2, []⟩] : List Rec)[k]? = some e → d.o1 ≠ e.o2 ∧ (j ≠ k → d.o1 ≠ e.o1 ∧ d.o2 ≠ e.o2) := fun j k d e hd he => by
          have hj3 := (List.getElem?_eq_some_iff.mp hd).1
          have hk3 := (List.getElem?_eq_some_iff.mp he).1
          have hp : d.o1 = p0 ∨ d.o1 = p1 ∨ d.o1 = p2 := by
            match j, hj3 with
            | 0, _ => obtain rfl := Option.some.inj hd; exact .inl rfl
            | 1, _ => obtain rfl := Option.some.inj hd; exact .inr (.inl rfl)
            | 2, _ => obtain rfl := Option.some.inj hd; exact .inr (.inr rfl)
          have hq : OutAt Hm e.o2 [] := by
            match k, hk3 with
            | 0, _ => obtain rfl := Option.some.inj he; exact o0m
            | 1, _ => obtain rfl := Option.some.inj he; exact o1m
            | 2, _ => obtain rfl := Option.some.inj he; exact o2m
          refine ⟨?_, fun hne => ?_⟩
          · rcases hp with hp | hp | hp
            · rw [hp]; exact pmo hq na0'
            · rw [hp]; exact pmo hq na1'
            · rw [hp]; exact pmo hq na2'
          · match j, hj3, k, hk3 with
            | 0, _, 0, _ => exact absurd rfl hne
            | 1, _, 1, _ => exact absurd rfl hne
            | 2, _, 2, _ => exact absurd rfl hne
            | 0, _, 1, _ => obtain rfl := Option.some.inj hd; obtain rfl := Option.some.inj he; exact ⟨p01, o01⟩
            | 0, _, 2, _ => obtain rfl := Option.some.inj hd; obtain rfl := Option.some.inj he; exact ⟨p02, o02⟩
            | 1, _, 0, _ => obtain rfl := Option.some.inj hd; obtain rfl := Option.some.inj he; exact ⟨p01.symm, o01.symm⟩
            | 1, _, 2, _ => obtain rfl := Option.some.inj hd; obtain rfl := Option.some.inj he; exact ⟨p12, o12⟩
            | 2, _, 0, _ => obtain rfl := Option.some.inj hd; obtain rfl := Option.some.inj he; exact ⟨p02.symm, o02.symm⟩
            | 2, _, 1, _ => obtain rfl := Option.some.inj hd; obtain rfl := Option.some.inj he; exact ⟨p12.symm, o12.symm⟩
        obtain ⟨H0, S0, hc0⟩ := sta_mk (T := T) (H := Ht) (ps := ps) (pm := pm) (pc := pc) (ds := ([⟨s0, m0, p0, o0, M0, []⟩, ⟨s1, m1, p1, o1, M1, []⟩, ⟨s2, m2, p2, o2, M2, []⟩] : List Rec)) (c0 := 4) (cs := 9 :: 14 :: cs) rfl hok hnd (sst _ _ pss) (smt _ _ pmm) psm (tabs_same htb (sHs.trans sst)) ept
        -- F: the deeds
        refine ⟨pc, rfl, ⟨_, SqL.of ept⟩, for_list (K := K) (a := pc) (xs := ((4 : Int) :: (9 :: 14 :: cs)).map V.int) (fun i σ H' => (∃ v1 v3 v6 v7 v8 v9 v10 v11 v12 v13 v14 v15, σ = [some (.ref a), v1, some (.ref pm), v3, some (.ref D), some (.ref ps), v6, v7, v8, v9, v10, v11, v12, v13, v14, v15]) ∧ ∃ H0 ds, Sta T H0 H' ps pm ds ∧ H0 pc = some (.lst (((4 : Int) :: (9 :: 14 :: cs)).map V.int)))
          ⟨⟨_, _, _, _, _, _, _, _, _, _, _, _, rfl⟩, H0, _, S0, hc0⟩ (fun i σ H' _ ⟨_, H0, ds, S, hc⟩ => SqL.of (S.sub _ _ hc)) ?_ ?_⟩
        rotate_left
        · rintro σ H' _
          exact k H'
        rintro i x σ H' hx ⟨⟨v1, v3, v6, v7, v8, v9, v10, v11, v12, v13, v14, v15, rfl⟩, H0, ds, S, hc⟩
        obtain ⟨c, rfl, _⟩ := ints_at hx
        refine ⟨_, rfl, c, rfl, fun Ha p sa na wa => ?_⟩
        have Sa := S.same sa
        have np0 : H0 p = none := S.sub.free na
        refine ⟨(by show 1 ≤ sizeLine; decide), fun a1 n1 => ⟨(by show 1 ≤ sizeLine; decide), fun a2 n2 => ⟨(by show 1 ≤ sizeLine; decide), fun a3 n3 => ⟨(by show 3 ≤ sizeLine; decide), fun a4 n4 => ?_⟩⟩⟩⟩
        have g1 : Same Ha (upd Ha a1 (.lst [.int 0])) := same_new n1
        have g2 : Same (upd Ha a1 (.lst [.int 0])) (upd (upd Ha a1 (.lst [.int 0])) a2 (.lst [.int 1])) := same_new n2
        have g3 : Same (upd (upd Ha a1 (.lst [.int 0])) a2 (.lst [.int 1])) (upd (upd (upd Ha a1 (.lst [.int 0])) a2 (.lst [.int 1])) a3 (.lst [.int 2])) := same_new n3
        have g4 : Same (upd (upd (upd Ha a1 (.lst [.int 0])) a2 (.lst [.int 1])) a3 (.lst [.int 2])) (upd (upd (upd (upd Ha a1 (.lst [.int 0])) a2 (.lst [.int 1])) a3 (.lst [.int 2])) a4 (.lst [.int 0, .int 1, .int 2])) := same_new n4
        have l1 := g4 _ _ (g3 _ _ (g2 _ _ (upd_same (H := Ha) (a := a1) (o := .lst [.int 0]))))
        have l2 := g4 _ _ (g3 _ _ (upd_same (H := upd Ha a1 (.lst [.int 0])) (a := a2) (o := .lst [.int 1])))
        have l3 := g4 _ _ (upd_same (H := upd (upd Ha a1 (.lst [.int 0])) a2 (.lst [.int 1])) (a := a3) (o := .lst [.int 2]))
        have l4 := upd_same (H := upd (upd (upd Ha a1 (.lst [.int 0])) a2 (.lst [.int 1])) a3 (.lst [.int 2])) (a := a4) (o := .lst [.int 0, .int 1, .int 2])
        have ga := ((g1.trans g2).trans g3).trans g4
        have pn1 : ¬ Wl p a1 := wl_ne wa n1
        have pn2 : ¬ Wl p a2 := wl_ne wa (g1.free n2)
        have pn3 : ¬ Wl p a3 := wl_ne wa ((g1.trans g2).free n3)
        have pn4 : ¬ Wl p a4 := wl_ne wa (((g1.trans g2).trans g3).free n4)
        generalize upd (upd (upd (upd Ha a1 (.lst [.int 0])) a2 (.lst [.int 1])) a3 (.lst [.int 2])) a4 (.lst [.int 0, .int 1, .int 2]) = Hx at l1 l2 l3 l4 ga ⊢
        clear g1 g2 g3 g4
        have wx : WellAt Hx p := wa.fr ga
        have Sx := Sa.same ga
        refine pick_at (xs := [V.ref a1, V.ref a2, V.ref a3, V.ref a4]) (n := 4) (p := p) (j := 1) rfl wx rfl (by decide) (by decide) fun Hb v fb wb hv => ?_
        have Sb := Sx.well wx np0 fb
        obtain ⟨sp, k0, ks, rfl, hsp, hks⟩ : ∃ (sp : Addr) (k0 : Int) (ks : List Int), v = .ref sp ∧ Hb sp = some (.lst ((k0 :: ks).map V.int)) ∧ ∀ q ∈ k0 :: ks, 0 ≤ q ∧ q < 3 := by
          simp only [List.mem_cons, List.not_mem_nil, or_false] at hv
          rcases hv with rfl | rfl | rfl | rfl
          · exact ⟨a1, 0, [], rfl, fb _ _ pn1 l1, by decide⟩
          · exact ⟨a2, 1, [], rfl, fb _ _ pn2 l2, by decide⟩
          · exact ⟨a3, 2, [], rfl, fb _ _ pn3 l3, by decide⟩
          · exact ⟨a4, 0, [1, 2], rfl, fb _ _ pn4 l4, by decide⟩
        have spp : sp ≠ p := fun e => by
          have : ∀ b, ¬ Wl p b → (∃ xs, Hx b = some (.lst xs)) → b ≠ p := fun b n _ e => n e
          simp only [List.mem_cons, List.not_mem_nil, or_false] at hv
          rcases hv with e' | e' | e' | e'
          · exact pn1 (by rw [← V.ref.inj e']; exact e)
          · exact pn2 (by rw [← V.ref.inj e']; exact e)
          · exact pn3 (by rw [← V.ref.inj e']; exact e)
          · exact pn4 (by rw [← V.ref.inj e']; exact e)
        refine ⟨_, rfl, p, 9, rfl, wb, by decide, by decide, fun Hc r fc wc r0 r1 => ⟨rfl, _, rfl, ?_⟩⟩
        have Sc := Sb.well wb np0 fc
        have hspc := fc _ _ (fun e => spp e) hsp
        refine ite2 (fun c => ?_) (fun c => ?_)
        · -- undone
          refine ⟨_, rfl, p, 3, rfl, wc, by decide, by decide, fun Hd q fd wd q0 q1 => ?_⟩
          have Sd := Sc.well wc np0 fd
          obtain ⟨kk, dd, rfl, hkk, at1, at2⟩ := Sd.get q0 q1
          have rd := Sd.rd hkk
          have md := Sd.md hkk
          obtain ⟨dx, da, db, z1, z2, z3, z4⟩ := id rd.1
          obtain ⟨xa, xb, x1, x2, x3⟩ := id md.at_
          have kl : kk < ds.length := (List.getElem?_eq_some_iff.mp hkk).1
          refine ⟨_, rfl, _, rfl, ps, _, _, _, rfl, rfl, SqL.of Sd.hs, at1, dd.s, dx, _, rfl, z1, sf_no _ _ _ _ (by decide +kernel), dd.s, dd.o1, dd.M, dd.outs, rfl, rd, fun He x' o1' se nx no hx1 ho1 => ?_⟩
          have pse := se _ _ Sd.hs
          refine ⟨_, rfl, _, rfl, ps, _, _, kk, rfl, rfl, pse, ixN_nat q0 (by rw [List.length_map]; omega), ?_⟩
          have px : ∀ {b zs}, OutAt He b zs → ps ≠ b := fun hb => ne_of pse hb (fun e => by
            obtain ⟨d0, d1, d2, e3⟩ := Sd.three
            rw [e3] at e
            exact strs_ne_refs e)
          generalize eHf : upd He ps (.lst ((ds.map fun d => V.ref d.s).set kk (.ref x'))) = Hf
          have psf : Hf ps = some (.lst ((ds.map fun d => V.ref d.s).set kk (.ref x'))) := by rw [← eHf]; exact upd_same
          have psm' := Sd.pn
          have pmf : Hf pm = some (.lst (ds.map fun d => V.ref d.m)) := by rw [← eHf, upd_ne psm'.symm]; exact se _ _ Sd.hm
          have fHf : FrS (fun b => b = ps ∨ b = pm) Hd Hf := by rw [← eHf]; exact (FrS.of se).upd (.inl (.inl rfl))
          have fef : FrS (fun b => b = ps) He Hf := by rw [← eHf]; exact frs_upd
          have dmf : Hf dd.m = some (.dK (mdK dd.M xa xb dd.o2)) := fef _ _ (fun e => ne_of (se _ _ x1) pse (by intro z; cases z) e) (se _ _ x1)
          have hx2 : SaleAt T Hf x' dd.M o1' := by
            obtain ⟨ex, ea, eb, y1, y2, y3, y4⟩ := hx1
            refine ⟨ex, ea, eb, fef _ _ (fun e => ne_of y1 pse (by intro z; cases z) e) y1, fef _ _ (fun e => ne_of y2 pse (by intro z; cases z) e) y2, y3.off fef (fun e => ?_) (fun b xs e z => by rw [show b = ps from e, pse] at z; cases z), y4⟩
            obtain ⟨us, u1, u2⟩ := y3
            rw [show eb = ps from e, pse] at u1
            have e1 := HO.lst.inj (Option.some.inj u1)
            have nsh := (Sd.ok kk dd hkk).ok.shares.ne
            obtain ⟨d0, d1, d2, e3⟩ := Sd.three
            obtain ⟨pr, hpr⟩ : ∃ pr, dd.M.shares[0]? = some pr := ⟨_, List.getElem?_eq_getElem nsh⟩
            rw [e3] at e1
            cases us with
            | nil => cases e1
            | cons u us =>
              have e5 := V.ref.inj (List.cons.inj e1).1
              have t5 := u2.2 0 u pr rfl hpr
              have k0 : ds[0]? = some d0 := by rw [e3]; rfl
              obtain ⟨_, _, _, g5, _⟩ := (Sd.rd k0).1
              rw [← e5, se _ _ g5] at t5
              cases t5
          have ho2 : OutAt Hf o1' [] := fef _ _ (fun e => px ho1 e.symm) ho1
          clear eHf
          refine ⟨_, rfl, _, rfl, pm, _, _, _, rfl, rfl, SqL.of pmf, at2, dd.m, _, rfl, .inl dmf, fun m' nm' => ?_⟩
          have n1' : ps ≠ m' := ne_of_none psf nm'
          have n2' : pm ≠ m' := ne_of_none pmf nm'
          have sg : Same Hf (upd Hf m' (.dK (mdK dd.M xa xb dd.o2))) := same_new nm'
          refine ⟨_, rfl, _, rfl, pm, _, _, kk, rfl, rfl, sg _ _ pmf, ixN_nat q0 (by rw [List.length_map]; omega), ?_⟩
          generalize eHh : upd (upd Hf m' (.dK (mdK dd.M xa xb dd.o2))) pm (.lst ((ds.map fun d => V.ref d.m).set kk (.ref m'))) = Hh
          have pmh : Hh pm = some (.lst ((ds.map fun d => V.ref d.m).set kk (.ref m'))) := by rw [← eHh]; exact upd_same
          have m'h : Hh m' = some (.dK (mdK dd.M xa xb dd.o2)) := by rw [← eHh, upd_ne n2'.symm]; exact upd_same
          have fgh : FrS (fun b => b = pm) Hf Hh := by rw [← eHh]; exact (FrS.of sg).upd (.inl rfl)
          have nm'd : Hd m' = none := FrS.back (fun e => by rcases e with e | e; exact n1' e.symm; exact n2' e.symm) fHf nm'
          have fdh : FrS (fun b => b = ps ∨ b = pm) Hd Hh := fHf.trans (fun b o n e => fgh b o (fun z => n (.inr z)) e)
          clear eHh
          have at3 : atI ((ds.map fun d => V.ref d.m).set kk (.ref m')) kk = some (.ref m') := atI_nat (by rw [List.getElem?_set_self (by rw [List.length_map]; exact kl)])
          refine ⟨Nat.zero_le _, fun o2' no2 => ?_⟩
          have so : Same Hh (upd Hh o2' (.lst [])) := same_new no2
          refine ⟨_, rfl, _, rfl, pm, _, _, _, rfl, rfl, SqL.of (so _ _ pmh), at3, m', _, rfl, DPut.k (k := Sum.inr "out") (so _ _ m'h) (by show 8 < sizeLine; decide), ?_⟩
          generalize eHi : upd (upd Hh o2' (.lst [])) m' (.dK (putK (mdK dd.M xa xb dd.o2) (Sum.inr "out") (.ref o2'))) = Hi
          have mo2 : m' ≠ o2' := ne_of_none m'h no2
          have m'i : Hi m' = some (.dK (mdK dd.M xa xb o2')) := by rw [← eHi]; exact upd_same
          have o2i : OutAt Hi o2' [] := by
            show Hi o2' = _
            rw [← eHi, upd_ne mo2.symm]
            exact upd_same
          have fhi : FrS (fun b => b = m') Hh Hi := by rw [← eHi]; exact (FrS.of so).upd (.inl rfl)
          clear eHi
          have psh : Hh ps = some (.lst ((ds.map fun d => V.ref d.s).set kk (.ref x'))) := fgh _ _ psm' psf
          have psi := fhi _ _ n1' psh
          have pmi := fhi _ _ n2' pmh
          have fdi : FrS (fun b => b = ps ∨ b = pm) Hd Hi := fun b o n e => fhi _ _ (ne_of_none e nm'd) (fdh _ _ n e)
          have no2d : Hd o2' = none := FrS.back (fun e => by
            rcases e with e | e
            · rw [e, psh] at no2; cases no2
            · rw [e, pmh] at no2; cases no2) fdh no2
          have ffi : FrS (fun b => b = pm) Hf Hi := fun b o n e => fhi _ _ (ne_of_none e nm') (fgh _ _ n e)
          have pmx : ∀ {b xs}, b = pm → Hf b ≠ some (.tup xs) := fun {b xs} e z => by rw [e, pmf] at z; cases z
          obtain ⟨d0, d1, d2, e3⟩ := Sd.three
          have k0 : ds[0]? = some d0 := by rw [e3]; rfl
          obtain ⟨xa0, xb0, w1, _, _⟩ := (Sd.md k0).at_
          have w1f : Hf d0.m = some (.dK (mdK d0.M xa0 xb0 d0.o2)) := fHf _ _ (fun e => by
            rcases e with e | e
            · exact ne_of w1 Sd.hs (by intro z; cases z) e
            · exact ne_of w1 Sd.hm (by intro z; cases z) e) w1
          have pmf' : Hf pm = some (.lst (.ref d0.m :: [V.ref d1.m, V.ref d2.m])) := by rw [pmf, e3]; rfl
          have okd := (Sd.ok kk dd hkk).ok
          have hx3 : SaleAt T Hi x' dd.M o1' := by
            obtain ⟨ex, ea, eb, y1, y2, y3, y4⟩ := hx2
            exact ⟨ex, ea, eb, ffi _ _ (fun e => ne_of y1 pmf (by intro z; cases z) e) y1, ffi _ _ (fun e => ne_of y2 pmf (by intro z; cases z) e) y2, y3.off ffi (rows_ne y3 okd.shares.ne pmf' w1f) (fun b xs e => pmx e), y4⟩
          have fdf : ∀ {b rows}, RowsAt Hd b rows → 1 ≤ rows.length → RowsAt Hi b rows := fun {b rows} hb n1 => by
            refine hb.off fdi (fun e => ?_) (fun c xs e z => ?_)
            · rcases e with e | e
              · obtain ⟨us, u1, u2⟩ := hb
                rw [e, Sd.hs, e3] at u1
                have e1 := HO.lst.inj (Option.some.inj u1)
                obtain ⟨pr, hpr⟩ : ∃ pr, rows[0]? = some pr := ⟨_, List.getElem?_eq_getElem n1⟩
                cases us with
                | nil => cases e1
                | cons u us =>
                  have e5 := V.ref.inj (List.cons.inj e1).1
                  have t5 := u2.2 0 u pr rfl hpr
                  obtain ⟨_, _, _, g5, _⟩ := (Sd.rd k0).1
                  rw [← e5, g5] at t5
                  cases t5
              · exact rows_ne hb n1 (by rw [Sd.hm, e3]; rfl) w1 e
            · rcases e with e | e
              · rw [e, Sd.hs] at z; cases z
              · rw [e, Sd.hm] at z; cases z
          have hm3 : ModelAt Hi m' dd.M o2' := ⟨xa, xb, m'i, fdf x2 okd.nets.ne, fdf x3 okd.shares.ne⟩
          have hc' := hc
          have no1d : Hd o1' = none := no
          have no12 : o1' ≠ o2' := fun e => by
            have q1' := fgh _ _ (fun z => ne_of pmf ho2 (fun y => by rw [e3] at y; exact strs_ne_refs y) (Eq.symm z)) ho2
            rw [e, no2] at q1'
            cases q1'
          have ho3 : OutAt Hi o1' [] := ffi _ _ (fun z => ne_of pmf ho2 (fun y => by rw [e3] at y; exact strs_ne_refs y) (Eq.symm z)) ho2
          obtain ⟨H0', S', hcn⟩ := Sd.undone hkk fdi hx3 hm3 ho3 o2i no1d no2d no12 psi pmi hc
          refine ⟨(by show 5 ≤ sizeLine; decide), fun lr nlr => ⟨lr, rfl, ⟨_, SqL.of upd_same⟩, for_list (K := K) (a := lr) (xs := [V.int 0, V.int 1, V.int 2, V.int 1, V.int 0]) (fun i σ H' => (∃ v1 v3 v6 v7 v8 v9 v10 v11 v12 v13 v14 v15, σ = [some (.ref a), v1, some (.ref pm), v3, some (.ref D), some (.ref ps), v6, v7, v8, v9, v10, v11, v12, v13, v14, v15]) ∧ Sta T H0' H' ps pm (ds.set kk ⟨x', m', o1', o2', dd.M, []⟩) ∧ H' lr = some (.lst [V.int 0, V.int 1, V.int 2, V.int 1, V.int 0]))
            ⟨⟨_, _, _, _, _, _, _, _, _, _, _, _, rfl⟩, S'.same (same_new nlr), upd_same⟩ (fun i σ H' _ ⟨_, _, h⟩ => SqL.of h) ?_ ?_⟩⟩
          · rintro i x σ Hx hx ⟨⟨v1, v3, v6, v7, v8, v9, v10, v11, v12, v13, v14, v15, rfl⟩, Sx, hlr⟩
            obtain ⟨q, rfl, q0, q1⟩ : ∃ q : Int, x = .int q ∧ 0 ≤ q ∧ q < 3 := by
              have hm := List.mem_of_getElem? hx
              simp only [List.mem_cons, List.not_mem_nil, or_false] at hm
              rcases hm with rfl | rfl | rfl | rfl | rfl
              · exact ⟨0, rfl, by decide, by decide⟩
              · exact ⟨1, rfl, by decide, by decide⟩
              · exact ⟨2, rfl, by decide, by decide⟩
              · exact ⟨1, rfl, by decide, by decide⟩
              · exact ⟨0, rfl, by decide, by decide⟩
            obtain ⟨kk, dd, rfl, hkk, at1, at2⟩ := Sx.get q0 q1
            refine ⟨_, rfl, _, rfl, ps, _, _, _, rfl, rfl, SqL.of Sx.hs, at1, _, rfl, _, rfl, pm, _, _, _, rfl, rfl, SqL.of Sx.hm, at2, ?_⟩
            refine ⟨dd.s, dd.m, dd.o1, dd.o2, dd.M, dd.outs, rfl, Sx.rd hkk, Sx.md hkk, (Sx.ok kk dd hkk).oo, Sx.tb, fun H9 f9 t9 => ⟨_, rfl, iteF ?_⟩⟩
            exact ⟨⟨_, _, _, _, _, _, _, _, _, _, _, _, rfl⟩, Sx.ext f9 t9, f9 _ _ (fun z => z) hlr (fun ps z => by cases z)⟩
          · rintro σ Hx ⟨⟨v1, v3, v6, v7, v8, v9, v10, v11, v12, v13, v14, v15, rfl⟩, Sx, _⟩
            exact ⟨⟨_, _, _, _, _, _, _, _, _, _, _, _, rfl⟩, H0', _, Sx, hcn⟩
        · -- a deed
          refine ⟨_, rfl, p, rfl, wc, fun Hd wd fd wdl hw3 => ?_⟩
          have Sd := Sc.well wc np0 fd
          have hspd := fd _ _ (fun e => spp e) hspc
          obtain ⟨q0, q1⟩ := hks k0 (List.mem_cons_self ..)
          obtain ⟨kk, dd, rfl, hkk, at1, at2⟩ := Sd.get q0 q1
          have at0 : atI (((kk : Int) :: ks).map V.int) 0 = some (V.int kk) := atI_nat (j := 0) rfl
          refine ⟨_, rfl, _, rfl, _, rfl, sp, _, 0, _, rfl, rfl, SqL.of hspd, at0, pm, _, _, _, rfl, rfl, SqL.of Sd.hm, at2, ?_⟩
          refine ⟨p, dd.m, dd.o2, dd.M, rfl, wdl, (Sd.md hkk).at_, (Sd.md hkk).ok, fun He mk dt fe we hmk hnew => ?_⟩
          have Se := Sd.well wdl np0 fe
          have hspe := fe _ _ (fun e => spp e) hspd
          have mko : ∀ (j : Nat) d, ds[j]? = some d → mk ≠ .ref d.o1 ∧ mk ≠ .ref d.o2 := fun j d hj => by
            have h1 : Hd d.o1 = _ := (Sd.ok j d hj).h1
            have h2 : Hd d.o2 = _ := (Sd.ok j d hj).h2
            exact ⟨fun e => (by rw [hnew _ e] at h1; cases h1), fun e => (by rw [hnew _ e] at h2; cases h2)⟩
          refine ⟨_, rfl, sp, rfl, ⟨_, SqL.of hspe⟩, for_list (K := K) (a := sp) (xs := ((kk : Int) :: ks).map V.int) (fun i σ H' => (∃ v1 v3 v6 v7 v8 v9 v10 v11 v12 v15, σ = [some (.ref a), v1, some (.ref pm), v3, some (.ref D), some (.ref ps), v6, v7, v8, v9, v10, v11, v12, some (.str wd), some mk, v15]) ∧ (∃ ds', Sta T H0 H' ps pm ds' ∧ ∀ (j : Nat) d, ds'[j]? = some d → mk ≠ .ref d.o1 ∧ mk ≠ .ref d.o2) ∧ MarkD K H' mk dt ∧ H' sp = some (.lst (((kk : Int) :: ks).map V.int)))
            ⟨⟨_, _, _, _, _, _, _, _, _, _, rfl⟩, ⟨ds, Se, mko⟩, hmk, hspe⟩ (fun i σ H' _ ⟨_, _, _, h⟩ => SqL.of h) ?_ ?_⟩
          · clear at1 at2 at0
            rintro i x σ Hx' hxx ⟨⟨v1, v3, v6, v7, v8, v9, v10, v11, v12, v15, rfl⟩, ⟨ds', S', mk'⟩, hm', hs'⟩
            obtain ⟨q, rfl, hq⟩ := ints_at hxx
            obtain ⟨q0, q1⟩ := hks q (List.mem_of_getElem? hq)
            obtain ⟨kj, dj, rfl, hkj, at1, at2⟩ := S'.get q0 q1
            have E := S'.ok kj dj hkj
            refine ⟨_, rfl, _, rfl, pm, _, _, _, rfl, rfl, SqL.of S'.hm, at2, _, rfl, _, rfl, ?_⟩
            refine ⟨dj.m, dj.o2, dj.M, dj.outs, wd, mk, dt, rfl, S'.md hkj, hw3, hm', (mk' kj dj hkj).2, fun H1 t1 f1 n1 t1o e1 ht1 => ?_⟩
            have o12 := (S'.nd kj kj dj dj hkj hkj).1
            have s01 : Same H0 H1 := same_of S'.sub f1 fun b e => by rw [show b = dj.o2 from e]; exact (S'.n0 kj dj hkj).2
            have h11 : OutAt H1 dj.o1 dj.outs := f1 _ _ o12 E.h1
            have psn := S'.ps_ne E.h2
            have ps1 := f1 _ _ psn.1 S'.hs
            have hm1 : MarkD K H1 mk dt := hm'.fr (W := fun b => b = dj.o2) (fun b e => by rw [show b = dj.o2 from e]; exact (mk' kj dj hkj).2) f1
            refine ⟨_, rfl, _, rfl, ps, _, _, _, rfl, rfl, SqL.of ps1, at1, _, rfl, _, rfl, ?_⟩
            refine ⟨dj.s, dj.o1, dj.M, dj.outs, wd, mk, dt, rfl, ⟨E.sale.same s01, h11, E.ok, out_len E.ok E.oo⟩, hw3, hm1, fun H2 t2 f2 n2 t2o e2 ht2 => ?_⟩
            have hm2 : MarkD K H2 mk dt := hm1.fr (W := fun b => b = dj.o1) (fun b e => by rw [show b = dj.o1 from e]; exact (mk' kj dj hkj).1) f2
            obtain ⟨DD, dpa, sh⟩ := told_dp (M := dj.M) (outs := dj.outs) (wd := wd) hm2
            have t1o1 : t1 ≠ dj.o1 := fun e => by
              have z : Hx' dj.o1 = _ := E.h1
              rw [e, z] at n1
              cases n1
            have ht12 := f2 _ _ t1o1 ht1
            refine ⟨_, rfl, ne_read (.tuple DD) (.tup (SqT.of ht2) dpa) (.tup (SqT.of ht12) dpa) sh ⟨_, rfl, iteF ?_⟩⟩
            have f12 : FrS (fun b => b = dj.o1 ∨ b = dj.o2) Hx' H2 := fun b o n e => f2 _ _ (fun z => n (.inl z)) (f1 _ _ (fun z => n (.inr z)) e)
            have e12 : OutAt H2 dj.o2 (deedF dj.M dj.outs wd mk).2 := f2 _ _ o12.symm e1
            have S2 := S'.deed hkj f12 e2 e12 (deed_ok E.oo)
            have spn := (S'.ne_int (xs := ks.map V.int) hs').2.2 kj dj hkj
            have hno : ¬ (sp = dj.o1 ∨ sp = dj.o2) := fun e => e.elim spn.1 spn.2
            refine ⟨⟨_, _, _, _, _, _, _, _, _, _, rfl⟩, ⟨_, S2, fun j d hj => ?_⟩, hm2, f12 _ _ hno hs'⟩
            rcases set_at hj with ⟨_, rfl⟩ | ⟨_, q⟩
            · exact mk' kj dj hkj
            · exact mk' j d q
          · rintro σ Hy ⟨⟨v1, v3, v6, v7, v8, v9, v10, v11, v12, v15, rfl⟩, ⟨ds', S', _⟩, _, _⟩
            refine ⟨(by show 5 ≤ sizeLine; decide), fun lr nlr => ⟨lr, rfl, ⟨_, SqL.of upd_same⟩, for_list (K := K) (a := lr) (xs := [V.int 0, V.int 1, V.int 2, V.int 1, V.int 0]) (fun i σ H' => (∃ v1 v3 v6 v7 v8 v9 v10 v11 v12 v13 v14 v15, σ = [some (.ref a), v1, some (.ref pm), v3, some (.ref D), some (.ref ps), v6, v7, v8, v9, v10, v11, v12, v13, v14, v15]) ∧ Sta T H0 H' ps pm ds' ∧ H' lr = some (.lst [V.int 0, V.int 1, V.int 2, V.int 1, V.int 0]))
              ⟨⟨_, _, _, _, _, _, _, _, _, _, _, _, rfl⟩, S'.same (same_new nlr), upd_same⟩ (fun i σ H' _ ⟨_, _, h⟩ => SqL.of h) ?_ ?_⟩⟩
            · rintro i x σ Hx hx ⟨⟨v1, v3, v6, v7, v8, v9, v10, v11, v12, v13, v14, v15, rfl⟩, Sx, hlr⟩
              obtain ⟨q, rfl, q0, q1⟩ : ∃ q : Int, x = .int q ∧ 0 ≤ q ∧ q < 3 := by
                have hm := List.mem_of_getElem? hx
                simp only [List.mem_cons, List.not_mem_nil, or_false] at hm
                rcases hm with rfl | rfl | rfl | rfl | rfl
                · exact ⟨0, rfl, by decide, by decide⟩
                · exact ⟨1, rfl, by decide, by decide⟩
                · exact ⟨2, rfl, by decide, by decide⟩
                · exact ⟨1, rfl, by decide, by decide⟩
                · exact ⟨0, rfl, by decide, by decide⟩
              obtain ⟨kk, dd, rfl, hkk, at1, at2⟩ := Sx.get q0 q1
              refine ⟨_, rfl, _, rfl, ps, _, _, _, rfl, rfl, SqL.of Sx.hs, at1, _, rfl, _, rfl, pm, _, _, _, rfl, rfl, SqL.of Sx.hm, at2, ?_⟩
              refine ⟨dd.s, dd.m, dd.o1, dd.o2, dd.M, dd.outs, rfl, Sx.rd hkk, Sx.md hkk, (Sx.ok kk dd hkk).oo, Sx.tb, fun H9 f9 t9 => ⟨_, rfl, iteF ?_⟩⟩
              exact ⟨⟨_, _, _, _, _, _, _, _, _, _, _, _, rfl⟩, Sx.ext f9 t9, f9 _ _ (fun z => z) hlr (fun ps z => by cases z)⟩
            · rintro σ Hx ⟨⟨v1, v3, v6, v7, v8, v9, v10, v11, v12, v13, v14, v15, rfl⟩, Sx, _⟩
              exact ⟨⟨_, _, _, _, _, _, _, _, _, _, _, _, rfl⟩, H0, _, Sx, hc⟩
end
end Kx
set_option maxHeartbeats 4000000
namespace Kx
open PySem PySem.Spec PyProof.Rows L2
theorem exm_self {K : PySem.W.Frag} {S : Addr} (h1 : PySem.W.subIn K (.ref S) (.type "BaseException") = some true) (h2 : PySem.W.isClsIn K S = true) (h3 : PySem.W.typeIn K (.ref S) = some (.type "type")) (h4 : PySem.W.subIn K (.ref S) (.ref S) = some true) :
    PySem.W.exmOne K (.ref S) (.ref S) = some true := by
  have e1 : (PySem.W.subIn K (.ref S) (.type "BaseException") == some true) = true := by rw [h1] <;> rfl
  have e2 : ((PySem.W.clsIn K S).isSome && PySem.W.typeIn K (.ref S) == some (.type "type")) = true := by
    have h2' : (PySem.W.clsIn K S).isSome = true := h2
    rw [h2', h3] <;> rfl
  show (if (PySem.W.subIn K (.ref S) (.type "BaseException") == some true) = true then (if ((PySem.W.clsIn K S).isSome && PySem.W.typeIn K (.ref S) == some (.type "type")) = true then PySem.W.subIn K (.ref S) (.ref S) else none) else none) = some true
  rw [if_pos e1, if_pos e2]
  exact h4
theorem all_mk {w : World} {K : PySem.W.Frag} {h : Heap} {mg : Str → Option Value} (X : K.In h) (G : h.Ns mainGlobals mg)
    {cBreakError cNoChest cLot cSale fNoChestInit fIsWhole fIsName fIsFrom fIsPair fCheckPairs fFromFirst fFromLast fFromGreatest fWantTurn fWithOdd fParted fLotInit fLotOwed fKeptPrice fFallenPrice fCutPrice fSaleInit fSaleWantChest fSaleRefuse fSaleTakeBack fSaleStands fSaleRefused fSaleStanding fSaleLen fSaleWeight fSaleMovedPrice fSaleLots fSaleSums fSaleTold fSaleUndone fSaleStr fSaleRepr fLCellAt fLWell fLDraw fLNames fLShares fLUnits fLModel fLWeighed fLPriced fLLots fLMade fLRight fLSaid fLDue fLMark fLDeed fLaw cG PG cU PU aTURNS aMOVES : Addr} {eTURNS eMOVES : Array DictEntry} {kTURNS kMOVES : Nat}
    {cd1 oc2 kv3 dc4 pm5 ct6 cd10 oc11 kv12 dc13 pm14 ct15 cd19 oc20 kv21 dc22 pm23 ct24 cd28 oc29 kv30 dc31 pm32 ct33 cd37 oc38 kv39 dc40 pm41 ct42 cd46 oc47 kv48 dc49 pm50 ct51 cd55 oc56 kv57 dc58 pm59 ct60 cd64 oc65 kv66 dc67 pm68 ct69 oc73 kv74 dc75 pm76 ct77 cd81 oc82 kv83 dc84 pm85 ct86 cd90 oc91 kv92 dc93 pm94 ct95 oc99 kv100 dc101 pm102 ct103 cd104 co110 oc114 kv115 dc116 pm117 ct118 cd119 co125 cd129 oc130 kv131 dc132 pm133 ct134 cd138 oc139 kv140 dc141 pm142 ct143 cd147 oc148 kv149 dc150 pm151 ct152 cd156 oc157 kv158 dc159 pm160 ct161 oc165 kv166 dc167 pm168 ct169 cd170 co179 cd183 oc184 kv185 dc186 pm187 ct188 cd192 oc193 kv194 dc195 pm196 ct197 cd201 oc202 kv203 dc204 pm205 ct206 cd210 oc211 kv212 dc213 pm214 ct215 cd219 oc220 kv221 dc222 pm223 ct224 cd228 oc229 kv230 dc231 pm232 ct233 cd237 oc238 kv239 dc240 pm241 ct242 cd246 oc247 kv248 dc249 pm250 ct251 cd255 oc256 kv257 dc258 pm259 ct260 cd264 oc265 kv266 dc267 pm268 ct269 cd273 oc274 kv275 dc276 pm277 ct278 cd282 oc283 kv284 dc285 pm286 ct287 cd291 oc292 kv293 dc294 pm295 ct296 cd300 oc301 kv302 dc303 pm304 ct305 cd309 oc310 kv311 dc312 pm313 ct314 cd318 oc319 kv320 dc321 pm322 ct323 cd327 oc328 kv329 dc330 pm331 ct332 cd336 oc337 kv338 dc339 pm340 ct341 cd345 oc346 kv347 dc348 pm349 ct350 cd354 oc355 kv356 dc357 pm358 ct359 oc363 kv364 dc365 pm366 ct367 cd371 oc372 kv373 dc374 pm375 ct376 cd380 oc381 kv382 dc383 pm384 ct385 cd389 oc390 kv391 dc392 pm393 ct394 cd398 oc399 kv400 dc401 pm402 ct403 cd407 oc408 kv409 dc410 pm411 ct412 cd416 oc417 kv418 dc419 pm420 ct421 cd425 oc426 kv427 dc428 pm429 ct430 cd434 oc435 kv436 dc437 pm438 ct439 cd443 oc444 kv445 dc446 pm447 ct448 cd452 oc453 kv454 dc455 pm456 ct457 cd461 oc462 kv463 dc464 pm465 ct466 : Value} {od7 an8 od16 an17 od25 an26 od34 an35 od43 an44 od52 an53 od61 an62 od70 an71 od78 an79 od87 an88 od96 an97 od105 an106 do111 od120 an121 do126 od135 an136 od144 an145 od153 an154 od162 an163 od171 an172 do180 od189 an190 od198 an199 od207 an208 od216 an217 od225 an226 od234 an235 od243 an244 od252 an253 od261 an262 od270 an271 od279 an280 od288 an289 od297 an298 od306 an307 od315 an316 od324 an325 od333 an334 od342 an343 od351 an352 od360 an361 od368 an369 od377 an378 od386 an387 od395 an396 od404 an405 od413 an414 od422 an423 od431 an432 od440 an441 od449 an450 od458 an459 od467 an468 dd479 : Option Addr} {sl9 sl18 sl27 sl36 sl45 sl54 sl63 sl72 sl80 sl89 sl98 sl107 sl113 sl122 sl128 sl137 sl146 sl155 sl164 sl173 sl182 sl191 sl200 sl209 sl218 sl227 sl236 sl245 sl254 sl263 sl272 sl281 sl290 sl299 sl308 sl317 sl326 sl335 sl344 sl353 sl362 sl370 sl379 sl388 sl397 sl406 sl415 sl424 sl433 sl442 sl451 sl460 sl469 : Array (Option Value)} {td108 td123 td174 NN472 : Addr} {tk109 tk124 tk175 tk176 tk177 tk178 tk485 tk486 tk487 tk488 tk489 : Tok} {nn112 nn127 nn181 : Nat} {nm470 qq471 : Str} {bs473 bm474 sub476 : List Value} {sn475 : List Str} {ab477 : Bool} {col478 : Option Bool} {m480 m481 m482 m483 m484 : Option Value}
    (acBreakError : PySem.W.nsIn K mainGlobals "BreakError" = some (some (.ref cBreakError)))
    (acNoChest : PySem.W.nsIn K mainGlobals "NoChest" = some (some (.ref cNoChest)))
    (acLot : PySem.W.nsIn K mainGlobals "Lot" = some (some (.ref cLot)))
    (acSale : PySem.W.nsIn K mainGlobals "Sale" = some (some (.ref cSale)))
    (aNoChestInit : PySem.W.findIn K (.ref cNoChest) "__init__" = some (some (.ref fNoChestInit)))
    (iNoChestInit : PySem.W.isFn K (.ref fNoChestInit) = true)
    (lNoChestInit : K.lookup fNoChestInit = some ⟨oc2, od7, .func (PySem.W.fnOf "__init__" "NoChest.__init__" (defArgs sNoChestInit) (defBody sNoChestInit) (defScope sNoChestInit) .none kv3 dc4 pm5 an8 cd1 ct6), sl9⟩)
    (cNoChestInit : PySem.W.codeIn K cd1 "NoChest.__init__" = true)
    (kNoChestInit : PySem.W.keepIn K (.ref fNoChestInit) = true)
    (aIsWhole : PySem.W.nsIn K mainGlobals "is_whole" = some (some (.ref fIsWhole)))
    (lIsWhole : K.lookup fIsWhole = some ⟨oc11, od16, .func (PySem.W.fnOf "is_whole" "is_whole" (defArgs sIsWhole) (defBody sIsWhole) (defScope sIsWhole) .none kv12 dc13 pm14 an17 cd10 ct15), sl18⟩)
    (cIsWhole : PySem.W.codeIn K cd10 "is_whole" = true)
    (kIsWhole : PySem.W.keepIn K (.ref fIsWhole) = true)
    (aIsName : PySem.W.nsIn K mainGlobals "is_name" = some (some (.ref fIsName)))
    (lIsName : K.lookup fIsName = some ⟨oc20, od25, .func (PySem.W.fnOf "is_name" "is_name" (defArgs sIsName) (defBody sIsName) (defScope sIsName) .none kv21 dc22 pm23 an26 cd19 ct24), sl27⟩)
    (cIsName : PySem.W.codeIn K cd19 "is_name" = true)
    (kIsName : PySem.W.keepIn K (.ref fIsName) = true)
    (aIsFrom : PySem.W.nsIn K mainGlobals "is_from" = some (some (.ref fIsFrom)))
    (lIsFrom : K.lookup fIsFrom = some ⟨oc29, od34, .func (PySem.W.fnOf "is_from" "is_from" (defArgs sIsFrom) (defBody sIsFrom) (defScope sIsFrom) .none kv30 dc31 pm32 an35 cd28 ct33), sl36⟩)
    (cIsFrom : PySem.W.codeIn K cd28 "is_from" = true)
    (kIsFrom : PySem.W.keepIn K (.ref fIsFrom) = true)
    (aIsPair : PySem.W.nsIn K mainGlobals "is_pair" = some (some (.ref fIsPair)))
    (lIsPair : K.lookup fIsPair = some ⟨oc38, od43, .func (PySem.W.fnOf "is_pair" "is_pair" (defArgs sIsPair) (defBody sIsPair) (defScope sIsPair) .none kv39 dc40 pm41 an44 cd37 ct42), sl45⟩)
    (cIsPair : PySem.W.codeIn K cd37 "is_pair" = true)
    (kIsPair : PySem.W.keepIn K (.ref fIsPair) = true)
    (aCheckPairs : PySem.W.nsIn K mainGlobals "check_pairs" = some (some (.ref fCheckPairs)))
    (lCheckPairs : K.lookup fCheckPairs = some ⟨oc47, od52, .func (PySem.W.fnOf "check_pairs" "check_pairs" (defArgs sCheckPairs) (defBody sCheckPairs) (defScope sCheckPairs) .none kv48 dc49 pm50 an53 cd46 ct51), sl54⟩)
    (cCheckPairs : PySem.W.codeIn K cd46 "check_pairs" = true)
    (kCheckPairs : PySem.W.keepIn K (.ref fCheckPairs) = true)
    (aFromFirst : PySem.W.nsIn K mainGlobals "from_first" = some (some (.ref fFromFirst)))
    (lFromFirst : K.lookup fFromFirst = some ⟨oc56, od61, .func (PySem.W.fnOf "from_first" "from_first" (defArgs sFromFirst) (defBody sFromFirst) (defScope sFromFirst) .none kv57 dc58 pm59 an62 cd55 ct60), sl63⟩)
    (cFromFirst : PySem.W.codeIn K cd55 "from_first" = true)
    (kFromFirst : PySem.W.keepIn K (.ref fFromFirst) = true)
    (aFromLast : PySem.W.nsIn K mainGlobals "from_last" = some (some (.ref fFromLast)))
    (lFromLast : K.lookup fFromLast = some ⟨oc65, od70, .func (PySem.W.fnOf "from_last" "from_last" (defArgs sFromLast) (defBody sFromLast) (defScope sFromLast) .none kv66 dc67 pm68 an71 cd64 ct69), sl72⟩)
    (cFromLast : PySem.W.codeIn K cd64 "from_last" = true)
    (kFromLast : PySem.W.keepIn K (.ref fFromLast) = true)
    (aFromGreatest : PySem.W.nsIn K mainGlobals "from_greatest" = some (some (.ref fFromGreatest)))
    (lFromGreatest : K.lookup fFromGreatest = some ⟨oc73, od78, .func (PySem.W.fnOf "from_greatest" "from_greatest" (defArgs sFromGreatest) (defBody sFromGreatest) (defScope sFromGreatest) .none kv74 dc75 pm76 an79 (.ref cG) ct77), sl80⟩)
    (cFromGreatest : PySem.W.codeIn K (.ref cG) "from_greatest" = true)
    (kFromGreatest : PySem.W.keepIn K (.ref fFromGreatest) = true)
    (aWantTurn : PySem.W.nsIn K mainGlobals "want_turn" = some (some (.ref fWantTurn)))
    (lWantTurn : K.lookup fWantTurn = some ⟨oc82, od87, .func (PySem.W.fnOf "want_turn" "want_turn" (defArgs sWantTurn) (defBody sWantTurn) (defScope sWantTurn) .none kv83 dc84 pm85 an88 cd81 ct86), sl89⟩)
    (cWantTurn : PySem.W.codeIn K cd81 "want_turn" = true)
    (kWantTurn : PySem.W.keepIn K (.ref fWantTurn) = true)
    (aWithOdd : PySem.W.nsIn K mainGlobals "with_odd" = some (some (.ref fWithOdd)))
    (lWithOdd : K.lookup fWithOdd = some ⟨oc91, od96, .func (PySem.W.fnOf "with_odd" "with_odd" (defArgs sWithOdd) (defBody sWithOdd) (defScope sWithOdd) .none kv92 dc93 pm94 an97 cd90 ct95), sl98⟩)
    (cWithOdd : PySem.W.codeIn K cd90 "with_odd" = true)
    (kWithOdd : PySem.W.keepIn K (.ref fWithOdd) = true)
    (aParted : PySem.W.nsIn K mainGlobals "parted" = some (some (.ref fParted)))
    (lParted : K.lookup fParted = some ⟨oc99, od105, .func (PySem.W.fnOf "parted" "parted" (defArgs sParted) (defBody sParted) (defScope sParted) (.ref td108) kv100 dc101 pm102 an106 cd104 ct103), sl107⟩)
    (cParted : PySem.W.codeIn K cd104 "parted" = true)
    (kParted : PySem.W.keepIn K (.ref fParted) = true)
    (tParted : K.lookup td108 = some ⟨co110, do111, .seq ([.str "first" tk109] : List Value).toArray nn112, sl113⟩)
    (aLotInit : PySem.W.findIn K (.ref cLot) "__init__" = some (some (.ref fLotInit)))
    (iLotInit : PySem.W.isFn K (.ref fLotInit) = true)
    (lLotInit : K.lookup fLotInit = some ⟨oc114, od120, .func (PySem.W.fnOf "__init__" "Lot.__init__" (defArgs sLotInit) (defBody sLotInit) (defScope sLotInit) (.ref td123) kv115 dc116 pm117 an121 cd119 ct118), sl122⟩)
    (cLotInit : PySem.W.codeIn K cd119 "Lot.__init__" = true)
    (kLotInit : PySem.W.keepIn K (.ref fLotInit) = true)
    (tLotInit : K.lookup td123 = some ⟨co125, do126, .seq ([.int 0 tk124] : List Value).toArray nn127, sl128⟩)
    (mkLot : PySem.W.makesIn K cLot = true)
    (kcLot : PySem.W.keepIn K (.ref cLot) = true)
    (aLotOwed : PySem.W.findIn K (.ref cLot) "owed" = some (some (.ref fLotOwed)))
    (iLotOwed : PySem.W.isFn K (.ref fLotOwed) = true)
    (lLotOwed : K.lookup fLotOwed = some ⟨oc130, od135, .func (PySem.W.fnOf "owed" "Lot.owed" (defArgs sLotOwed) (defBody sLotOwed) (defScope sLotOwed) .none kv131 dc132 pm133 an136 cd129 ct134), sl137⟩)
    (cLotOwed : PySem.W.codeIn K cd129 "Lot.owed" = true)
    (kLotOwed : PySem.W.keepIn K (.ref fLotOwed) = true)
    (aKeptPrice : PySem.W.nsIn K mainGlobals "kept_price" = some (some (.ref fKeptPrice)))
    (lKeptPrice : K.lookup fKeptPrice = some ⟨oc139, od144, .func (PySem.W.fnOf "kept_price" "kept_price" (defArgs sKeptPrice) (defBody sKeptPrice) (defScope sKeptPrice) .none kv140 dc141 pm142 an145 cd138 ct143), sl146⟩)
    (cKeptPrice : PySem.W.codeIn K cd138 "kept_price" = true)
    (kKeptPrice : PySem.W.keepIn K (.ref fKeptPrice) = true)
    (aFallenPrice : PySem.W.nsIn K mainGlobals "fallen_price" = some (some (.ref fFallenPrice)))
    (lFallenPrice : K.lookup fFallenPrice = some ⟨oc148, od153, .func (PySem.W.fnOf "fallen_price" "fallen_price" (defArgs sFallenPrice) (defBody sFallenPrice) (defScope sFallenPrice) .none kv149 dc150 pm151 an154 cd147 ct152), sl155⟩)
    (cFallenPrice : PySem.W.codeIn K cd147 "fallen_price" = true)
    (kFallenPrice : PySem.W.keepIn K (.ref fFallenPrice) = true)
    (aCutPrice : PySem.W.nsIn K mainGlobals "cut_price" = some (some (.ref fCutPrice)))
    (lCutPrice : K.lookup fCutPrice = some ⟨oc157, od162, .func (PySem.W.fnOf "cut_price" "cut_price" (defArgs sCutPrice) (defBody sCutPrice) (defScope sCutPrice) .none kv158 dc159 pm160 an163 cd156 ct161), sl164⟩)
    (cCutPrice : PySem.W.codeIn K cd156 "cut_price" = true)
    (kCutPrice : PySem.W.keepIn K (.ref fCutPrice) = true)
    (aSaleInit : PySem.W.findIn K (.ref cSale) "__init__" = some (some (.ref fSaleInit)))
    (iSaleInit : PySem.W.isFn K (.ref fSaleInit) = true)
    (lSaleInit : K.lookup fSaleInit = some ⟨oc165, od171, .func (PySem.W.fnOf "__init__" "Sale.__init__" (defArgs sSaleInit) (defBody sSaleInit) (defScope sSaleInit) (.ref td174) kv166 dc167 pm168 an172 cd170 ct169), sl173⟩)
    (cSaleInit : PySem.W.codeIn K cd170 "Sale.__init__" = true)
    (kSaleInit : PySem.W.keepIn K (.ref fSaleInit) = true)
    (tSaleInit : K.lookup td174 = some ⟨co179, do180, .seq ([.str "first" tk175, .str "keep" tk176, .int 0 tk177, .int 0 tk178] : List Value).toArray nn181, sl182⟩)
    (mkSale : PySem.W.makesIn K cSale = true)
    (kcSale : PySem.W.keepIn K (.ref cSale) = true)
    (aSaleWantChest : PySem.W.findIn K (.ref cSale) "want_chest" = some (some (.ref fSaleWantChest)))
    (iSaleWantChest : PySem.W.isFn K (.ref fSaleWantChest) = true)
    (lSaleWantChest : K.lookup fSaleWantChest = some ⟨oc184, od189, .func (PySem.W.fnOf "want_chest" "Sale.want_chest" (defArgs sSaleWantChest) (defBody sSaleWantChest) (defScope sSaleWantChest) .none kv185 dc186 pm187 an190 cd183 ct188), sl191⟩)
    (cSaleWantChest : PySem.W.codeIn K cd183 "Sale.want_chest" = true)
    (kSaleWantChest : PySem.W.keepIn K (.ref fSaleWantChest) = true)
    (aSaleRefuse : PySem.W.findIn K (.ref cSale) "refuse" = some (some (.ref fSaleRefuse)))
    (iSaleRefuse : PySem.W.isFn K (.ref fSaleRefuse) = true)
    (lSaleRefuse : K.lookup fSaleRefuse = some ⟨oc193, od198, .func (PySem.W.fnOf "refuse" "Sale.refuse" (defArgs sSaleRefuse) (defBody sSaleRefuse) (defScope sSaleRefuse) .none kv194 dc195 pm196 an199 cd192 ct197), sl200⟩)
    (cSaleRefuse : PySem.W.codeIn K cd192 "Sale.refuse" = true)
    (kSaleRefuse : PySem.W.keepIn K (.ref fSaleRefuse) = true)
    (aSaleTakeBack : PySem.W.findIn K (.ref cSale) "take_back" = some (some (.ref fSaleTakeBack)))
    (iSaleTakeBack : PySem.W.isFn K (.ref fSaleTakeBack) = true)
    (lSaleTakeBack : K.lookup fSaleTakeBack = some ⟨oc202, od207, .func (PySem.W.fnOf "take_back" "Sale.take_back" (defArgs sSaleTakeBack) (defBody sSaleTakeBack) (defScope sSaleTakeBack) .none kv203 dc204 pm205 an208 cd201 ct206), sl209⟩)
    (cSaleTakeBack : PySem.W.codeIn K cd201 "Sale.take_back" = true)
    (kSaleTakeBack : PySem.W.keepIn K (.ref fSaleTakeBack) = true)
    (aSaleStands : PySem.W.findIn K (.ref cSale) "stands" = some (some (.ref fSaleStands)))
    (iSaleStands : PySem.W.isFn K (.ref fSaleStands) = true)
    (lSaleStands : K.lookup fSaleStands = some ⟨oc211, od216, .func (PySem.W.fnOf "stands" "Sale.stands" (defArgs sSaleStands) (defBody sSaleStands) (defScope sSaleStands) .none kv212 dc213 pm214 an217 cd210 ct215), sl218⟩)
    (cSaleStands : PySem.W.codeIn K cd210 "Sale.stands" = true)
    (kSaleStands : PySem.W.keepIn K (.ref fSaleStands) = true)
    (aSaleRefused : PySem.W.findIn K (.ref cSale) "refused" = some (some (.ref fSaleRefused)))
    (iSaleRefused : PySem.W.isFn K (.ref fSaleRefused) = true)
    (lSaleRefused : K.lookup fSaleRefused = some ⟨oc220, od225, .func (PySem.W.fnOf "refused" "Sale.refused" (defArgs sSaleRefused) (defBody sSaleRefused) (defScope sSaleRefused) .none kv221 dc222 pm223 an226 cd219 ct224), sl227⟩)
    (cSaleRefused : PySem.W.codeIn K cd219 "Sale.refused" = true)
    (kSaleRefused : PySem.W.keepIn K (.ref fSaleRefused) = true)
    (aSaleStanding : PySem.W.findIn K (.ref cSale) "standing" = some (some (.ref fSaleStanding)))
    (iSaleStanding : PySem.W.isFn K (.ref fSaleStanding) = true)
    (lSaleStanding : K.lookup fSaleStanding = some ⟨oc229, od234, .func (PySem.W.fnOf "standing" "Sale.standing" (defArgs sSaleStanding) (defBody sSaleStanding) (defScope sSaleStanding) .none kv230 dc231 pm232 an235 cd228 ct233), sl236⟩)
    (cSaleStanding : PySem.W.codeIn K cd228 "Sale.standing" = true)
    (kSaleStanding : PySem.W.keepIn K (.ref fSaleStanding) = true)
    (aSaleLen : PySem.W.findIn K (.ref cSale) "__len__" = some (some (.ref fSaleLen)))
    (iSaleLen : PySem.W.isFn K (.ref fSaleLen) = true)
    (lSaleLen : K.lookup fSaleLen = some ⟨oc238, od243, .func (PySem.W.fnOf "__len__" "Sale.__len__" (defArgs sSaleLen) (defBody sSaleLen) (defScope sSaleLen) .none kv239 dc240 pm241 an244 cd237 ct242), sl245⟩)
    (cSaleLen : PySem.W.codeIn K cd237 "Sale.__len__" = true)
    (kSaleLen : PySem.W.keepIn K (.ref fSaleLen) = true)
    (aSaleWeight : PySem.W.findIn K (.ref cSale) "weight" = some (some (.ref fSaleWeight)))
    (iSaleWeight : PySem.W.isFn K (.ref fSaleWeight) = true)
    (lSaleWeight : K.lookup fSaleWeight = some ⟨oc247, od252, .func (PySem.W.fnOf "weight" "Sale.weight" (defArgs sSaleWeight) (defBody sSaleWeight) (defScope sSaleWeight) .none kv248 dc249 pm250 an253 cd246 ct251), sl254⟩)
    (cSaleWeight : PySem.W.codeIn K cd246 "Sale.weight" = true)
    (kSaleWeight : PySem.W.keepIn K (.ref fSaleWeight) = true)
    (aSaleMovedPrice : PySem.W.findIn K (.ref cSale) "moved_price" = some (some (.ref fSaleMovedPrice)))
    (iSaleMovedPrice : PySem.W.isFn K (.ref fSaleMovedPrice) = true)
    (lSaleMovedPrice : K.lookup fSaleMovedPrice = some ⟨oc256, od261, .func (PySem.W.fnOf "moved_price" "Sale.moved_price" (defArgs sSaleMovedPrice) (defBody sSaleMovedPrice) (defScope sSaleMovedPrice) .none kv257 dc258 pm259 an262 cd255 ct260), sl263⟩)
    (cSaleMovedPrice : PySem.W.codeIn K cd255 "Sale.moved_price" = true)
    (kSaleMovedPrice : PySem.W.keepIn K (.ref fSaleMovedPrice) = true)
    (aSaleLots : PySem.W.findIn K (.ref cSale) "lots" = some (some (.ref fSaleLots)))
    (iSaleLots : PySem.W.isFn K (.ref fSaleLots) = true)
    (lSaleLots : K.lookup fSaleLots = some ⟨oc265, od270, .func (PySem.W.fnOf "lots" "Sale.lots" (defArgs sSaleLots) (defBody sSaleLots) (defScope sSaleLots) .none kv266 dc267 pm268 an271 cd264 ct269), sl272⟩)
    (cSaleLots : PySem.W.codeIn K cd264 "Sale.lots" = true)
    (kSaleLots : PySem.W.keepIn K (.ref fSaleLots) = true)
    (aSaleSums : PySem.W.findIn K (.ref cSale) "sums" = some (some (.ref fSaleSums)))
    (iSaleSums : PySem.W.isFn K (.ref fSaleSums) = true)
    (lSaleSums : K.lookup fSaleSums = some ⟨oc274, od279, .func (PySem.W.fnOf "sums" "Sale.sums" (defArgs sSaleSums) (defBody sSaleSums) (defScope sSaleSums) .none kv275 dc276 pm277 an280 cd273 ct278), sl281⟩)
    (cSaleSums : PySem.W.codeIn K cd273 "Sale.sums" = true)
    (kSaleSums : PySem.W.keepIn K (.ref fSaleSums) = true)
    (aSaleTold : PySem.W.findIn K (.ref cSale) "told" = some (some (.ref fSaleTold)))
    (iSaleTold : PySem.W.isFn K (.ref fSaleTold) = true)
    (lSaleTold : K.lookup fSaleTold = some ⟨oc283, od288, .func (PySem.W.fnOf "told" "Sale.told" (defArgs sSaleTold) (defBody sSaleTold) (defScope sSaleTold) .none kv284 dc285 pm286 an289 cd282 ct287), sl290⟩)
    (cSaleTold : PySem.W.codeIn K cd282 "Sale.told" = true)
    (kSaleTold : PySem.W.keepIn K (.ref fSaleTold) = true)
    (aSaleUndone : PySem.W.findIn K (.ref cSale) "undone" = some (some (.ref fSaleUndone)))
    (iSaleUndone : PySem.W.isFn K (.ref fSaleUndone) = true)
    (lSaleUndone : K.lookup fSaleUndone = some ⟨oc292, od297, .func (PySem.W.fnOf "undone" "Sale.undone" (defArgs sSaleUndone) (defBody sSaleUndone) (defScope sSaleUndone) .none kv293 dc294 pm295 an298 cd291 ct296), sl299⟩)
    (cSaleUndone : PySem.W.codeIn K cd291 "Sale.undone" = true)
    (kSaleUndone : PySem.W.keepIn K (.ref fSaleUndone) = true)
    (aSaleStr : PySem.W.findIn K (.ref cSale) "__str__" = some (some (.ref fSaleStr)))
    (iSaleStr : PySem.W.isFn K (.ref fSaleStr) = true)
    (lSaleStr : K.lookup fSaleStr = some ⟨oc301, od306, .func (PySem.W.fnOf "__str__" "Sale.__str__" (defArgs sSaleStr) (defBody sSaleStr) (defScope sSaleStr) .none kv302 dc303 pm304 an307 cd300 ct305), sl308⟩)
    (cSaleStr : PySem.W.codeIn K cd300 "Sale.__str__" = true)
    (kSaleStr : PySem.W.keepIn K (.ref fSaleStr) = true)
    (aSaleRepr : PySem.W.findIn K (.ref cSale) "__repr__" = some (some (.ref fSaleRepr)))
    (iSaleRepr : PySem.W.isFn K (.ref fSaleRepr) = true)
    (lSaleRepr : K.lookup fSaleRepr = some ⟨oc310, od315, .func (PySem.W.fnOf "__repr__" "Sale.__repr__" (defArgs sSaleRepr) (defBody sSaleRepr) (defScope sSaleRepr) .none kv311 dc312 pm313 an316 cd309 ct314), sl317⟩)
    (cSaleRepr : PySem.W.codeIn K cd309 "Sale.__repr__" = true)
    (kSaleRepr : PySem.W.keepIn K (.ref fSaleRepr) = true)
    (aLCellAt : PySem.W.nsIn K mainGlobals "_law_cell_at" = some (some (.ref fLCellAt)))
    (lLCellAt : K.lookup fLCellAt = some ⟨oc319, od324, .func (PySem.W.fnOf "_law_cell_at" "_law_cell_at" (defArgs sLCellAt) (defBody sLCellAt) (defScope sLCellAt) .none kv320 dc321 pm322 an325 cd318 ct323), sl326⟩)
    (cLCellAt : PySem.W.codeIn K cd318 "_law_cell_at" = true)
    (kLCellAt : PySem.W.keepIn K (.ref fLCellAt) = true)
    (aLWell : PySem.W.nsIn K mainGlobals "_law_well" = some (some (.ref fLWell)))
    (lLWell : K.lookup fLWell = some ⟨oc328, od333, .func (PySem.W.fnOf "_law_well" "_law_well" (defArgs sLWell) (defBody sLWell) (defScope sLWell) .none kv329 dc330 pm331 an334 cd327 ct332), sl335⟩)
    (cLWell : PySem.W.codeIn K cd327 "_law_well" = true)
    (kLWell : PySem.W.keepIn K (.ref fLWell) = true)
    (aLDraw : PySem.W.nsIn K mainGlobals "_law_draw" = some (some (.ref fLDraw)))
    (lLDraw : K.lookup fLDraw = some ⟨oc337, od342, .func (PySem.W.fnOf "_law_draw" "_law_draw" (defArgs sLDraw) (defBody sLDraw) (defScope sLDraw) .none kv338 dc339 pm340 an343 cd336 ct341), sl344⟩)
    (cLDraw : PySem.W.codeIn K cd336 "_law_draw" = true)
    (kLDraw : PySem.W.keepIn K (.ref fLDraw) = true)
    (aLNames : PySem.W.nsIn K mainGlobals "_law_names" = some (some (.ref fLNames)))
    (lLNames : K.lookup fLNames = some ⟨oc346, od351, .func (PySem.W.fnOf "_law_names" "_law_names" (defArgs sLNames) (defBody sLNames) (defScope sLNames) .none kv347 dc348 pm349 an352 cd345 ct350), sl353⟩)
    (cLNames : PySem.W.codeIn K cd345 "_law_names" = true)
    (kLNames : PySem.W.keepIn K (.ref fLNames) = true)
    (aLShares : PySem.W.nsIn K mainGlobals "_law_shares" = some (some (.ref fLShares)))
    (lLShares : K.lookup fLShares = some ⟨oc355, od360, .func (PySem.W.fnOf "_law_shares" "_law_shares" (defArgs sLShares) (defBody sLShares) (defScope sLShares) .none kv356 dc357 pm358 an361 cd354 ct359), sl362⟩)
    (cLShares : PySem.W.codeIn K cd354 "_law_shares" = true)
    (kLShares : PySem.W.keepIn K (.ref fLShares) = true)
    (aLUnits : PySem.W.nsIn K mainGlobals "_law_units" = some (some (.ref fLUnits)))
    (lLUnits : K.lookup fLUnits = some ⟨oc363, od368, .func (PySem.W.fnOf "_law_units" "_law_units" (defArgs sLUnits) (defBody sLUnits) (defScope sLUnits) .none kv364 dc365 pm366 an369 (.ref cU) ct367), sl370⟩)
    (cLUnits : PySem.W.codeIn K (.ref cU) "_law_units" = true)
    (kLUnits : PySem.W.keepIn K (.ref fLUnits) = true)
    (aLModel : PySem.W.nsIn K mainGlobals "_law_model" = some (some (.ref fLModel)))
    (lLModel : K.lookup fLModel = some ⟨oc372, od377, .func (PySem.W.fnOf "_law_model" "_law_model" (defArgs sLModel) (defBody sLModel) (defScope sLModel) .none kv373 dc374 pm375 an378 cd371 ct376), sl379⟩)
    (cLModel : PySem.W.codeIn K cd371 "_law_model" = true)
    (kLModel : PySem.W.keepIn K (.ref fLModel) = true)
    (aLWeighed : PySem.W.nsIn K mainGlobals "_law_weighed" = some (some (.ref fLWeighed)))
    (lLWeighed : K.lookup fLWeighed = some ⟨oc381, od386, .func (PySem.W.fnOf "_law_weighed" "_law_weighed" (defArgs sLWeighed) (defBody sLWeighed) (defScope sLWeighed) .none kv382 dc383 pm384 an387 cd380 ct385), sl388⟩)
    (cLWeighed : PySem.W.codeIn K cd380 "_law_weighed" = true)
    (kLWeighed : PySem.W.keepIn K (.ref fLWeighed) = true)
    (aLPriced : PySem.W.nsIn K mainGlobals "_law_priced" = some (some (.ref fLPriced)))
    (lLPriced : K.lookup fLPriced = some ⟨oc390, od395, .func (PySem.W.fnOf "_law_priced" "_law_priced" (defArgs sLPriced) (defBody sLPriced) (defScope sLPriced) .none kv391 dc392 pm393 an396 cd389 ct394), sl397⟩)
    (cLPriced : PySem.W.codeIn K cd389 "_law_priced" = true)
    (kLPriced : PySem.W.keepIn K (.ref fLPriced) = true)
    (aLLots : PySem.W.nsIn K mainGlobals "_law_lots" = some (some (.ref fLLots)))
    (lLLots : K.lookup fLLots = some ⟨oc399, od404, .func (PySem.W.fnOf "_law_lots" "_law_lots" (defArgs sLLots) (defBody sLLots) (defScope sLLots) .none kv400 dc401 pm402 an405 cd398 ct403), sl406⟩)
    (cLLots : PySem.W.codeIn K cd398 "_law_lots" = true)
    (kLLots : PySem.W.keepIn K (.ref fLLots) = true)
    (aLMade : PySem.W.nsIn K mainGlobals "_law_made" = some (some (.ref fLMade)))
    (lLMade : K.lookup fLMade = some ⟨oc408, od413, .func (PySem.W.fnOf "_law_made" "_law_made" (defArgs sLMade) (defBody sLMade) (defScope sLMade) .none kv409 dc410 pm411 an414 cd407 ct412), sl415⟩)
    (cLMade : PySem.W.codeIn K cd407 "_law_made" = true)
    (kLMade : PySem.W.keepIn K (.ref fLMade) = true)
    (aLRight : PySem.W.nsIn K mainGlobals "_law_right" = some (some (.ref fLRight)))
    (lLRight : K.lookup fLRight = some ⟨oc417, od422, .func (PySem.W.fnOf "_law_right" "_law_right" (defArgs sLRight) (defBody sLRight) (defScope sLRight) .none kv418 dc419 pm420 an423 cd416 ct421), sl424⟩)
    (cLRight : PySem.W.codeIn K cd416 "_law_right" = true)
    (kLRight : PySem.W.keepIn K (.ref fLRight) = true)
    (aLSaid : PySem.W.nsIn K mainGlobals "_law_said" = some (some (.ref fLSaid)))
    (lLSaid : K.lookup fLSaid = some ⟨oc426, od431, .func (PySem.W.fnOf "_law_said" "_law_said" (defArgs sLSaid) (defBody sLSaid) (defScope sLSaid) .none kv427 dc428 pm429 an432 cd425 ct430), sl433⟩)
    (cLSaid : PySem.W.codeIn K cd425 "_law_said" = true)
    (kLSaid : PySem.W.keepIn K (.ref fLSaid) = true)
    (aLDue : PySem.W.nsIn K mainGlobals "_law_due" = some (some (.ref fLDue)))
    (lLDue : K.lookup fLDue = some ⟨oc435, od440, .func (PySem.W.fnOf "_law_due" "_law_due" (defArgs sLDue) (defBody sLDue) (defScope sLDue) .none kv436 dc437 pm438 an441 cd434 ct439), sl442⟩)
    (cLDue : PySem.W.codeIn K cd434 "_law_due" = true)
    (kLDue : PySem.W.keepIn K (.ref fLDue) = true)
    (aLMark : PySem.W.nsIn K mainGlobals "_law_mark" = some (some (.ref fLMark)))
    (lLMark : K.lookup fLMark = some ⟨oc444, od449, .func (PySem.W.fnOf "_law_mark" "_law_mark" (defArgs sLMark) (defBody sLMark) (defScope sLMark) .none kv445 dc446 pm447 an450 cd443 ct448), sl451⟩)
    (cLMark : PySem.W.codeIn K cd443 "_law_mark" = true)
    (kLMark : PySem.W.keepIn K (.ref fLMark) = true)
    (aLDeed : PySem.W.nsIn K mainGlobals "_law_deed" = some (some (.ref fLDeed)))
    (lLDeed : K.lookup fLDeed = some ⟨oc453, od458, .func (PySem.W.fnOf "_law_deed" "_law_deed" (defArgs sLDeed) (defBody sLDeed) (defScope sLDeed) .none kv454 dc455 pm456 an459 cd452 ct457), sl460⟩)
    (cLDeed : PySem.W.codeIn K cd452 "_law_deed" = true)
    (kLDeed : PySem.W.keepIn K (.ref fLDeed) = true)
    (aLaw : PySem.W.nsIn K mainGlobals "law" = some (some (.ref fLaw)))
    (lLaw : K.lookup fLaw = some ⟨oc462, od467, .func (PySem.W.fnOf "law" "law" (defArgs sLaw) (defBody sLaw) (defScope sLaw) .none kv463 dc464 pm465 an468 cd461 ct466), sl469⟩)
    (cLaw : PySem.W.codeIn K cd461 "law" = true)
    (kLaw : PySem.W.keepIn K (.ref fLaw) = true)
    (pgLot : PySem.W.plainGet K cLot Str.empty = true)
    (hdLot : PySem.W.hasDictIn K cLot = true)
    (poLot : PySem.W.plainOver K cLot = true)
    (saLot : PySem.W.findIn K (.ref cLot) "__setattr__" = some (some (.builtin "object.__setattr__")))
    (pgSale : PySem.W.plainGet K cSale Str.empty = true)
    (hdSale : PySem.W.hasDictIn K cSale = true)
    (poSale : PySem.W.plainOver K cSale = true)
    (saSale : PySem.W.findIn K (.ref cSale) "__setattr__" = some (some (.builtin "object.__setattr__")))
    (xnS_scaled : PySem.W.findIn K (.ref cSale) "scaled" = some none)
    (xnS_told_price : PySem.W.findIn K (.ref cSale) "told_price" = some none)
    (xnS_buyers : PySem.W.findIn K (.ref cSale) "buyers" = some none)
    (xnS_to : PySem.W.findIn K (.ref cSale) "to" = some none)
    (xnS_move : PySem.W.findIn K (.ref cSale) "move" = some none)
    (xnS_drop : PySem.W.findIn K (.ref cSale) "drop" = some none)
    (xnS_least : PySem.W.findIn K (.ref cSale) "least" = some none)
    (xnS_out : PySem.W.findIn K (.ref cSale) "out" = some none)
    (xnL_name : PySem.W.findIn K (.ref cLot) "name" = some none)
    (xnL_units : PySem.W.findIn K (.ref cLot) "units" = some none)
    (xnL_price : PySem.W.findIn K (.ref cLot) "price" = some none)
    (xNC1 : K.lookup cNoChest = some (excClassObj nm470 qq471 cNoChest NN472 bs473 bm474 true sn475 sub476 ab477 col478 dd479 m480 m481 m482 m483 m484 "ValueError.__new__"))
    (xNC2 : PySem.HandSPX.refsVE bm474 = true)
    (xNC3 : PySem.W.findIn K (.ref cNoChest) "__setattr__" = some (some (.builtin "object.__setattr__")))
    (xNC4 : PySem.W.subIn K (.ref cNoChest) (.type "BaseException") = some true)
    (xNC5 : PySem.W.typeIn K (.ref cNoChest) = some (.type "type"))
    (xNC6 : PySem.W.keepIn K (.ref cNoChest) = true)
    (xNC7 : PySem.W.typeIn K (.ref fNoChestInit) = some (.type "function"))
    (yNC1 : PySem.W.findIn K (.ref cNoChest) "__getattribute__" = some (some (.builtin "BaseException.__getattribute__")))
    (yNC2 : PySem.W.findIn K (.ref cNoChest) "__getattr__" = some none)
    (yNC3 : PySem.W.hasDictIn K cNoChest = true)
    (yNC4 : PySem.W.findIn K (.ref cNoChest) "mark" = some none)
    (yNC5 : PySem.W.isClsIn K cNoChest = true)
    (yNC6 : PySem.W.subIn K (.ref cNoChest) (.ref cNoChest) = some true)
    (zB1 : PySem.W.readsIn K cBreakError (.type "type") = true)
    (zB2 : PySem.W.specialIn K (.ref cBreakError) "__getattribute__" = some (some (.builtin "type.__getattribute__")))
    (zB3 : PySem.W.findCls K (.ref cBreakError) (.type "type") "__init__" = some (.val (.builtin "ValueError.__init__")))
    (zF1 : PySem.W.findIn K (.ref cSale) "__format__" = some (some (.builtin "object.__format__")))
    (zF2 : PySem.W.mroIn K cSale (.type "object") = some true)
    (aaTURNS : PySem.W.nsIn K mainGlobals "TURNS" = some (some (.ref aTURNS)))
    (kd1TURNS : K.lookup aTURNS = some ⟨.type "dict", none, .dict eTURNS kTURNS, #[]⟩)
    (kd2TURNS : PySem.W.KeysLit w.params eTURNS.toList)
    (kd3TURNS : (aTURNS == sysModules) = false)
    (iTURNSFirst : PySem.W.nsIn K aTURNS "first" = some (some (.ref fFromFirst)))
    (iTURNSLast : PySem.W.nsIn K aTURNS "last" = some (some (.ref fFromLast)))
    (iTURNSGreatest : PySem.W.nsIn K aTURNS "greatest" = some (some (.ref fFromGreatest)))
    (aaMOVES : PySem.W.nsIn K mainGlobals "MOVES" = some (some (.ref aMOVES)))
    (kd1MOVES : K.lookup aMOVES = some ⟨.type "dict", none, .dict eMOVES kMOVES, #[]⟩)
    (kd2MOVES : PySem.W.KeysLit w.params eMOVES.toList)
    (kd3MOVES : (aMOVES == sysModules) = false)
    (iMOVESKeep : PySem.W.nsIn K aMOVES "keep" = some (some (.ref fKeptPrice)))
    (iMOVESFall : PySem.W.nsIn K aMOVES "fall" = some (some (.ref fFallenPrice)))
    (iMOVESCut : PySem.W.nsIn K aMOVES "cut" = some (some (.ref fCutPrice)))
    (vvMostWeight : PySem.W.nsIn K mainGlobals "MOST_WEIGHT" = some (some (.int 1000000000 tk485)))
    (vvMostChests : PySem.W.nsIn K mainGlobals "MOST_CHESTS" = some (some (.int 60 tk486)))
    (vvMostShares : PySem.W.nsIn K mainGlobals "MOST_SHARES" = some (some (.int 24 tk487)))
    (vvMostPrice : PySem.W.nsIn K mainGlobals "MOST_PRICE" = some (some (.int 1000000 tk488)))
    (vvLETTERS : PySem.W.nsIn K mainGlobals "LETTERS" = some (some (.str "abcdefghijklmnopqrstuvwxyz" tk489)))
    (qzIsinstance : PySem.W.nsIn K mainGlobals "isinstance" = some none)
    (qzInt : PySem.W.nsIn K mainGlobals "int" = some none)
    (qzBool : PySem.W.nsIn K mainGlobals "bool" = some none)
    (qzStr : PySem.W.nsIn K mainGlobals "str" = some none)
    (qzTuple : PySem.W.nsIn K mainGlobals "tuple" = some none)
    (qzList : PySem.W.nsIn K mainGlobals "list" = some none)
    (qzLen : PySem.W.nsIn K mainGlobals "len" = some none)
    (qzAll : PySem.W.nsIn K mainGlobals "all" = some none)
    (qzMax : PySem.W.nsIn K mainGlobals "max" = some none)
    (qzMin : PySem.W.nsIn K mainGlobals "min" = some none)
    (qzSum : PySem.W.nsIn K mainGlobals "sum" = some none)
    (qzSorted : PySem.W.nsIn K mainGlobals "sorted" = some none)
    (qzRange : PySem.W.nsIn K mainGlobals "range" = some none)
    (qzReversed : PySem.W.nsIn K mainGlobals "reversed" = some none)
    (qzEnumerate : PySem.W.nsIn K mainGlobals "enumerate" = some none)
    (qzZip : PySem.W.nsIn K mainGlobals "zip" = some none)
    (qzDict : PySem.W.nsIn K mainGlobals "dict" = some none)
    (qzRepr : PySem.W.nsIn K mainGlobals "repr" = some none)
    (tG : PySem.W.tabIn K "from_greatest" = some (cG, PG))
    (tU : PySem.W.tabIn K "_law_units" = some (cU, PU))
    (nPGU : PG ≠ PU)
    (hG : PySem.W.codeHdIn K cG PG = true)
    (hU : PySem.W.codeHdIn K cU PU = true)
    (oG : K.lookup PG = none)
    (oU : K.lookup PU = none)
    : ∃ T : Txt K mg w, T.fLaw = fLaw ∧ T.cG = cG ∧ T.PG = PG ∧ T.cU = cU ∧ T.PU = PU ∧ K.lookup PG = none ∧ K.lookup PU = none ∧ PySem.W.codeHdIn K cG PG = true ∧ PySem.W.codeHdIn K cU PU = true := by
  refine ⟨{
cBreakError := cBreakError,
    cNoChest := cNoChest,
    cLot := cLot,
    cSale := cSale,
    fNoChestInit := fNoChestInit,
    dNoChestInit := PySem.W.fnOf "__init__" "NoChest.__init__" (defArgs sNoChestInit) (defBody sNoChestInit) (defScope sNoChestInit) .none kv3 dc4 pm5 an8 cd1 ct6,
    fIsWhole := fIsWhole,
    dIsWhole := PySem.W.fnOf "is_whole" "is_whole" (defArgs sIsWhole) (defBody sIsWhole) (defScope sIsWhole) .none kv12 dc13 pm14 an17 cd10 ct15,
    fIsName := fIsName,
    dIsName := PySem.W.fnOf "is_name" "is_name" (defArgs sIsName) (defBody sIsName) (defScope sIsName) .none kv21 dc22 pm23 an26 cd19 ct24,
    fIsFrom := fIsFrom,
    dIsFrom := PySem.W.fnOf "is_from" "is_from" (defArgs sIsFrom) (defBody sIsFrom) (defScope sIsFrom) .none kv30 dc31 pm32 an35 cd28 ct33,
    fIsPair := fIsPair,
    dIsPair := PySem.W.fnOf "is_pair" "is_pair" (defArgs sIsPair) (defBody sIsPair) (defScope sIsPair) .none kv39 dc40 pm41 an44 cd37 ct42,
    fCheckPairs := fCheckPairs,
    dCheckPairs := PySem.W.fnOf "check_pairs" "check_pairs" (defArgs sCheckPairs) (defBody sCheckPairs) (defScope sCheckPairs) .none kv48 dc49 pm50 an53 cd46 ct51,
    fFromFirst := fFromFirst,
    dFromFirst := PySem.W.fnOf "from_first" "from_first" (defArgs sFromFirst) (defBody sFromFirst) (defScope sFromFirst) .none kv57 dc58 pm59 an62 cd55 ct60,
    fFromLast := fFromLast,
    dFromLast := PySem.W.fnOf "from_last" "from_last" (defArgs sFromLast) (defBody sFromLast) (defScope sFromLast) .none kv66 dc67 pm68 an71 cd64 ct69,
    fFromGreatest := fFromGreatest,
    dFromGreatest := PySem.W.fnOf "from_greatest" "from_greatest" (defArgs sFromGreatest) (defBody sFromGreatest) (defScope sFromGreatest) .none kv74 dc75 pm76 an79 (.ref cG) ct77,
    fWantTurn := fWantTurn,
    dWantTurn := PySem.W.fnOf "want_turn" "want_turn" (defArgs sWantTurn) (defBody sWantTurn) (defScope sWantTurn) .none kv83 dc84 pm85 an88 cd81 ct86,
    fWithOdd := fWithOdd,
    dWithOdd := PySem.W.fnOf "with_odd" "with_odd" (defArgs sWithOdd) (defBody sWithOdd) (defScope sWithOdd) .none kv92 dc93 pm94 an97 cd90 ct95,
    fParted := fParted,
    dParted := PySem.W.fnOf "parted" "parted" (defArgs sParted) (defBody sParted) (defScope sParted) (.ref td108) kv100 dc101 pm102 an106 cd104 ct103,
    fLotInit := fLotInit,
    dLotInit := PySem.W.fnOf "__init__" "Lot.__init__" (defArgs sLotInit) (defBody sLotInit) (defScope sLotInit) (.ref td123) kv115 dc116 pm117 an121 cd119 ct118,
    fLotOwed := fLotOwed,
    dLotOwed := PySem.W.fnOf "owed" "Lot.owed" (defArgs sLotOwed) (defBody sLotOwed) (defScope sLotOwed) .none kv131 dc132 pm133 an136 cd129 ct134,
    fKeptPrice := fKeptPrice,
    dKeptPrice := PySem.W.fnOf "kept_price" "kept_price" (defArgs sKeptPrice) (defBody sKeptPrice) (defScope sKeptPrice) .none kv140 dc141 pm142 an145 cd138 ct143,
    fFallenPrice := fFallenPrice,
    dFallenPrice := PySem.W.fnOf "fallen_price" "fallen_price" (defArgs sFallenPrice) (defBody sFallenPrice) (defScope sFallenPrice) .none kv149 dc150 pm151 an154 cd147 ct152,
    fCutPrice := fCutPrice,
    dCutPrice := PySem.W.fnOf "cut_price" "cut_price" (defArgs sCutPrice) (defBody sCutPrice) (defScope sCutPrice) .none kv158 dc159 pm160 an163 cd156 ct161,
    fSaleInit := fSaleInit,
    dSaleInit := PySem.W.fnOf "__init__" "Sale.__init__" (defArgs sSaleInit) (defBody sSaleInit) (defScope sSaleInit) (.ref td174) kv166 dc167 pm168 an172 cd170 ct169,
    fSaleWantChest := fSaleWantChest,
    dSaleWantChest := PySem.W.fnOf "want_chest" "Sale.want_chest" (defArgs sSaleWantChest) (defBody sSaleWantChest) (defScope sSaleWantChest) .none kv185 dc186 pm187 an190 cd183 ct188,
    fSaleRefuse := fSaleRefuse,
    dSaleRefuse := PySem.W.fnOf "refuse" "Sale.refuse" (defArgs sSaleRefuse) (defBody sSaleRefuse) (defScope sSaleRefuse) .none kv194 dc195 pm196 an199 cd192 ct197,
    fSaleTakeBack := fSaleTakeBack,
    dSaleTakeBack := PySem.W.fnOf "take_back" "Sale.take_back" (defArgs sSaleTakeBack) (defBody sSaleTakeBack) (defScope sSaleTakeBack) .none kv203 dc204 pm205 an208 cd201 ct206,
    fSaleStands := fSaleStands,
    dSaleStands := PySem.W.fnOf "stands" "Sale.stands" (defArgs sSaleStands) (defBody sSaleStands) (defScope sSaleStands) .none kv212 dc213 pm214 an217 cd210 ct215,
    fSaleRefused := fSaleRefused,
    dSaleRefused := PySem.W.fnOf "refused" "Sale.refused" (defArgs sSaleRefused) (defBody sSaleRefused) (defScope sSaleRefused) .none kv221 dc222 pm223 an226 cd219 ct224,
    fSaleStanding := fSaleStanding,
    dSaleStanding := PySem.W.fnOf "standing" "Sale.standing" (defArgs sSaleStanding) (defBody sSaleStanding) (defScope sSaleStanding) .none kv230 dc231 pm232 an235 cd228 ct233,
    fSaleLen := fSaleLen,
    dSaleLen := PySem.W.fnOf "__len__" "Sale.__len__" (defArgs sSaleLen) (defBody sSaleLen) (defScope sSaleLen) .none kv239 dc240 pm241 an244 cd237 ct242,
    fSaleWeight := fSaleWeight,
    dSaleWeight := PySem.W.fnOf "weight" "Sale.weight" (defArgs sSaleWeight) (defBody sSaleWeight) (defScope sSaleWeight) .none kv248 dc249 pm250 an253 cd246 ct251,
    fSaleMovedPrice := fSaleMovedPrice,
    dSaleMovedPrice := PySem.W.fnOf "moved_price" "Sale.moved_price" (defArgs sSaleMovedPrice) (defBody sSaleMovedPrice) (defScope sSaleMovedPrice) .none kv257 dc258 pm259 an262 cd255 ct260,
    fSaleLots := fSaleLots,
    dSaleLots := PySem.W.fnOf "lots" "Sale.lots" (defArgs sSaleLots) (defBody sSaleLots) (defScope sSaleLots) .none kv266 dc267 pm268 an271 cd264 ct269,
    fSaleSums := fSaleSums,
    dSaleSums := PySem.W.fnOf "sums" "Sale.sums" (defArgs sSaleSums) (defBody sSaleSums) (defScope sSaleSums) .none kv275 dc276 pm277 an280 cd273 ct278,
    fSaleTold := fSaleTold,
    dSaleTold := PySem.W.fnOf "told" "Sale.told" (defArgs sSaleTold) (defBody sSaleTold) (defScope sSaleTold) .none kv284 dc285 pm286 an289 cd282 ct287,
    fSaleUndone := fSaleUndone,
    dSaleUndone := PySem.W.fnOf "undone" "Sale.undone" (defArgs sSaleUndone) (defBody sSaleUndone) (defScope sSaleUndone) .none kv293 dc294 pm295 an298 cd291 ct296,
    fSaleStr := fSaleStr,
    dSaleStr := PySem.W.fnOf "__str__" "Sale.__str__" (defArgs sSaleStr) (defBody sSaleStr) (defScope sSaleStr) .none kv302 dc303 pm304 an307 cd300 ct305,
    fSaleRepr := fSaleRepr,
    dSaleRepr := PySem.W.fnOf "__repr__" "Sale.__repr__" (defArgs sSaleRepr) (defBody sSaleRepr) (defScope sSaleRepr) .none kv311 dc312 pm313 an316 cd309 ct314,
    fLCellAt := fLCellAt,
    dLCellAt := PySem.W.fnOf "_law_cell_at" "_law_cell_at" (defArgs sLCellAt) (defBody sLCellAt) (defScope sLCellAt) .none kv320 dc321 pm322 an325 cd318 ct323,
    fLWell := fLWell,
    dLWell := PySem.W.fnOf "_law_well" "_law_well" (defArgs sLWell) (defBody sLWell) (defScope sLWell) .none kv329 dc330 pm331 an334 cd327 ct332,
    fLDraw := fLDraw,
    dLDraw := PySem.W.fnOf "_law_draw" "_law_draw" (defArgs sLDraw) (defBody sLDraw) (defScope sLDraw) .none kv338 dc339 pm340 an343 cd336 ct341,
    fLNames := fLNames,
    dLNames := PySem.W.fnOf "_law_names" "_law_names" (defArgs sLNames) (defBody sLNames) (defScope sLNames) .none kv347 dc348 pm349 an352 cd345 ct350,
    fLShares := fLShares,
    dLShares := PySem.W.fnOf "_law_shares" "_law_shares" (defArgs sLShares) (defBody sLShares) (defScope sLShares) .none kv356 dc357 pm358 an361 cd354 ct359,
    fLUnits := fLUnits,
    dLUnits := PySem.W.fnOf "_law_units" "_law_units" (defArgs sLUnits) (defBody sLUnits) (defScope sLUnits) .none kv364 dc365 pm366 an369 (.ref cU) ct367,
    fLModel := fLModel,
    dLModel := PySem.W.fnOf "_law_model" "_law_model" (defArgs sLModel) (defBody sLModel) (defScope sLModel) .none kv373 dc374 pm375 an378 cd371 ct376,
    fLWeighed := fLWeighed,
    dLWeighed := PySem.W.fnOf "_law_weighed" "_law_weighed" (defArgs sLWeighed) (defBody sLWeighed) (defScope sLWeighed) .none kv382 dc383 pm384 an387 cd380 ct385,
    fLPriced := fLPriced,
    dLPriced := PySem.W.fnOf "_law_priced" "_law_priced" (defArgs sLPriced) (defBody sLPriced) (defScope sLPriced) .none kv391 dc392 pm393 an396 cd389 ct394,
    fLLots := fLLots,
    dLLots := PySem.W.fnOf "_law_lots" "_law_lots" (defArgs sLLots) (defBody sLLots) (defScope sLLots) .none kv400 dc401 pm402 an405 cd398 ct403,
    fLMade := fLMade,
    dLMade := PySem.W.fnOf "_law_made" "_law_made" (defArgs sLMade) (defBody sLMade) (defScope sLMade) .none kv409 dc410 pm411 an414 cd407 ct412,
    fLRight := fLRight,
    dLRight := PySem.W.fnOf "_law_right" "_law_right" (defArgs sLRight) (defBody sLRight) (defScope sLRight) .none kv418 dc419 pm420 an423 cd416 ct421,
    fLSaid := fLSaid,
    dLSaid := PySem.W.fnOf "_law_said" "_law_said" (defArgs sLSaid) (defBody sLSaid) (defScope sLSaid) .none kv427 dc428 pm429 an432 cd425 ct430,
    fLDue := fLDue,
    dLDue := PySem.W.fnOf "_law_due" "_law_due" (defArgs sLDue) (defBody sLDue) (defScope sLDue) .none kv436 dc437 pm438 an441 cd434 ct439,
    fLMark := fLMark,
    dLMark := PySem.W.fnOf "_law_mark" "_law_mark" (defArgs sLMark) (defBody sLMark) (defScope sLMark) .none kv445 dc446 pm447 an450 cd443 ct448,
    fLDeed := fLDeed,
    dLDeed := PySem.W.fnOf "_law_deed" "_law_deed" (defArgs sLDeed) (defBody sLDeed) (defScope sLDeed) .none kv454 dc455 pm456 an459 cd452 ct457,
    fLaw := fLaw,
    dLaw := PySem.W.fnOf "law" "law" (defArgs sLaw) (defBody sLaw) (defScope sLaw) .none kv463 dc464 pm465 an468 cd461 ct466,
    cG := cG,
    PG := PG,
    cU := cU,
    PU := PU,
    aTURNS := aTURNS,
    eTURNS := eTURNS,
    kTURNS := kTURNS,
    aMOVES := aMOVES,
    eMOVES := eMOVES,
    kMOVES := kMOVES,
    FNoChestInit := fun_mk (st := sNoChestInit) lNoChestInit cNoChestInit kNoChestInit,
    bNoChestInit := Fun.binds (fun_mk (st := sNoChestInit) lNoChestInit cNoChestInit kNoChestInit) (ps := pNoChestInit) fun _ _ _ _ _ _ us hl => match us, hl with | [_, _], _ => rfl,
    FIsWhole := fun_mk (st := sIsWhole) lIsWhole cIsWhole kIsWhole,
    bIsWhole := Fun.binds (fun_mk (st := sIsWhole) lIsWhole cIsWhole kIsWhole) (ps := pIsWhole) fun _ _ _ _ _ _ us hl => match us, hl with | [_], _ => rfl,
    gIsWhole := PySem.W.mg_of X G aIsWhole,
    FIsName := fun_mk (st := sIsName) lIsName cIsName kIsName,
    bIsName := Fun.binds (fun_mk (st := sIsName) lIsName cIsName kIsName) (ps := pIsName) fun _ _ _ _ _ _ us hl => match us, hl with | [_], _ => rfl,
    gIsName := PySem.W.mg_of X G aIsName,
    FIsFrom := fun_mk (st := sIsFrom) lIsFrom cIsFrom kIsFrom,
    bIsFrom := Fun.binds (fun_mk (st := sIsFrom) lIsFrom cIsFrom kIsFrom) (ps := pIsFrom) fun _ _ _ _ _ _ us hl => match us, hl with | [_, _, _], _ => rfl,
    gIsFrom := PySem.W.mg_of X G aIsFrom,
    FIsPair := fun_mk (st := sIsPair) lIsPair cIsPair kIsPair,
    bIsPair := Fun.binds (fun_mk (st := sIsPair) lIsPair cIsPair kIsPair) (ps := pIsPair) fun _ _ _ _ _ _ us hl => match us, hl with | [_, _, _], _ => rfl,
    gIsPair := PySem.W.mg_of X G aIsPair,
    FCheckPairs := fun_mk (st := sCheckPairs) lCheckPairs cCheckPairs kCheckPairs,
    bCheckPairs := Fun.binds (fun_mk (st := sCheckPairs) lCheckPairs cCheckPairs kCheckPairs) (ps := pCheckPairs) fun _ _ _ _ _ _ us hl => match us, hl with | [_, _, _, _], _ => rfl,
    gCheckPairs := PySem.W.mg_of X G aCheckPairs,
    FFromFirst := fun_mk (st := sFromFirst) lFromFirst cFromFirst kFromFirst,
    bFromFirst := Fun.binds (fun_mk (st := sFromFirst) lFromFirst cFromFirst kFromFirst) (ps := pFromFirst) fun _ _ _ _ _ _ us hl => match us, hl with | [_], _ => rfl,
    gFromFirst := PySem.W.mg_of X G aFromFirst,
    FFromLast := fun_mk (st := sFromLast) lFromLast cFromLast kFromLast,
    bFromLast := Fun.binds (fun_mk (st := sFromLast) lFromLast cFromLast kFromLast) (ps := pFromLast) fun _ _ _ _ _ _ us hl => match us, hl with | [_], _ => rfl,
    gFromLast := PySem.W.mg_of X G aFromLast,
    FFromGreatest := fun_mk (st := sFromGreatest) lFromGreatest cFromGreatest kFromGreatest,
    bFromGreatest := Fun.binds (fun_mk (st := sFromGreatest) lFromGreatest cFromGreatest kFromGreatest) (ps := pFromGreatest) fun _ _ _ _ _ _ us hl => match us, hl with | [_], _ => rfl,
    CFromGreatest := ⟨⟨_, _, _, _, _, _, _, _, rfl, lFromGreatest, cFromGreatest⟩, kFromGreatest⟩,
    gFromGreatest := PySem.W.mg_of X G aFromGreatest,
    FWantTurn := fun_mk (st := sWantTurn) lWantTurn cWantTurn kWantTurn,
    bWantTurn := Fun.binds (fun_mk (st := sWantTurn) lWantTurn cWantTurn kWantTurn) (ps := pWantTurn) fun _ _ _ _ _ _ us hl => match us, hl with | [_], _ => rfl,
    gWantTurn := PySem.W.mg_of X G aWantTurn,
    FWithOdd := fun_mk (st := sWithOdd) lWithOdd cWithOdd kWithOdd,
    bWithOdd := Fun.binds (fun_mk (st := sWithOdd) lWithOdd cWithOdd kWithOdd) (ps := pWithOdd) fun _ _ _ _ _ _ us hl => match us, hl with | [_, _, _, _, _], _ => rfl,
    gWithOdd := PySem.W.mg_of X G aWithOdd,
    FParted := ⟨⟨_, _, _, _, _, _, _, _, _, _, rfl, lParted, cParted, .inr ⟨by simp, _, _, _, _, rfl, tParted, rfl, (.cons ⟨_, rfl⟩ .nil)⟩, .inl rfl⟩, kParted⟩,
    gParted := PySem.W.mg_of X G aParted,
    FLotInit := ⟨⟨_, _, _, _, _, _, _, _, _, _, rfl, lLotInit, cLotInit, .inr ⟨by simp, _, _, _, _, rfl, tLotInit, rfl, (.cons ⟨_, rfl⟩ .nil)⟩, .inl rfl⟩, kLotInit⟩,
    MLot := ⟨mkLot, aLotInit, iLotInit, kcLot⟩,
    FLotOwed := fun_mk (st := sLotOwed) lLotOwed cLotOwed kLotOwed,
    bLotOwed := Fun.binds (fun_mk (st := sLotOwed) lLotOwed cLotOwed kLotOwed) (ps := pLotOwed) fun _ _ _ _ _ _ us hl => match us, hl with | [_], _ => rfl,
    mLotOwed := ⟨aLotOwed, iLotOwed, kLotOwed⟩,
    FKeptPrice := fun_mk (st := sKeptPrice) lKeptPrice cKeptPrice kKeptPrice,
    bKeptPrice := Fun.binds (fun_mk (st := sKeptPrice) lKeptPrice cKeptPrice kKeptPrice) (ps := pKeptPrice) fun _ _ _ _ _ _ us hl => match us, hl with | [_], _ => rfl,
    gKeptPrice := PySem.W.mg_of X G aKeptPrice,
    FFallenPrice := fun_mk (st := sFallenPrice) lFallenPrice cFallenPrice kFallenPrice,
    bFallenPrice := Fun.binds (fun_mk (st := sFallenPrice) lFallenPrice cFallenPrice kFallenPrice) (ps := pFallenPrice) fun _ _ _ _ _ _ us hl => match us, hl with | [_], _ => rfl,
    gFallenPrice := PySem.W.mg_of X G aFallenPrice,
    FCutPrice := fun_mk (st := sCutPrice) lCutPrice cCutPrice kCutPrice,
    bCutPrice := Fun.binds (fun_mk (st := sCutPrice) lCutPrice cCutPrice kCutPrice) (ps := pCutPrice) fun _ _ _ _ _ _ us hl => match us, hl with | [_], _ => rfl,
    gCutPrice := PySem.W.mg_of X G aCutPrice,
    FSaleInit := ⟨⟨_, _, _, _, _, _, _, _, _, _, rfl, lSaleInit, cSaleInit, .inr ⟨by simp, _, _, _, _, rfl, tSaleInit, rfl, (.cons ⟨_, rfl⟩ (.cons ⟨_, rfl⟩ (.cons ⟨_, rfl⟩ (.cons ⟨_, rfl⟩ .nil))))⟩, .inl rfl⟩, kSaleInit⟩,
    MSale := ⟨mkSale, aSaleInit, iSaleInit, kcSale⟩,
    FSaleWantChest := fun_mk (st := sSaleWantChest) lSaleWantChest cSaleWantChest kSaleWantChest,
    bSaleWantChest := Fun.binds (fun_mk (st := sSaleWantChest) lSaleWantChest cSaleWantChest kSaleWantChest) (ps := pSaleWantChest) fun _ _ _ _ _ _ us hl => match us, hl with | [_, _], _ => rfl,
    mSaleWantChest := ⟨aSaleWantChest, iSaleWantChest, kSaleWantChest⟩,
    FSaleRefuse := fun_mk (st := sSaleRefuse) lSaleRefuse cSaleRefuse kSaleRefuse,
    bSaleRefuse := Fun.binds (fun_mk (st := sSaleRefuse) lSaleRefuse cSaleRefuse kSaleRefuse) (ps := pSaleRefuse) fun _ _ _ _ _ _ us hl => match us, hl with | [_, _], _ => rfl,
    mSaleRefuse := ⟨aSaleRefuse, iSaleRefuse, kSaleRefuse⟩,
    FSaleTakeBack := fun_mk (st := sSaleTakeBack) lSaleTakeBack cSaleTakeBack kSaleTakeBack,
    bSaleTakeBack := Fun.binds (fun_mk (st := sSaleTakeBack) lSaleTakeBack cSaleTakeBack kSaleTakeBack) (ps := pSaleTakeBack) fun _ _ _ _ _ _ us hl => match us, hl with | [_, _], _ => rfl,
    mSaleTakeBack := ⟨aSaleTakeBack, iSaleTakeBack, kSaleTakeBack⟩,
    FSaleStands := fun_mk (st := sSaleStands) lSaleStands cSaleStands kSaleStands,
    bSaleStands := Fun.binds (fun_mk (st := sSaleStands) lSaleStands cSaleStands kSaleStands) (ps := pSaleStands) fun _ _ _ _ _ _ us hl => match us, hl with | [_, _], _ => rfl,
    mSaleStands := ⟨aSaleStands, iSaleStands, kSaleStands⟩,
    FSaleRefused := fun_mk (st := sSaleRefused) lSaleRefused cSaleRefused kSaleRefused,
    bSaleRefused := Fun.binds (fun_mk (st := sSaleRefused) lSaleRefused cSaleRefused kSaleRefused) (ps := pSaleRefused) fun _ _ _ _ _ _ us hl => match us, hl with | [_], _ => rfl,
    mSaleRefused := ⟨aSaleRefused, iSaleRefused, kSaleRefused⟩,
    FSaleStanding := fun_mk (st := sSaleStanding) lSaleStanding cSaleStanding kSaleStanding,
    bSaleStanding := Fun.binds (fun_mk (st := sSaleStanding) lSaleStanding cSaleStanding kSaleStanding) (ps := pSaleStanding) fun _ _ _ _ _ _ us hl => match us, hl with | [_], _ => rfl,
    mSaleStanding := ⟨aSaleStanding, iSaleStanding, kSaleStanding⟩,
    FSaleLen := fun_mk (st := sSaleLen) lSaleLen cSaleLen kSaleLen,
    bSaleLen := Fun.binds (fun_mk (st := sSaleLen) lSaleLen cSaleLen kSaleLen) (ps := pSaleLen) fun _ _ _ _ _ _ us hl => match us, hl with | [_], _ => rfl,
    mSaleLen := ⟨aSaleLen, iSaleLen, kSaleLen⟩,
    FSaleWeight := fun_mk (st := sSaleWeight) lSaleWeight cSaleWeight kSaleWeight,
    bSaleWeight := Fun.binds (fun_mk (st := sSaleWeight) lSaleWeight cSaleWeight kSaleWeight) (ps := pSaleWeight) fun _ _ _ _ _ _ us hl => match us, hl with | [_], _ => rfl,
    mSaleWeight := ⟨aSaleWeight, iSaleWeight, kSaleWeight⟩,
    FSaleMovedPrice := fun_mk (st := sSaleMovedPrice) lSaleMovedPrice cSaleMovedPrice kSaleMovedPrice,
    bSaleMovedPrice := Fun.binds (fun_mk (st := sSaleMovedPrice) lSaleMovedPrice cSaleMovedPrice kSaleMovedPrice) (ps := pSaleMovedPrice) fun _ _ _ _ _ _ us hl => match us, hl with | [_], _ => rfl,
    mSaleMovedPrice := ⟨aSaleMovedPrice, iSaleMovedPrice, kSaleMovedPrice⟩,
    FSaleLots := fun_mk (st := sSaleLots) lSaleLots cSaleLots kSaleLots,
    bSaleLots := Fun.binds (fun_mk (st := sSaleLots) lSaleLots cSaleLots kSaleLots) (ps := pSaleLots) fun _ _ _ _ _ _ us hl => match us, hl with | [_], _ => rfl,
    mSaleLots := ⟨aSaleLots, iSaleLots, kSaleLots⟩,
    FSaleSums := fun_mk (st := sSaleSums) lSaleSums cSaleSums kSaleSums,
    bSaleSums := Fun.binds (fun_mk (st := sSaleSums) lSaleSums cSaleSums kSaleSums) (ps := pSaleSums) fun _ _ _ _ _ _ us hl => match us, hl with | [_], _ => rfl,
    mSaleSums := ⟨aSaleSums, iSaleSums, kSaleSums⟩,
    FSaleTold := fun_mk (st := sSaleTold) lSaleTold cSaleTold kSaleTold,
    bSaleTold := Fun.binds (fun_mk (st := sSaleTold) lSaleTold cSaleTold kSaleTold) (ps := pSaleTold) fun _ _ _ _ _ _ us hl => match us, hl with | [_], _ => rfl,
    mSaleTold := ⟨aSaleTold, iSaleTold, kSaleTold⟩,
    FSaleUndone := fun_mk (st := sSaleUndone) lSaleUndone cSaleUndone kSaleUndone,
    bSaleUndone := Fun.binds (fun_mk (st := sSaleUndone) lSaleUndone cSaleUndone kSaleUndone) (ps := pSaleUndone) fun _ _ _ _ _ _ us hl => match us, hl with | [_], _ => rfl,
    mSaleUndone := ⟨aSaleUndone, iSaleUndone, kSaleUndone⟩,
    FSaleStr := fun_mk (st := sSaleStr) lSaleStr cSaleStr kSaleStr,
    bSaleStr := Fun.binds (fun_mk (st := sSaleStr) lSaleStr cSaleStr kSaleStr) (ps := pSaleStr) fun _ _ _ _ _ _ us hl => match us, hl with | [_], _ => rfl,
    mSaleStr := ⟨aSaleStr, iSaleStr, kSaleStr⟩,
    FSaleRepr := fun_mk (st := sSaleRepr) lSaleRepr cSaleRepr kSaleRepr,
    bSaleRepr := Fun.binds (fun_mk (st := sSaleRepr) lSaleRepr cSaleRepr kSaleRepr) (ps := pSaleRepr) fun _ _ _ _ _ _ us hl => match us, hl with | [_], _ => rfl,
    mSaleRepr := ⟨aSaleRepr, iSaleRepr, kSaleRepr⟩,
    FLCellAt := fun_mk (st := sLCellAt) lLCellAt cLCellAt kLCellAt,
    bLCellAt := Fun.binds (fun_mk (st := sLCellAt) lLCellAt cLCellAt kLCellAt) (ps := pLCellAt) fun _ _ _ _ _ _ us hl => match us, hl with | [_, _], _ => rfl,
    gLCellAt := PySem.W.mg_of X G aLCellAt,
    FLWell := fun_mk (st := sLWell) lLWell cLWell kLWell,
    bLWell := Fun.binds (fun_mk (st := sLWell) lLWell cLWell kLWell) (ps := pLWell) fun _ _ _ _ _ _ us hl => match us, hl with | [_], _ => rfl,
    gLWell := PySem.W.mg_of X G aLWell,
    FLDraw := fun_mk (st := sLDraw) lLDraw cLDraw kLDraw,
    bLDraw := Fun.binds (fun_mk (st := sLDraw) lLDraw cLDraw kLDraw) (ps := pLDraw) fun _ _ _ _ _ _ us hl => match us, hl with | [_, _], _ => rfl,
    gLDraw := PySem.W.mg_of X G aLDraw,
    FLNames := fun_mk (st := sLNames) lLNames cLNames kLNames,
    bLNames := Fun.binds (fun_mk (st := sLNames) lLNames cLNames kLNames) (ps := pLNames) fun _ _ _ _ _ _ us hl => match us, hl with | [_, _], _ => rfl,
    gLNames := PySem.W.mg_of X G aLNames,
    FLShares := fun_mk (st := sLShares) lLShares cLShares kLShares,
    bLShares := Fun.binds (fun_mk (st := sLShares) lLShares cLShares kLShares) (ps := pLShares) fun _ _ _ _ _ _ us hl => match us, hl with | [_], _ => rfl,
    gLShares := PySem.W.mg_of X G aLShares,
    FLUnits := fun_mk (st := sLUnits) lLUnits cLUnits kLUnits,
    bLUnits := Fun.binds (fun_mk (st := sLUnits) lLUnits cLUnits kLUnits) (ps := pLUnits) fun _ _ _ _ _ _ us hl => match us, hl with | [_, _, _], _ => rfl,
    CLUnits := ⟨⟨_, _, _, _, _, _, _, _, rfl, lLUnits, cLUnits⟩, kLUnits⟩,
    gLUnits := PySem.W.mg_of X G aLUnits,
    FLModel := fun_mk (st := sLModel) lLModel cLModel kLModel,
    bLModel := Fun.binds (fun_mk (st := sLModel) lLModel cLModel kLModel) (ps := pLModel) fun _ _ _ _ _ _ us hl => match us, hl with | [_], _ => rfl,
    gLModel := PySem.W.mg_of X G aLModel,
    FLWeighed := fun_mk (st := sLWeighed) lLWeighed cLWeighed kLWeighed,
    bLWeighed := Fun.binds (fun_mk (st := sLWeighed) lLWeighed cLWeighed kLWeighed) (ps := pLWeighed) fun _ _ _ _ _ _ us hl => match us, hl with | [_], _ => rfl,
    gLWeighed := PySem.W.mg_of X G aLWeighed,
    FLPriced := fun_mk (st := sLPriced) lLPriced cLPriced kLPriced,
    bLPriced := Fun.binds (fun_mk (st := sLPriced) lLPriced cLPriced kLPriced) (ps := pLPriced) fun _ _ _ _ _ _ us hl => match us, hl with | [_], _ => rfl,
    gLPriced := PySem.W.mg_of X G aLPriced,
    FLLots := fun_mk (st := sLLots) lLLots cLLots kLLots,
    bLLots := Fun.binds (fun_mk (st := sLLots) lLLots cLLots kLLots) (ps := pLLots) fun _ _ _ _ _ _ us hl => match us, hl with | [_], _ => rfl,
    gLLots := PySem.W.mg_of X G aLLots,
    FLMade := fun_mk (st := sLMade) lLMade cLMade kLMade,
    bLMade := Fun.binds (fun_mk (st := sLMade) lLMade cLMade kLMade) (ps := pLMade) fun _ _ _ _ _ _ us hl => match us, hl with | [_, _], _ => rfl,
    gLMade := PySem.W.mg_of X G aLMade,
    FLRight := fun_mk (st := sLRight) lLRight cLRight kLRight,
    bLRight := Fun.binds (fun_mk (st := sLRight) lLRight cLRight kLRight) (ps := pLRight) fun _ _ _ _ _ _ us hl => match us, hl with | [_, _], _ => rfl,
    gLRight := PySem.W.mg_of X G aLRight,
    FLSaid := fun_mk (st := sLSaid) lLSaid cLSaid kLSaid,
    bLSaid := Fun.binds (fun_mk (st := sLSaid) lLSaid cLSaid kLSaid) (ps := pLSaid) fun _ _ _ _ _ _ us hl => match us, hl with | [_, _, _], _ => rfl,
    gLSaid := PySem.W.mg_of X G aLSaid,
    FLDue := fun_mk (st := sLDue) lLDue cLDue kLDue,
    bLDue := Fun.binds (fun_mk (st := sLDue) lLDue cLDue kLDue) (ps := pLDue) fun _ _ _ _ _ _ us hl => match us, hl with | [_, _, _], _ => rfl,
    gLDue := PySem.W.mg_of X G aLDue,
    FLMark := fun_mk (st := sLMark) lLMark cLMark kLMark,
    bLMark := Fun.binds (fun_mk (st := sLMark) lLMark cLMark kLMark) (ps := pLMark) fun _ _ _ _ _ _ us hl => match us, hl with | [_, _], _ => rfl,
    gLMark := PySem.W.mg_of X G aLMark,
    FLDeed := fun_mk (st := sLDeed) lLDeed cLDeed kLDeed,
    bLDeed := Fun.binds (fun_mk (st := sLDeed) lLDeed cLDeed kLDeed) (ps := pLDeed) fun _ _ _ _ _ _ us hl => match us, hl with | [_], _ => rfl,
    gLDeed := PySem.W.mg_of X G aLDeed,
    FLaw := fun_mk (st := sLaw) lLaw cLaw kLaw,
    bLaw := Fun.binds (fun_mk (st := sLaw) lLaw cLaw kLaw) (ps := pLaw) fun _ _ _ _ _ _ us hl => match us, hl with | [_], _ => rfl,
    gLaw := PySem.W.mg_of X G aLaw,
    CLot := ⟨pgLot, hdLot, poLot, saLot⟩,
    CSale := ⟨pgSale, hdSale, poSale, saSale⟩,
    gBreakError := PySem.W.mg_of X G acBreakError,
    gNoChest := PySem.W.mg_of X G acNoChest,
    gLot := PySem.W.mg_of X G acLot,
    gSale := PySem.W.mg_of X G acSale,
    nS_scaled := xnS_scaled,
    nS_told_price := xnS_told_price,
    nS_buyers := xnS_buyers,
    nS_to := xnS_to,
    nS_move := xnS_move,
    nS_drop := xnS_drop,
    nS_least := xnS_least,
    nS_out := xnS_out,
    nL_name := xnL_name,
    nL_units := xnL_units,
    nL_price := xnL_price,
    oNC := ⟨⟨_, _, _, _, _, _, _, _, _, _, _, _, _, _, _, xNC1, xNC2⟩, xNC3, xNC4, xNC5, xNC6⟩,
    iNC := aNoChestInit,
    tNC := xNC7,
    xNC := ⟨yNC1, yNC2, xNC4, yNC3⟩,
    nNC := yNC4,
    eNC := exm_self xNC4 yNC5 xNC5 yNC6,
    bBE := ⟨zB1, zB2, zB3⟩,
    lenS := aSaleLen,
    strS := aSaleStr,
    repS := aSaleRepr,
    fmtS := ⟨zF1, zF2, aSaleStr, iSaleStr⟩,
    gTURNS := PySem.W.mg_of X G aaTURNS,
    KTURNS := ⟨kd1TURNS, kd2TURNS, kd3TURNS⟩,
    iTURNSFirst := iTURNSFirst,
    iTURNSLast := iTURNSLast,
    iTURNSGreatest := iTURNSGreatest,
    gMOVES := PySem.W.mg_of X G aaMOVES,
    KMOVES := ⟨kd1MOVES, kd2MOVES, kd3MOVES⟩,
    iMOVESKeep := iMOVESKeep,
    iMOVESFall := iMOVESFall,
    iMOVESCut := iMOVESCut,
    vMostWeight := ⟨_, PySem.W.mg_of X G vvMostWeight, ⟨_, rfl⟩⟩,
    vMostChests := ⟨_, PySem.W.mg_of X G vvMostChests, ⟨_, rfl⟩⟩,
    vMostShares := ⟨_, PySem.W.mg_of X G vvMostShares, ⟨_, rfl⟩⟩,
    vMostPrice := ⟨_, PySem.W.mg_of X G vvMostPrice, ⟨_, rfl⟩⟩,
    vLETTERS := ⟨_, PySem.W.mg_of X G vvLETTERS, ⟨_, rfl⟩⟩,
    nPGU := nPGU,
    zIsinstance := PySem.W.mg_none_of X G qzIsinstance,
    zInt := PySem.W.mg_none_of X G qzInt,
    zBool := PySem.W.mg_none_of X G qzBool,
    zStr := PySem.W.mg_none_of X G qzStr,
    zTuple := PySem.W.mg_none_of X G qzTuple,
    zList := PySem.W.mg_none_of X G qzList,
    zLen := PySem.W.mg_none_of X G qzLen,
    zAll := PySem.W.mg_none_of X G qzAll,
    zMax := PySem.W.mg_none_of X G qzMax,
    zMin := PySem.W.mg_none_of X G qzMin,
    zSum := PySem.W.mg_none_of X G qzSum,
    zSorted := PySem.W.mg_none_of X G qzSorted,
    zRange := PySem.W.mg_none_of X G qzRange,
    zReversed := PySem.W.mg_none_of X G qzReversed,
    zEnumerate := PySem.W.mg_none_of X G qzEnumerate,
    zZip := PySem.W.mg_none_of X G qzZip,
    zDict := PySem.W.mg_none_of X G qzDict,
    zRepr := PySem.W.mg_none_of X G qzRepr
  }, rfl, rfl, rfl, rfl, rfl, oG, oU, hG, hU⟩
end Kx
set_option maxHeartbeats 4000000
namespace Kx
open PySem PySem.Spec PyProof.Rows L2
theorem law_binds {K : PySem.W.Frag} {f : Addr} {fd : FuncData} (F : Fun K "law" "law" sLaw f fd) (s : Shared) (u : Value) : BindsTo s fd ⟨[u], []⟩ [(("_law_script" : Str), u)] := by
  obtain ⟨oc, od, kV, doc, pm, an, cdv, ct, osl, rfl, lk, hcd⟩ := F.ex
  exact BindsTo.of_eq rfl
theorem law_at {w : World} {K : PySem.W.Frag} {mg : Str → Option Value} {fa : Addr} {h : Heap} {l : PySem.W.OpenLaw} (T : Txt K mg w) (KX : K.In h) (hm : mg "law" = some (.ref fa)) (o1 : K.lookup T.PG = none) (o2 : K.lookup T.PU = none)
    (hG : PySem.W.codeHdIn K T.cG T.PG = true) (hU : PySem.W.codeHdIn K T.cU T.PU = true) (tG : h.get? T.PG = some (PySem.W.tabObj #[])) (tU : h.get? T.PU = some (PySem.W.tabObj #[])) : LamX.LawAtS l w K CX0 10 63 "_law_script" mg fa h := by
  have e := T.gLaw
  rw [hm] at e
  obtain rfl : fa = T.fLaw := Value.ref.inj (Option.some.inj e)
  refine ⟨T.dLaw, [(T.cG, T.PG), (T.cU, T.PU)], spLaw T, fun p hp => ?_, fun p hp => ?_, fun p hp => ?_, fun s u => law_binds T.FLaw s u, fun H a ns hl _ ht hs => ⟨a, ns, rfl, hs, hl, fun p hp => ?_, fun H' => rfl⟩, fun base KB GB hT => ok_law T ⟨hT _ (List.mem_cons_self ..), hT _ (List.mem_cons_of_mem _ (List.mem_cons_self ..))⟩⟩
  · rcases List.mem_cons.mp hp with rfl | hp
    · exact tG
    · rw [List.mem_singleton.mp hp]
      exact tU
  · rcases List.mem_cons.mp hp with rfl | hp
    · exact o1
    · rw [List.mem_singleton.mp hp]
      exact o2
  · rcases List.mem_cons.mp hp with rfl | hp
    · exact PySem.W.codeHd_of_K KX hG
    · rw [List.mem_singleton.mp hp]
      exact PySem.W.codeHd_of_K KX hU
  · rcases List.mem_cons.mp hp with rfl | hp
    · exact LamX.TabS.nil (ht _ (List.mem_cons_self ..))
    · rw [List.mem_singleton.mp hp]
      exact LamX.TabS.nil (ht _ (List.mem_cons_of_mem _ (List.mem_cons_self ..)))
theorem law_end {w : World} {K : PySem.W.Frag} {mg : Str → Option Value} {fa : Addr} {h : Heap} {l : PySem.W.OpenLaw} {cG PG cU PU fLaw : Addr} (KX : K.In h) (hm : mg "law" = some (.ref fa)) (tG : h.get? PG = some (PySem.W.tabObj #[])) (tU : h.get? PU = some (PySem.W.tabObj #[]))
    (F : ∃ T : Txt K mg w, T.fLaw = fLaw ∧ T.cG = cG ∧ T.PG = PG ∧ T.cU = cU ∧ T.PU = PU ∧ K.lookup PG = none ∧ K.lookup PU = none ∧ PySem.W.codeHdIn K cG PG = true ∧ PySem.W.codeHdIn K cU PU = true) : LamX.LawAtS l w K CX0 10 63 "_law_script" mg fa h := by
  obtain ⟨T, rfl, rfl, rfl, rfl, rfl, o1, o2, hG, hU⟩ := F
  exact law_at T KX hm o1 o2 hG hU tG tU
end Kx
open PySem PySem.W PyProof.Rows
set_option maxHeartbeats 0
theorem PySem.Challenge.cw_chestbreaks_k77_whole_sales_by_turns_holds : PySem.Challenge.rw_chestbreaks_k77_whole_sales_by_turns.Holds := by
  w_on; o_law; k_head; (case hw => w_witness2)
  k_fill
  refine LamX.walk_ofTs (n := 63) (k := 10) (CX := fun _ => L2.CX0) (x := "_law_script") rfl (by decide) rfl ⟨rfl, by decide, by decide⟩ (fun w h Y => PySem.W.km_in_of Y) ?F (fun w H s e s' h => h)
  case F =>
    intro w mg fa h Y KX G hmg
    have hT1 : h.get? 159 = some (PySem.W.tabObj #[]) := PySem.W.km_tabs_of Y _ (by decide)
    have hT2 : h.get? 430 = some (PySem.W.tabObj #[]) := PySem.W.km_tabs_of Y _ (by decide)
    refine' Kx.law_end (PG := 159) (PU := 430) KX hmg hT1 hT2 ?A
    case A =>
      refine' Kx.all_mk (w := w) KX G ?acBreakError ?acNoChest ?acLot ?acSale ?aNoChestInit ?iNoChestInit ?lNoChestInit ?cNoChestInit ?kNoChestInit ?aIsWhole ?lIsWhole ?cIsWhole ?kIsWhole ?aIsName ?lIsName ?cIsName ?kIsName ?aIsFrom ?lIsFrom ?cIsFrom ?kIsFrom ?aIsPair ?lIsPair ?cIsPair ?kIsPair ?aCheckPairs ?lCheckPairs ?cCheckPairs ?kCheckPairs ?aFromFirst ?lFromFirst ?cFromFirst ?kFromFirst ?aFromLast ?lFromLast ?cFromLast ?kFromLast ?aFromGreatest ?lFromGreatest ?cFromGreatest ?kFromGreatest ?aWantTurn ?lWantTurn ?cWantTurn ?kWantTurn ?aWithOdd ?lWithOdd ?cWithOdd ?kWithOdd ?aParted ?lParted ?cParted ?kParted ?tParted ?aLotInit ?iLotInit ?lLotInit ?cLotInit ?kLotInit ?tLotInit ?mkLot ?kcLot ?aLotOwed ?iLotOwed ?lLotOwed ?cLotOwed ?kLotOwed ?aKeptPrice ?lKeptPrice ?cKeptPrice ?kKeptPrice ?aFallenPrice ?lFallenPrice ?cFallenPrice ?kFallenPrice ?aCutPrice ?lCutPrice ?cCutPrice ?kCutPrice ?aSaleInit ?iSaleInit ?lSaleInit ?cSaleInit ?kSaleInit ?tSaleInit ?mkSale ?kcSale ?aSaleWantChest ?iSaleWantChest ?lSaleWantChest ?cSaleWantChest ?kSaleWantChest ?aSaleRefuse ?iSaleRefuse ?lSaleRefuse ?cSaleRefuse ?kSaleRefuse ?aSaleTakeBack ?iSaleTakeBack ?lSaleTakeBack ?cSaleTakeBack ?kSaleTakeBack ?aSaleStands ?iSaleStands ?lSaleStands ?cSaleStands ?kSaleStands ?aSaleRefused ?iSaleRefused ?lSaleRefused ?cSaleRefused ?kSaleRefused ?aSaleStanding ?iSaleStanding ?lSaleStanding ?cSaleStanding ?kSaleStanding ?aSaleLen ?iSaleLen ?lSaleLen ?cSaleLen ?kSaleLen ?aSaleWeight ?iSaleWeight ?lSaleWeight ?cSaleWeight ?kSaleWeight ?aSaleMovedPrice ?iSaleMovedPrice ?lSaleMovedPrice ?cSaleMovedPrice ?kSaleMovedPrice ?aSaleLots ?iSaleLots ?lSaleLots ?cSaleLots ?kSaleLots ?aSaleSums ?iSaleSums ?lSaleSums ?cSaleSums ?kSaleSums ?aSaleTold ?iSaleTold ?lSaleTold ?cSaleTold ?kSaleTold ?aSaleUndone ?iSaleUndone ?lSaleUndone ?cSaleUndone ?kSaleUndone ?aSaleStr ?iSaleStr ?lSaleStr ?cSaleStr ?kSaleStr ?aSaleRepr ?iSaleRepr ?lSaleRepr ?cSaleRepr ?kSaleRepr ?aLCellAt ?lLCellAt ?cLCellAt ?kLCellAt ?aLWell ?lLWell ?cLWell ?kLWell ?aLDraw ?lLDraw ?cLDraw ?kLDraw ?aLNames ?lLNames ?cLNames ?kLNames ?aLShares ?lLShares ?cLShares ?kLShares ?aLUnits ?lLUnits ?cLUnits ?kLUnits ?aLModel ?lLModel ?cLModel ?kLModel ?aLWeighed ?lLWeighed ?cLWeighed ?kLWeighed ?aLPriced ?lLPriced ?cLPriced ?kLPriced ?aLLots ?lLLots ?cLLots ?kLLots ?aLMade ?lLMade ?cLMade ?kLMade ?aLRight ?lLRight ?cLRight ?kLRight ?aLSaid ?lLSaid ?cLSaid ?kLSaid ?aLDue ?lLDue ?cLDue ?kLDue ?aLMark ?lLMark ?cLMark ?kLMark ?aLDeed ?lLDeed ?cLDeed ?kLDeed ?aLaw ?lLaw ?cLaw ?kLaw ?pgLot ?hdLot ?poLot ?saLot ?pgSale ?hdSale ?poSale ?saSale ?xnS_scaled ?xnS_told_price ?xnS_buyers ?xnS_to ?xnS_move ?xnS_drop ?xnS_least ?xnS_out ?xnL_name ?xnL_units ?xnL_price ?xNC1 ?xNC2 ?xNC3 ?xNC4 ?xNC5 ?xNC6 ?xNC7 ?yNC1 ?yNC2 ?yNC3 ?yNC4 ?yNC5 ?yNC6 ?zB1 ?zB2 ?zB3 ?zF1 ?zF2 ?aaTURNS ?kd1TURNS ?kd2TURNS ?kd3TURNS ?iTURNSFirst ?iTURNSLast ?iTURNSGreatest ?aaMOVES ?kd1MOVES ?kd2MOVES ?kd3MOVES ?iMOVESKeep ?iMOVESFall ?iMOVESCut ?vvMostWeight ?vvMostChests ?vvMostShares ?vvMostPrice ?vvLETTERS ?qzIsinstance ?qzInt ?qzBool ?qzStr ?qzTuple ?qzList ?qzLen ?qzAll ?qzMax ?qzMin ?qzSum ?qzSorted ?qzRange ?qzReversed ?qzEnumerate ?qzZip ?qzDict ?qzRepr ?tG ?tU ?nPGU ?hG ?hU ?oG ?oU
      (case acBreakError => k_is)
      (case acNoChest => k_is)
      (case acLot => k_is)
      (case acSale => k_is)
      (case aNoChestInit => k_is)
      (case iNoChestInit => k_is)
      (case lNoChestInit => k_is)
      (case cNoChestInit => k_is)
      (case kNoChestInit => k_is)
      (case aIsWhole => k_is)
      (case lIsWhole => k_is)
      (case cIsWhole => k_is)
      (case kIsWhole => k_is)
      (case aIsName => k_is)
      (case lIsName => k_is)
      (case cIsName => k_is)
      (case kIsName => k_is)
      (case aIsFrom => k_is)
      (case lIsFrom => k_is)
      (case cIsFrom => k_is)
      (case kIsFrom => k_is)
      (case aIsPair => k_is)
      (case lIsPair => k_is)
      (case cIsPair => k_is)
      (case kIsPair => k_is)
      (case aCheckPairs => k_is)
      (case lCheckPairs => k_is)
      (case cCheckPairs => k_is)
      (case kCheckPairs => k_is)
      (case aFromFirst => k_is)
      (case lFromFirst => k_is)
      (case cFromFirst => k_is)
      (case kFromFirst => k_is)
      (case aFromLast => k_is)
      (case lFromLast => k_is)
      (case cFromLast => k_is)
      (case kFromLast => k_is)
      (case aFromGreatest => k_is)
      (case lFromGreatest => k_is)
      (case cFromGreatest => k_is)
      (case kFromGreatest => k_is)
      (case aWantTurn => k_is)
      (case lWantTurn => k_is)
      (case cWantTurn => k_is)
      (case kWantTurn => k_is)
      (case aWithOdd => k_is)
      (case lWithOdd => k_is)
      (case cWithOdd => k_is)
      (case kWithOdd => k_is)
      (case aParted => k_is)
      (case lParted => k_is)
      (case cParted => k_is)
      (case kParted => k_is)
      (case tParted => k_is)
      (case aLotInit => k_is)
      (case iLotInit => k_is)
      (case lLotInit => k_is)
      (case cLotInit => k_is)
      (case kLotInit => k_is)
      (case tLotInit => k_is)
      (case mkLot => k_is)
      (case kcLot => k_is)
      (case aLotOwed => k_is)
      (case iLotOwed => k_is)
      (case lLotOwed => k_is)
      (case cLotOwed => k_is)
      (case kLotOwed => k_is)
      (case aKeptPrice => k_is)
      (case lKeptPrice => k_is)
      (case cKeptPrice => k_is)
      (case kKeptPrice => k_is)
      (case aFallenPrice => k_is)
      (case lFallenPrice => k_is)
      (case cFallenPrice => k_is)
      (case kFallenPrice => k_is)
      (case aCutPrice => k_is)
      (case lCutPrice => k_is)
      (case cCutPrice => k_is)
      (case kCutPrice => k_is)
      (case aSaleInit => k_is)
      (case iSaleInit => k_is)
      (case lSaleInit => k_is)
      (case cSaleInit => k_is)
      (case kSaleInit => k_is)
      (case tSaleInit => k_is)
      (case mkSale => k_is)
      (case kcSale => k_is)
      (case aSaleWantChest => k_is)
      (case iSaleWantChest => k_is)
      (case lSaleWantChest => k_is)
      (case cSaleWantChest => k_is)
      (case kSaleWantChest => k_is)
      (case aSaleRefuse => k_is)
      (case iSaleRefuse => k_is)
      (case lSaleRefuse => k_is)
      (case cSaleRefuse => k_is)
      (case kSaleRefuse => k_is)
      (case aSaleTakeBack => k_is)
      (case iSaleTakeBack => k_is)
      (case lSaleTakeBack => k_is)
      (case cSaleTakeBack => k_is)
      (case kSaleTakeBack => k_is)
      (case aSaleStands => k_is)
      (case iSaleStands => k_is)
      (case lSaleStands => k_is)
      (case cSaleStands => k_is)
      (case kSaleStands => k_is)
      (case aSaleRefused => k_is)
      (case iSaleRefused => k_is)
      (case lSaleRefused => k_is)
      (case cSaleRefused => k_is)
      (case kSaleRefused => k_is)
      (case aSaleStanding => k_is)
      (case iSaleStanding => k_is)
      (case lSaleStanding => k_is)
      (case cSaleStanding => k_is)
      (case kSaleStanding => k_is)
      (case aSaleLen => k_is)
      (case iSaleLen => k_is)
      (case lSaleLen => k_is)
      (case cSaleLen => k_is)
      (case kSaleLen => k_is)
      (case aSaleWeight => k_is)
      (case iSaleWeight => k_is)
      (case lSaleWeight => k_is)
      (case cSaleWeight => k_is)
      (case kSaleWeight => k_is)
      (case aSaleMovedPrice => k_is)
      (case iSaleMovedPrice => k_is)
      (case lSaleMovedPrice => k_is)
      (case cSaleMovedPrice => k_is)
      (case kSaleMovedPrice => k_is)
      (case aSaleLots => k_is)
      (case iSaleLots => k_is)
      (case lSaleLots => k_is)
      (case cSaleLots => k_is)
      (case kSaleLots => k_is)
      (case aSaleSums => k_is)
      (case iSaleSums => k_is)
      (case lSaleSums => k_is)
      (case cSaleSums => k_is)
      (case kSaleSums => k_is)
      (case aSaleTold => k_is)
      (case iSaleTold => k_is)
      (case lSaleTold => k_is)
      (case cSaleTold => k_is)
      (case kSaleTold => k_is)
      (case aSaleUndone => k_is)
      (case iSaleUndone => k_is)
      (case lSaleUndone => k_is)
      (case cSaleUndone => k_is)
      (case kSaleUndone => k_is)
      (case aSaleStr => k_is)
      (case iSaleStr => k_is)
      (case lSaleStr => k_is)
      (case cSaleStr => k_is)
      (case kSaleStr => k_is)
      (case aSaleRepr => k_is)
      (case iSaleRepr => k_is)
      (case lSaleRepr => k_is)
      (case cSaleRepr => k_is)
      (case kSaleRepr => k_is)
      (case aLCellAt => k_is)
      (case lLCellAt => k_is)
      (case cLCellAt => k_is)
      (case kLCellAt => k_is)
      (case aLWell => k_is)
      (case lLWell => k_is)
      (case cLWell => k_is)
      (case kLWell => k_is)
      (case aLDraw => k_is)
      (case lLDraw => k_is)
      (case cLDraw => k_is)
      (case kLDraw => k_is)
      (case aLNames => k_is)
      (case lLNames => k_is)
      (case cLNames => k_is)
      (case kLNames => k_is)
      (case aLShares => k_is)
      (case lLShares => k_is)
      (case cLShares => k_is)
      (case kLShares => k_is)
      (case aLUnits => k_is)
      (case lLUnits => k_is)
      (case cLUnits => k_is)
      (case kLUnits => k_is)
      (case aLModel => k_is)
      (case lLModel => k_is)
      (case cLModel => k_is)
      (case kLModel => k_is)
      (case aLWeighed => k_is)
      (case lLWeighed => k_is)
      (case cLWeighed => k_is)
      (case kLWeighed => k_is)
      (case aLPriced => k_is)
      (case lLPriced => k_is)
      (case cLPriced => k_is)
      (case kLPriced => k_is)
      (case aLLots => k_is)
      (case lLLots => k_is)
      (case cLLots => k_is)
      (case kLLots => k_is)
      (case aLMade => k_is)
      (case lLMade => k_is)
      (case cLMade => k_is)
      (case kLMade => k_is)
      (case aLRight => k_is)
      (case lLRight => k_is)
      (case cLRight => k_is)
      (case kLRight => k_is)
      (case aLSaid => k_is)
      (case lLSaid => k_is)
      (case cLSaid => k_is)
      (case kLSaid => k_is)
      (case aLDue => k_is)
      (case lLDue => k_is)
      (case cLDue => k_is)
      (case kLDue => k_is)
      (case aLMark => k_is)
      (case lLMark => k_is)
      (case cLMark => k_is)
      (case kLMark => k_is)
      (case aLDeed => k_is)
      (case lLDeed => k_is)
      (case cLDeed => k_is)
      (case kLDeed => k_is)
      (case aLaw => k_is)
      (case lLaw => k_is)
      (case cLaw => k_is)
      (case kLaw => k_is)
      (case pgLot => k_is)
      (case hdLot => k_is)
      (case poLot => k_is)
      (case saLot => k_is)
      (case pgSale => k_is)
      (case hdSale => k_is)
      (case poSale => k_is)
      (case saSale => k_is)
      (case xnS_scaled => k_is)
      (case xnS_told_price => k_is)
      (case xnS_buyers => k_is)
      (case xnS_to => k_is)
      (case xnS_move => k_is)
      (case xnS_drop => k_is)
      (case xnS_least => k_is)
      (case xnS_out => k_is)
      (case xnL_name => k_is)
      (case xnL_units => k_is)
      (case xnL_price => k_is)
      (case xNC1 => k_is)
      (case xNC2 => first | rfl | decide +kernel | k_is)
      (case xNC3 => k_is)
      (case xNC4 => k_is)
      (case xNC5 => k_is)
      (case xNC6 => k_is)
      (case xNC7 => k_is)
      (case yNC1 => k_is)
      (case yNC2 => k_is)
      (case yNC3 => k_is)
      (case yNC4 => k_is)
      (case yNC5 => k_is)
      (case yNC6 => first | rfl | k_is)
      (case zB1 => k_is)
      (case zB2 => k_is)
      (case zB3 => k_is)
      (case zF1 => k_is)
      (case zF2 => k_is)
      (case aaTURNS => k_is)
      (case kd1TURNS => k_is)
      (case kd2TURNS => exact ⟨⟨_, _, rfl, rfl⟩, ⟨_, _, rfl, rfl⟩, ⟨_, _, rfl, rfl⟩, trivial⟩)
      (case kd3TURNS => first | rfl | k_is)
      (case iTURNSFirst => k_is)
      (case iTURNSLast => k_is)
      (case iTURNSGreatest => k_is)
      (case aaMOVES => k_is)
      (case kd1MOVES => k_is)
      (case kd2MOVES => exact ⟨⟨_, _, rfl, rfl⟩, ⟨_, _, rfl, rfl⟩, ⟨_, _, rfl, rfl⟩, trivial⟩)
      (case kd3MOVES => first | rfl | k_is)
      (case iMOVESKeep => k_is)
      (case iMOVESFall => k_is)
      (case iMOVESCut => k_is)
      (case vvMostWeight => k_is)
      (case vvMostChests => k_is)
      (case vvMostShares => k_is)
      (case vvMostPrice => k_is)
      (case vvLETTERS => k_is)
      (case qzIsinstance => k_is)
      (case qzInt => k_is)
      (case qzBool => k_is)
      (case qzStr => k_is)
      (case qzTuple => k_is)
      (case qzList => k_is)
      (case qzLen => k_is)
      (case qzAll => k_is)
      (case qzMax => k_is)
      (case qzMin => k_is)
      (case qzSum => k_is)
      (case qzSorted => k_is)
      (case qzRange => k_is)
      (case qzReversed => k_is)
      (case qzEnumerate => k_is)
      (case qzZip => k_is)
      (case qzDict => k_is)
      (case qzRepr => k_is)
      (case tG => kernel_rfl)
      (case tU => kernel_rfl)
      (case nPGU => decide)
      (case hG => kernel_rfl)
      (case hU => kernel_rfl)
      (case oG => kernel_rfl)
      (case oU => kernel_rfl)
