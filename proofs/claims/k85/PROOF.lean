import PyProof.Rows.All
import Wide.All
import OpenK.AllK
import Wide.FinOn
import KE.GoesEnumKw
import KE.KStateDown
import HandS.ForMost
import HandS.Exc
import HandS.ExcInit
import HandS.ExcIs
import HandS.ExcField
import HandS.TryOnly
import HandS.TryMany
import HandS.Lambda
import HandS.HotCalls
import HandS.IsInst
import HandS.SortKw
import HandS.WordsExc
import HandS.Wide
import HandS.Defaults
import HandS.HeadHook4
import HandS.HeadWalk
import HandS.RaiseMore
import HandS.ClsMeth
import KE.KExcIs
import HandS.Head0
import HandS.Head1
import HandS.Head2
import HandS.Steps
import HandS.Conv
import HandS.EndTab
import HandS.DictComp
import HandS.TupSets
import HandS.Small
import HandS.Deep
import HandS.Sort
import KE.SortKeyHeap
import HandS.Nested
import HandS.Iter
import HandS.Keys
import HandS.Strs
import PySem.Challenge.RW_seenenough_k85_whole_families_and_their
set_option Elab.async false
set_option linter.all false
section
set_option maxRecDepth 100000
set_option maxHeartbeats 4000000
namespace L2
open PySem PySem.Spec PyProof.Rows
/-! ### x[i] op= e over a list -/
theorem get_list {X : Cx} : PGet X (rIxL X.K) := by
  intro pins s σ H o i ov iv Q I rx ry h
  obtain ⟨p, xs, k, z, rfl, rfl, hq, he, q⟩ := h
  cases rx
  obtain ⟨t, rfl⟩ := ry
  obtain ⟨its, r, pl, hz⟩ := I.list hq
  obtain ⟨j, h1, h2, h3, h4, h5⟩ := atI_get he
  obtain ⟨w, ew, rw'⟩ := r.get h2
  have hl := r.length
  have hn := line63
  have fin : EP X pins σ Q w s := ⟨z, H, I, rw', q⟩
  by_cases h0 : 0 ≤ k
  · have hj : k.toNat = j := by
      rw [seqIndex_of h0 h5] at h1
      exact Option.some.inj h1
    exact wpAny_getItem_list pl.isList h0 (by omega) (by rw [hj]; simpa using ew) fin
  · have hj : (k + (its.toArray.size : Int)).toNat = j := by
      rw [seqIndex_neg (by omega) h4] at h1
      rw [List.size_toArray, ← hl]
      exact Option.some.inj h1
    exact wpAny_getItem_list_neg pl.isList (by omega) (by rw [List.size_toArray] <;> omega) (by omega) (by rw [hj]; simpa using ew) fin
/-! ### a, b = a list or a tuple -/
def gSeq (K : PySem.W.Frag) (n : Nat) (t : TGs) : TG := fun v σ H Q => gTup K n t v σ H Q ∨ gLst K n t v σ H Q
theorem pg_seq {X : Cx} {pos : Pos} {es : List Expr} {k : Nat} {t : TGs} {n : Nat} (hc : X.calm = true) (h : PGs X es t)
    (hn : (assignEach es X.env).length = n := by rfl) (hst : (assignEach es X.env).findIdx? (·.1) = none := by rfl) : PG X (.Tuple es k pos) (gSeq X.K n t) := by
  refine ⟨fun pins s σ H v u Q I r hw => ?_⟩
  rcases hw with hw | hw
  · exact (pg_tup hc h hn hst).run pins s σ H v u Q I r hw
  · exact (pg_lst hc h hn hst).run pins s σ H v u Q I r hw
/-! ### enumerate(list, start=k) -/
def IteS (K : PySem.W.Frag) (a : Addr) (k : Int) : It :=
  ⟨fun i H => ∃ (xs : List V) (x : V), SqL K H a xs ∧ xs[i]? = some x, fun i H v H' => ∃ T x, v = .ref T ∧ H T = none ∧ H' = upd H T (.tup [.int (k + (i : Nat)), x]) ∧ ∀ xs, SqL K H a xs → xs[i]? = some x, fun i H => ∃ xs : List V, SqL K H a xs ∧ xs.length ≤ i⟩
theorem turn_enumS {P : Program} {w : World} {K : PySem.W.Frag} {elts : List Expr} {kk : Nat} {tpos : Pos} (a e it : Addr) (k : Int) :
    Turn P w K (.Tuple elts kk tpos) (IteS K a k) [e, it] e (fun i h => (∃ old, IsEnum h e it (k + ((i : Nat) : Int)) old) ∧ h.IsListIter it a i ∧ e ≠ it) where
  mem := by simp
  obj := fun i h st b hb => by
    obtain ⟨⟨old, he⟩, ⟨o, ho, hc, hd⟩, _⟩ := st
    have e' : b = e ∨ b = it := by simpa using hb
    rcases e' with z | z
    · rw [z]; exact ⟨_, he, fun v q => nomatch q⟩
    · rw [z]; exact ⟨o, ho, fun v q => by rw [hd] at q; cases q⟩
  keep := fun i h h' st k => let ⟨⟨old, he⟩, hi, hne⟩ := st; ⟨⟨old, k e (by simp) _ he⟩, hi.at fun o q => k it (by simp) o q, hne⟩
  item := by
    intro X hP hw hK hc i pins s σ H E I hf st hg
    subst hP hw hK
    obtain ⟨⟨old, he⟩, hit, hne⟩ := st
    obtain ⟨xs, x, hq, hx⟩ := hg
    obtain ⟨its, rv, p, hz⟩ := I.list hq
    obtain ⟨u, hu, ru⟩ := rv.get hx
    have hel : e < s.heap.objs.size := Heap.lt_size he
    have hil : it < s.heap.objs.size := by obtain ⟨_, q, _⟩ := hit; exact Heap.lt_size q
    have hal : a ≠ it := fun z => by
      obtain ⟨o1, e1, c1, _⟩ := id hit
      obtain ⟨o2, e2, c2, _⟩ := id p.isList
      rw [z, e1] at e2
      have eo := Option.some.inj e2
      rw [eo, c2] at c1
      exact absurd (Value.type.inj c1) (by decide)
    have hea : e ∉ [it, a] := fun z => by
      rcases List.mem_cons.mp z with z | z
      · exact hne z
      · have z' := List.mem_singleton.mp z
        obtain ⟨o2, e2, c2, _⟩ := id p.isList
        have he' : s.heap.get? e = some _ := he
        rw [z', e2] at he'
        rw [Option.some.inj he'] at c2
        exact absurd (Value.type.inj c2) (by decide)
    refine wpAny_pyNext_enum_itemC (Draws.list (A := X.A.in1) (I.ok.hd hc) it a hal its.toArray) he ⟨hit, p.isList⟩ (by have := (List.getElem?_eq_some_iff.mp hu).1; simpa using this) hne hea fun u' h' tk hP ho hst' hT hsz hk => ?_
    obtain rfl : u' = u := by
      have hP' : its.toArray[i]? = some u' := hP
      rw [List.getElem?_toArray, hu] at hP'
      exact (Option.some.inj hP').symm
    obtain ⟨hit', _⟩ := hst'
    refine ⟨_, rfl, wpAny_letOwnedTupleGo_enum (s := { s with heap := h', toks := tk + 1 }) ho fun h'' he' sb => ?_⟩
    have hT2 : h''.get? s.heap.objs.size = some { cls := .type "tuple", data := .seq #[.int (k + i) tk, u'] } := (sb.2 _ (Nat.ne_of_gt hel)).trans hT
    have new : ObjOk X.prog X.w (upd H s.heap.objs.size (.tup [.int (k + (i : Nat)), x])) h'' s.heap.objs.size (.tup [.int (k + (i : Nat)), x]) :=
      ⟨by show 2 ≤ sizeLine; decide, [.int (k + i) tk, u'], .cons ⟨_, rfl⟩ (.cons ru .nil), ⟨_, hT2, rfl, _, rfl⟩⟩
    have I1 : Inv X pins σ (upd H s.heap.objs.size (.tup [.int (k + (i : Nat)), x])) { s with heap := h'', toks := tk + 1 } :=
      I.turnedNew (ch := [e, it]) (fun b ob hb q => (sb.2 b (fun z => hb (by simp [z]))).trans (hk b ob (fun z => hb (by simp [z])) (fun z => hb (by simp [z])) q)) hf (Nat.le_refl _) new
    refine ⟨.ref s.heap.objs.size, _, I1, rfl, ⟨_, x, rfl, I.hok.fresh (Nat.le_refl _), rfl, fun ys hy => by rw [I.list_inj hy hq]; exact hx⟩, ⟨⟨u', ?_⟩, hit'.at fun o q => (sb.2 it (Ne.symm hne)).trans q, hne⟩, fun b hb => ?_⟩
    · have e1 : k + ((i + 1 : Nat) : Int) = (k + (i : Int)) + 1 := by omega
      rw [e1]; exact he'
    · have hb' : b < s.heap.objs.size := by
        have e' : b = e ∨ b = it := by simpa using hb
        rcases e' with z | z
        · rw [z]; exact hel
        · rw [z]; exact hil
      rw [upd_ne (Nat.ne_of_lt hb')]
      exact (hf b hb).1
  done := by
    intro X hP hw hK hc i pins s σ H E I hf st hg
    subst hP hw hK
    obtain ⟨⟨old, he⟩, hit, hne⟩ := st
    obtain ⟨xs, hq, hx⟩ := hg
    obtain ⟨its, rv, p, hz⟩ := I.list hq
    obtain ⟨f0, f1, f2, f3, f4, f5⟩ := hf it (by simp)
    have hl := rv.length
    have hT : s.TypeIs (.ref e) "enumerate" := ⟨_, he, rfl⟩
    unfold pyNext
    refine wpAny_bind (wpAny_attempt (wpAny_callSpecial?_slot (name := Str.ofString "__next__") hT F.slot_enumerate_next
      (wpAny_call_entry F.slot_enumerate_next hT F.entry_enumerate_next ?_ (F.args_enumerate_next_1 _))))
    show wpAny _ _ (field (.ref e) 2 >>= _) _ _ _
    refine wpAny_bind (wpAny_field he rfl (x := .ref it) rfl ?_)
    refine wpAny_bind (wpAny_nextOf_list_end (show X.A.in1.handled = none from I.ok.hd hc) hit p.isList (by simp; omega) fun h' x eb hx' => ?_)
    obtain ⟨o, ho, hc'⟩ := hx'
    refine wpAny_bind (wpAny_isInstance (T := "StopIteration") (b := true) ⟨o, ho, hc'⟩ isSubtype_stop ?_)
    exact wpAny_pure ⟨rfl, I.turned (t' := s.toks) (fun b o hb q => eb b o hb q) f0 f1 f3 f4 f5⟩
  self := fun A i s Q E st h => let ⟨⟨_, he⟩, _⟩ := st; wpAny_pyIter_enum he h
def iEnumS (K : PySem.W.Frag) (ta tk : TA) : TI := fun σ H R => ta σ H fun vs H1 => tk σ H1 fun zs H2 => ∃ a xs k, vs = [.ref a] ∧ zs = [.int k] ∧ -(2 ^ 63) ≤ k ∧ k < 2 ^ 63 ∧ SqL K H2 a xs ∧ R (IteS K a k) H2
theorem callWith_typeK {M : Model} {A : Around} {E : Value → Shared → Prop} {s : Shared} {env : Env} {pos : Pos} {T : String} {e : Expr} {rest : List Expr} {kws : List Keyword} {Q : Value → Shared → Prop}
    (h : wpAny M A (spliced (backTo pos (starEach (e :: rest) env))) (fun vs s₁ => wpAny M A (evalAll ((backToKw pos (keywordEach kws env)).map (·.2)))
      (fun kvs s₂ => wpAny M A (call (.type T) vs (((backToKw pos (keywordEach kws env)).filterMap (·.1)).zip kvs)) Q E s₂) E s₁) E s)
    (he : backTo pos (starEach (e :: rest) env) = (false, eval e env) :: backTo pos (starEach rest env) := by rfl)
    (hplain : (backTo pos (starEach (e :: rest) env)).any (·.1) = false := by rfl)
    (hall : (backToKw pos (keywordEach kws env)).all (·.1.isSome) = true := by rfl)
    (hkw : (backToKw pos (keywordEach kws env)).any (·.1.isNone) = false := by rfl) :
    wpAny M A (callWith pos (.type T) [] (backTo pos (starEach (e :: rest) env)) (backToKw pos (keywordEach kws env))) Q E s := by
  have h2 : wpAny M A (evalArgs (.type T) true (backTo pos (starEach (e :: rest) env)) (backToKw pos (keywordEach kws env))) (fun a s₁ => wpAny M A (call (.type T) ([] ++ a.pos) a.kw) Q E s₁) E s := by
    rw [he] at h ⊢
    exact PyProof.Rows.evalArgs_kwB hall h
  unfold callWith
  refine wpAny_bind (wpAny_holding (wpAny_mono h2 (fun a s₁ h₁ => wpAny_bind (wpAny_standAt ?_)) fun _ _ x => x))
  simp only [hplain, hkw, Bool.or_false]
  refine wpAny_bind (wpAny_pure ?_)
  exact wpAny_bind (wpAny_mono h₁ (fun r s₂ hr => wpAny_bind (wpAny_holding (wpAny_point (wpAny_pure hr)))) fun _ _ x => x)
theorem pi_enumS {X : Cx} {e e2 : Expr} {ta tk : TA} {p pos tpos kpos : Pos} {elts : List Expr} {kk : Nat} (hg : Gl X "enumerate") (hm : X.mg "enumerate" = none) (ha : PA X [e] ta) (hk : PK X [⟨some (Str.ofString "start"), e2, kpos⟩] tk) (hs : starEach [e] X.env = [(false, eval e X.env)] := by rfl) :
    PI X (.Tuple elts kk tpos) (.Call (.Name "enumerate" p) [e] [⟨some (Str.ofString "start"), e2, kpos⟩] pos) (iEnumS X.K ta tk) := by
  refine ⟨fun pins s σ H R I h => ?_⟩
  refine wpAny_Call_Name_kw (ld_blt I hg hm boot_enumerate ?_)
  refine callWith_typeK (thn (ha.run pos pins s σ H _ I h) fun us s1 ⟨vs, H1, I1, r1, q1⟩ => thn (hk.run pos pins s1 σ H1 _ I1 q1) fun ws s2 ⟨zs, H2, I2, r2, q2⟩ => ?_) (by rw [hs]; rfl) (by rw [hs]; rfl)
  obtain ⟨a, xs, k, rfl, rfl, hk0, hk1, hq, q⟩ := q2
  obtain rfl := Vals.ref1 r1
  obtain ⟨w1, rfl, t, rfl⟩ := vals1 r2
  obtain ⟨its, rv, p', hz⟩ := I2.list hq
  show wpAny _ _ (call (.type "enumerate") [.ref a] [(Str.ofString "start", .int k t)]) _ _ _
  refine enum_begins_start (begins_list a its.toArray) p'.isList hk0 hk1 fun h' he hit hsz hkp => wpAny_pyIter_enum he ?_
  have I3 : Inv X pins σ H2 { s2 with heap := h' } := I2.kept (t' := s2.toks) hkp
  have he2 : IsEnum h' (s2.heap.objs.size + 1) s2.heap.objs.size (k + ((0 : Nat) : Int)) .none := by
    have : k + ((0 : Nat) : Int) = k := by omega
    rw [this]; exact he
  refine ⟨s2.heap.objs.size + 1, [s2.heap.objs.size + 1, s2.heap.objs.size], _, _, H2, rfl, I3, turn_enumS a (s2.heap.objs.size + 1) s2.heap.objs.size k, ⟨⟨.none, he2⟩, ⟨_, hit, rfl, rfl⟩, Nat.succ_ne_self _⟩, fun b hb => ?_, q⟩
  have e' : b = s2.heap.objs.size + 1 ∨ b = s2.heap.objs.size := by simpa using hb
  have hle : s2.heap.objs.size ≤ b := by
    rcases e' with z | z
    · rw [z]; exact Nat.le_add_right _ _
    · rw [z]; exact Nat.le_refl _
  exact I2.fpOk hle (I2.hok.fresh hle)
end L2
end
section
set_option maxRecDepth 100000
set_option maxHeartbeats 4000000
namespace L2
open PySem PySem.Spec PyProof.Rows
/-! ### Base.__init__(self, ..), Base an own class that has no __init__ of its own and descends from ValueError -/
structure SeTxt (K : PySem.W.Frag) (CS : Addr) : Prop where
  rd : PySem.W.readsIn K CS (.type "type") = true
  ga : PySem.W.specialIn K (.ref CS) "__getattribute__" = some (some (.builtin "type.__getattribute__"))
  at_ : PySem.W.findCls K (.ref CS) (.type "type") "__init__" = some (.val (.builtin "ValueError.__init__"))
def seB (K : PySem.W.Frag) (CS : Addr) : Bool := PySem.W.readsIn K CS (.type "type") && (decide (PySem.W.specialIn K (.ref CS) "__getattribute__" = some (some (.builtin "type.__getattribute__"))) && (match PySem.W.findCls K (.ref CS) (.type "type") "__init__" with
  | some (.val v) => decide (v = .builtin "ValueError.__init__")
  | _ => false))
theorem seB_ok {K : PySem.W.Frag} {CS : Addr} (h : seB K CS = true) : SeTxt K CS := by
  obtain ⟨h1, h2⟩ := Bool.and_eq_true_iff.mp h
  obtain ⟨h3, h4⟩ := Bool.and_eq_true_iff.mp h2
  refine ⟨h1, of_decide_eq_true h3, ?_⟩
  split at h4
  · rename_i v e
    rw [e, of_decide_eq_true h4]
  · cases h4
section
variable {X : Cx} {e : Expr} {es : List Expr} {ta : TA} {x : Str} {p1 p2 pos : Pos} {CS : Addr}
theorem pe_seinit {pl : Sem Bool} (T : SeTxt X.K CS) (hg : Gl X x) (hm : X.mg x = some (.ref CS)) (ha : PA X (e :: es) ta)
    (hdb : (x == ("__debug__" : Str)) = false := by decide)
    (hc : eval (.Call (.Attribute (.Name x p1) "__init__" p2) (e :: es) [] pos) X.env = (do
      let ov ← eval (.Name x p1) X.env
      standAt p2.atName
      let (f, first) ← holding [ov] (getMethod ov "__init__" pl)
      callWith pos f first (backTo pos (starEach (e :: es) X.env)) (backToKw pos (keywordEach [] X.env))) := by rfl)
    (he : starEach (e :: es) X.env = (false, eval e X.env) :: starEach es X.env := by rfl) (hpl : (backTo pos (starEach es X.env)).any (·.1) = false := by rfl) :
    PE X (.Call (.Attribute (.Name x p1) "__init__" p2) (e :: es) [] pos) (tVeI X.K ta) := by
  refine ⟨fun pins s σ H Q I h => ?_⟩
  refine PySem.W.methodCall_KW (ld_glob I hg hm ?_ hdb) hc
  obtain ⟨m, fr⟩ := I.fr
  refine PySem.W.method_of_cls fr I.ok.mod.kin T.ga ?_
  refine PySem.W.cls_value I.kIn T.rd T.at_ (by decide +kernel) ?_
  show wpAny _ _ (callWith pos (Value.builtin "ValueError.__init__") [] (backTo pos (starEach (e :: es) X.env)) []) _ _ _
  refine PyProof.Rows.callWith_method1 (thn (ha.run pos pins _ σ H _ (I.tok _) h) fun us s1 ⟨vs, H1, I1, r1, a, C, ws, ev, hl, T, ea, q⟩ => ?_) he hpl
  subst ev
  cases r1 with
  | @cons _ u0 _ ur ra rw' =>
    obtain rfl : u0 = Value.ref a := ra
    have hlen : ur.length ≤ sizeLine := by
      rw [← Paired.length rw', sizeLine_eq]
      omega
    exact oinit_ok T I1 ea hlen fun s' J => ⟨.non, H1, J, rfl, q⟩
end
end L2
end
section
set_option maxRecDepth 100000
set_option maxHeartbeats 4000000
namespace L2
open PySem PySem.Spec PyProof.Rows
/-! ### the exception that a context bears: its fields, its class -/
section
variable {X : Cx} {p : Addr × Obj} {cls : Value} {d : Option Addr} {C D : Addr} {n : Str} {e : Expr} {te : TE} {pos : Pos}
theorem pe_xfG (hp : p ∈ X.pn) (T : XfC X.K C) (hno : PySem.W.findIn X.K (.ref C) n = some none) (hz : Zc cls d p.2) (hf : ∃ vs, p.2.data = .fields vs) (he : PE X e te)
    (hb : attributeBase e n X.env (eval e X.env) = eval e X.env := by rfl) : PE X (.Attribute e n pos) (tXf p.1 cls d C n te) := by
  constructor
  intro pins s σ H Q I h
  refine attr_of hb (thn (he.run pins s σ H _ I h) ?_)
  rintro u s1 ⟨x, H1, I1, rx, rfl, rfl, dd, fs, v, rfl, ea, l, q⟩
  obtain rfl : u = Value.ref p.1 := rx
  have hget := (I1.pin p (List.mem_append_left _ hp)).1
  obtain ⟨vs, hdat⟩ := hf
  have hobj : ObjOk X.prog X.w H1 s1.heap dd (.xd fs) := I1.hok dd _ ea
  obtain ⟨mA, hns, hrel⟩ := hobj
  obtain ⟨od, hod, hlook⟩ := lookIn_ns hns
  obtain ⟨u2, hu2, ru2⟩ := RelO.some_of (v := v) (o := mA n) (by rw [← l]; exact hrel n)
  have at_ : PySem.W.InstAt s1.heap p.1 p.2 C (some od) := ⟨hget, hz.1, by unfold PySem.W.notCls; rw [hdat] <;> rfl, by rw [hz.2]; exact hod⟩
  exact HandSPX.exc_get I1.kIn at_ T.ga T.gg T.exC (PySem.W.findObj_own T.hdC hno rfl (by rw [hlook, hu2])) (handed_of ru2) ⟨v, H1, I1.tok _, ru2, q⟩
/-- isinstance(e, c), e the exception at p, of the class at D, its own dict at d -/
def rIsD (K : PySem.W.Frag) (D a d : Addr) : List V → Hp → VK → Prop := fun xs H Q => ∃ (c : V) (cv : Value) (b : Bool) (fs : List (Str × V)), xs = [.ref a, c] ∧ (∀ u, RelV c u → u = cv) ∧ H d = some (.xd fs) ∧ PySem.W.kitOne K (.ref D) cv = some b ∧ Q (.bl b) H
theorem call_isD {d : Addr} (hp : p ∈ X.pn) (T : ExcC X.K D) (hz : Zc (.ref D) (some d) p.2) (hf : ∃ vs, p.2.data = .fields vs) : CallR X (.builtin "isinstance") (rIsD X.K D p.1 d) := by
  intro pins s σ H xs us Q I r h
  obtain ⟨c, cv, b, fs, rfl, hcv, ed, hkit, q⟩ := h
  obtain ⟨u1, u2, rfl, r1, r2⟩ := vals2 r
  obtain rfl : u1 = Value.ref p.1 := r1
  obtain rfl : u2 = cv := hcv _ r2
  have hget := (I.pin p (List.mem_append_left _ hp)).1
  have hobj : ObjOk X.prog X.w H s.heap d (.xd fs) := I.hok d _ ed
  obtain ⟨mA, hns, hrel⟩ := hobj
  obtain ⟨od, hod, hlook⟩ := lookIn_ns hns
  obtain ⟨vs, hdat⟩ := hf
  have at_ : PySem.W.InstAt s.heap p.1 p.2 D (some od) := ⟨hget, hz.1, by unfold PySem.W.notCls; rw [hdat] <;> rfl, by rw [hz.2]; exact hod⟩
  have hcl : (PySem.W.clsIn X.K D).isSome = true := by
    obtain ⟨cd, hc, _⟩ := PySem.W.any_some T.hd
    rw [hc]; rfl
  exact PySem.W.kia_one (PySem.W.kitx_exc (gt := none) hcl T.hg T.hk T.hs T.ha T.hn T.ht T.hm) I.kIn at_ hkit (fun z => nomatch z) fun tk => ⟨.bl b, H, I.tok tk, rfl, q⟩
end
/-! ### a def that is handed the exception which an except suite holds -/
abbrev SpE := Addr → Value → Option Addr → Sp
structure FnE (P : Program) (w : World) (K : PySem.W.Frag) (mg : Str → Option Value) (base : Heap) (k : Nat) (f : Addr) (fd : FuncData) (ps : List Str) (sp : SpE) : Prop where
  len : ∀ a cls d vs H Q E, sp a cls d vs H Q E → vs.length = ps.length
  run : ∀ (A : Around) (outer : List Env) (s : Shared) (H : Hp) (args : Args) (us : List Value) (vs : List V) (Q : VK) (p : Addr × Obj) (cls : Value) (d : Option Addr), L2H.RoomH k A → Zc cls d p.2 → (∃ vs, p.2.data = .fields vs) → L2H.PinOk outer H s p →
    Env0 P w K mg base A outer s H → BindsTo s fd args (ps.zip us) → Vals vs us → sp p.1 cls d vs H Q E0 → codeAny (model P w) A (.call (.ref f) args) (CR CX0 outer P w H s Q E0) s
theorem fnE_of {P : Program} {w : World} {K : PySem.W.Frag} {mg : Str → Option Value} {base : Heap} {k : Nat} {f : Addr} {name qual : Str} {params : Arguments} {body : List Stmt} {scope : Scope} {dV kV doc pm cdv ct oc : Value} {an od : Option Addr}
    {osl : Array (Option Value)} {N ps : List Str} {sp : SpE} (lk : K.lookup f = some ⟨oc, od, .func (PySem.W.fnOf name qual params body scope dV kV doc pm an cdv ct), osl⟩) (hcd : PySem.W.codeIn K cdv qual = true) (S : FnScope N ps scope)
    (len : ∀ a cls d vs H Q E, sp a cls d vs H Q E → vs.length = ps.length)
    (hbody : ∀ (A : Around) (outer : List Env) (s : Shared) (H : Hp) (vs : List V) (Q : VK) (p : Addr × Obj) (cls : Value) (d : Option Addr), L2H.RoomH k (A.deeper (envOfC qual scope s.heap.objs.size f cdv)) → Zc cls d p.2 → (∃ vs, p.2.data = .fields vs) → sp p.1 cls d vs H Q E0 →
      ∃ t, PSs (L2H.cxH CX0 P w K mg base N qual scope f cdv A outer s H E0 p) body t ∧ t { nx := fun _ H' => Q .non H', rt := Q } (L2.start N vs) H) :
    FnE P w K mg base (k + 1) f (PySem.W.fnOf name qual params body scope dV kV doc pm an cdv ct) ps sp := by
  constructor
  · exact len
  intro A outer s H args us vs Q p cls d hr hz hf hpin e0 hb r hsp
  have hlen := len _ _ _ _ _ _ _ hsp
  have hK : K.In s.heap := e0.mod.kin.keeps fun b o e => (e0.bs b o e).1
  have hLim : s.heap.NoLimit := e0.mod.nolimit.keeps fun b o e => (e0.bs b o e).1
  have hpar : ∀ y ∈ ps.zip us, scope.names.lookup y.1 = some .local ∨ (scope.names.lookup y.1 = some .cell ∧ ((cellsFrom (s.heap.objs.size + 1) scope.names []).lookup y.1).isSome = true) := by
    rintro ⟨n, v⟩ hy
    exact (S.par n (List.of_mem_zip hy).1).imp id fun q => ⟨q, PySem.W.cellsFrom_some _ _ _ (.inl q)⟩
  refine codeAny_call_function hr.depth (hK _ _ lk) rfl S.co S.gen rfl (PySem.W.codeRec_of hK hcd) (hb _ _ _ _ ?_)
  refine wpAny_newFunctionEnv_cells S.kind hpar ?_
  rintro env rfl s1 x
  refine ⟨hLim.keeps x.toInCall.keep, codeAny_func ?_⟩
  obtain ⟨t, ht, hq⟩ := hbody A outer s H vs Q p cls d (hr.deeper _) hz hf hsp
  refine wpAny_mono (ht.run [] s1 (L2.start N vs) H _ (L2H.inv_startH S hpin e0 hlen r x) hq) ?_ fun e s' hs => hs
  intro fl s' hs
  cases fl with
  | ret u =>
    obtain ⟨v, σ', H', J, rv, q⟩ := hs
    exact ⟨v, H', J.os, J.bare, J.base, J.hok, rv, q⟩
  | next =>
    obtain ⟨σ', H', J, q⟩ := hs
    exact ⟨V.non, H', J.os, J.bare, J.base, J.hok, rfl, q⟩
  | brk => exact hs.elim fun _ z => z.elim fun _ z => z.2.elim
  | cont => exact hs.elim fun _ z => z.elim fun _ z => z.2.elim
def tCallE (sp : Sp) (t : TA) : TE := fun σ H Q => t σ H fun vs H1 => sp vs H1 Q E0
theorem pe_callE {X : Cx} {k : Nat} {f : Addr} {fd : FuncData} {ps : List Str} {sp : SpE} {x : Str} {q pos : Pos} {e : Expr} {es : List Expr} {t : TA} {p : Addr × Obj} {cls : Value} {d : Option Addr} (F : FnE X.prog X.w X.K X.mg X.base k f fd ps sp) (hr : L2H.RoomH k X.A)
    (hp : p ∈ X.pn) (hz : Zc cls d p.2) (hf : ∃ vs, p.2.data = .fields vs) (hg : Gl X x) (hm : X.mg x = some (.ref f)) (hk : PySem.W.keepIn X.K (.ref f) = true) (hb : Binds X.K fd ps [])
    (ha : PA X (e :: es) t) (hdb : (x == ("__debug__" : Str)) = false := by decide) (he : starEach (e :: es) X.env = (false, eval e X.env) :: starEach es X.env := by rfl) (hpl : (backTo pos (starEach es X.env)).any (·.1) = false := by rfl) :
    PE X (.Call (.Name x q) (e :: es) [] pos) (tCallE (sp p.1 cls d) t) := by
  constructor
  intro pins s σ H Q I h
  refine wpAny_Call_Name_kw (ld_glob I hg hm ?_ hdb)
  refine PySem.W.callWith_K (h₀ := X.base) I.ok.mod.kin hk (thn (ha.run pos pins s σ H _ I h) ?_) he hpl
  rintro us s1 ⟨vs, H1, I1, r, hsp⟩
  refine ⟨I1.kIn, ?_⟩
  have hlen : us.length = ps.length := by rw [← r.length]; exact F.len _ _ _ _ _ _ _ hsp
  have hbind := hb s1 us I1.kIn (by rw [List.append_nil]; exact hlen)
  rw [List.append_nil] at hbind
  obtain ⟨g1, g2, g3, g4, g5⟩ := I1.pin p (List.mem_append_left _ hp)
  have hpin : L2H.PinOk X.stack H1 s1 p := ⟨g1, g2, fun hm => (List.mem_cons.mp (I1.stkSub p.1 hm)).elim g3 g4, g5⟩
  refine wpAny_call (codeAny_mono (F.run X.A X.stack s1 H1 ⟨us, []⟩ us vs Q p cls d hr hz hf hpin I1.env0 hbind r hsp) ?_)
  intro r s' hq
  cases r with
  | error e => exact False.elim hq
  | ok fl =>
    cases fl with
    | ret u => exact I1.after hq
    | next => exact False.elim hq
    | brk => exact False.elim hq
    | cont => exact False.elim hq
/-! ### a def that asks that no repr is under way -/
structure FnG (P : Program) (w : World) (K : PySem.W.Frag) (mg : Str → Option Value) (base : Heap) (k : Nat) (f : Addr) (fd : FuncData) (ps : List Str) (sp : Sp) : Prop where
  len : ∀ vs H Q E, sp vs H Q E → vs.length = ps.length
  run : ∀ (A : Around) (outer : List Env) (s : Shared) (H : Hp) (args : Args) (us : List Value) (vs : List V) (Q : VK), Room k A → A.guards = some [] → Env0 P w K mg base A outer s H → BindsTo s fd args (ps.zip us) → Vals vs us → sp vs H Q E0 →
    codeAny (model P w) A (.call (.ref f) args) (CR CX0 outer P w H s Q E0) s
theorem fnG_of {P : Program} {w : World} {K : PySem.W.Frag} {mg : Str → Option Value} {base : Heap} {k : Nat} {f : Addr} {name qual : Str} {params : Arguments} {body : List Stmt} {scope : Scope} {dV kV doc pm cdv ct oc : Value} {an od : Option Addr}
    {osl : Array (Option Value)} {N ps : List Str} {sp : Sp} (lk : K.lookup f = some ⟨oc, od, .func (PySem.W.fnOf name qual params body scope dV kV doc pm an cdv ct), osl⟩) (hcd : PySem.W.codeIn K cdv qual = true) (S : FnScope N ps scope)
    (hbs : ∀ (s : Shared) (us : List Value), us.length = ps.length → BindsTo s (PySem.W.fnOf name qual params body scope dV kV doc pm an cdv ct) ⟨us, []⟩ (ps.zip us))
    (len : ∀ vs H Q E, sp vs H Q E → vs.length = ps.length)
    (hbody : ∀ (A : Around) (outer : List Env) (s : Shared) (H : Hp) (vs : List V) (Q : VK), Room k (A.deeper (envOfC qual scope s.heap.objs.size f cdv)) → (A.deeper (envOfC qual scope s.heap.objs.size f cdv)).guards = some [] → sp vs H Q E0 →
      ∃ t, PSs (cxOf CX0 P w K mg base N qual scope f cdv A outer s H E0).nox body t ∧ t { nx := fun _ H' => Q .non H', rt := Q } (L2.start N vs) H) :
    FnG P w K mg base (k + 1) f (PySem.W.fnOf name qual params body scope dV kV doc pm an cdv ct) ps sp := by
  constructor
  · exact len
  intro A outer s H args us vs Q hr hgd e0 hb r hsp
  refine LamX.run_ofS lk hcd S hr e0 hb r (len _ _ _ _ hsp) fun hr' => ?_
  obtain ⟨t, h, q⟩ := hbody A outer s H vs Q hr' (by first | exact hgd | (show A.guards = some []; exact hgd)) hsp
  exact ⟨t, h.nox, q⟩
theorem pe_callG {X : Cx} {k : Nat} {f : Addr} {fd : FuncData} {ps : List Str} {sp : Sp} {x : Str} {q pos : Pos} {e : Expr} {es : List Expr} {t : TA} (F : FnG X.prog X.w X.K X.mg X.base k f fd ps sp) (hr : Room k X.A) (hgd : X.A.guards = some [])
    (hg : Gl X x) (hm : X.mg x = some (.ref f)) (hk : PySem.W.keepIn X.K (.ref f) = true) (hb : Binds X.K fd ps [])
    (ha : PA X (e :: es) t) (hdb : (x == ("__debug__" : Str)) = false := by decide) (he : starEach (e :: es) X.env = (false, eval e X.env) :: starEach es X.env := by rfl) (hpl : (backTo pos (starEach es X.env)).any (·.1) = false := by rfl) :
    PE X (.Call (.Name x q) (e :: es) [] pos) (tCallE sp t) := by
  constructor
  intro pins s σ H Q I h
  refine wpAny_Call_Name_kw (ld_glob I hg hm ?_ hdb)
  refine PySem.W.callWith_K (h₀ := X.base) I.ok.mod.kin hk (thn (ha.run pos pins s σ H _ I h) ?_) he hpl
  rintro us s1 ⟨vs, H1, I1, r, hsp⟩
  refine ⟨I1.kIn, ?_⟩
  have hlen : us.length = ps.length := by rw [← r.length]; exact F.len _ _ _ _ hsp
  have hbind := hb s1 us I1.kIn (by rw [List.append_nil]; exact hlen)
  rw [List.append_nil] at hbind
  refine wpAny_call (codeAny_mono (F.run X.A X.stack s1 H1 ⟨us, []⟩ us vs Q hr hgd I1.env0 hbind r hsp) ?_)
  intro r s' hq
  cases r with
  | error e => exact False.elim hq
  | ok fl =>
    cases fl with
    | ret u => exact I1.after hq
    | next => exact False.elim hq
    | brk => exact False.elim hq
    | cont => exact False.elim hq
/-! ### repr of a list or a tuple of plain data -/
def rReprD (K : PySem.W.Frag) : List V → Hp → VK → Prop := fun xs H Q => ∃ (a : Addr) (d : PyData), xs = [.ref a] ∧ Dp K H (.ref a) d ∧ d.showable = true ∧ d.hasDict = false ∧ d.depth ≤ 8 ∧ d.shown.length ≤ sizeLine ∧ Q (.str d.shown) H
theorem call_reprD {X : Cx} {k : Nat} (hr : Room k X.A) (hgd : X.A.guards = some []) : CallR X (.builtin "repr") (rReprD X.K) := by
  intro pins s σ H xs us Q I r h
  obtain ⟨a, d, rfl, hd, h1, h2, h3, h4, q⟩ := h
  obtain rfl := Vals.ref1 r
  obtain ⟨as, rd⟩ := Dp.reads I d (.ref a) (.ref a) hd rfl
  have hu := hr.units
  refine repr_of_reads' rd h1 (fun z => by rw [h2] at z; cases z) hgd (by omega) (fun b o e => e) (fun h' u tk hk => ?_) h4
  exact ⟨.str d.shown, H, I.kept hk, ⟨u, rfl⟩, q⟩
end L2
end
section
set_option maxRecDepth 100000
set_option maxHeartbeats 4000000
namespace LamX
open PySem PySem.Spec PyProof.Rows L2
/-! ### x(lambda: body, e2): the def takes the lambda and one value -/
/-- the callee's body for any reading tl of the lambda; call(): its first parameter -/
def Gives2 (X : Cx) (Ng : List Str) (x : Str) (sg : Scope) (g : Addr) (cdg : Value) (bg : List Stmt) (a : Str) (q : Str) (TT : (XK → Hp → VK → Prop) → (Hp → Prop) → V → Hp → VK → Prop) : Prop :=
  ∀ (f c' : Addr) (s : Shared) (H : Hp) (Q : VK) (v2 : V) (tl : XK → Hp → VK → Prop),
    (∀ (W : WX) (pn : List (Addr × Obj)) (xe : Value → Shared → Prop) (E : XK) (p1 p2 : Pos), Takes ((cxOf C8.CX0 X.prog X.w X.K X.mg X.base Ng x sg g cdg X.A X.stack s H C8.E0).tr pn xe) W → (∀ cls d σ' H', E cls d H' → W cls d σ' H') →
      PE ((cxOf C8.CX0 X.prog X.w X.K X.mg X.base Ng x sg g cdg X.A X.stack s H C8.E0).tr pn xe) (.Call (.Name a p1) [] [] p2) (fun σZ HZ Q => σZ[0]? = some (some (.ref f)) ∧ HZ c' = some (CodeO c' q) ∧ tl E HZ Q)) →
    H c' = some (CodeO c' q) → TT tl (fun H' => H' c' = some (CodeO c' q)) v2 H Q →
    ∃ t, PSs (cxOf C8.CX0 X.prog X.w X.K X.mg X.base Ng x sg g cdg X.A X.stack s H C8.E0).nox bg t ∧ t { nx := fun _ H' => Q .non H', rt := Q } (L2.start Ng [.ref f, v2]) H
def tLam2 (T : List (Addr × Str)) (q : Str) (TT : (XK → Hp → VK → Prop) → (Hp → Prop) → V → Hp → VK → Prop) (t : XK → TE) (te : TE) : TE := fun σ H Q => Tabs T H ∧ ∀ H1 c', ExtN H H1 → Tabs T H1 → H1 c' = some (CodeO c' q) →
  te σ H1 fun x H2 => ∃ v2, [x] = [v2] ∧ H2 c' = some (CodeO c' q) ∧ TT (fun E H' Q' => t E σ H' Q') (fun H' => H' c' = some (CodeO c' q)) v2 H2 Q
end LamX
end
section
set_option maxRecDepth 100000
set_option maxHeartbeats 4000000
/-! ### checks of exception classes in the written part -/
namespace L2
open PySem PySem.Spec PyProof.Rows
/-- the class at C descends from ValueError by own classes, its __init__ is the def at f -/
def oexB (K : PySem.W.Frag) (C : Addr) : Bool := (match K.lookup C with
  | some ⟨.type t, _, .cls cd, sl⟩ => decide (t = "type") && (match cd.mro, sl.toList with
    | .ref C' :: bm, [_, _, _, _, some (.builtin n), _] => decide (C' = C) && (decide (n = "ValueError.__new__") && (!cd.hasDel && (cd.hasDict && PySem.HandSPX.refsVE bm)))
    | _, _ => false)
  | _ => false) && (decide (PySem.W.findIn K (.ref C) "__setattr__" = some (some (.builtin "object.__setattr__"))) && (decide (PySem.W.subIn K (.ref C) (.type "BaseException") = some true) && (decide (PySem.W.typeIn K (.ref C) = some (.type "type")) && PySem.W.keepIn K (.ref C))))
theorem and2 {a b : Bool} (h : (a && b) = true) : a = true ∧ b = true := Bool.and_eq_true_iff.mp h
theorem oexB_ok {K : PySem.W.Frag} {C : Addr} (h : oexB K C = true) : OexC K C := by
  obtain ⟨h1, h⟩ := and2 h
  obtain ⟨h2, h⟩ := and2 h
  obtain ⟨h3, h⟩ := and2 h
  obtain ⟨h4, h5⟩ := and2 h
  refine ⟨?_, of_decide_eq_true h2, of_decide_eq_true h3, of_decide_eq_true h4, h5⟩
  split at h1
  · rename_i t dd cd sl ho
    obtain ⟨ht, h1⟩ := and2 h1
    have ht := of_decide_eq_true ht
    subst ht
    split at h1
    · rename_i C' bm k0 k1 k2 k3 n k5 hm hs
      obtain ⟨e0, h1⟩ := and2 h1
      obtain ⟨e1, h1⟩ := and2 h1
      obtain ⟨e2, h1⟩ := and2 h1
      obtain ⟨e3, h1⟩ := and2 h1
      obtain ⟨e4, e5⟩ := and2 h1
      have g1 := of_decide_eq_true e1
      have g2 := of_decide_eq_true e2
      have g3 : cd.hasDel = false := by
        cases q : cd.hasDel with
        | false => rfl
        | true =>
          rw [q] at e3
          cases e3
      clear h1 e0 e1 e2 e3 h
      subst g1 g2
      obtain ⟨nm, bs, mro, ns, qn, hd, sn, sub, ab, col, del⟩ := cd
      dsimp only at hm g3 e4
      subst hm g3 e4
      have hsl : sl = #[k0, k1, k2, k3, some (.builtin "ValueError.__new__"), k5] := by
        obtain ⟨l⟩ := sl
        simp only at hs
        rw [hs]
      subst hsl
      exact ⟨_, _, _, _, bm, _, _, _, _, _, _, _, _, _, _, ho, e5⟩
    · cases h1
  · cases h1
/-- .. and asked by isinstance -/
def excCB (K : PySem.W.Frag) (D : Addr) : Bool := decide (PySem.W.findIn K (.ref D) "__getattribute__" = some (some (.builtin "BaseException.__getattribute__"))) && (decide (PySem.W.findIn K (.ref D) "__getattr__" = some none) &&
  (decide (PySem.W.subIn K (.ref D) (.type "BaseException") = some true) && (PySem.W.hasDictIn K D && (decide (PySem.W.findIn K (.ref D) "__class__" = some (some (.builtin "object.__class__"))) &&
  (decide (PySem.W.specialIn K (.builtin "object.__class__") "__get__" = some (some (.builtin "getset_descriptor.__get__"))) && (decide (PySem.W.takesIn K (.builtin "object.__class__") = some true) && decide (PySem.W.mroIn K D (.type "object") = some true)))))))
theorem excCB_ok {K : PySem.W.Frag} {D : Addr} (h : excCB K D = true) : ExcC K D := by
  obtain ⟨h1, h⟩ := and2 h
  obtain ⟨h2, h⟩ := and2 h
  obtain ⟨h3, h⟩ := and2 h
  obtain ⟨h4, h⟩ := and2 h
  obtain ⟨h5, h⟩ := and2 h
  obtain ⟨h6, h⟩ := and2 h
  obtain ⟨h7, h8⟩ := and2 h
  exact ⟨of_decide_eq_true h1, of_decide_eq_true h2, of_decide_eq_true h3, h4, of_decide_eq_true h5, of_decide_eq_true h6, of_decide_eq_true h7, of_decide_eq_true h8⟩
/-- the whole of a class that is raised: its __init__ at f, what its instances' fields ask -/
structure ExT (K : PySem.W.Frag) (C f : Addr) : Prop where
  oex : OexC K C
  init : PySem.W.findIn K (.ref C) "__init__" = some (some (.ref f))
  fn : PySem.W.typeIn K (.ref f) = some (.type "function")
  xf : XfC K C
  exc : ExcC K C
def exTB (K : PySem.W.Frag) (C f : Addr) : Bool := oexB K C && (decide (PySem.W.findIn K (.ref C) "__init__" = some (some (.ref f))) && (decide (PySem.W.typeIn K (.ref f) = some (.type "function")) && (xfB K C && excCB K C)))
theorem exTB_ok {K : PySem.W.Frag} {C f : Addr} (h : exTB K C f = true) : ExT K C f := by
  obtain ⟨h1, h⟩ := and2 h
  obtain ⟨h2, h⟩ := and2 h
  obtain ⟨h3, h⟩ := and2 h
  obtain ⟨h4, h5⟩ := and2 h
  exact ⟨oexB_ok h1, of_decide_eq_true h2, of_decide_eq_true h3, xfB_ok h4, excCB_ok h5⟩
abbrev FnP (K : PySem.W.Frag) (x : Str) (st : Stmt) (f : Addr) (fd : FuncData) : Prop := FunD K x x (defArgs st) (defBody st) (defScope st) [] [] f fd
abbrev FnM (K : PySem.W.Frag) (x q : Str) (st : Stmt) (f : Addr) (fd : FuncData) : Prop := FunD K x q (defArgs st) (defBody st) (defScope st) [] [] f fd
/-- a def of the top, known by its name, keeps the promise sp -/
structure Ok (P : Program) (w : World) (K : PySem.W.Frag) (mg : Str → Option Value) (base : Heap) (CX : CXT) (k : Nat) (x : Str) (ps : List Str) (sp : Sp) : Prop where
  ex : ∃ f fd, FnOk P w K mg base CX k f fd ps sp ∧ mg x = some (.ref f) ∧ PySem.W.keepIn K (.ref f) = true ∧ Binds K fd ps []
section
variable {P : Program} {w : World} {K : PySem.W.Frag} {mg : Str → Option Value} {base : Heap} {CX : CXT} {k j : Nat} {x : Str} {ps N : List Str} {sp sp' : Sp} {st : Stmt}
theorem Ok.mono (o : Ok P w K mg base CX j x ps sp) (h : j ≤ k) : Ok P w K mg base CX k x ps sp := by
  obtain ⟨f, fd, h1, h2⟩ := o.ex
  exact ⟨f, fd, h1.mono h, h2⟩
theorem Ok.imp (o : Ok P w K mg base CX k x ps sp) (h : ∀ vs H Q E, sp' vs H Q E → sp vs H Q E) : Ok P w K mg base CX k x ps sp' := by
  obtain ⟨f, fd, h1, h2⟩ := o.ex
  exact ⟨f, fd, h1.imp h, h2⟩
/-- a promise that is never asked -/
theorem Ok.never (e : ∃ f fd, FnP K x st f fd ∧ mg x = some (.ref f))
    (hb : ∀ (kV doc pm : Value) (an : Option Addr) (cdv ct : Value) (us : List Value), us.length = ps.length → bindArgs (PySem.W.fnOf x x (defArgs st) (defBody st) (defScope st) .none kV doc pm an cdv ct) ⟨us, []⟩ = pure (ps.zip us)) : Ok P w K mg base CX k x ps (fun _ _ _ _ => False) := by
  obtain ⟨f, fd, F, g⟩ := e
  exact ⟨f, fd, ⟨fun _ _ _ _ z => z.elim, fun _ _ _ _ _ _ _ _ _ _ _ _ _ z => z.elim⟩, g, F.kp, F.bindsN hb⟩
/-- a def that lets nothing out -/
theorem Ok.def0 (e : ∃ f fd, FnP K x st f fd ∧ mg x = some (.ref f))
    (hb : ∀ (kV doc pm : Value) (an : Option Addr) (cdv ct : Value) (us : List Value), us.length = ps.length → bindArgs (PySem.W.fnOf x x (defArgs st) (defBody st) (defScope st) .none kV doc pm an cdv ct) ⟨us, []⟩ = pure (ps.zip us))
    (S : FnScope N ps (defScope st)) (len : ∀ vs H Q E, sp vs H Q E → vs.length = ps.length)
    (hbody : ∀ (f : Addr) (cdv : Value) (A : Around) (outer : List Env) (s : Shared) (H : Hp) (vs : List V) (Q : VK) (E : XK), Room k (A.deeper (envOfC x (defScope st) s.heap.objs.size f cdv)) → sp vs H Q E →
      ∃ t, PSs (cxOf CX0 P w K mg base N x (defScope st) f cdv A outer s H E).nox (defBody st) t ∧ t { nx := fun _ H' => Q .non H', rt := Q } (start N vs) H) : Ok P w K mg base CX0 (k + 1) x ps sp := by
  obtain ⟨f, fd, F, g⟩ := e
  refine ⟨f, fd, F.ok S len fun cdv A outer s H vs Q E hr h => ?_, g, F.kp, F.bindsN hb⟩
  obtain ⟨t, h1, h2⟩ := hbody f cdv A outer s H vs Q E hr h
  exact ⟨t, h1.nox, h2⟩
/-- a def that may raise -/
theorem Ok.defX (e : ∃ f fd, FnP K x st f fd ∧ mg x = some (.ref f))
    (hb : ∀ (kV doc pm : Value) (an : Option Addr) (cdv ct : Value) (us : List Value), us.length = ps.length → bindArgs (PySem.W.fnOf x x (defArgs st) (defBody st) (defScope st) .none kV doc pm an cdv ct) ⟨us, []⟩ = pure (ps.zip us))
    (S : FnScope N ps (defScope st)) (len : ∀ vs H Q E, sp vs H Q E → vs.length = ps.length)
    (hbody : ∀ (f : Addr) (cdv : Value) (A : Around) (outer : List Env) (s : Shared) (H : Hp) (vs : List V) (Q : VK) (E : XK), Room k (A.deeper (envOfC x (defScope st) s.heap.objs.size f cdv)) → sp vs H Q E →
      Takes (cxOf (L2.CX P w) P w K mg base N x (defScope st) f cdv A outer s H E) (fun cls d _ H => E cls d H) →
      ∃ t, PSs (cxOf (L2.CX P w) P w K mg base N x (defScope st) f cdv A outer s H E) (defBody st) t ∧ t { nx := fun _ H' => Q .non H', rt := Q } (start N vs) H) : Ok P w K mg base (L2.CX P w) (k + 1) x ps sp := by
  obtain ⟨f, fd, F, g⟩ := e
  refine ⟨f, fd, F.ok S len fun cdv A outer s H vs Q E hr h => ?_, g, F.kp, F.bindsN hb⟩
  exact hbody f cdv A outer s H vs Q E hr h (takes_of rfl rfl rfl rfl)
end
section
variable {X : Cx} {CX : CXT} {k : Nat} {x : Str} {ps : List Str} {sp : Sp} {E : XK} {p pos : Pos} {e : Expr} {es : List Expr} {t : TA}
theorem pe_ok (O : Ok X.prog X.w X.K X.mg X.base CX k x ps sp) (hr : Room k X.A) (hg : Gl X x) (hx : Passes CX X E) (ha : PA X (e :: es) t)
    (hdb : (x == ("__debug__" : Str)) = false := by decide) (he : starEach (e :: es) X.env = (false, eval e X.env) :: starEach es X.env := by rfl) (hpl : (backTo pos (starEach es X.env)).any (·.1) = false := by rfl) :
    PE X (.Call (.Name x p) (e :: es) [] pos) (tCall sp [] E t) := by
  obtain ⟨f, fd, F, hm, hk, hb⟩ := O.ex
  exact pe_call F hr hg hm hk hb .nil hx ha hdb he hpl
/-- what is raised is wished for at the caller's slots -/
theorem pe_okS {E : St → XK} (O : Ok X.prog X.w X.K X.mg X.base CX k x ps sp) (hr : Room k X.A) (hg : Gl X x) (hx : ∀ σ, PassesAt CX X σ (E σ)) (ha : PA X (e :: es) t)
    (hdb : (x == ("__debug__" : Str)) = false := by decide) (he : starEach (e :: es) X.env = (false, eval e X.env) :: starEach es X.env := by rfl) (hpl : (backTo pos (starEach es X.env)).any (·.1) = false := by rfl) :
    PE X (.Call (.Name x p) (e :: es) [] pos) (tCallS sp E t) := by
  obtain ⟨f, fd, F, hm, hk, hb⟩ := O.ex
  exact pe_callS F hr hg hm hk hb hx ha hdb he hpl
end
/-- an own exception class, known by its name, whose __init__ keeps sp -/
structure XOk (P : Program) (w : World) (K : PySem.W.Frag) (mg : Str → Option Value) (base : Heap) (k : Nat) (x : Str) (C : Addr) (ps : List Str) (sp : Sp) : Prop where
  ex : ∃ f fd, ExT K C f ∧ FnOk P w K mg base CX0 k f fd ps sp ∧ mg x = some (.ref C) ∧ Binds K fd ps []
theorem pmk_x {X : Cx} {k : Nat} {x : Str} {C : Addr} {ps : List Str} {sp : Sp} {p pos : Pos} {e : Expr} {es : List Expr} {ta : TA} (O : XOk X.prog X.w X.K X.mg X.base k x C ps sp) (hr : Room (k + 1) X.A) (hg : Gl X x) (ha : PA X (e :: es) ta)
    (hdb : (x == ("__debug__" : Str)) = false := by decide) (he : starEach (e :: es) X.env = (false, eval e X.env) :: starEach es X.env := by rfl) (hpl : (backTo pos (starEach es X.env)).any (·.1) = false := by rfl) :
    PMk X (.Call (.Name x p) (e :: es) [] pos) (tMkO C sp [] ta) := by
  obtain ⟨f, fd, T, F, hm, hb⟩ := O.ex
  exact pmk_oex T.oex T.init T.fn F hr hb .nil pass0 hg hm ha hdb he hpl
end L2
end
section
set_option maxRecDepth 100000
set_option maxHeartbeats 4000000
/-! ### the head's facts, the interpreter's own statics among what is looked at -/
namespace He
open PySem PySem.Spec PyProof.Rows L2
def asS (g : Addr → Option Obj) (n : Nat) : List Addr := PySem.cStatics :: asD g n
def obsS (n : Nat) (fa : List Fa) (fn : List DefD) (ts : List Tab) (tf : List Defn) (ex : PySem.W.Frag → Bool) (g : Addr → Option Obj) : AlX := (obsT fa fn ts (frT g (asS g n)), ex (frT g (asS g n)) && tabsB g tf (frT g (asS g n)))
theorem saysS_of {n : Nat} {fa : List Fa} {fn : List DefD} {ts : List Tab} {tf : List Defn} {ex : PySem.W.Frag → Bool} {w : World} {h : Heap} (e : obsS n fa fn ts tf ex h.get? = valX fn ts w) : SaysX fa fn ts tf ex w h (frT h.get? (asS h.get? n)) := by
  have e1 := congrArg Prod.fst e
  have e2 : (ex (frT h.get? (asS h.get? n)) && tabsB h.get? tf (frT h.get? (asS h.get? n))) = true := congrArg Prod.snd e
  obtain ⟨hx, ht⟩ := ba e2
  have tab : ∀ p ∈ tf, PySem.W.codeHdIn (frT h.get? (asS h.get? n)) (cT (frT h.get? (asS h.get? n)) p).1 (cT (frT h.get? (asS h.get? n)) p).2 = true ∧ ∃ o, h.get? (cT (frT h.get? (asS h.get? n)) p).2 = some o ∧ emptyTab o = true := by
    intro p hp
    obtain ⟨c1, c2⟩ := ba (List.all_eq_true.mp ht p hp)
    refine ⟨c1, ?_⟩
    revert c2
    cases h.get? (cT (frT h.get? (asS h.get? n)) p).2 with
    | none => exact fun z => by cases z
    | some o => exact fun z => ⟨o, rfl, z⟩
  exact {
    t := e1
    more := hx
    hd := fun p hp => (tab p hp).1
    out := fun p hp => let ⟨_, o, q, z⟩ := tab p hp; frT_none q z
    empty := fun p hp => let ⟨_, o, q, z⟩ := tab p hp; by rw [q, emptyTab_eq z] }
def hookS (n : Nat) (fa : List Fa) (fn : List DefD) (ts : List Tab) (tf : List Defn) (ex : PySem.W.Frag → Bool) : PySem.W.Hook where
  α := AlX
  obs := fun s => obsS n fa fn ts tf ex s.heap.get?
  val := fun w => valX fn ts w
  says := fun w h => ∃ K : PySem.W.Frag, K.In h ∧ SaysX fa fn ts tf ex w h K
  of := fun _ _ e => ⟨_, frT_in, saysS_of e⟩
  keeps := fun _ _ _ ⟨K, hK, c⟩ k => ⟨K, PySem.W.Frag.In.keeps hK k, ⟨c.t, c.more, c.hd, c.out, fun p hp => k _ _ (c.empty p hp)⟩⟩
theorem obsS_eq {n : Nat} {fa : List Fa} {fn : List DefD} {ts : List Tab} {tf : List Defn} {ex : PySem.W.Frag → Bool} {g : Addr → Option Obj} {s : Shared} (h : ∀ a, g a = s.heap.get? a) : obsS n fa fn ts tf ex g = (hookS n fa fn ts tf ex).obs s := by
  obtain rfl : g = s.heap.get? := funext h
  rfl
end He
end
section
namespace L2
open PySem PySem.Spec PyProof.Rows
/-! ### a constant tuple of the module -/
def tupB (K : PySem.W.Frag) (a : Addr) (vs : List V) : Bool := match K.lookup a with
  | some o => decide (o.cls = .type "tuple") && (match o.data with
    | .seq its _ => decide (its.size ≤ sizeLine) && He.relAll vs its.toList
    | _ => false)
  | none => false
theorem tupB_ok {K : PySem.W.Frag} {a : Addr} {vs : List V} (h : tupB K a vs = true) (H : Hp) : SqT K H a vs := by
  unfold tupB at h
  cases e : K.lookup a with
  | none =>
    rw [e] at h
    cases h
  | some o =>
    rw [e] at h
    obtain ⟨h1, h2⟩ := He.ba h
    cases ed : o.data with
    | seq its n =>
      rw [ed] at h2
      obtain ⟨h3, h4⟩ := He.ba h2
      exact .inr ⟨o, its, n, e, of_decide_eq_true h1, ed, of_decide_eq_true h3, He.relAll_ok h4⟩
    | _ =>
      rw [ed] at h2
      cases h2
end L2
end
section
set_option maxRecDepth 100000
set_option maxHeartbeats 4000000
namespace K85
open PySem PySem.Spec PyProof.Rows L2
def top (i : Nat) : Stmt := PySem.Challenge.pw_seenenough_k85_whole_families_and_their.main.body.getD i (.Pass ⟨0, 0, 0, 0⟩)
abbrev s_check : Stmt := top 12
theorem sc_check : FnScope ["what", "number"] ["what", "number"] (defScope s_check) := ⟨rfl, rfl, rfl, by decide +kernel, rfl, by decide +kernel, by decide +kernel⟩
abbrev s_check_each : Stmt := top 13
theorem sc_check_each : FnScope ["what", "numbers", "number"] ["what", "numbers"] (defScope s_check_each) := ⟨rfl, rfl, rfl, by decide +kernel, rfl, by decide +kernel, by decide +kernel⟩
abbrev s_check_within : Stmt := top 14
theorem sc_check_within : FnScope ["what", "number", "bound"] ["what", "number", "bound"] (defScope s_check_within) := ⟨rfl, rfl, rfl, by decide +kernel, rfl, by decide +kernel, by decide +kernel⟩
abbrev s_report_ascends : Stmt := top 19
theorem sc_report_ascends : FnScope ["report", "before", "rain", "cans"] ["report"] (defScope s_report_ascends) := ⟨rfl, rfl, rfl, by decide +kernel, rfl, by decide +kernel, by decide +kernel⟩
abbrev s_check_one_can : Stmt := top 29
theorem sc_check_one_can : FnScope ["almanac", "rains", "at"] ["almanac"] (defScope s_check_one_can) := ⟨rfl, rfl, rfl, by decide +kernel, rfl, by decide +kernel, by decide +kernel⟩
abbrev s_check_weather : Stmt := top 30
theorem sc_check_weather : FnScope ["almanac", "weather", "wrong"] ["almanac", "weather"] (defScope s_check_weather) := ⟨rfl, rfl, rfl, by decide +kernel, rfl, by decide +kernel, by decide +kernel⟩
abbrev s_all_stretches : Stmt := top 31
theorem sc_all_stretches : FnScope ["days", "b", "a"] ["days"] (defScope s_all_stretches) := ⟨rfl, rfl, rfl, by decide +kernel, rfl, by decide +kernel, by decide +kernel⟩
abbrev s_span_counts : Stmt := top 32
theorem sc_span_counts : FnScope ["almanac", "days", "rains", "counts", "a", "ending", "rain", "total", "b"] ["almanac"] (defScope s_span_counts) := ⟨rfl, rfl, rfl, by decide +kernel, rfl, by decide +kernel, by decide +kernel⟩
abbrev s_fall_counts : Stmt := top 33
theorem sc_fall_counts : FnScope ["weather", "total", "fallen", "report", "fall"] ["weather"] (defScope s_fall_counts) := ⟨rfl, rfl, rfl, by decide +kernel, rfl, by decide +kernel, by decide +kernel⟩
abbrev s_key_stretches : Stmt := top 34
theorem sc_key_stretches : FnScope ["almanac", "days", "counts", "found", "a", "b", "earlier", "later"] ["almanac"] (defScope s_key_stretches) := ⟨rfl, rfl, rfl, by decide +kernel, rfl, by decide +kernel, by decide +kernel⟩
abbrev s_tight_among : Stmt := top 35
theorem sc_tight_among : FnScope ["weather", "counts", "stretches", "fallen", "a", "b"] ["weather", "counts", "stretches"] (defScope s_tight_among) := ⟨rfl, rfl, rfl, by decide +kernel, rfl, by decide +kernel, by decide +kernel⟩
abbrev s_check_stretch : Stmt := top 38
theorem sc_check_stretch : FnScope ["stretch", "days", "a", "b"] ["stretch", "days"] (defScope s_check_stretch) := ⟨rfl, rfl, rfl, by decide +kernel, rfl, by decide +kernel, by decide +kernel⟩
abbrev s_free_day : Stmt := top 39
theorem sc_free_day : FnScope ["rain", "stretches", "days", "first", "last", "a", "b", "others", "day"] ["rain", "stretches", "days"] (defScope s_free_day) := ⟨rfl, rfl, rfl, by decide +kernel, rfl, by decide +kernel, by decide +kernel⟩
abbrev s_lot_places : Stmt := top 40
theorem sc_lot_places : FnScope ["almanac", "stretches", "places", "rains", "at", "day"] ["almanac", "stretches"] (defScope s_lot_places) := ⟨rfl, rfl, rfl, by decide +kernel, rfl, by decide +kernel, by decide +kernel⟩
abbrev s_placed_weather : Stmt := top 41
theorem sc_placed_weather : FnScope ["days", "places", "day", "weather", "at"] ["days", "places"] (defScope s_placed_weather) := ⟨rfl, rfl, rfl, by decide +kernel, rfl, by decide +kernel, by decide +kernel⟩
abbrev s_lot_together : Stmt := top 42
theorem sc_lot_together : FnScope ["almanac", "stretches", "stretch", "covered", "places"] ["almanac", "stretches"] (defScope s_lot_together) := ⟨rfl, rfl, rfl, by decide +kernel, rfl, by decide +kernel, by decide +kernel⟩
abbrev s_first_undecided : Stmt := top 43
theorem sc_first_undecided : FnScope ["almanac", "weathers", "weather", "counts", "left", "stretch", "tight"] ["almanac", "weathers"] (defScope s_first_undecided) := ⟨rfl, rfl, rfl, by decide +kernel, rfl, by decide +kernel, by decide +kernel⟩
abbrev s_check_kind : Stmt := top 47
theorem sc_check_kind : FnScope ["kind", "n", "kinds"] ["kind", "n", "kinds"] (defScope s_check_kind) := ⟨rfl, rfl, rfl, by decide +kernel, rfl, by decide +kernel, by decide +kernel⟩
abbrev s_check_family : Stmt := top 48
theorem sc_check_family : FnScope ["kind", "n"] ["kind", "n"] (defScope s_check_family) := ⟨rfl, rfl, rfl, by decide +kernel, rfl, by decide +kernel, by decide +kernel⟩
abbrev s_trial_number : Stmt := top 49
theorem sc_trial_number : FnScope ["kind", "n", "many", "sets"] ["kind", "n"] (defScope s_trial_number) := ⟨rfl, rfl, rfl, by decide +kernel, rfl, by decide +kernel, by decide +kernel⟩
abbrev s_family_spans : Stmt := top 50
theorem sc_family_spans : FnScope ["kind", "n", "i", "first", "last"] ["kind", "n"] (defScope s_family_spans) := ⟨rfl, rfl, rfl, by decide +kernel, rfl, by decide +kernel, by decide +kernel⟩
abbrev s_bit_rows : Stmt := top 51
theorem sc_bit_rows : FnScope ["many", "rows", "turn", "row", "bit"] ["many"] (defScope s_bit_rows) := ⟨rfl, rfl, rfl, by decide +kernel, rfl, by decide +kernel, by decide +kernel⟩
abbrev s_early_rains : Stmt := top 52
theorem sc_early_rains : FnScope ["kind", "n", "t", "i", "many", "row", "rows", "trial"] ["kind", "n"] (defScope s_early_rains) := ⟨rfl, rfl, rfl, by decide +kernel, rfl, by decide +kernel, by decide +kernel⟩
abbrev s_middle_lots : Stmt := top 53
theorem sc_middle_lots : FnScope ["n", "lots", "i", "found", "b", "a"] ["n"] (defScope s_middle_lots) := ⟨rfl, rfl, rfl, by decide +kernel, rfl, by decide +kernel, by decide +kernel⟩
abbrev s_all_lots : Stmt := top 54
theorem sc_all_lots : FnScope ["n", "middle", "half", "apart", "lots", "i", "lot"] ["n"] (defScope s_all_lots) := ⟨rfl, rfl, rfl, by decide +kernel, rfl, by decide +kernel, by decide +kernel⟩
abbrev s_trial_family : Stmt := top 55
theorem sc_trial_family : FnScope ["kind", "n", "days", "spans", "first", "last", "almanac", "lot", "places", "row", "at"] ["kind", "n"] (defScope s_trial_family) := ⟨rfl, rfl, rfl, by decide +kernel, rfl, by decide +kernel, by decide +kernel⟩
abbrev s_barring_stretches : Stmt := top 56
theorem sc_barring_stretches : FnScope ["kind", "n", "t", "wide", "i"] ["kind", "n"] (defScope s_barring_stretches) := ⟨rfl, rfl, rfl, by decide +kernel, rfl, by decide +kernel, by decide +kernel⟩
abbrev s__law_can_rains : Stmt := top 58
theorem sc__law_can_rains : FnScope ["spans", "span"] ["spans"] (defScope s__law_can_rains) := ⟨rfl, rfl, rfl, by decide +kernel, rfl, by decide +kernel, by decide +kernel⟩
abbrev s__law_stretches : Stmt := top 59
theorem sc__law_stretches : FnScope ["days", "found", "b", "a"] ["days"] (defScope s__law_stretches) := ⟨rfl, rfl, rfl, by decide +kernel, rfl, by decide +kernel, by decide +kernel⟩
abbrev s__law_spans_in : Stmt := top 60
theorem sc__law_spans_in : FnScope ["spans", "a", "b", "span"] ["spans", "a", "b"] (defScope s__law_spans_in) := ⟨rfl, rfl, rfl, by decide +kernel, rfl, by decide +kernel, by decide +kernel⟩
abbrev s__law_span_table : Stmt := top 61
theorem sc__law_span_table : FnScope ["days", "spans", "table", "a", "b"] ["days", "spans"] (defScope s__law_span_table) := ⟨rfl, rfl, rfl, by decide +kernel, rfl, by decide +kernel, by decide +kernel⟩
abbrev s__law_key_list : Stmt := top 62
theorem sc__law_key_list : FnScope ["days", "table", "found", "a", "b"] ["days", "table"] (defScope s__law_key_list) := ⟨rfl, rfl, rfl, by decide +kernel, rfl, by decide +kernel, by decide +kernel⟩
abbrev s__law_is_tight : Stmt := top 63
theorem sc__law_is_tight : FnScope ["spans", "weather", "a", "b", "day", "fall", "span"] ["spans", "weather", "a", "b"] (defScope s__law_is_tight) := ⟨rfl, rfl, rfl, by decide +kernel, rfl, by decide +kernel, by decide +kernel⟩
abbrev s__law_covered : Stmt := top 64
theorem sc__law_covered : FnScope ["days", "span", "lot", "stretch", "others", "day"] ["days", "span", "lot"] (defScope s__law_covered) := ⟨rfl, rfl, rfl, by decide +kernel, rfl, by decide +kernel, by decide +kernel⟩
abbrev s__law_first_covered : Stmt := top 65
theorem sc__law_first_covered : FnScope ["days", "spans", "lot", "at"] ["days", "spans", "lot"] (defScope s__law_first_covered) := ⟨rfl, rfl, rfl, by decide +kernel, rfl, by decide +kernel, by decide +kernel⟩
abbrev s__law_first_wrong : Stmt := top 66
theorem sc__law_first_wrong : FnScope ["days", "rains", "weather", "gone", "day", "before", "fall", "number", "rain", "at"] ["days", "rains", "weather"] (defScope s__law_first_wrong) := ⟨rfl, rfl, rfl, by decide +kernel, rfl, by decide +kernel, by decide +kernel⟩
abbrev s__law_undecided : Stmt := top 67
theorem sc__law_undecided : FnScope ["spans", "keys", "weathers", "a", "b", "weather"] ["spans", "keys", "weathers"] (defScope s__law_undecided) := ⟨rfl, rfl, rfl, by decide +kernel, rfl, by decide +kernel, by decide +kernel⟩
abbrev s__law_are_weathers : Stmt := top 68
theorem sc__law_are_weathers : FnScope ["days", "rains", "weathers", "weather", "report", "fall"] ["days", "rains", "weathers"] (defScope s__law_are_weathers) := ⟨rfl, rfl, rfl, by decide +kernel, rfl, by decide +kernel, by decide +kernel⟩
abbrev s__law_caught : Stmt := top 69
theorem sc__law_caught : FnScope ["raised", "found"] ["raised"] (defScope s__law_caught) := ⟨rfl, rfl, rfl, by decide +kernel, rfl, by decide +kernel, by decide +kernel⟩
abbrev s__law_spoil : Stmt := top 70
theorem sc__law_spoil : FnScope ["told"] ["told"] (defScope s__law_spoil) := ⟨rfl, rfl, rfl, by decide +kernel, rfl, by decide +kernel, by decide +kernel⟩
abbrev s__law_stock : Stmt := top 71
theorem sc__law_stock : FnScope ["script", "at", "one", "cell", "size", "small"] ["script", "at"] (defScope s__law_stock) := ⟨rfl, rfl, rfl, by decide +kernel, rfl, by decide +kernel, by decide +kernel⟩
abbrev s__law_draw : Stmt := top 72
theorem sc__law_draw : FnScope ["stock", "many", "found"] ["stock", "many"] (defScope s__law_draw) := ⟨rfl, rfl, rfl, by decide +kernel, rfl, by decide +kernel, by decide +kernel⟩
abbrev s__law_matches : Stmt := top 73
theorem sc__law_matches : FnScope ["answer", "due", "key", "at"] ["answer", "due"] (defScope s__law_matches) := ⟨rfl, rfl, rfl, by decide +kernel, rfl, by decide +kernel, by decide +kernel⟩
abbrev s__law_deep : Stmt := top 74
theorem sc__law_deep : FnScope ["thing", "one"] ["thing"] (defScope s__law_deep) := ⟨rfl, rfl, rfl, by decide +kernel, rfl, by decide +kernel, by decide +kernel⟩
abbrev s__law_whole : Stmt := top 75
theorem sc__law_whole : FnScope ["thing"] ["thing"] (defScope s__law_whole) := ⟨rfl, rfl, rfl, by decide +kernel, rfl, by decide +kernel, by decide +kernel⟩
abbrev s__law_ask_family : Stmt := top 76
theorem sc__law_ask_family : FnScope ["kind", "n", "raised"] ["kind", "n"] (defScope s__law_ask_family) := ⟨rfl, rfl, rfl, by decide +kernel, rfl, by decide +kernel, by decide +kernel⟩
abbrev s__law_ask_barring : Stmt := top 77
theorem sc__law_ask_barring : FnScope ["kind", "n", "raised"] ["kind", "n"] (defScope s__law_ask_barring) := ⟨rfl, rfl, rfl, by decide +kernel, rfl, by decide +kernel, by decide +kernel⟩
abbrev s__law_spans_of : Stmt := top 78
theorem sc__law_spans_of : FnScope ["kind", "n", "i", "spans", "first", "last"] ["kind", "n"] (defScope s__law_spans_of) := ⟨rfl, rfl, rfl, by decide +kernel, rfl, by decide +kernel, by decide +kernel⟩
abbrev s__law_barring : Stmt := top 79
theorem sc__law_barring : FnScope ["kind", "n", "t", "wide", "i"] ["kind", "n"] (defScope s__law_barring) := ⟨rfl, rfl, rfl, by decide +kernel, rfl, by decide +kernel, by decide +kernel⟩
abbrev s__law_many_trials : Stmt := top 80
theorem sc__law_many_trials : FnScope ["kind", "n", "power"] ["kind", "n"] (defScope s__law_many_trials) := ⟨rfl, rfl, rfl, by decide +kernel, rfl, by decide +kernel, by decide +kernel⟩
abbrev s__law_barring_right : Stmt := top 81
theorem sc__law_barring_right : FnScope ["almanac", "days", "spans", "keys", "kind", "n", "due", "told", "at", "after", "covered"] ["almanac", "days", "spans", "keys", "kind", "n"] (defScope s__law_barring_right) := ⟨rfl, rfl, rfl, by decide +kernel, rfl, by decide +kernel, by decide +kernel⟩
abbrev s__law_family_right : Stmt := top 82
theorem sc__law_family_right : FnScope ["stock", "kind", "n", "days", "spans", "told", "almanac", "weathers", "rains", "many", "keys", "out", "at", "left", "due", "again"] ["stock", "kind", "n"] (defScope s__law_family_right) := ⟨rfl, rfl, rfl, by decide +kernel, rfl, by decide +kernel, by decide +kernel⟩
abbrev s__law_errors_right : Stmt := top 83
theorem sc__law_errors_right : FnScope ["stock", "kind", "most", "n", "due", "wished", "strange"] ["stock"] (defScope s__law_errors_right) := ⟨rfl, rfl, rfl, by decide +kernel, rfl, by decide +kernel, by decide +kernel⟩
abbrev s_law : Stmt := top 84
theorem sc_law : FnScope ["script", "stock", "kind", "most", "n"] ["script"] (defScope s_law) := ⟨rfl, rfl, rfl, by decide +kernel, rfl, by decide +kernel, by decide +kernel⟩
abbrev s_TooMany___init__ : Stmt := inClass (top 3) 0
theorem sc_TooMany___init__ : FnScope ["self", "what"] ["self", "what"] (defScope s_TooMany___init__) := ⟨rfl, rfl, rfl, by decide +kernel, rfl, by decide +kernel, by decide +kernel⟩
abbrev s_BadSky___init__ : Stmt := inClass (top 4) 0
theorem sc_BadSky___init__ : FnScope ["self", "row"] ["self", "row"] (defScope s_BadSky___init__) := ⟨rfl, rfl, rfl, by decide +kernel, rfl, by decide +kernel, by decide +kernel⟩
abbrev s_BadWeather___init__ : Stmt := inClass (top 5) 0
theorem sc_BadWeather___init__ : FnScope ["self", "day"] ["self", "day"] (defScope s_BadWeather___init__) := ⟨rfl, rfl, rfl, by decide +kernel, rfl, by decide +kernel, by decide +kernel⟩
abbrev s_BadSetting___init__ : Stmt := inClass (top 7) 0
theorem sc_BadSetting___init__ : FnScope ["self", "what"] ["self", "what"] (defScope s_BadSetting___init__) := ⟨rfl, rfl, rfl, by decide +kernel, rfl, by decide +kernel, by decide +kernel⟩
abbrev s_BadTable___init__ : Stmt := inClass (top 8) 0
theorem sc_BadTable___init__ : FnScope ["self", "first", "last"] ["self", "first", "last"] (defScope s_BadTable___init__) := ⟨rfl, rfl, rfl, by decide +kernel, rfl, by decide +kernel, by decide +kernel⟩
abbrev s_Almanac___init__ : Stmt := inClass (top 27) 0
theorem sc_Almanac___init__ : FnScope ["self", "days", "rains", "rain", "at", "first", "last", "least", "most"] ["self", "days", "rains"] (defScope s_Almanac___init__) := ⟨rfl, rfl, rfl, by decide +kernel, rfl, by decide +kernel, by decide +kernel⟩
abbrev s_Almanac_days : Stmt := inClass (top 27) 1
theorem sc_Almanac_days : FnScope ["self"] ["self"] (defScope s_Almanac_days) := ⟨rfl, rfl, rfl, by decide +kernel, rfl, by decide +kernel, by decide +kernel⟩
abbrev s_Almanac_rains : Stmt := inClass (top 27) 2
theorem sc_Almanac_rains : FnScope ["self"] ["self"] (defScope s_Almanac_rains) := ⟨rfl, rfl, rfl, by decide +kernel, rfl, by decide +kernel, by decide +kernel⟩
abbrev s_Almanac_begins : Stmt := inClass (top 27) 7
theorem sc_Almanac_begins : FnScope ["self", "beginning", "fell", "at", "report", "day", "number", "cans", "first", "last", "least", "most", "at_rain", "rain"] ["self", "beginning"] (defScope s_Almanac_begins) := ⟨rfl, rfl, rfl, by decide +kernel, rfl, by decide +kernel, by decide +kernel⟩
def d_check : He.DefD := ⟨("check", none), "check", "check", defArgs s_check, defBody s_check, defScope s_check, [], []⟩
def d_check_each : He.DefD := ⟨("check_each", none), "check_each", "check_each", defArgs s_check_each, defBody s_check_each, defScope s_check_each, [], []⟩
def d_check_within : He.DefD := ⟨("check_within", none), "check_within", "check_within", defArgs s_check_within, defBody s_check_within, defScope s_check_within, [], []⟩
def d_report_ascends : He.DefD := ⟨("report_ascends", none), "report_ascends", "report_ascends", defArgs s_report_ascends, defBody s_report_ascends, defScope s_report_ascends, [], []⟩
def d_check_one_can : He.DefD := ⟨("check_one_can", none), "check_one_can", "check_one_can", defArgs s_check_one_can, defBody s_check_one_can, defScope s_check_one_can, [], []⟩
def d_check_weather : He.DefD := ⟨("check_weather", none), "check_weather", "check_weather", defArgs s_check_weather, defBody s_check_weather, defScope s_check_weather, [], []⟩
def d_all_stretches : He.DefD := ⟨("all_stretches", none), "all_stretches", "all_stretches", defArgs s_all_stretches, defBody s_all_stretches, defScope s_all_stretches, [], []⟩
def d_span_counts : He.DefD := ⟨("span_counts", none), "span_counts", "span_counts", defArgs s_span_counts, defBody s_span_counts, defScope s_span_counts, [], []⟩
def d_fall_counts : He.DefD := ⟨("fall_counts", none), "fall_counts", "fall_counts", defArgs s_fall_counts, defBody s_fall_counts, defScope s_fall_counts, [], []⟩
def d_key_stretches : He.DefD := ⟨("key_stretches", none), "key_stretches", "key_stretches", defArgs s_key_stretches, defBody s_key_stretches, defScope s_key_stretches, [], []⟩
def d_tight_among : He.DefD := ⟨("tight_among", none), "tight_among", "tight_among", defArgs s_tight_among, defBody s_tight_among, defScope s_tight_among, [], []⟩
def d_check_stretch : He.DefD := ⟨("check_stretch", none), "check_stretch", "check_stretch", defArgs s_check_stretch, defBody s_check_stretch, defScope s_check_stretch, [], []⟩
def d_free_day : He.DefD := ⟨("free_day", none), "free_day", "free_day", defArgs s_free_day, defBody s_free_day, defScope s_free_day, [], []⟩
def d_lot_places : He.DefD := ⟨("lot_places", none), "lot_places", "lot_places", defArgs s_lot_places, defBody s_lot_places, defScope s_lot_places, [], []⟩
def d_placed_weather : He.DefD := ⟨("placed_weather", none), "placed_weather", "placed_weather", defArgs s_placed_weather, defBody s_placed_weather, defScope s_placed_weather, [], []⟩
def d_lot_together : He.DefD := ⟨("lot_together", none), "lot_together", "lot_together", defArgs s_lot_together, defBody s_lot_together, defScope s_lot_together, [], []⟩
def d_first_undecided : He.DefD := ⟨("first_undecided", none), "first_undecided", "first_undecided", defArgs s_first_undecided, defBody s_first_undecided, defScope s_first_undecided, [], []⟩
def d_check_kind : He.DefD := ⟨("check_kind", none), "check_kind", "check_kind", defArgs s_check_kind, defBody s_check_kind, defScope s_check_kind, [], []⟩
def d_check_family : He.DefD := ⟨("check_family", none), "check_family", "check_family", defArgs s_check_family, defBody s_check_family, defScope s_check_family, [], []⟩
def d_trial_number : He.DefD := ⟨("trial_number", none), "trial_number", "trial_number", defArgs s_trial_number, defBody s_trial_number, defScope s_trial_number, [], []⟩
def d_family_spans : He.DefD := ⟨("family_spans", none), "family_spans", "family_spans", defArgs s_family_spans, defBody s_family_spans, defScope s_family_spans, [], []⟩
def d_bit_rows : He.DefD := ⟨("bit_rows", none), "bit_rows", "bit_rows", defArgs s_bit_rows, defBody s_bit_rows, defScope s_bit_rows, [], []⟩
def d_early_rains : He.DefD := ⟨("early_rains", none), "early_rains", "early_rains", defArgs s_early_rains, defBody s_early_rains, defScope s_early_rains, [], []⟩
def d_middle_lots : He.DefD := ⟨("middle_lots", none), "middle_lots", "middle_lots", defArgs s_middle_lots, defBody s_middle_lots, defScope s_middle_lots, [], []⟩
def d_all_lots : He.DefD := ⟨("all_lots", none), "all_lots", "all_lots", defArgs s_all_lots, defBody s_all_lots, defScope s_all_lots, [], []⟩
def d_trial_family : He.DefD := ⟨("trial_family", none), "trial_family", "trial_family", defArgs s_trial_family, defBody s_trial_family, defScope s_trial_family, [], []⟩
def d_barring_stretches : He.DefD := ⟨("barring_stretches", none), "barring_stretches", "barring_stretches", defArgs s_barring_stretches, defBody s_barring_stretches, defScope s_barring_stretches, [], []⟩
def d__law_can_rains : He.DefD := ⟨("_law_can_rains", none), "_law_can_rains", "_law_can_rains", defArgs s__law_can_rains, defBody s__law_can_rains, defScope s__law_can_rains, [], []⟩
def d__law_stretches : He.DefD := ⟨("_law_stretches", none), "_law_stretches", "_law_stretches", defArgs s__law_stretches, defBody s__law_stretches, defScope s__law_stretches, [], []⟩
def d__law_spans_in : He.DefD := ⟨("_law_spans_in", none), "_law_spans_in", "_law_spans_in", defArgs s__law_spans_in, defBody s__law_spans_in, defScope s__law_spans_in, [], []⟩
def d__law_span_table : He.DefD := ⟨("_law_span_table", none), "_law_span_table", "_law_span_table", defArgs s__law_span_table, defBody s__law_span_table, defScope s__law_span_table, [], []⟩
def d__law_key_list : He.DefD := ⟨("_law_key_list", none), "_law_key_list", "_law_key_list", defArgs s__law_key_list, defBody s__law_key_list, defScope s__law_key_list, [], []⟩
def d__law_is_tight : He.DefD := ⟨("_law_is_tight", none), "_law_is_tight", "_law_is_tight", defArgs s__law_is_tight, defBody s__law_is_tight, defScope s__law_is_tight, [], []⟩
def d__law_covered : He.DefD := ⟨("_law_covered", none), "_law_covered", "_law_covered", defArgs s__law_covered, defBody s__law_covered, defScope s__law_covered, [], []⟩
def d__law_first_covered : He.DefD := ⟨("_law_first_covered", none), "_law_first_covered", "_law_first_covered", defArgs s__law_first_covered, defBody s__law_first_covered, defScope s__law_first_covered, [], []⟩
def d__law_first_wrong : He.DefD := ⟨("_law_first_wrong", none), "_law_first_wrong", "_law_first_wrong", defArgs s__law_first_wrong, defBody s__law_first_wrong, defScope s__law_first_wrong, [], []⟩
def d__law_undecided : He.DefD := ⟨("_law_undecided", none), "_law_undecided", "_law_undecided", defArgs s__law_undecided, defBody s__law_undecided, defScope s__law_undecided, [], []⟩
def d__law_are_weathers : He.DefD := ⟨("_law_are_weathers", none), "_law_are_weathers", "_law_are_weathers", defArgs s__law_are_weathers, defBody s__law_are_weathers, defScope s__law_are_weathers, [], []⟩
def d__law_caught : He.DefD := ⟨("_law_caught", none), "_law_caught", "_law_caught", defArgs s__law_caught, defBody s__law_caught, defScope s__law_caught, [], []⟩
def d__law_spoil : He.DefD := ⟨("_law_spoil", none), "_law_spoil", "_law_spoil", defArgs s__law_spoil, defBody s__law_spoil, defScope s__law_spoil, [], []⟩
def d__law_stock : He.DefD := ⟨("_law_stock", none), "_law_stock", "_law_stock", defArgs s__law_stock, defBody s__law_stock, defScope s__law_stock, [], []⟩
def d__law_draw : He.DefD := ⟨("_law_draw", none), "_law_draw", "_law_draw", defArgs s__law_draw, defBody s__law_draw, defScope s__law_draw, [], []⟩
def d__law_matches : He.DefD := ⟨("_law_matches", none), "_law_matches", "_law_matches", defArgs s__law_matches, defBody s__law_matches, defScope s__law_matches, [], []⟩
def d__law_deep : He.DefD := ⟨("_law_deep", none), "_law_deep", "_law_deep", defArgs s__law_deep, defBody s__law_deep, defScope s__law_deep, [], []⟩
def d__law_whole : He.DefD := ⟨("_law_whole", none), "_law_whole", "_law_whole", defArgs s__law_whole, defBody s__law_whole, defScope s__law_whole, [], []⟩
def d__law_ask_family : He.DefD := ⟨("_law_ask_family", none), "_law_ask_family", "_law_ask_family", defArgs s__law_ask_family, defBody s__law_ask_family, defScope s__law_ask_family, [], []⟩
def d__law_ask_barring : He.DefD := ⟨("_law_ask_barring", none), "_law_ask_barring", "_law_ask_barring", defArgs s__law_ask_barring, defBody s__law_ask_barring, defScope s__law_ask_barring, [], []⟩
def d__law_spans_of : He.DefD := ⟨("_law_spans_of", none), "_law_spans_of", "_law_spans_of", defArgs s__law_spans_of, defBody s__law_spans_of, defScope s__law_spans_of, [], []⟩
def d__law_barring : He.DefD := ⟨("_law_barring", none), "_law_barring", "_law_barring", defArgs s__law_barring, defBody s__law_barring, defScope s__law_barring, [], []⟩
def d__law_many_trials : He.DefD := ⟨("_law_many_trials", none), "_law_many_trials", "_law_many_trials", defArgs s__law_many_trials, defBody s__law_many_trials, defScope s__law_many_trials, [], []⟩
def d__law_barring_right : He.DefD := ⟨("_law_barring_right", none), "_law_barring_right", "_law_barring_right", defArgs s__law_barring_right, defBody s__law_barring_right, defScope s__law_barring_right, [], []⟩
def d__law_family_right : He.DefD := ⟨("_law_family_right", none), "_law_family_right", "_law_family_right", defArgs s__law_family_right, defBody s__law_family_right, defScope s__law_family_right, [], []⟩
def d__law_errors_right : He.DefD := ⟨("_law_errors_right", none), "_law_errors_right", "_law_errors_right", defArgs s__law_errors_right, defBody s__law_errors_right, defScope s__law_errors_right, [], []⟩
def d_law : He.DefD := ⟨("law", none), "law", "law", defArgs s_law, defBody s_law, defScope s_law, [], []⟩
def d_TooMany___init__ : He.DefD := ⟨("TooMany", some "__init__"), "__init__", "TooMany.__init__", defArgs s_TooMany___init__, defBody s_TooMany___init__, defScope s_TooMany___init__, [], []⟩
def d_BadSky___init__ : He.DefD := ⟨("BadSky", some "__init__"), "__init__", "BadSky.__init__", defArgs s_BadSky___init__, defBody s_BadSky___init__, defScope s_BadSky___init__, [], []⟩
def d_BadWeather___init__ : He.DefD := ⟨("BadWeather", some "__init__"), "__init__", "BadWeather.__init__", defArgs s_BadWeather___init__, defBody s_BadWeather___init__, defScope s_BadWeather___init__, [], []⟩
def d_BadSetting___init__ : He.DefD := ⟨("BadSetting", some "__init__"), "__init__", "BadSetting.__init__", defArgs s_BadSetting___init__, defBody s_BadSetting___init__, defScope s_BadSetting___init__, [], []⟩
def d_BadTable___init__ : He.DefD := ⟨("BadTable", some "__init__"), "__init__", "BadTable.__init__", defArgs s_BadTable___init__, defBody s_BadTable___init__, defScope s_BadTable___init__, [], []⟩
def d_Almanac___init__ : He.DefD := ⟨("Almanac", some "__init__"), "__init__", "Almanac.__init__", defArgs s_Almanac___init__, defBody s_Almanac___init__, defScope s_Almanac___init__, [], []⟩
def d_Almanac_days : He.DefD := ⟨("Almanac", some "days"), "days", "Almanac.days", defArgs s_Almanac_days, defBody s_Almanac_days, defScope s_Almanac_days, [], []⟩
def d_Almanac_rains : He.DefD := ⟨("Almanac", some "rains"), "rains", "Almanac.rains", defArgs s_Almanac_rains, defBody s_Almanac_rains, defScope s_Almanac_rains, [], []⟩
def d_Almanac_begins : He.DefD := ⟨("Almanac", some "begins"), "begins", "Almanac.begins", defArgs s_Almanac_begins, defBody s_Almanac_begins, defScope s_Almanac_begins, [], []⟩
def fn : List He.DefD := [d_check, d_check_each, d_check_within, d_report_ascends, d_check_one_can, d_check_weather, d_all_stretches, d_span_counts, d_fall_counts, d_key_stretches, d_tight_among, d_check_stretch, d_free_day, d_lot_places, d_placed_weather, d_lot_together, d_first_undecided, d_check_kind, d_check_family, d_trial_number, d_family_spans, d_bit_rows, d_early_rains, d_middle_lots, d_all_lots, d_trial_family, d_barring_stretches, d__law_can_rains, d__law_stretches, d__law_spans_in, d__law_span_table, d__law_key_list, d__law_is_tight, d__law_covered, d__law_first_covered, d__law_first_wrong, d__law_undecided, d__law_are_weathers, d__law_caught, d__law_spoil, d__law_stock, d__law_draw, d__law_matches, d__law_deep, d__law_whole, d__law_ask_family, d__law_ask_barring, d__law_spans_of, d__law_barring, d__law_many_trials, d__law_barring_right, d__law_family_right, d__law_errors_right, d_law, d_TooMany___init__, d_BadSky___init__, d_BadWeather___init__, d_BadSetting___init__, d_BadTable___init__, d_Almanac___init__, d_Almanac_days, d_Almanac_rains, d_Almanac_begins]
def fa : List He.Fa := [.glo "check", .glo "check_each", .glo "check_within", .glo "report_ascends", .glo "check_one_can", .glo "check_weather", .glo "all_stretches", .glo "span_counts", .glo "fall_counts", .glo "key_stretches", .glo "tight_among", .glo "check_stretch", .glo "free_day", .glo "lot_places", .glo "placed_weather", .glo "lot_together", .glo "first_undecided", .glo "check_kind", .glo "check_family", .glo "trial_number", .glo "family_spans", .glo "bit_rows", .glo "early_rains", .glo "middle_lots", .glo "all_lots", .glo "trial_family", .glo "barring_stretches", .glo "_law_can_rains", .glo "_law_stretches", .glo "_law_spans_in", .glo "_law_span_table", .glo "_law_key_list", .glo "_law_is_tight", .glo "_law_covered", .glo "_law_first_covered", .glo "_law_first_wrong", .glo "_law_undecided", .glo "_law_are_weathers", .glo "_law_caught", .glo "_law_spoil", .glo "_law_stock", .glo "_law_draw", .glo "_law_matches", .glo "_law_deep", .glo "_law_whole", .glo "_law_ask_family", .glo "_law_ask_barring", .glo "_law_spans_of", .glo "_law_barring", .glo "_law_many_trials", .glo "_law_barring_right", .glo "_law_family_right", .glo "_law_errors_right", .glo "law", .glo "SeenError", .glo "TooMany", .glo "BadSky", .glo "BadWeather", .glo "BadSetting", .glo "BadTable", .glo "Almanac", .glo "LIMITS", .glo "KINDS", .free "len", .free "min", .free "list", .free "int", .free "abs", .free "sum", .free "isinstance", .free "range", .free "bool", .free "str", .free "dict", .free "tuple", .free "enumerate", .free "set", .free "all", .free "sorted", .free "ValueError", .cls "Almanac", .mkr "Almanac", .noat "Almanac" "days_number", .noat "Almanac" "rains_list", .meth "Almanac" "days", .meth "Almanac" "rains", .meth "Almanac" "begins", .int "LISTED_lots" 2000, .int "GREATEST" 1000000]
def tf : List He.Defn := [("early_rains", none)]
def ts : List He.Tab := []
def limits : List (Str × He.Dv) := [("days", .int 24), ("rains", .int 40), ("cans", .int 1000000000000), ("seeds", .int 120), ("weathers", .int 100), ("calls", .int 60), ("price", .int 1000000000000), ("offers", .int 120), ("trials", .int 6), ("lot", .int 14), ("houses", .int 6), ("row", .int 4), ("deeds", .int 120)]
def limKeys : List Str := ["days", "rains", "cans", "seeds", "weathers", "calls", "price", "offers", "trials", "lot", "houses", "row", "deeds"]
def exs (K : PySem.W.Frag) : List Bool := [He.valsB K (He.ga K "LIMITS") limits,
  seB K (He.ga K "SeenError"),
  exTB K (He.ga K "TooMany") (He.ma K (He.ga K "TooMany") "__init__"),
  decide (PySem.W.findIn K (.ref (He.ga K "TooMany")) "what" = some none),
  decide (PySem.W.exmOne K (.ref (He.ga K "TooMany")) (.ref (He.ga K "SeenError")) = some true),
  decide (PySem.W.kitOne K (.ref (He.ga K "TooMany")) (.ref (He.ga K "TooMany")) = some true),
  decide (PySem.W.kitOne K (.ref (He.ga K "TooMany")) (.ref (He.ga K "BadSky")) = some false),
  decide (PySem.W.kitOne K (.ref (He.ga K "TooMany")) (.ref (He.ga K "BadWeather")) = some false),
  decide (PySem.W.kitOne K (.ref (He.ga K "TooMany")) (.ref (He.ga K "BadSetting")) = some false),
  decide (PySem.W.kitOne K (.ref (He.ga K "TooMany")) (.ref (He.ga K "BadTable")) = some false),
  decide (PySem.W.kitOne K (.ref (He.ga K "TooMany")) (.type "ValueError") = some true),
  exTB K (He.ga K "BadSky") (He.ma K (He.ga K "BadSky") "__init__"),
  decide (PySem.W.findIn K (.ref (He.ga K "BadSky")) "row" = some none),
  decide (PySem.W.exmOne K (.ref (He.ga K "BadSky")) (.ref (He.ga K "SeenError")) = some true),
  decide (PySem.W.kitOne K (.ref (He.ga K "BadSky")) (.ref (He.ga K "TooMany")) = some false),
  decide (PySem.W.kitOne K (.ref (He.ga K "BadSky")) (.ref (He.ga K "BadSky")) = some true),
  decide (PySem.W.kitOne K (.ref (He.ga K "BadSky")) (.ref (He.ga K "BadWeather")) = some false),
  decide (PySem.W.kitOne K (.ref (He.ga K "BadSky")) (.ref (He.ga K "BadSetting")) = some false),
  decide (PySem.W.kitOne K (.ref (He.ga K "BadSky")) (.ref (He.ga K "BadTable")) = some false),
  decide (PySem.W.kitOne K (.ref (He.ga K "BadSky")) (.type "ValueError") = some true),
  exTB K (He.ga K "BadWeather") (He.ma K (He.ga K "BadWeather") "__init__"),
  decide (PySem.W.findIn K (.ref (He.ga K "BadWeather")) "day" = some none),
  decide (PySem.W.exmOne K (.ref (He.ga K "BadWeather")) (.ref (He.ga K "SeenError")) = some true),
  decide (PySem.W.kitOne K (.ref (He.ga K "BadWeather")) (.ref (He.ga K "TooMany")) = some false),
  decide (PySem.W.kitOne K (.ref (He.ga K "BadWeather")) (.ref (He.ga K "BadSky")) = some false),
  decide (PySem.W.kitOne K (.ref (He.ga K "BadWeather")) (.ref (He.ga K "BadWeather")) = some true),
  decide (PySem.W.kitOne K (.ref (He.ga K "BadWeather")) (.ref (He.ga K "BadSetting")) = some false),
  decide (PySem.W.kitOne K (.ref (He.ga K "BadWeather")) (.ref (He.ga K "BadTable")) = some false),
  decide (PySem.W.kitOne K (.ref (He.ga K "BadWeather")) (.type "ValueError") = some true),
  exTB K (He.ga K "BadSetting") (He.ma K (He.ga K "BadSetting") "__init__"),
  decide (PySem.W.findIn K (.ref (He.ga K "BadSetting")) "what" = some none),
  decide (PySem.W.exmOne K (.ref (He.ga K "BadSetting")) (.ref (He.ga K "SeenError")) = some true),
  decide (PySem.W.kitOne K (.ref (He.ga K "BadSetting")) (.ref (He.ga K "TooMany")) = some false),
  decide (PySem.W.kitOne K (.ref (He.ga K "BadSetting")) (.ref (He.ga K "BadSky")) = some false),
  decide (PySem.W.kitOne K (.ref (He.ga K "BadSetting")) (.ref (He.ga K "BadWeather")) = some false),
  decide (PySem.W.kitOne K (.ref (He.ga K "BadSetting")) (.ref (He.ga K "BadSetting")) = some true),
  decide (PySem.W.kitOne K (.ref (He.ga K "BadSetting")) (.ref (He.ga K "BadTable")) = some false),
  decide (PySem.W.kitOne K (.ref (He.ga K "BadSetting")) (.type "ValueError") = some true),
  exTB K (He.ga K "BadTable") (He.ma K (He.ga K "BadTable") "__init__"),
  decide (PySem.W.findIn K (.ref (He.ga K "BadTable")) "first" = some none),
  decide (PySem.W.findIn K (.ref (He.ga K "BadTable")) "last" = some none),
  decide (PySem.W.exmOne K (.ref (He.ga K "BadTable")) (.ref (He.ga K "SeenError")) = some true),
  decide (PySem.W.kitOne K (.ref (He.ga K "BadTable")) (.ref (He.ga K "TooMany")) = some false),
  decide (PySem.W.kitOne K (.ref (He.ga K "BadTable")) (.ref (He.ga K "BadSky")) = some false),
  decide (PySem.W.kitOne K (.ref (He.ga K "BadTable")) (.ref (He.ga K "BadWeather")) = some false),
  decide (PySem.W.kitOne K (.ref (He.ga K "BadTable")) (.ref (He.ga K "BadSetting")) = some false),
  decide (PySem.W.kitOne K (.ref (He.ga K "BadTable")) (.ref (He.ga K "BadTable")) = some true),
  decide (PySem.W.kitOne K (.ref (He.ga K "BadTable")) (.type "ValueError") = some true),
  tupB K (He.ga K "KINDS") [.str "apart", .str "row", .str "nested", .str "all"],
  decide ((tf.map fun p => (He.cT K p).2).Nodup)]
def ex (K : PySem.W.Frag) : Bool := (exs K).all id
abbrev hk : PySem.W.Hook := He.hookS 4 fa fn [(fun K => He.ga K "LIMITS", limKeys)] tf ex
def ob (s : PySem.W.SharedT) : He.AlX := He.obsS 4 fa fn [(fun K => He.ga K "LIMITS", limKeys)] tf ex (HandSHeadRun.getT s)
theorem ob_eq (s : PySem.W.SharedT) : ob s = hk.obs s.abs := He.obsS_eq (HandSHeadRun.getT_eq s)
/-- what the head tells of the written part -/
structure Txt (w : World) (K : PySem.W.Frag) (mg : Str → Option Value) : Prop where
  ex : ∃ h, K.In h ∧ h.Ns mainGlobals mg ∧ He.SaysX fa fn [(fun K => He.ga K "LIMITS", limKeys)] tf ex w h K
section
variable {w : World} {K : PySem.W.Frag} {mg : Str → Option Value}
theorem Txt.df (T : Txt w K mg) (i j : Nat) {d : He.DefD} (hd : d.dfl = []) (hk : d.kwd = []) (h : fn[i]? = some d) (x : Str) (hx : d.at_ = (x, none)) (hg : fa[j]? = some (.glo x)) : ∃ f fd, FunD K d.name d.qual d.params d.body d.scope [] [] f fd ∧ mg x = some (.ref f) := by
  obtain ⟨h0, X, G, c⟩ := T.ex
  obtain ⟨fd, F⟩ := c.t.d.defs (List.mem_of_getElem? h)
  have e1 : d.dvs K = [] := by unfold He.DefD.dvs; rw [hd]; rfl
  have e2 : d.kws K = [] := by unfold He.DefD.kws; rw [hk]; rfl
  rw [e1, e2, hx] at F
  exact ⟨_, fd, F, He.glo_ok X G (c.t.d.facts (List.mem_of_getElem? hg))⟩
theorem Txt.dm (T : Txt w K mg) (i : Nat) {d : He.DefD} (hd : d.dfl = []) (hk : d.kwd = []) (h : fn[i]? = some d) : ∃ fd, FunD K d.name d.qual d.params d.body d.scope [] [] (He.fAd K d.at_) fd := by
  obtain ⟨h0, X, G, c⟩ := T.ex
  obtain ⟨fd, F⟩ := c.t.d.defs (List.mem_of_getElem? h)
  have e1 : d.dvs K = [] := by unfold He.DefD.dvs; rw [hd]; rfl
  have e2 : d.kws K = [] := by unfold He.DefD.kws; rw [hk]; rfl
  rw [e1, e2] at F
  exact ⟨fd, F⟩
theorem Txt.gl (T : Txt w K mg) (j : Nat) (x : Str) (hg : fa[j]? = some (.glo x)) : mg x = some (.ref (He.ga K x)) := by
  obtain ⟨h0, X, G, c⟩ := T.ex
  exact He.glo_ok X G (c.t.d.facts (List.mem_of_getElem? hg))
theorem Txt.fr (T : Txt w K mg) (j : Nat) (x : Str) (hg : fa[j]? = some (.free x)) : mg x = none := by
  obtain ⟨h0, X, G, c⟩ := T.ex
  exact He.free_ok X G (c.t.d.facts (List.mem_of_getElem? hg))
theorem Txt.fact (T : Txt w K mg) (j : Nat) {f : He.Fa} (hg : fa[j]? = some f) : f.ok K = true := by
  obtain ⟨h0, X, G, c⟩ := T.ex
  exact c.t.d.facts (List.mem_of_getElem? hg)
theorem Txt.x (T : Txt w K mg) (i : Nat) {b : Bool} (h : (exs K)[i]? = some b) : b = true := by
  obtain ⟨h0, X, G, c⟩ := T.ex
  exact List.all_eq_true.mp c.more b (List.mem_of_getElem? h)
theorem f_check (T : Txt w K mg) : ∃ f fd, FnP K "check" s_check f fd ∧ mg "check" = some (.ref f) := T.df 0 0 (d := d_check) rfl rfl rfl "check" rfl rfl
theorem f_check_each (T : Txt w K mg) : ∃ f fd, FnP K "check_each" s_check_each f fd ∧ mg "check_each" = some (.ref f) := T.df 1 1 (d := d_check_each) rfl rfl rfl "check_each" rfl rfl
theorem f_check_within (T : Txt w K mg) : ∃ f fd, FnP K "check_within" s_check_within f fd ∧ mg "check_within" = some (.ref f) := T.df 2 2 (d := d_check_within) rfl rfl rfl "check_within" rfl rfl
theorem f_report_ascends (T : Txt w K mg) : ∃ f fd, FnP K "report_ascends" s_report_ascends f fd ∧ mg "report_ascends" = some (.ref f) := T.df 3 3 (d := d_report_ascends) rfl rfl rfl "report_ascends" rfl rfl
theorem f_check_one_can (T : Txt w K mg) : ∃ f fd, FnP K "check_one_can" s_check_one_can f fd ∧ mg "check_one_can" = some (.ref f) := T.df 4 4 (d := d_check_one_can) rfl rfl rfl "check_one_can" rfl rfl
theorem f_check_weather (T : Txt w K mg) : ∃ f fd, FnP K "check_weather" s_check_weather f fd ∧ mg "check_weather" = some (.ref f) := T.df 5 5 (d := d_check_weather) rfl rfl rfl "check_weather" rfl rfl
theorem f_all_stretches (T : Txt w K mg) : ∃ f fd, FnP K "all_stretches" s_all_stretches f fd ∧ mg "all_stretches" = some (.ref f) := T.df 6 6 (d := d_all_stretches) rfl rfl rfl "all_stretches" rfl rfl
theorem f_span_counts (T : Txt w K mg) : ∃ f fd, FnP K "span_counts" s_span_counts f fd ∧ mg "span_counts" = some (.ref f) := T.df 7 7 (d := d_span_counts) rfl rfl rfl "span_counts" rfl rfl
theorem f_fall_counts (T : Txt w K mg) : ∃ f fd, FnP K "fall_counts" s_fall_counts f fd ∧ mg "fall_counts" = some (.ref f) := T.df 8 8 (d := d_fall_counts) rfl rfl rfl "fall_counts" rfl rfl
theorem f_key_stretches (T : Txt w K mg) : ∃ f fd, FnP K "key_stretches" s_key_stretches f fd ∧ mg "key_stretches" = some (.ref f) := T.df 9 9 (d := d_key_stretches) rfl rfl rfl "key_stretches" rfl rfl
theorem f_tight_among (T : Txt w K mg) : ∃ f fd, FnP K "tight_among" s_tight_among f fd ∧ mg "tight_among" = some (.ref f) := T.df 10 10 (d := d_tight_among) rfl rfl rfl "tight_among" rfl rfl
theorem f_check_stretch (T : Txt w K mg) : ∃ f fd, FnP K "check_stretch" s_check_stretch f fd ∧ mg "check_stretch" = some (.ref f) := T.df 11 11 (d := d_check_stretch) rfl rfl rfl "check_stretch" rfl rfl
theorem f_free_day (T : Txt w K mg) : ∃ f fd, FnP K "free_day" s_free_day f fd ∧ mg "free_day" = some (.ref f) := T.df 12 12 (d := d_free_day) rfl rfl rfl "free_day" rfl rfl
theorem f_lot_places (T : Txt w K mg) : ∃ f fd, FnP K "lot_places" s_lot_places f fd ∧ mg "lot_places" = some (.ref f) := T.df 13 13 (d := d_lot_places) rfl rfl rfl "lot_places" rfl rfl
theorem f_placed_weather (T : Txt w K mg) : ∃ f fd, FnP K "placed_weather" s_placed_weather f fd ∧ mg "placed_weather" = some (.ref f) := T.df 14 14 (d := d_placed_weather) rfl rfl rfl "placed_weather" rfl rfl
theorem f_lot_together (T : Txt w K mg) : ∃ f fd, FnP K "lot_together" s_lot_together f fd ∧ mg "lot_together" = some (.ref f) := T.df 15 15 (d := d_lot_together) rfl rfl rfl "lot_together" rfl rfl
theorem f_first_undecided (T : Txt w K mg) : ∃ f fd, FnP K "first_undecided" s_first_undecided f fd ∧ mg "first_undecided" = some (.ref f) := T.df 16 16 (d := d_first_undecided) rfl rfl rfl "first_undecided" rfl rfl
theorem f_check_kind (T : Txt w K mg) : ∃ f fd, FnP K "check_kind" s_check_kind f fd ∧ mg "check_kind" = some (.ref f) := T.df 17 17 (d := d_check_kind) rfl rfl rfl "check_kind" rfl rfl
theorem f_check_family (T : Txt w K mg) : ∃ f fd, FnP K "check_family" s_check_family f fd ∧ mg "check_family" = some (.ref f) := T.df 18 18 (d := d_check_family) rfl rfl rfl "check_family" rfl rfl
theorem f_trial_number (T : Txt w K mg) : ∃ f fd, FnP K "trial_number" s_trial_number f fd ∧ mg "trial_number" = some (.ref f) := T.df 19 19 (d := d_trial_number) rfl rfl rfl "trial_number" rfl rfl
theorem f_family_spans (T : Txt w K mg) : ∃ f fd, FnP K "family_spans" s_family_spans f fd ∧ mg "family_spans" = some (.ref f) := T.df 20 20 (d := d_family_spans) rfl rfl rfl "family_spans" rfl rfl
theorem f_bit_rows (T : Txt w K mg) : ∃ f fd, FnP K "bit_rows" s_bit_rows f fd ∧ mg "bit_rows" = some (.ref f) := T.df 21 21 (d := d_bit_rows) rfl rfl rfl "bit_rows" rfl rfl
theorem f_early_rains (T : Txt w K mg) : ∃ f fd, FnP K "early_rains" s_early_rains f fd ∧ mg "early_rains" = some (.ref f) := T.df 22 22 (d := d_early_rains) rfl rfl rfl "early_rains" rfl rfl
theorem f_middle_lots (T : Txt w K mg) : ∃ f fd, FnP K "middle_lots" s_middle_lots f fd ∧ mg "middle_lots" = some (.ref f) := T.df 23 23 (d := d_middle_lots) rfl rfl rfl "middle_lots" rfl rfl
theorem f_all_lots (T : Txt w K mg) : ∃ f fd, FnP K "all_lots" s_all_lots f fd ∧ mg "all_lots" = some (.ref f) := T.df 24 24 (d := d_all_lots) rfl rfl rfl "all_lots" rfl rfl
theorem f_trial_family (T : Txt w K mg) : ∃ f fd, FnP K "trial_family" s_trial_family f fd ∧ mg "trial_family" = some (.ref f) := T.df 25 25 (d := d_trial_family) rfl rfl rfl "trial_family" rfl rfl
theorem f_barring_stretches (T : Txt w K mg) : ∃ f fd, FnP K "barring_stretches" s_barring_stretches f fd ∧ mg "barring_stretches" = some (.ref f) := T.df 26 26 (d := d_barring_stretches) rfl rfl rfl "barring_stretches" rfl rfl
theorem f__law_can_rains (T : Txt w K mg) : ∃ f fd, FnP K "_law_can_rains" s__law_can_rains f fd ∧ mg "_law_can_rains" = some (.ref f) := T.df 27 27 (d := d__law_can_rains) rfl rfl rfl "_law_can_rains" rfl rfl
theorem f__law_stretches (T : Txt w K mg) : ∃ f fd, FnP K "_law_stretches" s__law_stretches f fd ∧ mg "_law_stretches" = some (.ref f) := T.df 28 28 (d := d__law_stretches) rfl rfl rfl "_law_stretches" rfl rfl
theorem f__law_spans_in (T : Txt w K mg) : ∃ f fd, FnP K "_law_spans_in" s__law_spans_in f fd ∧ mg "_law_spans_in" = some (.ref f) := T.df 29 29 (d := d__law_spans_in) rfl rfl rfl "_law_spans_in" rfl rfl
theorem f__law_span_table (T : Txt w K mg) : ∃ f fd, FnP K "_law_span_table" s__law_span_table f fd ∧ mg "_law_span_table" = some (.ref f) := T.df 30 30 (d := d__law_span_table) rfl rfl rfl "_law_span_table" rfl rfl
theorem f__law_key_list (T : Txt w K mg) : ∃ f fd, FnP K "_law_key_list" s__law_key_list f fd ∧ mg "_law_key_list" = some (.ref f) := T.df 31 31 (d := d__law_key_list) rfl rfl rfl "_law_key_list" rfl rfl
theorem f__law_is_tight (T : Txt w K mg) : ∃ f fd, FnP K "_law_is_tight" s__law_is_tight f fd ∧ mg "_law_is_tight" = some (.ref f) := T.df 32 32 (d := d__law_is_tight) rfl rfl rfl "_law_is_tight" rfl rfl
theorem f__law_covered (T : Txt w K mg) : ∃ f fd, FnP K "_law_covered" s__law_covered f fd ∧ mg "_law_covered" = some (.ref f) := T.df 33 33 (d := d__law_covered) rfl rfl rfl "_law_covered" rfl rfl
theorem f__law_first_covered (T : Txt w K mg) : ∃ f fd, FnP K "_law_first_covered" s__law_first_covered f fd ∧ mg "_law_first_covered" = some (.ref f) := T.df 34 34 (d := d__law_first_covered) rfl rfl rfl "_law_first_covered" rfl rfl
theorem f__law_first_wrong (T : Txt w K mg) : ∃ f fd, FnP K "_law_first_wrong" s__law_first_wrong f fd ∧ mg "_law_first_wrong" = some (.ref f) := T.df 35 35 (d := d__law_first_wrong) rfl rfl rfl "_law_first_wrong" rfl rfl
theorem f__law_undecided (T : Txt w K mg) : ∃ f fd, FnP K "_law_undecided" s__law_undecided f fd ∧ mg "_law_undecided" = some (.ref f) := T.df 36 36 (d := d__law_undecided) rfl rfl rfl "_law_undecided" rfl rfl
theorem f__law_are_weathers (T : Txt w K mg) : ∃ f fd, FnP K "_law_are_weathers" s__law_are_weathers f fd ∧ mg "_law_are_weathers" = some (.ref f) := T.df 37 37 (d := d__law_are_weathers) rfl rfl rfl "_law_are_weathers" rfl rfl
theorem f__law_caught (T : Txt w K mg) : ∃ f fd, FnP K "_law_caught" s__law_caught f fd ∧ mg "_law_caught" = some (.ref f) := T.df 38 38 (d := d__law_caught) rfl rfl rfl "_law_caught" rfl rfl
theorem f__law_spoil (T : Txt w K mg) : ∃ f fd, FnP K "_law_spoil" s__law_spoil f fd ∧ mg "_law_spoil" = some (.ref f) := T.df 39 39 (d := d__law_spoil) rfl rfl rfl "_law_spoil" rfl rfl
theorem f__law_stock (T : Txt w K mg) : ∃ f fd, FnP K "_law_stock" s__law_stock f fd ∧ mg "_law_stock" = some (.ref f) := T.df 40 40 (d := d__law_stock) rfl rfl rfl "_law_stock" rfl rfl
theorem f__law_draw (T : Txt w K mg) : ∃ f fd, FnP K "_law_draw" s__law_draw f fd ∧ mg "_law_draw" = some (.ref f) := T.df 41 41 (d := d__law_draw) rfl rfl rfl "_law_draw" rfl rfl
theorem f__law_matches (T : Txt w K mg) : ∃ f fd, FnP K "_law_matches" s__law_matches f fd ∧ mg "_law_matches" = some (.ref f) := T.df 42 42 (d := d__law_matches) rfl rfl rfl "_law_matches" rfl rfl
theorem f__law_deep (T : Txt w K mg) : ∃ f fd, FnP K "_law_deep" s__law_deep f fd ∧ mg "_law_deep" = some (.ref f) := T.df 43 43 (d := d__law_deep) rfl rfl rfl "_law_deep" rfl rfl
theorem f__law_whole (T : Txt w K mg) : ∃ f fd, FnP K "_law_whole" s__law_whole f fd ∧ mg "_law_whole" = some (.ref f) := T.df 44 44 (d := d__law_whole) rfl rfl rfl "_law_whole" rfl rfl
theorem f__law_ask_family (T : Txt w K mg) : ∃ f fd, FnP K "_law_ask_family" s__law_ask_family f fd ∧ mg "_law_ask_family" = some (.ref f) := T.df 45 45 (d := d__law_ask_family) rfl rfl rfl "_law_ask_family" rfl rfl
theorem f__law_ask_barring (T : Txt w K mg) : ∃ f fd, FnP K "_law_ask_barring" s__law_ask_barring f fd ∧ mg "_law_ask_barring" = some (.ref f) := T.df 46 46 (d := d__law_ask_barring) rfl rfl rfl "_law_ask_barring" rfl rfl
theorem f__law_spans_of (T : Txt w K mg) : ∃ f fd, FnP K "_law_spans_of" s__law_spans_of f fd ∧ mg "_law_spans_of" = some (.ref f) := T.df 47 47 (d := d__law_spans_of) rfl rfl rfl "_law_spans_of" rfl rfl
theorem f__law_barring (T : Txt w K mg) : ∃ f fd, FnP K "_law_barring" s__law_barring f fd ∧ mg "_law_barring" = some (.ref f) := T.df 48 48 (d := d__law_barring) rfl rfl rfl "_law_barring" rfl rfl
theorem f__law_many_trials (T : Txt w K mg) : ∃ f fd, FnP K "_law_many_trials" s__law_many_trials f fd ∧ mg "_law_many_trials" = some (.ref f) := T.df 49 49 (d := d__law_many_trials) rfl rfl rfl "_law_many_trials" rfl rfl
theorem f__law_barring_right (T : Txt w K mg) : ∃ f fd, FnP K "_law_barring_right" s__law_barring_right f fd ∧ mg "_law_barring_right" = some (.ref f) := T.df 50 50 (d := d__law_barring_right) rfl rfl rfl "_law_barring_right" rfl rfl
theorem f__law_family_right (T : Txt w K mg) : ∃ f fd, FnP K "_law_family_right" s__law_family_right f fd ∧ mg "_law_family_right" = some (.ref f) := T.df 51 51 (d := d__law_family_right) rfl rfl rfl "_law_family_right" rfl rfl
theorem f__law_errors_right (T : Txt w K mg) : ∃ f fd, FnP K "_law_errors_right" s__law_errors_right f fd ∧ mg "_law_errors_right" = some (.ref f) := T.df 52 52 (d := d__law_errors_right) rfl rfl rfl "_law_errors_right" rfl rfl
theorem f_law (T : Txt w K mg) : ∃ f fd, FnP K "law" s_law f fd ∧ mg "law" = some (.ref f) := T.df 53 53 (d := d_law) rfl rfl rfl "law" rfl rfl
theorem fi_TooMany (T : Txt w K mg) : ∃ fd, FnM K "__init__" "TooMany.__init__" s_TooMany___init__ (He.ma K (He.ga K "TooMany") "__init__") fd := T.dm 54 (d := d_TooMany___init__) rfl rfl rfl
theorem fi_BadSky (T : Txt w K mg) : ∃ fd, FnM K "__init__" "BadSky.__init__" s_BadSky___init__ (He.ma K (He.ga K "BadSky") "__init__") fd := T.dm 55 (d := d_BadSky___init__) rfl rfl rfl
theorem fi_BadWeather (T : Txt w K mg) : ∃ fd, FnM K "__init__" "BadWeather.__init__" s_BadWeather___init__ (He.ma K (He.ga K "BadWeather") "__init__") fd := T.dm 56 (d := d_BadWeather___init__) rfl rfl rfl
theorem fi_BadSetting (T : Txt w K mg) : ∃ fd, FnM K "__init__" "BadSetting.__init__" s_BadSetting___init__ (He.ma K (He.ga K "BadSetting") "__init__") fd := T.dm 57 (d := d_BadSetting___init__) rfl rfl rfl
theorem fi_BadTable (T : Txt w K mg) : ∃ fd, FnM K "__init__" "BadTable.__init__" s_BadTable___init__ (He.ma K (He.ga K "BadTable") "__init__") fd := T.dm 58 (d := d_BadTable___init__) rfl rfl rfl
theorem fm_Almanac___init__ (T : Txt w K mg) : ∃ fd, FnM K "__init__" "Almanac.__init__" s_Almanac___init__ (He.ma K (He.ga K "Almanac") "__init__") fd := T.dm 59 (d := d_Almanac___init__) rfl rfl rfl
theorem fm_Almanac_days (T : Txt w K mg) : ∃ fd, FnM K "days" "Almanac.days" s_Almanac_days (He.ma K (He.ga K "Almanac") "days") fd := T.dm 60 (d := d_Almanac_days) rfl rfl rfl
theorem fm_Almanac_rains (T : Txt w K mg) : ∃ fd, FnM K "rains" "Almanac.rains" s_Almanac_rains (He.ma K (He.ga K "Almanac") "rains") fd := T.dm 61 (d := d_Almanac_rains) rfl rfl rfl
theorem fm_Almanac_begins (T : Txt w K mg) : ∃ fd, FnM K "begins" "Almanac.begins" s_Almanac_begins (He.ma K (He.ga K "Almanac") "begins") fd := T.dm 62 (d := d_Almanac_begins) rfl rfl rfl
theorem g_SeenError (T : Txt w K mg) : mg "SeenError" = some (.ref (He.ga K "SeenError")) := T.gl 54 "SeenError" rfl
theorem g_TooMany (T : Txt w K mg) : mg "TooMany" = some (.ref (He.ga K "TooMany")) := T.gl 55 "TooMany" rfl
theorem g_BadSky (T : Txt w K mg) : mg "BadSky" = some (.ref (He.ga K "BadSky")) := T.gl 56 "BadSky" rfl
theorem g_BadWeather (T : Txt w K mg) : mg "BadWeather" = some (.ref (He.ga K "BadWeather")) := T.gl 57 "BadWeather" rfl
theorem g_BadSetting (T : Txt w K mg) : mg "BadSetting" = some (.ref (He.ga K "BadSetting")) := T.gl 58 "BadSetting" rfl
theorem g_BadTable (T : Txt w K mg) : mg "BadTable" = some (.ref (He.ga K "BadTable")) := T.gl 59 "BadTable" rfl
theorem g_Almanac (T : Txt w K mg) : mg "Almanac" = some (.ref (He.ga K "Almanac")) := T.gl 60 "Almanac" rfl
theorem g_LIMITS (T : Txt w K mg) : mg "LIMITS" = some (.ref (He.ga K "LIMITS")) := T.gl 61 "LIMITS" rfl
theorem g_KINDS (T : Txt w K mg) : mg "KINDS" = some (.ref (He.ga K "KINDS")) := T.gl 62 "KINDS" rfl
theorem n_len (T : Txt w K mg) : mg "len" = none := T.fr 63 "len" rfl
theorem n_min (T : Txt w K mg) : mg "min" = none := T.fr 64 "min" rfl
theorem n_list (T : Txt w K mg) : mg "list" = none := T.fr 65 "list" rfl
theorem n_int (T : Txt w K mg) : mg "int" = none := T.fr 66 "int" rfl
theorem n_abs (T : Txt w K mg) : mg "abs" = none := T.fr 67 "abs" rfl
theorem n_sum (T : Txt w K mg) : mg "sum" = none := T.fr 68 "sum" rfl
theorem n_isinstance (T : Txt w K mg) : mg "isinstance" = none := T.fr 69 "isinstance" rfl
theorem n_range (T : Txt w K mg) : mg "range" = none := T.fr 70 "range" rfl
theorem n_bool (T : Txt w K mg) : mg "bool" = none := T.fr 71 "bool" rfl
theorem n_str (T : Txt w K mg) : mg "str" = none := T.fr 72 "str" rfl
theorem n_dict (T : Txt w K mg) : mg "dict" = none := T.fr 73 "dict" rfl
theorem n_tuple (T : Txt w K mg) : mg "tuple" = none := T.fr 74 "tuple" rfl
theorem n_enumerate (T : Txt w K mg) : mg "enumerate" = none := T.fr 75 "enumerate" rfl
theorem n_set (T : Txt w K mg) : mg "set" = none := T.fr 76 "set" rfl
theorem n_all (T : Txt w K mg) : mg "all" = none := T.fr 77 "all" rfl
theorem n_sorted (T : Txt w K mg) : mg "sorted" = none := T.fr 78 "sorted" rfl
theorem n_ValueError (T : Txt w K mg) : mg "ValueError" = none := T.fr 79 "ValueError" rfl
theorem cl_Almanac (T : Txt w K mg) : Cls K (He.ga K "Almanac") := He.cls_ok (T.fact 80 rfl)
theorem mk_Almanac (T : Txt w K mg) : Mk K (He.ga K "Almanac") (He.ma K (He.ga K "Almanac") "__init__") := He.mkr_ok (T.fact 81 rfl)
theorem na_Almanac_days_number (T : Txt w K mg) : NoAttr K (He.ga K "Almanac") "days_number" := He.noat_ok (T.fact 82 rfl)
theorem na_Almanac_rains_list (T : Txt w K mg) : NoAttr K (He.ga K "Almanac") "rains_list" := He.noat_ok (T.fact 83 rfl)
theorem me_Almanac_days (T : Txt w K mg) : Meth K (He.ga K "Almanac") "days" (He.ma K (He.ga K "Almanac") "days") := He.meth_ok (T.fact 84 rfl)
theorem me_Almanac_rains (T : Txt w K mg) : Meth K (He.ga K "Almanac") "rains" (He.ma K (He.ga K "Almanac") "rains") := He.meth_ok (T.fact 85 rfl)
theorem me_Almanac_begins (T : Txt w K mg) : Meth K (He.ga K "Almanac") "begins" (He.ma K (He.ga K "Almanac") "begins") := He.meth_ok (T.fact 86 rfl)
theorem gi_LISTED_lots (T : Txt w K mg) : ∃ t, mg "LISTED_lots" = some (.int 2000 t) := by
  obtain ⟨h0, X, G, c⟩ := T.ex
  exact He.int_ok X G (c.t.d.facts (List.mem_of_getElem? (i := 87) rfl))
theorem gi_GREATEST (T : Txt w K mg) : ∃ t, mg "GREATEST" = some (.int 1000000 t) := by
  obtain ⟨h0, X, G, c⟩ := T.ex
  exact He.int_ok X G (c.t.d.facts (List.mem_of_getElem? (i := 88) rfl))
theorem lim (T : Txt w K mg) {z : Str} {n : Int} (hz : (z, He.Dv.int n) ∈ limits) : KDct K w (He.ga K "LIMITS") z (.int n) := by
  have hv := T.x 0 rfl
  obtain ⟨h0, X, G, c⟩ := T.ex
  obtain ⟨es, m, hl, hk, hs⟩ := c.t.tab 0 rfl
  obtain ⟨u, hu, hr⟩ := He.valsB_ok hv hz
  exact ⟨es, m, u, hl, hk, hu, hr⟩
theorem se (T : Txt w K mg) : SeTxt K (He.ga K "SeenError") := seB_ok (T.x 1 rfl)
theorem xt_TooMany (T : Txt w K mg) : ExT K (He.ga K "TooMany") (He.ma K (He.ga K "TooMany") "__init__") := exTB_ok (T.x 2 rfl)
theorem xn_TooMany_what (T : Txt w K mg) : PySem.W.findIn K (.ref (He.ga K "TooMany")) "what" = some none := of_decide_eq_true (T.x 3 rfl)
theorem xs_TooMany (T : Txt w K mg) : PySem.W.exmOne K (.ref (He.ga K "TooMany")) (.ref (He.ga K "SeenError")) = some true := of_decide_eq_true (T.x 4 rfl)
theorem xk_TooMany_TooMany (T : Txt w K mg) : PySem.W.kitOne K (.ref (He.ga K "TooMany")) (.ref (He.ga K "TooMany")) = some true := of_decide_eq_true (T.x 5 rfl)
theorem xk_TooMany_BadSky (T : Txt w K mg) : PySem.W.kitOne K (.ref (He.ga K "TooMany")) (.ref (He.ga K "BadSky")) = some false := of_decide_eq_true (T.x 6 rfl)
theorem xk_TooMany_BadWeather (T : Txt w K mg) : PySem.W.kitOne K (.ref (He.ga K "TooMany")) (.ref (He.ga K "BadWeather")) = some false := of_decide_eq_true (T.x 7 rfl)
theorem xk_TooMany_BadSetting (T : Txt w K mg) : PySem.W.kitOne K (.ref (He.ga K "TooMany")) (.ref (He.ga K "BadSetting")) = some false := of_decide_eq_true (T.x 8 rfl)
theorem xk_TooMany_BadTable (T : Txt w K mg) : PySem.W.kitOne K (.ref (He.ga K "TooMany")) (.ref (He.ga K "BadTable")) = some false := of_decide_eq_true (T.x 9 rfl)
theorem xv_TooMany (T : Txt w K mg) : PySem.W.kitOne K (.ref (He.ga K "TooMany")) (.type "ValueError") = some true := of_decide_eq_true (T.x 10 rfl)
theorem xt_BadSky (T : Txt w K mg) : ExT K (He.ga K "BadSky") (He.ma K (He.ga K "BadSky") "__init__") := exTB_ok (T.x 11 rfl)
theorem xn_BadSky_row (T : Txt w K mg) : PySem.W.findIn K (.ref (He.ga K "BadSky")) "row" = some none := of_decide_eq_true (T.x 12 rfl)
theorem xs_BadSky (T : Txt w K mg) : PySem.W.exmOne K (.ref (He.ga K "BadSky")) (.ref (He.ga K "SeenError")) = some true := of_decide_eq_true (T.x 13 rfl)
theorem xk_BadSky_TooMany (T : Txt w K mg) : PySem.W.kitOne K (.ref (He.ga K "BadSky")) (.ref (He.ga K "TooMany")) = some false := of_decide_eq_true (T.x 14 rfl)
theorem xk_BadSky_BadSky (T : Txt w K mg) : PySem.W.kitOne K (.ref (He.ga K "BadSky")) (.ref (He.ga K "BadSky")) = some true := of_decide_eq_true (T.x 15 rfl)
theorem xk_BadSky_BadWeather (T : Txt w K mg) : PySem.W.kitOne K (.ref (He.ga K "BadSky")) (.ref (He.ga K "BadWeather")) = some false := of_decide_eq_true (T.x 16 rfl)
theorem xk_BadSky_BadSetting (T : Txt w K mg) : PySem.W.kitOne K (.ref (He.ga K "BadSky")) (.ref (He.ga K "BadSetting")) = some false := of_decide_eq_true (T.x 17 rfl)
theorem xk_BadSky_BadTable (T : Txt w K mg) : PySem.W.kitOne K (.ref (He.ga K "BadSky")) (.ref (He.ga K "BadTable")) = some false := of_decide_eq_true (T.x 18 rfl)
theorem xv_BadSky (T : Txt w K mg) : PySem.W.kitOne K (.ref (He.ga K "BadSky")) (.type "ValueError") = some true := of_decide_eq_true (T.x 19 rfl)
theorem xt_BadWeather (T : Txt w K mg) : ExT K (He.ga K "BadWeather") (He.ma K (He.ga K "BadWeather") "__init__") := exTB_ok (T.x 20 rfl)
theorem xn_BadWeather_day (T : Txt w K mg) : PySem.W.findIn K (.ref (He.ga K "BadWeather")) "day" = some none := of_decide_eq_true (T.x 21 rfl)
theorem xs_BadWeather (T : Txt w K mg) : PySem.W.exmOne K (.ref (He.ga K "BadWeather")) (.ref (He.ga K "SeenError")) = some true := of_decide_eq_true (T.x 22 rfl)
theorem xk_BadWeather_TooMany (T : Txt w K mg) : PySem.W.kitOne K (.ref (He.ga K "BadWeather")) (.ref (He.ga K "TooMany")) = some false := of_decide_eq_true (T.x 23 rfl)
theorem xk_BadWeather_BadSky (T : Txt w K mg) : PySem.W.kitOne K (.ref (He.ga K "BadWeather")) (.ref (He.ga K "BadSky")) = some false := of_decide_eq_true (T.x 24 rfl)
theorem xk_BadWeather_BadWeather (T : Txt w K mg) : PySem.W.kitOne K (.ref (He.ga K "BadWeather")) (.ref (He.ga K "BadWeather")) = some true := of_decide_eq_true (T.x 25 rfl)
theorem xk_BadWeather_BadSetting (T : Txt w K mg) : PySem.W.kitOne K (.ref (He.ga K "BadWeather")) (.ref (He.ga K "BadSetting")) = some false := of_decide_eq_true (T.x 26 rfl)
theorem xk_BadWeather_BadTable (T : Txt w K mg) : PySem.W.kitOne K (.ref (He.ga K "BadWeather")) (.ref (He.ga K "BadTable")) = some false := of_decide_eq_true (T.x 27 rfl)
theorem xv_BadWeather (T : Txt w K mg) : PySem.W.kitOne K (.ref (He.ga K "BadWeather")) (.type "ValueError") = some true := of_decide_eq_true (T.x 28 rfl)
theorem xt_BadSetting (T : Txt w K mg) : ExT K (He.ga K "BadSetting") (He.ma K (He.ga K "BadSetting") "__init__") := exTB_ok (T.x 29 rfl)
theorem xn_BadSetting_what (T : Txt w K mg) : PySem.W.findIn K (.ref (He.ga K "BadSetting")) "what" = some none := of_decide_eq_true (T.x 30 rfl)
theorem xs_BadSetting (T : Txt w K mg) : PySem.W.exmOne K (.ref (He.ga K "BadSetting")) (.ref (He.ga K "SeenError")) = some true := of_decide_eq_true (T.x 31 rfl)
theorem xk_BadSetting_TooMany (T : Txt w K mg) : PySem.W.kitOne K (.ref (He.ga K "BadSetting")) (.ref (He.ga K "TooMany")) = some false := of_decide_eq_true (T.x 32 rfl)
theorem xk_BadSetting_BadSky (T : Txt w K mg) : PySem.W.kitOne K (.ref (He.ga K "BadSetting")) (.ref (He.ga K "BadSky")) = some false := of_decide_eq_true (T.x 33 rfl)
theorem xk_BadSetting_BadWeather (T : Txt w K mg) : PySem.W.kitOne K (.ref (He.ga K "BadSetting")) (.ref (He.ga K "BadWeather")) = some false := of_decide_eq_true (T.x 34 rfl)
theorem xk_BadSetting_BadSetting (T : Txt w K mg) : PySem.W.kitOne K (.ref (He.ga K "BadSetting")) (.ref (He.ga K "BadSetting")) = some true := of_decide_eq_true (T.x 35 rfl)
theorem xk_BadSetting_BadTable (T : Txt w K mg) : PySem.W.kitOne K (.ref (He.ga K "BadSetting")) (.ref (He.ga K "BadTable")) = some false := of_decide_eq_true (T.x 36 rfl)
theorem xv_BadSetting (T : Txt w K mg) : PySem.W.kitOne K (.ref (He.ga K "BadSetting")) (.type "ValueError") = some true := of_decide_eq_true (T.x 37 rfl)
theorem xt_BadTable (T : Txt w K mg) : ExT K (He.ga K "BadTable") (He.ma K (He.ga K "BadTable") "__init__") := exTB_ok (T.x 38 rfl)
theorem xn_BadTable_first (T : Txt w K mg) : PySem.W.findIn K (.ref (He.ga K "BadTable")) "first" = some none := of_decide_eq_true (T.x 39 rfl)
theorem xn_BadTable_last (T : Txt w K mg) : PySem.W.findIn K (.ref (He.ga K "BadTable")) "last" = some none := of_decide_eq_true (T.x 40 rfl)
theorem xs_BadTable (T : Txt w K mg) : PySem.W.exmOne K (.ref (He.ga K "BadTable")) (.ref (He.ga K "SeenError")) = some true := of_decide_eq_true (T.x 41 rfl)
theorem xk_BadTable_TooMany (T : Txt w K mg) : PySem.W.kitOne K (.ref (He.ga K "BadTable")) (.ref (He.ga K "TooMany")) = some false := of_decide_eq_true (T.x 42 rfl)
theorem xk_BadTable_BadSky (T : Txt w K mg) : PySem.W.kitOne K (.ref (He.ga K "BadTable")) (.ref (He.ga K "BadSky")) = some false := of_decide_eq_true (T.x 43 rfl)
theorem xk_BadTable_BadWeather (T : Txt w K mg) : PySem.W.kitOne K (.ref (He.ga K "BadTable")) (.ref (He.ga K "BadWeather")) = some false := of_decide_eq_true (T.x 44 rfl)
theorem xk_BadTable_BadSetting (T : Txt w K mg) : PySem.W.kitOne K (.ref (He.ga K "BadTable")) (.ref (He.ga K "BadSetting")) = some false := of_decide_eq_true (T.x 45 rfl)
theorem xk_BadTable_BadTable (T : Txt w K mg) : PySem.W.kitOne K (.ref (He.ga K "BadTable")) (.ref (He.ga K "BadTable")) = some true := of_decide_eq_true (T.x 46 rfl)
theorem xv_BadTable (T : Txt w K mg) : PySem.W.kitOne K (.ref (He.ga K "BadTable")) (.type "ValueError") = some true := of_decide_eq_true (T.x 47 rfl)
theorem t_KINDS (T : Txt w K mg) (H : Hp) : SqT K H (He.ga K "KINDS") [.str "apart", .str "row", .str "nested", .str "all"] := tupB_ok (T.x 48 rfl) H
theorem tabs_nodup (T : Txt w K mg) : (tf.map fun p => (He.cT K p).2).Nodup := of_decide_eq_true (T.x 49 rfl)
theorem Txt.dl (T : Txt w K mg) (i j : Nat) {d : He.DefD} (hd : d.dfl = []) (hk : d.kwd = []) (h : fn[i]? = some d) (x : Str) (hx : d.at_ = (x, none)) (hg : fa[j]? = some (.glo x)) : ∃ f fd, FunD K d.name d.qual d.params d.body d.scope [] [] f fd ∧ mg x = some (.ref f) ∧ fd.code = .ref (He.codeOf K (x, none)) := by
  obtain ⟨h0, X, G, c⟩ := T.ex
  obtain ⟨fd, F⟩ := c.t.d.defs (List.mem_of_getElem? h)
  have e1 : d.dvs K = [] := by unfold He.DefD.dvs; rw [hd]; rfl
  have e2 : d.kws K = [] := by unfold He.DefD.kws; rw [hk]; rfl
  rw [e1, e2, hx] at F
  refine ⟨_, fd, F, He.glo_ok X G (c.t.d.facts (List.mem_of_getElem? hg)), ?_⟩
  obtain ⟨oc, od, dV, kV, doc, pm, an, cdv, ct, osl, e, lk, hcd, _, _⟩ := F.ex
  have e3 : fd.code = cdv := by rw [e]
  rw [e3]
  cases cdv with
  | ref a => rw [He.codeOf_eq lk e3]
  | _ => cases hcd
theorem fl_early_rains (T : Txt w K mg) : ∃ f fd, FnP K "early_rains" s_early_rains f fd ∧ mg "early_rains" = some (.ref f) ∧ fd.code = .ref (He.codeOf K ("early_rains", none)) := T.dl 22 22 (d := d_early_rains) rfl rfl rfl "early_rains" rfl rfl
end
end K85
end
section
set_option maxRecDepth 100000
set_option maxHeartbeats 4000000
/-! the head's run proved in two parts, so that no one check holds all of it -/
namespace L2
open PySem PySem.W PySem.Calls PyProof.Rows HandSHeadRun
theorem run_parts {r : OpenRow} {q : Program} {H : Hook} {ob : SharedT → H.α} {M : Nat} {loose : List PySem.Str} {w : World}
    (hab : ∀ os : OsState, ((endF (stepQ (denQ tabQ) r.prog w) M r.prog w os).map fun s => (looksF r.prog (boot_heap w.params) s.abs, seenQ q loose (importedModules r.prog.main.body) (fun s => xlAt q [] s && recOk r.toRowW.records s) s.abs)) = some (true, openGood q loose))
    (hc : ∀ os : OsState, ((endF (stepQ (denQ tabQ) r.prog w) M r.prog w os).map fun s => ob s) = some (H.val w)) : HandSHeadRun.RunEq r q H ob M loose w := by
  intro os
  have a := hab os
  have c := hc os
  cases e : endF (stepQ (denQ tabQ) r.prog w) M r.prog w os with
  | none =>
    rw [e] at a
    cases a
  | some s =>
    rw [e] at a c
    have a' := Option.some.inj a
    have c' := Option.some.inj c
    have a1 := congrArg Prod.fst a'
    have a2 := congrArg Prod.snd a'
    show some (_, _, _) = some (_, _, _)
    rw [show looksF r.prog (boot_heap w.params) s.abs = true from a1, show seenQ q loose (importedModules r.prog.main.body) (fun s => xlAt q [] s && recOk r.toRowW.records s) s.abs = openGood q loose from a2, show ob s = H.val w from c']
end L2
end
section
set_option maxRecDepth 100000
set_option maxHeartbeats 0
namespace K85
open PySem PySem.W PySem.Calls PySem.Spec PyProof.Rows L2
abbrev R : PySem.W.OpenRow := PySem.W.OpenLaw.row PySem.Challenge.rw_seenenough_k85_whole_families_and_their
def loose1 : List PySem.Str := (["_wall", "SeenError", "TooMany", "BadSky", "BadWeather", "BadReport", "BadSetting", "BadTable", "BadDay", "LIMITS"] : List PySem.Str)
def loose2 : List PySem.Str := (["check", "check_each", "check_within", "check_day", "fallen_row", "reports_of", "report_ascends", "rain_gap", "seen_gap", "rain_couple", "seen_fall", "LISTED_almanacs", "Almanac", "check_one_can", "check_weather", "all_stretches", "span_counts", "fall_counts", "key_stretches", "tight_among", "LISTED_lots", "check_stretch", "free_day", "lot_places", "placed_weather"] : List PySem.Str) ++ (["lot_together", "first_undecided", "GREATEST", "KINDS", "check_kind", "check_family", "trial_number", "family_spans", "bit_rows", "early_rains", "middle_lots", "all_lots", "trial_family", "barring_stretches", "_law_can_rains", "_law_stretches", "_law_spans_in", "_law_span_table", "_law_key_list", "_law_is_tight", "_law_covered", "_law_first_covered", "_law_first_wrong", "_law_undecided", "_law_are_weathers"] : List PySem.Str) ++ (["_law_caught", "_law_spoil", "_law_stock", "_law_draw", "_law_matches", "_law_deep", "_law_whole", "_law_ask_family", "_law_ask_barring", "_law_spans_of", "_law_barring", "_law_many_trials", "_law_barring_right", "_law_family_right", "_law_errors_right"] : List PySem.Str)
theorem runFa (w : World) : ∀ os : PySem.OsState, ((HandSHeadRun.endF (HandSHeadRun.stepQ (HandSHeadRun.denQ HandSHeadRun.tabQ) R.prog (w.withFollow "special-get-raises" false)) 20000 R.prog (w.withFollow "special-get-raises" false) os).map fun s => (HandSHeadRun.looksF R.prog (boot_heap (World.params (w.withFollow "special-get-raises" false))) s.abs, HandSHeadRun.seenQ (PySem.W.view R.prog [84]) (loose1 ++ loose2) (importedModules R.prog.main.body) (fun s => xlAt (PySem.W.view R.prog [84]) [] s && recOk R.toRowW.records s) s.abs)) = some (true, openGood (PySem.W.view R.prog [84]) (loose1 ++ loose2)) := by
  intro os
  kernel_rfl
theorem runFc (w : World) : ∀ os : PySem.OsState, ((HandSHeadRun.endF (HandSHeadRun.stepQ (HandSHeadRun.denQ HandSHeadRun.tabQ) R.prog (w.withFollow "special-get-raises" false)) 20000 R.prog (w.withFollow "special-get-raises" false) os).map fun s => ob s) = some (PySem.W.Hook.val hk (w.withFollow "special-get-raises" false)) := by
  intro os
  kernel_rfl
theorem runF (w : World) : HandSHeadRun.RunEq R (PySem.W.view R.prog [84]) hk ob 20000 (loose1 ++ loose2) (w.withFollow "special-get-raises" false) := L2.run_parts (runFa w) (runFc w)
theorem runTa (w : World) : ∀ os : PySem.OsState, ((HandSHeadRun.endF (HandSHeadRun.stepQ (HandSHeadRun.denQ HandSHeadRun.tabQ) R.prog (w.withFollow "special-get-raises" true)) 20000 R.prog (w.withFollow "special-get-raises" true) os).map fun s => (HandSHeadRun.looksF R.prog (boot_heap (World.params (w.withFollow "special-get-raises" true))) s.abs, HandSHeadRun.seenQ (PySem.W.view R.prog [84]) (loose1 ++ loose2) (importedModules R.prog.main.body) (fun s => xlAt (PySem.W.view R.prog [84]) [] s && recOk R.toRowW.records s) s.abs)) = some (true, openGood (PySem.W.view R.prog [84]) (loose1 ++ loose2)) := by
  intro os
  kernel_rfl
theorem runTc (w : World) : ∀ os : PySem.OsState, ((HandSHeadRun.endF (HandSHeadRun.stepQ (HandSHeadRun.denQ HandSHeadRun.tabQ) R.prog (w.withFollow "special-get-raises" true)) 20000 R.prog (w.withFollow "special-get-raises" true) os).map fun s => ob s) = some (PySem.W.Hook.val hk (w.withFollow "special-get-raises" true)) := by
  intro os
  kernel_rfl
theorem runT (w : World) : HandSHeadRun.RunEq R (PySem.W.view R.prog [84]) hk ob 20000 (loose1 ++ loose2) (w.withFollow "special-get-raises" true) := L2.run_parts (runTa w) (runTc w)
theorem run (w : World) : HandSHeadRun.RunEq R (PySem.W.view R.prog [84]) hk ob 20000 (loose1 ++ loose2) w :=
  byRow2 "special-get-raises" (P := fun w => HandSHeadRun.RunEq R (PySem.W.view R.prog [84]) hk ob 20000 (loose1 ++ loose2) w) runF runT w
end K85
end
section
set_option maxRecDepth 100000
set_option maxHeartbeats 4000000
namespace L2
open PySem PySem.Spec PyProof.Rows
/-! ### heaps that grow -/
theorem same_new {H : Hp} {p : Addr} {o : HO} (h : H p = none) : Same H (upd H p o) := fun b u e => by
  rw [upd_ne (ne_of_none e h)]
  exact e
theorem same_mut {H H' : Hp} {p : Addr} {o : HO} (e : Same H H') (h : H p = none) : Same H (upd H' p o) := fun b u hb => by
  rw [upd_ne (ne_of_none hb h)]
  exact e b u hb
theorem Same.tup {K : PySem.W.Frag} {H H' : Hp} {a : Addr} {xs : List V} (e : Same H H') (h : SqT K H a xs) : SqT K H' a xs := by
  rcases h with (h | ⟨o, h⟩) | h
  · exact .inl (.inl (e _ _ h))
  · exact .inl (.inr ⟨o, e _ _ h⟩)
  · exact .inr h
/-- a new object: the heap behind it as a letter -/
theorem newly {H : Hp} {o : HO} {Q : Addr → Hp → Prop} (h : ∀ p H', H p = none → Same H H' → H' p = some o → (∀ b, b ≠ p → H' b = H b) → Q p H') : ∀ p, H p = none → Q p (upd H p o) :=
  fun p hp => h p _ hp (same_new hp) upd_same fun b hb => upd_ne hb
/-- all but what stands at a is as it was -/
def But (a : Addr) (H H' : Hp) : Prop := ∀ b o, H b = some o → b ≠ a → H' b = some o
theorem But.refl (a : Addr) (H : Hp) : But a H H := fun _ _ h _ => h
theorem But.of {a : Addr} {H H' : Hp} (e : Same H H') : But a H H' := fun b o h _ => e b o h
theorem But.trans {a : Addr} {H H1 H2 : Hp} (e : But a H H1) (f : But a H1 H2) : But a H H2 := fun b o h n => f b o (e b o h n) n
theorem But.upd {a : Addr} {H H' : Hp} {o : HO} (e : But a H H') : But a H (upd H' a o) := fun b u h n => by
  rw [upd_ne n]
  exact e b u h n
theorem But.mut {a p : Addr} {H H' : Hp} {o : HO} (e : But a H H') (h : H p = none) : But a H (L2.upd H' p o) := fun b u hb n => by
  rw [upd_ne (ne_of_none hb h)]
  exact e b u hb n
theorem But.free {a : Addr} {H H' : Hp} (e : But a H H') (ha : H' a ≠ none) {l : Addr} (h : H' l = none) : H l = none := by
  cases q : H l with
  | none => rfl
  | some o =>
    by_cases hl : l = a
    · rw [hl] at h
      exact absurd h ha
    · rw [e l o q hl] at h
      cases h
theorem lst_ne {H : Hp} {a : Addr} {o : HO} {K : PySem.W.Frag} (x : H a = some o) : H a ≠ none := by rw [x]; exact fun z => by cases z
/-! ### an own exception raised -/
def spInit (C : Addr) (f : Str) : Sp := fun vs H Q _ => ∃ (a : Addr) (v : V), vs = [.ref a, v] ∧ H a = some (exo a C none) ∧
  ∀ dx, H dx = none → dx ≠ a → Q .non (upd (upd H dx (exd dx [(f, v)])) a (exo a C (some dx)))
theorem mko {C : Addr} {f : Str} {v : V} {H : Hp} {Q : XK} (h : ∀ d, H d = none → Q (.ref C) (some d) (upd H d (.xd [(f, v)]))) : ([v] : List V).length ≤ 1000 ∧ ∀ a, H a = none → spInit C f (.ref a :: ([v] ++ [])) (upd H a (exo a C none))
    (fun u H2 => u = .non ∧ ∃ (d : Addr) (fs : List (Str × V)), H2 a = some (exo a C (some d)) ∧ H2 d = some (exd d fs) ∧ H d = none ∧ Q (.ref C) (some d) (upd (del H2 a) d (.xd fs))) (fun _ _ _ => False) := by
  refine ⟨by show 1 ≤ 1000; decide, fun a ha => ⟨a, v, rfl, upd_same, fun dx hd hne => ⟨rfl, dx, [(f, v)], upd_same, by rw [upd_ne hne, upd_same], ?_, ?_⟩⟩⟩
  · rw [upd_ne hne] at hd
    exact hd
  · have hd' : H dx = none := by rw [upd_ne hne] at hd; exact hd
    have e : upd (del (upd (upd (upd H a (exo a C none)) dx (exd dx [(f, v)])) a (exo a C (some dx))) a) dx (.xd [(f, v)]) = upd H dx (.xd [(f, v)]) := by
      funext b
      by_cases hb : b = dx
      · rw [hb, upd_same, upd_same]
      · rw [upd_ne hb, upd_ne hb]
        by_cases hba : b = a
        · rw [hba, del_same, ha]
        · rw [del_ne hba, upd_ne hba, upd_ne hb, upd_ne hba]
    rw [e]
    exact h dx hd'
/-- E is told of an error of the class at C whose field f is v -/
def Rz (E : XK) (H : Hp) (C : Addr) (f : Str) (v : V) : Prop := ∀ d H', Same H H' → H' d = some (.xd [(f, v)]) → E (.ref C) (some d) H'
theorem Rz.at {E : XK} {H H1 : Hp} {C : Addr} {f : Str} {v : V} (r : Rz E H C f v) (e : Same H H1) : ∀ d, H1 d = none → E (.ref C) (some d) (upd H1 d (.xd [(f, v)])) := fun d hd => r d _ (e.trans (same_new hd)) upd_same
/-! ### statement by statement -/
theorem nxE {t : St → Hp → Prop} {r : VK} {b c : St → Hp → Prop} {σ : St} {H : Hp} (h : t σ H) : Ends.nx ⟨t, r, b, c⟩ σ H := h
/-- x = e, then the rest -/
theorem st_let {te : TE} {i : Nat} {t2 : TS} {D : Ends} {σ : St} {H : Hp} (PV : V → Hp → Prop) (h : ∀ R : VK, (∀ v H', PV v H' → R v H') → te σ H R) (q : ∀ v H', PV v H' → t2 D (σ.set i (some v)) H') : tSeq (tAsg te (gName i)) t2 D σ H := h _ q
/-! ### numbers -/
theorem ints_get {ns : List Int} {i : Nat} {x : V} (h : (ns.map V.int)[i]? = some x) : ∃ z, ns[i]? = some z ∧ x = V.int z := by
  rw [List.getElem?_map] at h
  cases e : ns[i]? with
  | none => rw [e] at h; cases h
  | some z => rw [e] at h; exact ⟨z, rfl, (Option.some.inj h).symm⟩
theorem ints_at {ns : List Int} {i : Nat} {z : Int} (h : ns[i]? = some z) : (ns.map V.int)[i]? = some (.int z) := by rw [List.getElem?_map, h]; rfl
theorem ints_len (ns : List Int) : (ns.map V.int).length = ns.length := List.length_map _
/-- an item by an int -/
theorem atI_int {α : Type} {xs : List α} {z : Int} {v : α} (h0 : 0 ≤ z) (h : xs[z.toNat]? = some v) : atI xs z = some v := by
  have e : z = ((z.toNat : Nat) : Int) := by omega
  rw [e]
  exact atI_nat h
theorem line_of {n : Nat} (h : n ≤ 100000) : n ≤ sizeLine := Nat.le_trans h (by decide)
theorem line_lt {n : Nat} (h : n < 100000) : n < sizeLine := Nat.lt_of_lt_of_le h (by decide)
end L2
end
section
set_option maxRecDepth 100000
set_option maxHeartbeats 4000000
namespace L2
open PySem PySem.Spec PyProof.Rows
/-! ### comprehensions by what is made so far -/
section
variable {K : PySem.W.Frag} {a D : Addr} {xs : List V} {g : TG} {tt : TT} {te : TE} {vs : List Nat} {σ : St} {H1 : Hp} {Q : Hp → Prop}
theorem lc_acc (hD : H1 D = none) (hS : SqL K H1 a xs) (hz : xs.length < 100000) (Acc : Nat → List V → Hp → Prop) (h0 : ∀ H', Same H1 H' → Acc 0 [] H')
    (hs : ∀ i x acc H' (N : V → Hp → Prop) (N0 : Hp → Prop), xs[i]? = some x → Same H1 H' → H' D = some (.lst acc) → Acc i acc H' →
      (∀ y H4, Same H' H4 → (∀ H5, But D H4 H5 → H5 D = some (.lst (acc ++ [y])) → Acc (i + 1) (acc ++ [y]) H5) → N y H4) → (∀ H3, Same H' H3 → Acc (i + 1) acc H3 → N0 H3) →
      g x (wipe σ vs) H' fun σ2 H2 => wipe σ2 vs = wipe σ vs ∧ tt σ2 H2 fun b H3 => if b = true then te σ2 H3 N else N0 H3)
    (hd : ∀ acc H', Same H1 H' → H' D = some (.lst acc) → acc.length ≤ xs.length → Acc xs.length acc H' → Q H') :
    ∃ W : Nat → Nat → Hp → Prop, (∃ m, W 0 m (upd H1 D (.lst []))) ∧ ∀ i m H, W i m H →
      ((Itl K a).stop i H ∧ Q H) ∨ ((Itl K a).go i H ∧ ∃ Nx : Hp → Prop, (∀ H', Nx H' → ∃ m', m' < m ∧ W (i + 1) m' H') ∧ ∀ x H', (Itl K a).yld i H x H' → g x (wipe σ vs) H' fun σ2 H2 => wipe σ2 vs = wipe σ vs ∧ tt σ2 H2 fun b H3 =>
        if b = true then te σ2 H3 fun y H4 => ∃ acc, H4 D = some (.lst acc) ∧ acc.length < sizeLine ∧ Nx (upd H4 D (.lst (acc ++ [y]))) else Nx H3) := by
  refine lc_list (K := K) (a := a) (xs := xs) (fun i H' => Same H1 H' ∧ ∃ acc, H' D = some (.lst acc) ∧ acc.length ≤ i ∧ Acc i acc H') ⟨same_new hD, [], upd_same, Nat.le_refl _, h0 _ (same_new hD)⟩ (fun i H' _ h => h.1.seq hS) ?_ ?_
  · rintro i x H' hx ⟨e, acc, hacc, hl, ha⟩
    have hi : i < xs.length := (List.getElem?_eq_some_iff.mp hx).1
    refine hs i x acc H' _ _ hx e hacc ha (fun y H4 s4 a4 => ?_) (fun H3 s3 a3 => ?_)
    · exact ⟨acc, s4 _ _ hacc, line_lt (by omega), same_mut (e.trans s4) hD, acc ++ [y], upd_same, by rw [List.length_append]; exact Nat.succ_le_succ hl, a4 _ (fun b o hb n => by rw [upd_ne n]; exact hb) upd_same⟩
    · exact ⟨e.trans s3, acc, s3 _ _ hacc, Nat.le_succ_of_le hl, a3⟩
  · rintro H' ⟨e, acc, hacc, hl, ha⟩
    exact hd acc H' e hacc hl ha
theorem lc_accR {lo : Int} {n : Nat} (hD : H1 D = none) (hz : n < 100000) (Acc : Nat → List V → Hp → Prop) (h0 : ∀ H', Same H1 H' → Acc 0 [] H')
    (hs : ∀ i acc H' (N : V → Hp → Prop) (N0 : Hp → Prop), i < n → Same H1 H' → H' D = some (.lst acc) → Acc i acc H' →
      (∀ y H4, Same H' H4 → (∀ H5, But D H4 H5 → H5 D = some (.lst (acc ++ [y])) → Acc (i + 1) (acc ++ [y]) H5) → N y H4) → (∀ H3, Same H' H3 → Acc (i + 1) acc H3 → N0 H3) →
      g (.int (lo + i)) (wipe σ vs) H' fun σ2 H2 => wipe σ2 vs = wipe σ vs ∧ tt σ2 H2 fun b H3 => if b = true then te σ2 H3 N else N0 H3)
    (hd : ∀ acc H', Same H1 H' → H' D = some (.lst acc) → acc.length ≤ n → Acc n acc H' → Q H') :
    ∃ W : Nat → Nat → Hp → Prop, (∃ m, W 0 m (upd H1 D (.lst []))) ∧ ∀ i m H, W i m H →
      ((Itr lo n).stop i H ∧ Q H) ∨ ((Itr lo n).go i H ∧ ∃ Nx : Hp → Prop, (∀ H', Nx H' → ∃ m', m' < m ∧ W (i + 1) m' H') ∧ ∀ x H', (Itr lo n).yld i H x H' → g x (wipe σ vs) H' fun σ2 H2 => wipe σ2 vs = wipe σ vs ∧ tt σ2 H2 fun b H3 =>
        if b = true then te σ2 H3 fun y H4 => ∃ acc, H4 D = some (.lst acc) ∧ acc.length < sizeLine ∧ Nx (upd H4 D (.lst (acc ++ [y]))) else Nx H3) := by
  refine lc_range (lo := lo) (n := n) (fun i H' => Same H1 H' ∧ ∃ acc, H' D = some (.lst acc) ∧ acc.length ≤ i ∧ Acc i acc H') ⟨same_new hD, [], upd_same, Nat.le_refl _, h0 _ (same_new hD)⟩ ?_ ?_
  · rintro i H' hi ⟨e, acc, hacc, hl, ha⟩
    refine hs i acc H' _ _ hi e hacc ha (fun y H4 s4 a4 => ?_) (fun H3 s3 a3 => ?_)
    · exact ⟨acc, s4 _ _ hacc, line_lt (by omega), same_mut (e.trans s4) hD, acc ++ [y], upd_same, by rw [List.length_append]; exact Nat.succ_le_succ hl, a4 _ (fun b o hb n => by rw [upd_ne n]; exact hb) upd_same⟩
    · exact ⟨e.trans s3, acc, s3 _ _ hacc, Nat.le_succ_of_le hl, a3⟩
  · rintro H' ⟨e, acc, hacc, hl, ha⟩
    exact hd acc H' e hacc hl ha
end
theorem cutV_map {α : Type} (f : α → V) (ns : List α) (lo hi : Option Int) : ∃ ms : List α, cutV (ns.map f) lo hi = ms.map f ∧ ms = (ns.drop (HT.sIx ns.length 0 lo)).take (HT.sIx ns.length ns.length hi - HT.sIx ns.length 0 lo) := by
  refine ⟨_, ?_, rfl⟩
  unfold cutV
  rw [List.length_map, List.map_take, List.map_drop]
end L2
end
section
set_option maxRecDepth 100000
set_option maxHeartbeats 4000000
namespace L2
open PySem PySem.Spec PyProof.Rows
/-- for i, x in enumerate(list, start = k) -/
theorem for_enumS {K : PySem.W.Frag} {a : Addr} {xs : List V} {k : Int} {g : TG} {tb : TS} {D : Ends} {σ : St} {H : Hp} (Pv : Nat → St → Hp → Prop) (h0 : Pv 0 σ H) (hl : ∀ i σ H, i ≤ xs.length → Pv i σ H → SqL K H a xs)
    (hs : ∀ i x σ H T, xs[i]? = some x → Pv i σ H → H T = none → g (.ref T) σ (upd H T (.tup [.int (k + (i : Nat)), x])) fun σ2 H2 => tb { D with nx := Pv (i + 1), ct := Pv (i + 1), bk := D.nx } σ2 H2) (hd : ∀ σ H, Pv xs.length σ H → D.nx σ H) :
    ∃ W : Nat → Nat → St → Hp → Prop, (∃ m, W 0 m σ H) ∧ ∀ i m σ H, W i m σ H →
      ((IteS K a k).stop i H ∧ D.nx σ H) ∨ ((IteS K a k).go i H ∧ ∃ N : St → Hp → Prop, (∀ σ' H', N σ' H' → ∃ m', m' < m ∧ W (i + 1) m' σ' H') ∧ ∀ x H', (IteS K a k).yld i H x H' → g x σ H' fun σ2 H2 => tb { D with nx := N, ct := N, bk := D.nx } σ2 H2) := by
  refine ⟨fun i m σ H => m = xs.length - i ∧ i ≤ xs.length ∧ Pv i σ H, ⟨_, rfl, Nat.zero_le _, h0⟩, fun i m σ H w => ?_⟩
  obtain ⟨rfl, hi, p⟩ := w
  have q := hl i σ H hi p
  rcases Nat.lt_or_ge i xs.length with hlt | hge
  · refine .inr ⟨⟨xs, _, q, List.getElem?_eq_getElem hlt⟩, Pv (i + 1), fun σ' H' p' => ⟨xs.length - (i + 1), by omega, rfl, hlt, p'⟩, ?_⟩
    rintro x H' ⟨T, y, rfl, hT, rfl, hy⟩
    exact hs i y σ H T (hy xs q) p hT
  · have e : i = xs.length := by omega
    subst e
    exact .inl ⟨⟨xs, q, Nat.le_refl _⟩, hd σ H p⟩
theorem drop_get {α : Type} {l : List α} {i : Nat} {x : α} (h : l[i]? = some x) : l.drop i = x :: l.drop (i + 1) := by
  obtain ⟨hi, e⟩ := List.getElem?_eq_some_iff.mp h
  rw [List.drop_eq_getElem_cons hi, e]
theorem take_get {α : Type} {l : List α} {i : Nat} {x : α} (h : l[i]? = some x) : l.take (i + 1) = l.take i ++ [x] := by
  rw [List.take_succ, h]; rfl
/-! ### a pair of ints, list or tuple -/
def PairR (K : PySem.W.Frag) (H : Hp) (x : V) (c : Int × Int) : Prop := ∃ t, x = .ref t ∧ (SqT K H t [.int c.1, .int c.2] ∨ SqL K H t [.int c.1, .int c.2])
def PairsR (K : PySem.W.Frag) (H : Hp) : List V → List (Int × Int) → Prop := Paired (PairR K H)
theorem PairR.same {K : PySem.W.Frag} {H H' : Hp} (e : Same H H') {x : V} {c : Int × Int} (h : PairR K H x c) : PairR K H' x c := by
  obtain ⟨t, rfl, h | h⟩ := h
  · exact ⟨t, rfl, .inl (e.tup h)⟩
  · exact ⟨t, rfl, .inr (e.seq h)⟩
theorem PairsR.same {K : PySem.W.Frag} {H H' : Hp} (e : Same H H') {xs : List V} {cs : List (Int × Int)} (h : PairsR K H xs cs) : PairsR K H' xs cs := Paired.mapP h fun _ _ z => z.same e
theorem PairsR.get {K : PySem.W.Frag} {H : Hp} {xs : List V} {cs : List (Int × Int)} (h : PairsR K H xs cs) {i : Nat} {x : V} (hx : xs[i]? = some x) : ∃ c, cs[i]? = some c ∧ PairR K H x c := paired_get h hx
theorem PairsR.len {K : PySem.W.Frag} {H : Hp} {xs : List V} {cs : List (Int × Int)} (h : PairsR K H xs cs) : xs.length = cs.length := Paired.length h
/-- x[0], x[1] of such -/
theorem PairR.ix0 {K : PySem.W.Frag} {H : Hp} {x : V} {c : Int × Int} (h : PairR K H x c) {Q : VK} (q : Q (.int c.1) H) : rIx K x (.int 0) H Q := by
  obtain ⟨t, rfl, h | h⟩ := h
  · exact .inr (.inl ⟨t, _, 0, _, rfl, rfl, h, rfl, q⟩)
  · exact .inl ⟨t, _, 0, _, rfl, rfl, h, rfl, q⟩
theorem PairR.ix1 {K : PySem.W.Frag} {H : Hp} {x : V} {c : Int × Int} (h : PairR K H x c) {Q : VK} (q : Q (.int c.2) H) : rIx K x (.int 1) H Q := by
  obtain ⟨t, rfl, h | h⟩ := h
  · exact .inr (.inl ⟨t, _, 1, _, rfl, rfl, h, rfl, q⟩)
  · exact .inl ⟨t, _, 1, _, rfl, rfl, h, rfl, q⟩
/-- the slots behind a, b = such -/
theorem PairR.unpack {K : PySem.W.Frag} {H : Hp} {x : V} {c : Int × Int} (h : PairR K H x c) {σ : St} {i j : Nat} {Q : St → Hp → Prop} (q : Q ((σ.set i (some (.int c.1))).set j (some (.int c.2))) H) : gSeq K 2 (gCons (gName i) (gCons (gName j) gNil)) x σ H Q := by
  obtain ⟨t, rfl, h | h⟩ := h
  · exact .inl ⟨t, _, rfl, h, rfl, _, _, rfl, _, _, rfl, rfl, q⟩
  · exact .inr ⟨t, _, rfl, h, rfl, _, _, rfl, _, _, rfl, rfl, q⟩
end L2
namespace L2
open PySem PySem.Spec PyProof.Rows
/-! ### rules with the written part named (within comprehensions) -/
section
variable {X : Cx} {K : PySem.W.Frag}
theorem ix_seqK (h : X.K = K) : IxR X (rIx K) := h ▸ ix_seq
theorem ix_listK (h : X.K = K) : IxR X (rIxL K) := h ▸ ix_list
theorem ix_tupK (h : X.K = K) : IxR X (rIxT K) := h ▸ ix_tup
theorem get_listK (h : X.K = K) : PGet X (rIxL K) := h ▸ get_list
theorem len_seqK (h : X.K = K) : CallR X (.builtin "len") (fun xs H Q => ∃ p ys, xs = [.ref p] ∧ (SqL K H p ys ∨ SqT K H p ys) ∧ Q (.int ys.length) H) := h ▸ call_len_seq
theorem list_ofK (h : X.K = K) : CallR X (.type "list") (fun xs H Q => ∃ p ys, xs = [.ref p] ∧ (SqL K H p ys ∨ SqT K H p ys) ∧ ∀ l, H l = none → Q (.ref l) (upd H l (.lst ys))) := h ▸ call_list_of
theorem anyK (h : X.K = K) (hc : X.calm = true) : CallR X (.builtin "any") (rAny K) := h ▸ cr_any hc
theorem sumK (h : X.K = K) (hc : X.calm = true) : CallR X (.builtin "sum") (rSum K) := h ▸ cr_sum hc
theorem maxK (h : X.K = K) (hc : X.calm = true) : CallR X (.builtin "max") (rMax K) := h ▸ cr_max hc
theorem minK (h : X.K = K) (hc : X.calm = true) : CallR X (.builtin "min") (rMin K) := h ▸ cr_min hc
theorem sl_listK (h : X.K = K) : SlR X (rSlL K) := h ▸ sl_list
theorem eqDK (h : X.K = K) (hu : X.A.units + 64 < cLine) : OpR X (compareOp .Eq) (rEqD K) := h ▸ op_eqD hu
theorem neDK (h : X.K = K) (hu : X.A.units + 64 < cLine) : OpR X (compareOp .NotEq) (rNeD K) := h ▸ op_neD hu
theorem isiK (h : X.K = K) : CallR X (.builtin "isinstance") (rIsi K) := h ▸ call_isi
theorem isiTK (h : X.K = K) : CallR X (.builtin "isinstance") (rIsiT K) := h ▸ call_isiT
theorem pg_tupK {pos : Pos} {es : List Expr} {k : Nat} {t : TGs} {n : Nat} (e : X.K = K) (hc : X.calm = true) (h : PGs X es t)
    (hn : (assignEach es X.env).length = n := by rfl) (hst : (assignEach es X.env).findIdx? (·.1) = none := by rfl) : PG X (.Tuple es k pos) (gTup K n t) := e ▸ pg_tup hc h hn hst
theorem pg_seqK {pos : Pos} {es : List Expr} {k : Nat} {t : TGs} {n : Nat} (e : X.K = K) (hc : X.calm = true) (h : PGs X es t)
    (hn : (assignEach es X.env).length = n := by rfl) (hst : (assignEach es X.env).findIdx? (·.1) = none := by rfl) : PG X (.Tuple es k pos) (gSeq K n t) := e ▸ pg_seq hc h hn hst
theorem pi_listK {tg e : Expr} {te : TE} (h : X.K = K) (he : PE X e te) : PI X tg e (iList K te) := h ▸ pi_list he
end
end L2
namespace L2
open PySem PySem.Spec PyProof.Rows
theorem for_upto {lo : Int} {n L : Nat} {g : TG} {tb : TS} {D : Ends} {σ : St} {H : Hp} (hn : n = L) (Pv : Nat → St → Hp → Prop) (h0 : Pv 0 σ H)
    (hs : ∀ i σ H, i < L → Pv i σ H → g (.int (lo + i)) σ H fun σ2 H2 => tb { D with nx := Pv (i + 1), ct := Pv (i + 1), bk := D.nx } σ2 H2) (hd : ∀ σ H, Pv L σ H → D.nx σ H) :
    ∃ W : Nat → Nat → St → Hp → Prop, (∃ m, W 0 m σ H) ∧ ∀ i m σ H, W i m σ H →
      ((Itr lo n).stop i H ∧ D.nx σ H) ∨ ((Itr lo n).go i H ∧ ∃ N : St → Hp → Prop, (∀ σ' H', N σ' H' → ∃ m', m' < m ∧ W (i + 1) m' σ' H') ∧ ∀ x H', (Itr lo n).yld i H x H' → g x σ H' fun σ2 H2 => tb { D with nx := N, ct := N, bk := D.nx } σ2 H2) := by
  subst hn
  exact for_range Pv h0 hs hd
theorem ints_ix {ns : List Int} {i : Nat} (h : i < ns.length) : ∃ z, ns[i]? = some z := ⟨_, List.getElem?_eq_getElem h⟩
end L2
end
section
set_option maxRecDepth 100000
set_option maxHeartbeats 4000000
namespace L2
open PySem PySem.Spec PyProof.Rows
theorem cut_take (xs : List V) {z : Int} {k : Nat} (h : z = (k : Int)) : cutV xs none (some z) = xs.take k := by
  subst h
  unfold cutV
  rw [HT.sIx_nat, HT.sIx_none, List.drop_zero, Nat.sub_zero]
  rcases Nat.le_total k xs.length with h | h
  · rw [Nat.min_eq_left h]
  · rw [Nat.min_eq_right h, List.take_length, List.take_of_length_le h]
theorem cut_drop (xs : List V) {z : Int} {k : Nat} (h : z = (k : Int)) : cutV xs (some z) none = xs.drop k := by
  subst h
  unfold cutV
  rw [HT.sIx_nat, HT.sIx_none]
  rcases Nat.le_total k xs.length with h | h
  · rw [Nat.min_eq_left h, List.take_of_length_le]
    rw [List.length_drop]; omega
  · rw [Nat.min_eq_right h, List.drop_length, List.drop_of_length_le h]
    exact List.take_nil
/-- x[i:] of a list, as slicing of what stands there -/
theorem map_take {α : Type} (f : α → V) (ns : List α) (k : Nat) : (ns.map f).take k = (ns.take k).map f := List.map_take.symm
theorem map_drop {α : Type} (f : α → V) (ns : List α) (k : Nat) : (ns.map f).drop k = (ns.drop k).map f := List.map_drop.symm
theorem max_eq {ns : List Int} {m m' : Int} (h : m ∈ ns) (hm : ∀ y ∈ ns, y ≤ m) (h' : m' ∈ ns) (hm' : ∀ y ∈ ns, y ≤ m') : m = m' := Int.le_antisymm (hm' _ h) (hm _ h')
theorem PairR.unpackN {K : PySem.W.Frag} {H : Hp} {x : V} {c : Int × Int} (h : PairR K H x c) {σ : St} {i j n : Nat} (hn : n = 2) {Q : St → Hp → Prop} (q : Q ((σ.set i (some (.int c.1))).set j (some (.int c.2))) H) : gSeq K n (gCons (gName i) (gCons (gName j) gNil)) x σ H Q := by
  subst hn
  exact h.unpack q
section
variable {K : PySem.W.Frag} {D : Addr} {g : TG} {tt : TT} {te : TE} {vs : List Nat} {σ : St} {H1 : Hp} {Q : Hp → Prop}
theorem lc_upto {lo : Int} {n L : Nat} (hn : n = L) (hD : H1 D = none) (hz : L < 100000) (Acc : Nat → List V → Hp → Prop) (h0 : ∀ H', Same H1 H' → Acc 0 [] H')
    (hs : ∀ i acc H' (N : V → Hp → Prop) (N0 : Hp → Prop), i < L → Same H1 H' → H' D = some (.lst acc) → Acc i acc H' →
      (∀ y H4, Same H' H4 → (∀ H5, But D H4 H5 → H5 D = some (.lst (acc ++ [y])) → Acc (i + 1) (acc ++ [y]) H5) → N y H4) → (∀ H3, Same H' H3 → Acc (i + 1) acc H3 → N0 H3) →
      g (.int (lo + i)) (wipe σ vs) H' fun σ2 H2 => wipe σ2 vs = wipe σ vs ∧ tt σ2 H2 fun b H3 => if b = true then te σ2 H3 N else N0 H3)
    (hd : ∀ acc H', Same H1 H' → H' D = some (.lst acc) → acc.length ≤ L → Acc L acc H' → Q H') :
    ∃ W : Nat → Nat → Hp → Prop, (∃ m, W 0 m (upd H1 D (.lst []))) ∧ ∀ i m H, W i m H →
      ((Itr lo n).stop i H ∧ Q H) ∨ ((Itr lo n).go i H ∧ ∃ Nx : Hp → Prop, (∀ H', Nx H' → ∃ m', m' < m ∧ W (i + 1) m' H') ∧ ∀ x H', (Itr lo n).yld i H x H' → g x (wipe σ vs) H' fun σ2 H2 => wipe σ2 vs = wipe σ vs ∧ tt σ2 H2 fun b H3 =>
        if b = true then te σ2 H3 fun y H4 => ∃ acc, H4 D = some (.lst acc) ∧ acc.length < sizeLine ∧ Nx (upd H4 D (.lst (acc ++ [y]))) else Nx H3) := by
  subst hn
  exact lc_accR hD hz Acc h0 hs hd
end
/-! ### what stands elsewhere than at a -/
section
variable {K : PySem.W.Frag} {sa : Addr} {H H' : Hp}
theorem But.seq (e : But sa H H') {a : Addr} {xs : List V} (n : a ≠ sa) (h : SqL K H a xs) : SqL K H' a xs := by
  rcases h with (h | ⟨o, h⟩) | h
  · exact .inl (.inl (e _ _ h n))
  · exact .inl (.inr ⟨o, e _ _ h n⟩)
  · exact .inr h
theorem But.tup (e : But sa H H') {a : Addr} {xs : List V} (n : a ≠ sa) (h : SqT K H a xs) : SqT K H' a xs := by
  rcases h with (h | ⟨o, h⟩) | h
  · exact .inl (.inl (e _ _ h n))
  · exact .inl (.inr ⟨o, e _ _ h n⟩)
  · exact .inr h
theorem Same.but (e : Same H H') : But sa H H' := But.of e
theorem PairR.but (e : But sa H H') {x : V} {c : Int × Int} (n : x ≠ .ref sa) (h : PairR K H x c) : PairR K H' x c := by
  obtain ⟨t, rfl, h | h⟩ := h
  · exact ⟨t, rfl, .inl (e.tup (fun z => n (by rw [z])) h)⟩
  · exact ⟨t, rfl, .inr (e.seq (fun z => n (by rw [z])) h)⟩
/-- such, none of them at D -/
def PairD (K : PySem.W.Frag) (D : Addr) (H : Hp) (x : V) (c : Int × Int) : Prop := PairR K H x c ∧ x ≠ .ref D
def PairsD (K : PySem.W.Frag) (D : Addr) (H : Hp) : List V → List (Int × Int) → Prop := Paired (PairD K D H)
theorem PairsD.but {D : Addr} (e : But D H H') {xs : List V} {cs : List (Int × Int)} (h : PairsD K D H xs cs) : PairsD K D H' xs cs := Paired.mapP h fun _ _ z => ⟨z.1.but e z.2, z.2⟩
theorem PairsD.same {D : Addr} (e : Same H H') {xs : List V} {cs : List (Int × Int)} (h : PairsD K D H xs cs) : PairsD K D H' xs cs := Paired.mapP h fun _ _ z => ⟨z.1.same e, z.2⟩
theorem PairsD.prs {D : Addr} {xs : List V} {cs : List (Int × Int)} (h : PairsD K D H xs cs) : PairsR K H xs cs := Paired.mapP h fun _ _ z => z.1
theorem paired_snoc {α β : Type} {R : α → β → Prop} {xs : List α} {ys : List β} {x : α} {y : β} (h : Paired R xs ys) (r : R x y) : Paired R (xs ++ [x]) (ys ++ [y]) := by
  induction h with
  | nil => exact .cons r .nil
  | cons a _ ih => exact .cons a ih
theorem PairsR.but (e : But sa H H') {xs : List V} {cs : List (Int × Int)} (n : ∀ x ∈ xs, x ≠ .ref sa) (h : PairsR K H xs cs) : PairsR K H' xs cs := by
  induction h with
  | nil => exact .nil
  | cons a _ ih => exact .cons (a.but e (n _ List.mem_cons_self)) (ih fun x hx => n x (List.mem_cons_of_mem _ hx))
theorem paired_app {α β : Type} {R : α → β → Prop} {xs xs' : List α} {ys ys' : List β} (h : Paired R xs ys) (h' : Paired R xs' ys') : Paired R (xs ++ xs') (ys ++ ys') := by
  induction h with
  | nil => exact h'
  | cons a _ ih => exact .cons a ih
end
section
variable {K : PySem.W.Frag} {a D sa : Addr} {xs : List V} {g : TG} {tt : TT} {te : TE} {vs : List Nat} {σ : St} {H1 : Hp} {Q : Hp → Prop}
/-- a comprehension whose element changes what stands at sa -/
theorem lc_accB (hD : H1 D = none) (hsa : H1 sa ≠ none) (ha : a ≠ sa) (hS : SqL K H1 a xs) (hz : xs.length < 100000) (Acc : Nat → List V → Hp → Prop) (h0 : ∀ H', Same H1 H' → Acc 0 [] H')
    (hs : ∀ i x acc H' (N : V → Hp → Prop) (N0 : Hp → Prop), xs[i]? = some x → But sa H1 H' → H' D = some (.lst acc) → Acc i acc H' →
      (∀ y H4, But sa H' H4 → (∀ H5, But D H4 H5 → H5 D = some (.lst (acc ++ [y])) → Acc (i + 1) (acc ++ [y]) H5) → N y H4) → (∀ H3, But sa H' H3 → Acc (i + 1) acc H3 → N0 H3) →
      g x (wipe σ vs) H' fun σ2 H2 => wipe σ2 vs = wipe σ vs ∧ tt σ2 H2 fun b H3 => if b = true then te σ2 H3 N else N0 H3)
    (hd : ∀ acc H', But sa H1 H' → H' D = some (.lst acc) → acc.length ≤ xs.length → Acc xs.length acc H' → Q H') :
    ∃ W : Nat → Nat → Hp → Prop, (∃ m, W 0 m (upd H1 D (.lst []))) ∧ ∀ i m H, W i m H →
      ((Itl K a).stop i H ∧ Q H) ∨ ((Itl K a).go i H ∧ ∃ Nx : Hp → Prop, (∀ H', Nx H' → ∃ m', m' < m ∧ W (i + 1) m' H') ∧ ∀ x H', (Itl K a).yld i H x H' → g x (wipe σ vs) H' fun σ2 H2 => wipe σ2 vs = wipe σ vs ∧ tt σ2 H2 fun b H3 =>
        if b = true then te σ2 H3 fun y H4 => ∃ acc, H4 D = some (.lst acc) ∧ acc.length < sizeLine ∧ Nx (upd H4 D (.lst (acc ++ [y]))) else Nx H3) := by
  have hDs : D ≠ sa := fun z => hsa (z ▸ hD)
  refine lc_list (K := K) (a := a) (xs := xs) (fun i H' => But sa H1 H' ∧ ∃ acc, H' D = some (.lst acc) ∧ acc.length ≤ i ∧ Acc i acc H') ⟨But.of (same_new hD), [], upd_same, Nat.le_refl _, h0 _ (same_new hD)⟩ (fun i H' _ h => h.1.seq ha hS) ?_ ?_
  · rintro i x H' hx ⟨e, acc, hacc, hl, ha'⟩
    have hi : i < xs.length := (List.getElem?_eq_some_iff.mp hx).1
    refine hs i x acc H' _ _ hx e hacc ha' (fun y H4 s4 a4 => ?_) (fun H3 s3 a3 => ?_)
    · exact ⟨acc, s4 _ _ hacc hDs, line_lt (by omega), (e.trans s4).mut hD, acc ++ [y], upd_same, by rw [List.length_append]; exact Nat.succ_le_succ hl, a4 _ (fun b o hb n => by rw [upd_ne n]; exact hb) upd_same⟩
    · exact ⟨e.trans s3, acc, s3 _ _ hacc hDs, Nat.le_succ_of_le hl, a3⟩
  · rintro H' ⟨e, acc, hacc, hl, ha'⟩
    exact hd acc H' e hacc hl ha'
theorem lc_uptoB {lo : Int} {n L : Nat} (hn : n = L) (hD : H1 D = none) (hsa : H1 sa ≠ none) (hz : L < 100000) (Acc : Nat → List V → Hp → Prop) (h0 : ∀ H', Same H1 H' → Acc 0 [] H')
    (hs : ∀ i acc H' (N : V → Hp → Prop) (N0 : Hp → Prop), i < L → But sa H1 H' → H' D = some (.lst acc) → Acc i acc H' →
      (∀ y H4, But sa H' H4 → (∀ H5, But D H4 H5 → H5 D = some (.lst (acc ++ [y])) → Acc (i + 1) (acc ++ [y]) H5) → N y H4) → (∀ H3, But sa H' H3 → Acc (i + 1) acc H3 → N0 H3) →
      g (.int (lo + i)) (wipe σ vs) H' fun σ2 H2 => wipe σ2 vs = wipe σ vs ∧ tt σ2 H2 fun b H3 => if b = true then te σ2 H3 N else N0 H3)
    (hd : ∀ acc H', But sa H1 H' → H' D = some (.lst acc) → acc.length ≤ L → Acc L acc H' → Q H') :
    ∃ W : Nat → Nat → Hp → Prop, (∃ m, W 0 m (upd H1 D (.lst []))) ∧ ∀ i m H, W i m H →
      ((Itr lo n).stop i H ∧ Q H) ∨ ((Itr lo n).go i H ∧ ∃ Nx : Hp → Prop, (∀ H', Nx H' → ∃ m', m' < m ∧ W (i + 1) m' H') ∧ ∀ x H', (Itr lo n).yld i H x H' → g x (wipe σ vs) H' fun σ2 H2 => wipe σ2 vs = wipe σ vs ∧ tt σ2 H2 fun b H3 =>
        if b = true then te σ2 H3 fun y H4 => ∃ acc, H4 D = some (.lst acc) ∧ acc.length < sizeLine ∧ Nx (upd H4 D (.lst (acc ++ [y]))) else Nx H3) := by
  subst hn
  have hDs : D ≠ sa := fun z => hsa (z ▸ hD)
  refine lc_range (lo := lo) (n := n) (fun i H' => But sa H1 H' ∧ ∃ acc, H' D = some (.lst acc) ∧ acc.length ≤ i ∧ Acc i acc H') ⟨But.of (same_new hD), [], upd_same, Nat.le_refl _, h0 _ (same_new hD)⟩ ?_ ?_
  · rintro i H' hi ⟨e, acc, hacc, hl, ha'⟩
    refine hs i acc H' _ _ hi e hacc ha' (fun y H4 s4 a4 => ?_) (fun H3 s3 a3 => ?_)
    · exact ⟨acc, s4 _ _ hacc hDs, line_lt (by omega), (e.trans s4).mut hD, acc ++ [y], upd_same, by rw [List.length_append]; exact Nat.succ_le_succ hl, a4 _ (fun b o hb n => by rw [upd_ne n]; exact hb) upd_same⟩
    · exact ⟨e.trans s3, acc, s3 _ _ hacc hDs, Nat.le_succ_of_le hl, a3⟩
  · rintro H' ⟨e, acc, hacc, hl, ha'⟩
    exact hd acc H' e hacc hl ha'
end
theorem seq_via {t u : TS} {D : Ends} {σ : St} {H : Hp} (C : St → Hp → Prop) (h : ∀ U : St → Hp → Prop, (∀ σ' H', C σ' H' → U σ' H') → t { D with nx := U } σ H) (h2 : ∀ σ' H', C σ' H' → u D σ' H') : tSeq t u D σ H := h (u D) h2
section
variable {X : Cx} {K : PySem.W.Frag} {tg e : Expr} {w1 w2 : TI}
def iOr (w1 w2 : TI) : TI := fun σ H R => w1 σ H R ∨ w2 σ H R
theorem pi_or (h1 : PI X tg e w1) (h2 : PI X tg e w2) : PI X tg e (iOr w1 w2) := ⟨fun pins s σ H R I h => h.elim (h1.run pins s σ H R I) (h2.run pins s σ H R I)⟩
theorem pi_tupK {te : TE} (h : X.K = K) (he : PE X e te) : PI X tg e (iTup K te) := h ▸ pi_tup he
end
end L2
end
section
set_option maxRecDepth 100000
set_option maxHeartbeats 4000000
namespace L2
open PySem PySem.Spec PyProof.Rows
/-! ### plain data, compared with itself -/
theorem dpall_ints {K : PySem.W.Frag} {H : Hp} : ∀ ns : List Int, DpAll K H (ns.map V.int) (ns.map PyData.int)
  | [] => .nil
  | n :: t => .cons (.int n) (dpall_ints t)
theorem dp_ints {K : PySem.W.Frag} {H : Hp} {a : Addr} {ns : List Int} (h : SqL K H a (ns.map V.int)) : Dp K H (.ref a) (.list (ns.map PyData.int)) := .lst h (dpall_ints ns)
theorem canLay_of {d : PyData} (h : SeqAt.shaped d = true) : d.canLay0 = true := (Bool.and_eq_true_iff.mp h).1
theorem eqv_self {d : PyData} (h : SeqAt.shaped d = true) : PyData.eqv d d = true := SeqAt.eqv_refl d (canLay_of h)
theorem shaped_nums (ns : List Int) : SeqAt.shaped (.list (ns.map PyData.int)) = true := PySem.W.shaped_ints ns
end L2
end
section
set_option maxRecDepth 100000
set_option maxHeartbeats 4000000
namespace L2
open PySem PySem.Spec PyProof.Rows
/-! ### pairs of ints, each a list or a tuple, as data -/
abbrev G3 : Type := Bool × Int × Int
def dG (g : G3) : PyData := if g.1 = true then .list [.int g.2.1, .int g.2.2] else .tuple [.int g.2.1, .int g.2.2]
def datG (gs : List G3) : PyData := .list (gs.map dG)
def Sm (n : Int) : Prop := 0 ≤ n ∧ n < 4294967296
theorem sm_log {n : Int} (h : Sm n) : n.natAbs.log2 ≤ 32 := by
  obtain ⟨h0, h1⟩ := h
  by_cases z : n.natAbs = 0
  · rw [z]; decide
  · exact Nat.le_of_lt_succ ((Nat.log2_lt z).mpr (by omega))
theorem sm_short {n : Int} (h : Sm n) : ((PyData.int n).shown).length ≤ 13 := PyData.shown_int_le2 (by have := h.1; omega) (by have := h.2; omega)
theorem sm_show {n : Int} (h : Sm n) : (PyData.int n).showable = true := by
  have := sm_log h
  unfold PyData.showable
  exact decide_eq_true (by omega)
theorem sm_weight {n : Int} (h : Sm n) : (PyData.int n).weight ≤ 33 := by
  have := sm_log h
  unfold PyData.weight
  split <;> omega
structure GoodD (d : PyData) (dp wt : Nat) : Prop where
  show_ : d.showable = true
  dict : d.hasDict = false
  depth : d.depth ≤ dp
  lay : d.canLay0 = true
  weight : d.weight ≤ wt
  short : d.intsShort 13 = true
theorem good_int {n : Int} (h : Sm n) : GoodD (.int n) 0 33 := ⟨sm_show h, by unfold PyData.hasDict; rfl, by unfold PyData.depth; exact Nat.le_refl _, by unfold PyData.canLay0; rfl, sm_weight h, by unfold PyData.intsShort; exact decide_eq_true (sm_short h)⟩
structure GoodA (ds : List PyData) (dp wt : Nat) : Prop where
  show_ : PyData.showableAll ds = true
  dict : PyData.hasDictAll ds = false
  depth : PyData.depthAll ds ≤ dp
  lay : PyData.canLayAll0 ds = true
  weight : PyData.weightAll ds ≤ wt * ds.length
  short : PyData.intsShortAll 13 ds = true
theorem good_all {dp wt : Nat} : ∀ ds : List PyData, (∀ d ∈ ds, GoodD d dp wt) → GoodA ds dp (wt + 1)
  | [], _ => ⟨by unfold PyData.showableAll; rfl, by unfold PyData.hasDictAll; rfl, by unfold PyData.depthAll; exact Nat.zero_le _, by unfold PyData.canLayAll0; rfl, by unfold PyData.weightAll; exact Nat.zero_le _, by unfold PyData.intsShortAll; rfl⟩
  | d :: t, h => by
    have hd := h d List.mem_cons_self
    have ht := good_all t fun e he => h e (List.mem_cons_of_mem _ he)
    refine ⟨by unfold PyData.showableAll; rw [hd.show_, ht.show_]; rfl, by unfold PyData.hasDictAll; rw [hd.dict, ht.dict]; rfl, by unfold PyData.depthAll; have := hd.depth; have := ht.depth; omega, by unfold PyData.canLayAll0; rw [hd.lay, ht.lay]; rfl, ?_, by unfold PyData.intsShortAll; rw [hd.short, ht.short]; rfl⟩
    unfold PyData.weightAll
    have h1 := hd.weight
    have h2 := ht.weight
    rw [List.length_cons, Nat.mul_succ]
    omega
theorem GoodA.list {ds : List PyData} {dp wt : Nat} (h : GoodA ds dp wt) : GoodD (.list ds) (dp + 1) (wt * ds.length) :=
  ⟨by unfold PyData.showable; exact h.show_, by unfold PyData.hasDict; exact h.dict, by unfold PyData.depth; exact Nat.succ_le_succ h.depth, by unfold PyData.canLay0; exact h.lay, by unfold PyData.weight; exact h.weight, by unfold PyData.intsShort; exact h.short⟩
theorem GoodA.tuple {ds : List PyData} {dp wt : Nat} (h : GoodA ds dp wt) : GoodD (.tuple ds) (dp + 1) (wt * ds.length) :=
  ⟨by unfold PyData.showable; exact h.show_, by unfold PyData.hasDict; exact h.dict, by unfold PyData.depth; exact Nat.succ_le_succ h.depth, by unfold PyData.canLay0; exact h.lay, by unfold PyData.weight; exact h.weight, by unfold PyData.intsShort; exact h.short⟩
theorem good_dG {g : G3} (h1 : Sm g.2.1) (h2 : Sm g.2.2) : GoodD (dG g) 1 68 := by
  have ha : GoodA [PyData.int g.2.1, PyData.int g.2.2] 0 34 := good_all _ fun d hd => by
    rcases List.mem_cons.mp hd with rfl | hd
    · exact good_int h1
    · rw [List.mem_singleton.mp hd]; exact good_int h2
  unfold dG
  split
  · exact ha.list
  · exact ha.tuple
theorem good_datG {gs : List G3} (h : ∀ g ∈ gs, Sm g.2.1 ∧ Sm g.2.2) : GoodD (datG gs) 2 (69 * gs.length) := by
  have := (good_all (gs.map dG) fun d hd => by
    obtain ⟨g, hg, rfl⟩ := List.mem_map.mp hd
    exact good_dG (h g hg).1 (h g hg).2).list
  rw [List.length_map] at this
  exact this
theorem GoodD.fits {d : PyData} {dp wt : Nat} (h : GoodD d dp wt) (h1 : dp ≤ 64) (h2 : wt ≤ 2 ^ 20) : d.shown.length ≤ sizeLine := by
  refine PyData.shown_fits_of_layable0 (B := 13) (by decide) (by decide) ?_ h.short
  unfold PyData.layable0
  rw [h.lay, decide_eq_true (Nat.le_trans h.depth h1), decide_eq_true (Nat.le_trans h.weight h2)]
  rfl
theorem GoodD.shaped {d : PyData} {dp wt : Nat} (h : GoodD d dp wt) (h1 : dp ≤ 64) : SeqAt.shaped d = true := by
  unfold SeqAt.shaped
  rw [h.lay, decide_eq_true (Nat.le_trans h.depth h1)]
  rfl
end L2
end
section
set_option maxRecDepth 100000
set_option maxHeartbeats 4000000
namespace LamX
open PySem PySem.Spec PyProof.Rows L2
/-! ### x(), what it may raise told of the slots at the call -/
section
variable {X : Cx} {pins : List (Addr × Obj)} {σ : L2.St} {H : Hp} {s : Shared}
theorem pe_act3 {CXg : CXT} {Eg : XK} {Ng : List Str} {qg : Str} {sg : Scope} {g f c' : Addr} {cdg pm ctv : Value} {params : Arguments} {body : Expr} {scope : Scope} {k i : Nat} {a : Str} {pn : List (Addr × Obj)} {xe : Value → Shared → Prop} {W : WX} {E : XK} {tb : TE} {p1 p2 : Pos}
    (I : Inv X pins σ H s) (L : LamS X.env.scope scope) (hf : s.heap.get? f = some (PySem.W.kla_obj "<lambda>" (X.env.qual ++ "<lambda>") params body scope (cloFrom X.env.cells scope.names []) pm c' ctv)) (hfn : H f = none) (hfr : f ∉ frs X.stack)
    (hbind : bindArgs (PySem.W.kla_fn "<lambda>" (X.env.qual ++ "<lambda>") params body scope (cloFrom X.env.cells scope.names []) pm (.ref c') ctv) ⟨[], []⟩ = pure [])
    (tk : Takes ((cxOf CXg X.prog X.w X.K X.mg X.base Ng qg sg g cdg X.A X.stack s H Eg).tr pn xe) W) (hr : Room (k + 1) (X.A.deeper (envOfC qg sg s.heap.objs.size g cdg)))
    (hbody : ∀ (A : Around) (outer : List Env) (s : Shared) (H : Hp), Room k (A.deeper (lamEnv X scope s.heap.objs.size f c')) → PE (lamCx X A outer s H E scope f c') body tb)
    (hN : Ng[i]? = some a) (hv : Vis sg a) (hd : (a == ("__debug__" : Str)) = false := by decide) (hcd : (a == ("__classdict__" : Str)) = false := by decide) :
    PE ((cxOf CXg X.prog X.w X.K X.mg X.base Ng qg sg g cdg X.A X.stack s H Eg).tr pn xe) (.Call (.Name a p1) [] [] p2)
      (fun σZ HZ Q => σZ[i]? = some (some (.ref f)) ∧ HZ c' = some (CodeO c' (X.env.qual ++ "<lambda>")) ∧ (∀ cls d H', E cls d H' → W cls d σZ H') ∧ tb σ HZ Q) := by
  refine ⟨fun pinsZ sZ σZ HZ Q IZ h => ?_⟩
  obtain ⟨hs, hc, hW, ht⟩ := h
  refine wpAny_Call_Name_kw (thn ((pe_var (pos := p1) (i := i) hN hv hd hcd).run pinsZ sZ σZ HZ (fun v H1 => v = .ref f ∧ H1 = HZ) IZ ⟨.ref f, hs, rfl, rfl⟩) fun u s1 ⟨v, H1, I1, r1, q1⟩ => ?_)
  obtain ⟨ev, eH⟩ := q1
  subst ev
  rw [eH] at I1
  obtain rfl : u = Value.ref f := r1
  have of1 : s1.heap.get? f = some (PySem.W.kla_obj "<lambda>" (X.env.qual ++ "<lambda>") params body scope (cloFrom X.env.cells scope.names []) pm c' ctv) := I1.base.keep f _ hf hfn hfr (fun z => nomatch (show f ∈ ([] : List Addr) from z))
  refine PySem.W.callWith_F0 ⟨_, _, _, _, of1⟩ ?_
  have un : Un (frs X.stack) [] H HZ s.heap s1.heap := I1.base
  obtain ⟨⟨oc, vs, t, hoc, hdc, hvc⟩, _, _⟩ := I1.hok c' _ hc
  have rc : codeAny (model X.prog X.w) (X.A.deeper (envOfC qg sg s.heap.objs.size g cdg)) (.call (.ref f) ⟨[], []⟩) (CR (L2.CX X.prog X.w) (envOfC qg sg s.heap.objs.size g cdg :: X.stack) X.prog X.w HZ s1 Q E) s1 := by
    refine PySem.W.kla_callFunE hr.depth of1 rfl L.co L.gen rfl ⟨c', oc, vs, t, rfl, hoc, hdc, hvc⟩ ?_
    rw [hbind]
    refine wpAny_pure (wpAny_newFunctionEnv (fun y hy => (L.own y hy).2) (fun y hy => absurd hy (by simp)) (fun h₁ hns hsb => ⟨I1.nolimit.fresh _ hsb, ?_⟩) L.kind)
    show codeAny _ _ (.expr body (lamEnv X scope s1.heap.objs.size f c')) _ _
    have kp : ∀ b o, s1.heap.get? b = some o → h₁.get? b = some o := fun b o e => hsb.extBut b o (Nat.ne_of_lt (Heap.lt_size e)) (Heap.get?_push_of_some _ e)
    have J : Inv (lamCx X (X.A.deeper (envOfC qg sg s.heap.objs.size g cdg)) (envOfC qg sg s.heap.objs.size g cdg :: X.stack) s1 HZ E scope f c') [] σ HZ { s1 with heap := h₁, toks := s1.toks + ([] : List (Str × Value)).length } :=
      lam_start2 I L I1.env0 hr.hd un hns kp
    refine PySem.W.kla_codeExpr (wpAny_mono ((hbody _ _ s1 HZ (hr.deeper _)).run [] _ _ HZ Q J ht) (fun v s' hq => ?_) fun e s' hq => hq)
    obtain ⟨w', H', J', rv, q⟩ := hq
    exact ⟨w', H', J'.os, J'.bare, J'.base, J'.hok, rv, q⟩
  refine wpAny_call (codeAny_mono rc fun r s' hq => ?_)
  cases r with
  | error e => exact tk e s' (XE.of_call I1 (fun cls d H' h => hW cls d H' h) hq)
  | ok fl =>
    cases fl with
    | ret u => exact I1.after hq
    | next => exact False.elim hq
    | brk => exact False.elim hq
    | cont => exact False.elim hq
end
def Gives3 (X : Cx) (Ng : List Str) (x : Str) (sg : Scope) (g : Addr) (cdg : Value) (bg : List Stmt) (a : Str) (q : Str) (TT : (XK → Hp → VK → Prop) → (Hp → Prop) → V → Hp → VK → Prop) : Prop :=
  ∀ (f c' : Addr) (s : Shared) (H : Hp) (Q : VK) (v2 : V) (tl : XK → Hp → VK → Prop),
    (∀ (W : WX) (pn : List (Addr × Obj)) (xe : Value → Shared → Prop) (E : XK) (p1 p2 : Pos), Takes ((cxOf C8.CX0 X.prog X.w X.K X.mg X.base Ng x sg g cdg X.A X.stack s H C8.E0).tr pn xe) W →
      PE ((cxOf C8.CX0 X.prog X.w X.K X.mg X.base Ng x sg g cdg X.A X.stack s H C8.E0).tr pn xe) (.Call (.Name a p1) [] [] p2) (fun σZ HZ Q => σZ[0]? = some (some (.ref f)) ∧ HZ c' = some (CodeO c' q) ∧ (∀ cls d H', E cls d H' → W cls d σZ H') ∧ tl E HZ Q)) →
    H c' = some (CodeO c' q) → TT tl (fun H' => H' c' = some (CodeO c' q)) v2 H Q →
    ∃ t, PSs (cxOf C8.CX0 X.prog X.w X.K X.mg X.base Ng x sg g cdg X.A X.stack s H C8.E0).nox bg t ∧ t { nx := fun _ H' => Q .non H', rt := Q } (L2.start Ng [.ref f, v2]) H
section
variable {X : Cx}
theorem pe_lamcall3 {T : List (Addr × Str)} {TT : (XK → Hp → VK → Prop) → (Hp → Prop) → V → Hp → VK → Prop} {x a a2 : Str} {g c P : Addr} {k : Nat} {pg : Arguments} {bg : List Stmt} {sg : Scope} {dV kV doc pm cdv ct oc : Value} {an od : Option Addr} {osl : Array (Option Value)} {Ng : List Str}
    {params : Arguments} {body : Expr} {scope : Scope} {t : XK → TE} {p lpos pos : Pos} {e2 : Expr} {te : TE} (hg : Gl X x) (hm : X.mg x = some (.ref g)) (hk : PySem.W.keepIn X.K (.ref g) = true)
    (lk : X.K.lookup g = some ⟨oc, od, .func (PySem.W.fnOf x x pg bg sg dV kV doc pm an cdv ct), osl⟩) (hcg : PySem.W.codeIn X.K cdv x = true) (hb : L2.Binds X.K (PySem.W.fnOf x x pg bg sg dV kV doc pm an cdv ct) [a, a2] []) (Sg : FnScope Ng [a, a2] sg) (hNg : Ng[0]? = some a) (hva : Vis sg a)
    (hG : Gives3 X Ng x sg g cdv bg a (X.env.qual ++ "<lambda>") TT)
    (TB : TabB X.base X.mg c P) (hcode : X.env.code = .ref c) (hmT : (P, X.env.qual ++ "<lambda>") ∈ T) (hu : ∀ p ∈ T, p.1 = P → p.2 = X.env.qual ++ "<lambda>") (hr : Room (k + 2) X.A) (L : LamS X.env.scope scope) (hdef : defaultsOf params X.env = ([], []))
    (hbind : ∀ (q : Str) (cl : List (Str × Addr)) (pm cv ctv : Value), bindArgs (PySem.W.kla_fn "<lambda>" q params body scope cl pm cv ctv) ⟨[], []⟩ = pure [])
    (hbody : ∀ (A : Around) (outer : List Env) (s : Shared) (H : Hp) (E : XK) (f c' : Addr), Room k (A.deeper (lamEnv X scope s.heap.objs.size f c')) → PE (lamCx X A outer s H E scope f c') body (t E))
    (he2 : PA X [e2] (tCons te tNil))
    (hdb : (x == ("__debug__" : Str)) = false := by decide) (hd : (a == ("__debug__" : Str)) = false := by decide) (hcd : (a == ("__classdict__" : Str)) = false := by decide)
    (hs : starEach [.Lambda params body scope lpos, e2] X.env = (false, eval (.Lambda params body scope lpos) X.env) :: starEach [e2] X.env := by rfl) (hpl : (backTo pos (starEach [e2] X.env)).any (·.1) = false := by rfl) :
    PE X (.Call (.Name x p) [.Lambda params body scope lpos, e2] [] pos) (tLam2 T (X.env.qual ++ "<lambda>") TT t te) := by
  constructor
  intro pins s σ H Q I h
  obtain ⟨hT, h⟩ := h
  refine wpAny_Call_Name_kw (ld_glob I hg hm ?_ hdb)
  refine PySem.W.callWith_K (h₀ := X.base) I.ok.mod.kin hk ?_ hs hpl
  rw [hs]
  show wpAny _ _ (spliced ((false, eval (.Lambda params body scope lpos) X.env) :: backTo pos (starEach [e2] X.env))) _ _ s
  refine Calls.spliced_cons (lam_make2 I TB hcode hmT hu hT hdef (L.has I.ok) fun f c' pm' ctv H1 s' I1 eN T1 hf hfn hfr hco => ?_)
  have hcell : ∀ v, (PySem.W.kla_obj "<lambda>" (X.env.qual ++ "<lambda>") params body scope (cloFrom X.env.cells scope.names []) pm' c' ctv).data ≠ .cell v := fun v z => by cases z
  have fL : f ≠ X.env.locals := fun z => by
    obtain ⟨m, ⟨o, es, ep, e1, e2', _⟩, _⟩ := I1.loc
    rw [← z, hf] at e1
    have e3 := Option.some.inj e1
    rw [← e3] at e2'
    cases e2'
  have Ip : Inv X ((f, _) :: pins) σ H1 s' := I1.pins_of fun r hr => by
    rcases List.mem_cons.mp hr with e | e
    · subst e
      exact ⟨hf, hfn, fL, fun z => hfr (by
        rcases I1.ok.stk with e | ⟨e, _⟩
        · rw [e]; exact z
        · rw [e]
          show f ∈ (X.env :: X.outer).filterMap _
          rw [List.filterMap_cons]
          split
          · exact z
          · exact List.mem_cons_of_mem _ z), hcell⟩
    · exact I1.pin r (List.mem_append_right _ e)
  have h2 := h H1 c' eN T1 hco
  refine thn (he2.run pos _ s' σ H1 (fun vs H2 => ∃ v2, vs = [v2] ∧ H2 c' = some (CodeO c' (X.env.qual ++ "<lambda>")) ∧ TT (fun E H' Q' => t E σ H' Q') (fun H' => H' c' = some (CodeO c' (X.env.qual ++ "<lambda>"))) v2 H2 Q) Ip h2) ?_
  rintro us s2 ⟨vs, H2, I2, r2, v2, rfl, hc2, q2⟩
  obtain ⟨u2, rfl, ru2⟩ := vals1 r2
  refine ⟨I2.kIn, ?_⟩
  obtain ⟨hf2, hfn2, _⟩ := I2.pin (f, _) (List.mem_append_right _ List.mem_cons_self)
  have J2 : Inv X pins σ H2 s2 := ClX.unpin I2
  have rc : codeAny (model X.prog X.w) X.A (.call (.ref g) ⟨[.ref f, u2], []⟩) (CR C8.CX0 X.stack X.prog X.w H2 s2 Q C8.E0) s2 := by
    refine run_ofS (N := Ng) (ps := [a, a2]) (us := [.ref f, u2]) (vs := [.ref f, v2]) lk hcg Sg hr J2.env0 (hb s2 [.ref f, u2] J2.kIn rfl) (.cons rfl (.cons ru2 .nil)) rfl fun hr' => ?_
    obtain ⟨t', ht', hq'⟩ := hG f c' s2 H2 Q v2 (fun E H' Q' => t E σ H' Q') (fun W pn xe E p1 p2 tk => pe_act3 (i := 0) J2 L hf2 hfn2 hfr (hbind _ _ _ _ _) tk hr' (fun A outer s H hr2 => hbody A outer s H E f c' hr2) hNg hva hd hcd) hc2 q2
    exact ⟨t', ht'.nox, hq'⟩
  refine wpAny_call (codeAny_mono rc ?_)
  intro r s3 hq
  cases r with
  | error e => exact (show False from hq).elim
  | ok fl =>
    cases fl with
    | ret u => exact J2.after hq
    | next => exact False.elim hq
    | brk => exact False.elim hq
    | cont => exact False.elim hq
end
end LamX
end
section
set_option maxRecDepth 100000
set_option maxHeartbeats 4000000
namespace L2
open PySem PySem.Spec PyProof.Rows
/-! ### defs that make lambdas -/
section
variable {P : Program} {w : World} {K : PySem.W.Frag} {mg : Str → Option Value} {base : Heap} {CX : CXT} {k j : Nat} {x : Str} {ps N : List Str} {sp : Sp} {st : Stmt} {cc : Addr}
/-- a def that lets nothing out, its code object known -/
theorem Ok.defC (e : ∃ f fd, FnP K x st f fd ∧ mg x = some (.ref f) ∧ fd.code = .ref cc)
    (hb : ∀ (kV doc pm : Value) (an : Option Addr) (cdv ct : Value) (us : List Value), us.length = ps.length → bindArgs (PySem.W.fnOf x x (defArgs st) (defBody st) (defScope st) .none kV doc pm an cdv ct) ⟨us, []⟩ = pure (ps.zip us))
    (S : FnScope N ps (defScope st)) (len : ∀ vs H Q E, sp vs H Q E → vs.length = ps.length)
    (hbody : ∀ (f : Addr) (A : Around) (outer : List Env) (s : Shared) (H : Hp) (vs : List V) (Q : VK) (E : XK), Room k (A.deeper (envOfC x (defScope st) s.heap.objs.size f (.ref cc))) → sp vs H Q E →
      ∃ t, PSs (cxOf CX0 P w K mg base N x (defScope st) f (.ref cc) A outer s H E).nox (defBody st) t ∧ t { nx := fun _ H' => Q .non H', rt := Q } (start N vs) H) : Ok P w K mg base CX0 (k + 1) x ps sp := by
  obtain ⟨f, fd, F, g, hc⟩ := e
  refine ⟨f, fd, ?_, g, F.kp, F.bindsN hb⟩
  obtain ⟨oc, od, dV, kV, doc, pm, an, cdv, ct, osl, rfl, lk, hcd, _, _⟩ := F.ex
  obtain rfl : cdv = .ref cc := hc
  exact fn_of lk hcd S len fun A outer s H vs Q E hr hsp => by
    obtain ⟨t, h1, h2⟩ := hbody f A outer s H vs Q E hr hsp
    exact ⟨t, h1.nox, h2⟩
/-- a def of the top that asks that no repr is under way -/
structure OkG (P : Program) (w : World) (K : PySem.W.Frag) (mg : Str → Option Value) (base : Heap) (k : Nat) (x : Str) (ps : List Str) (sp : Sp) : Prop where
  ex : ∃ f fd, FnG P w K mg base k f fd ps sp ∧ mg x = some (.ref f) ∧ PySem.W.keepIn K (.ref f) = true ∧ Binds K fd ps []
theorem OkG.defC (e : ∃ f fd, FnP K x st f fd ∧ mg x = some (.ref f) ∧ fd.code = .ref cc)
    (hb : ∀ (kV doc pm : Value) (an : Option Addr) (cdv ct : Value) (us : List Value), us.length = ps.length → bindArgs (PySem.W.fnOf x x (defArgs st) (defBody st) (defScope st) .none kV doc pm an cdv ct) ⟨us, []⟩ = pure (ps.zip us))
    (S : FnScope N ps (defScope st)) (len : ∀ vs H Q E, sp vs H Q E → vs.length = ps.length)
    (hbody : ∀ (f : Addr) (A : Around) (outer : List Env) (s : Shared) (H : Hp) (vs : List V) (Q : VK), Room k (A.deeper (envOfC x (defScope st) s.heap.objs.size f (.ref cc))) → A.guards = some [] → sp vs H Q E0 →
      ∃ t, PSs (cxOf CX0 P w K mg base N x (defScope st) f (.ref cc) A outer s H E0).nox (defBody st) t ∧ t { nx := fun _ H' => Q .non H', rt := Q } (start N vs) H) : OkG P w K mg base (k + 1) x ps sp := by
  obtain ⟨f, fd, F, g, hc⟩ := e
  have B : Binds K fd ps [] := F.bindsN hb
  refine ⟨f, fd, ?_, g, F.kp, B⟩
  obtain ⟨oc, od, dV, kV, doc, pm, an, cdv, ct, osl, rfl, lk, hcd, _, _⟩ := F.ex
  obtain rfl : cdv = .ref cc := hc
  constructor
  · exact len
  · intro A outer s H args us vs Q hr hgd e0 hbt r hsp
    refine LamX.run_ofS lk hcd S hr e0 hbt r (len _ _ _ _ hsp) fun hr' => ?_
    obtain ⟨t, h, q⟩ := hbody f A outer s H vs Q hr' hgd hsp
    exact ⟨t, h.nox, q⟩
end
theorem pe_okG {X : Cx} {k : Nat} {x : Str} {ps : List Str} {sp : Sp} {p pos : Pos} {e : Expr} {es : List Expr} {t : TA} (O : OkG X.prog X.w X.K X.mg X.base k x ps sp) (hr : Room k X.A) (hgd : X.A.guards = some []) (hg : Gl X x) (ha : PA X (e :: es) t)
    (hdb : (x == ("__debug__" : Str)) = false := by decide) (he : starEach (e :: es) X.env = (false, eval e X.env) :: starEach es X.env := by rfl) (hpl : (backTo pos (starEach es X.env)).any (·.1) = false := by rfl) :
    PE X (.Call (.Name x p) (e :: es) [] pos) (tCallE sp t) := by
  obtain ⟨f, fd, F, hm, hk, hb⟩ := O.ex
  exact pe_callG F hr hgd hg hm hk hb ha hdb he hpl
end L2
namespace LamX
open PySem PySem.Spec PyProof.Rows L2
theorem Gives2.three {X : Cx} {Ng : List Str} {x : Str} {sg : Scope} {g : Addr} {cdg : Value} {bg : List Stmt} {a q : Str} {TT : (XK → Hp → VK → Prop) → (Hp → Prop) → V → Hp → VK → Prop} (h : Gives2 X Ng x sg g cdg bg a q TT) : Gives3 X Ng x sg g cdg bg a q TT := by
  intro f c' s H Q v2 tl hc hco hT
  exact h f c' s H Q v2 tl (fun W pn xe E p1 p2 tk hW => ⟨fun pins s' σ H' Q' I hq => (hc W pn xe E p1 p2 tk).run pins s' σ H' Q' I ⟨hq.1, hq.2.1, fun cls d H2 he => hW cls d _ H2 he, hq.2.2⟩⟩) hco hT
end LamX
end
section
set_option maxRecDepth 100000
set_option maxHeartbeats 4000000
namespace L2
open PySem PySem.Spec PyProof.Rows
section
variable {P : Program} {w : World} {K : PySem.W.Frag} {mg : Str → Option Value} {base : Heap}
abbrev stk (a b c : Int) : HO := .lst [.int a, .int b, .int c]
def Stk (H : Hp) (sa : Addr) : Prop := ∃ a b c, H sa = some (stk a b c)
theorem fmod_range (a : Int) {m : Int} (h : 0 < m) : 0 ≤ a.fmod m ∧ a.fmod m < m := by
  rw [Int.fmod_eq_emod_of_nonneg a (Int.le_of_lt h)]
  exact ⟨Int.emod_nonneg _ (by omega), Int.emod_lt_of_pos _ h⟩
def spDraw : Sp := fun vs H Q _ => ∃ (sa : Addr) (m : Int), vs = [.ref sa, .int m] ∧ 0 < m ∧ m < 1073741824 ∧ Stk H sa ∧ ∀ r a b c, 0 ≤ r → r < m → Q (.int r) (upd H sa (stk a b c))
def spStock (K : PySem.W.Frag) : Sp := fun vs H Q _ => ∃ (a : Addr) (ns : List Int) (at_ : Int), vs = [.ref a, .int at_] ∧ SqL K H a (ns.map V.int) ∧ ns.length ≤ 63 ∧ 0 ≤ at_ ∧ at_ ≤ 100 ∧
  ∀ p H', H p = none → Same H H' → Stk H' p → Q (.ref p) H'
theorem stk_upd {H : Hp} {sa : Addr} {a b c : Int} : Stk (upd H sa (stk a b c)) sa := ⟨a, b, c, upd_same⟩
theorem Stk.ne {H : Hp} {sa : Addr} (h : Stk H sa) : H sa ≠ none := by
  obtain ⟨a, b, c, h⟩ := h
  rw [h]
  exact fun z => by cases z
theorem Stk.but {H : Hp} {sa a : Addr} (h : Stk H sa) (n : sa ≠ a) {o : HO} : Stk (upd H a o) sa := by
  obtain ⟨x, y, z, h⟩ := h
  exact ⟨x, y, z, by rw [upd_ne n]; exact h⟩
theorem Stk.new {H : Hp} {sa a : Addr} (h : Stk H sa) (n : H a = none) {o : HO} : Stk (upd H a o) sa := h.but fun z => h.ne (z ▸ n)
theorem Stk.same {H H' : Hp} {sa : Addr} (h : Stk H sa) (e : Same H H') : Stk H' sa := by
  obtain ⟨x, y, z, h⟩ := h
  exact ⟨x, y, z, e _ _ h⟩
def Leaf (v w : V) : Prop := (∃ n, v = .int n ∧ w = .int n) ∨ (∃ s, v = .str s ∧ w = .str s)
def Comp (R : Hp → V → V → Prop) (H : Hp) (v w : V) : Prop := ∃ (a b : Addr) (xs ys : List V), v = .ref a ∧ w = .ref b ∧ ((H a = some (.lst xs) ∧ H b = some (.lst ys)) ∨ (H a = some (.tup xs) ∧ H b = some (.tup ys))) ∧ xs.length = ys.length ∧ ys.length ≤ 1000 ∧ ∀ (i : Nat) (x y : V), xs[i]? = some x → ys[i]? = some y → R H x y
def Mt : Nat → Hp → V → V → Prop
  | 0, _, v, w => Leaf v w
  | k + 1, H, v, w => Leaf v w ∨ Comp (Mt k) H v w
theorem Mt.same : ∀ {k : Nat} {H H' : Hp} {v w : V}, Same H H' → Mt k H v w → Mt k H' v w
  | 0, _, _, _, _, _, h => h
  | k + 1, _, _, _, _, e, .inl h => .inl h
  | k + 1, _, _, _, _, e, .inr ⟨a, b, xs, ys, e1, e2, h, hl, hz, hr⟩ => .inr ⟨a, b, xs, ys, e1, e2, h.imp (fun z => ⟨e _ _ z.1, e _ _ z.2⟩) (fun z => ⟨e _ _ z.1, e _ _ z.2⟩), hl, hz, fun i x y hx hy => Mt.same e (hr i x y hx hy)⟩
def spMt (R : Hp → V → V → Prop) : Sp := fun vs H Q _ => ∃ v w, vs = [v, w] ∧ R H v w ∧ ∀ H', Same H H' → Q (.bl true) H'
theorem k_ii : PySem.W.kitOne K (.type "int") (.type "int") = some true := kit_ty (by decide +kernel)
theorem k_ib : PySem.W.kitOne K (.type "int") (.type "bool") = some false := kit_ty (by decide +kernel)
theorem k_sb : PySem.W.kitOne K (.type "str") (.type "bool") = some false := kit_ty (by decide +kernel)
theorem k_si : PySem.W.kitOne K (.type "str") (.type "int") = some false := kit_ty (by decide +kernel)
theorem k_ss : PySem.W.kitOne K (.type "str") (.type "str") = some true := kit_ty (by decide +kernel)
theorem k_lb : PySem.W.kitOne K (.type "list") (.type "bool") = some false := kit_ty (by decide +kernel)
theorem k_li : PySem.W.kitOne K (.type "list") (.type "int") = some false := kit_ty (by decide +kernel)
theorem k_ls : PySem.W.kitOne K (.type "list") (.type "str") = some false := kit_ty (by decide +kernel)
theorem k_ld : PySem.W.kitOne K (.type "list") (.type "dict") = some false := kit_ty (by decide +kernel)
theorem k_lt : PySem.W.kitOne K (.type "list") (.type "tuple") = some false := kit_ty (by decide +kernel)
theorem k_ll : PySem.W.kitOne K (.type "list") (.type "list") = some true := kit_ty (by decide +kernel)
theorem k_tb : PySem.W.kitOne K (.type "tuple") (.type "bool") = some false := kit_ty (by decide +kernel)
theorem k_ti : PySem.W.kitOne K (.type "tuple") (.type "int") = some false := kit_ty (by decide +kernel)
theorem k_ts : PySem.W.kitOne K (.type "tuple") (.type "str") = some false := kit_ty (by decide +kernel)
theorem k_td : PySem.W.kitOne K (.type "tuple") (.type "dict") = some false := kit_ty (by decide +kernel)
theorem k_tt : PySem.W.kitOne K (.type "tuple") (.type "tuple") = some true := kit_ty (by decide +kernel)
theorem k_tl : PySem.W.kitOne K (.type "tuple") (.type "list") = some false := kit_ty (by decide +kernel)
theorem k_il : PySem.W.kitOne K (.type "int") (.type "list") = some false := kit_ty (by decide +kernel)
theorem k_it : PySem.W.kitOne K (.type "int") (.type "tuple") = some false := kit_ty (by decide +kernel)
theorem k_id : PySem.W.kitOne K (.type "int") (.type "dict") = some false := kit_ty (by decide +kernel)
theorem k_sl : PySem.W.kitOne K (.type "str") (.type "list") = some false := kit_ty (by decide +kernel)
theorem k_st : PySem.W.kitOne K (.type "str") (.type "tuple") = some false := kit_ty (by decide +kernel)
theorem k_sd : PySem.W.kitOne K (.type "str") (.type "dict") = some false := kit_ty (by decide +kernel)
theorem tx_int {H : Hp} (n : Int) : TyX K H (.int n) (.type "int") := .base (.int n)
theorem tx_str {H : Hp} (n : Str) : TyX K H (.str n) (.type "str") := .base (.str n)
theorem tx_lst {H : Hp} {a : Addr} {xs : List V} (h : H a = some (.lst xs)) : TyX K H (.ref a) (.type "list") := .base (.lst h)
theorem tx_tup {H : Hp} {a : Addr} {xs : List V} (h : H a = some (.tup xs)) : TyX K H (.ref a) (.type "tuple") := .base (.tup h)
def Leaf1 (v : V) : Prop := (∃ n, v = .int n) ∨ (∃ s, v = .str s)
theorem mt_ints {H : Hp} {a b : Addr} {ns : List Int} (hz : ns.length ≤ 1000) (ha : H a = some (.lst (ns.map V.int))) (hb : H b = some (.lst (ns.map V.int))) : Mt 1 H (.ref a) (.ref b) := by
  refine .inr ⟨a, b, _, _, rfl, rfl, .inl ⟨ha, hb⟩, rfl, by rw [ints_len]; exact hz, fun i x y hx hy => ?_⟩
  obtain ⟨n, _, rfl⟩ := ints_get hx
  rw [hx] at hy
  cases hy
  exact .inl ⟨n, rfl, rfl⟩
theorem new2 {H : Hp} {a : Addr} (o : HO) (h : H a = none) : Same H (upd H a o) ∧ upd H a o a = some o := ⟨same_new h, upd_same⟩
theorem pe_noway {X : Cx} {e : Expr} : PE X e (fun _ _ _ => False) := ⟨fun _ _ _ _ _ _ h => h.elim⟩
theorem ext_lst {H H' : Hp} {a : Addr} {xs : List V} (e : LamX.ExtN H H') (h : H a = some (.lst xs)) : H' a = some (.lst xs) := e _ _ h fun _ z => by cases z
theorem ext_tup {H H' : Hp} {a : Addr} {xs : List V} (e : LamX.ExtN H H') (h : H a = some (.tup xs)) : H' a = some (.tup xs) := e _ _ h fun _ z => by cases z
theorem ext_of {H H' : Hp} (e : Same H H') : LamX.ExtN H H' := fun b o h _ => e b o h
def Bx (sa : Addr) (H H' : Hp) : Prop := ∀ b o, H b = some o → (∀ ps, o ≠ .tbl ps) → b ≠ sa → H' b = some o
theorem ext_bx {sa : Addr} {H H1 H2 : Hp} (e : LamX.ExtN H H1) (n : H sa = none) (b : Bx sa H1 H2) : LamX.ExtN H H2 := fun c o h p => b c o (e c o h p) p (ne_of_none h n)
theorem ext_new {sa : Addr} {H H1 H1' H2 : Hp} (e : LamX.ExtN H H1) (n : H1 sa = none) (s : Same H1 H1') (b : Bx sa H1' H2) : LamX.ExtN H H2 := fun c o h p => b c o (s _ _ (e c o h p)) p (ne_of_none (e c o h p) n)
theorem ext_seq {K : PySem.W.Frag} {H H' : Hp} {a : Addr} {xs : List V} (e : LamX.ExtN H H') (h : SqL K H a xs) : SqL K H' a xs := by
  rcases h with (h | ⟨o, h⟩) | h
  · exact .inl (.inl (e _ _ h fun _ z => by cases z))
  · exact .inl (.inr ⟨o, e _ _ h fun _ z => by cases z⟩)
  · exact .inr h
theorem min2 (a b : Int) : (if b < a then b else a) = min a b := by omega
theorem max2 (a b : Int) : (if b > a then b else a) = max a b := by omega
theorem max1 (m : Int) : (if m > 1 then m else 1) = max 1 m := by omega
theorem Bx.of_but {sa : Addr} {H H' : Hp} (e : But sa H H') : Bx sa H H' := fun b o h _ n => e b o h n
theorem Bx.of_same {sa : Addr} {H H' : Hp} (e : Same H H') : Bx sa H H' := fun b o h _ _ => e b o h
theorem Bx.of_ext {sa : Addr} {H H' : Hp} (e : LamX.ExtN H H') : Bx sa H H' := fun b o h n _ => e b o h n
theorem Bx.trans {sa : Addr} {H H1 H2 : Hp} (a : Bx sa H H1) (b : Bx sa H1 H2) : Bx sa H H2 := fun c o h n m => b c o (a c o h n m) n m
theorem Bx.lst {sa : Addr} {H H' : Hp} {a : Addr} {xs : List V} (e : Bx sa H H') (n : a ≠ sa) (h : H a = some (.lst xs)) : H' a = some (.lst xs) := e _ _ h (fun _ z => by cases z) n
theorem Bx.tup {sa : Addr} {H H' : Hp} {a : Addr} {xs : List V} (e : Bx sa H H') (n : a ≠ sa) (h : H a = some (.tup xs)) : H' a = some (.tup xs) := e _ _ h (fun _ z => by cases z) n
theorem tabs_but {sa : Addr} {H H' : Hp} {Tb : List (Addr × Str)} (h : LamX.Tabs Tb H) (hs : Stk H sa) (e : But sa H H') : LamX.Tabs Tb H' := fun p hp => by
  obtain ⟨ps, hP, ht, hc⟩ := h p hp
  have hne : p.1 ≠ sa := fun z => by
    obtain ⟨x, y, w, hs⟩ := hs
    rw [z, hs] at hP
    cases hP
  exact ⟨ps, e _ _ hP hne, ht, fun pos cv q => by
    obtain ⟨c, h1, h2⟩ := hc pos cv q
    have hc : c ≠ sa := fun z => by
      obtain ⟨x, y, w, hs⟩ := hs
      rw [z, hs] at h2
      cases h2
    exact ⟨c, h1, e _ _ h2 hc⟩⟩
def PairT (H : Hp) (x : V) (c : Int × Int) : Prop := ∃ t, x = .ref t ∧ H t = some (.tup [.int c.1, .int c.2])
theorem ne_stk {H : Hp} {sa t : Addr} {o : HO} (hs : Stk H sa) (h : H t = some o) (n : ∀ xs, o ≠ .lst xs) : t ≠ sa := fun z => by
  obtain ⟨x, y, w, hs⟩ := hs
  rw [z, hs] at h
  exact n _ (Option.some.inj h).symm
theorem PairT.bx {sa : Addr} {H H' : Hp} (hs : Stk H sa) (e : Bx sa H H') {x : V} {c : Int × Int} (h : PairT H x c) : PairT H' x c := by
  obtain ⟨t, rfl, h⟩ := h
  exact ⟨t, rfl, e.tup (ne_stk hs h fun _ z => by cases z) h⟩
theorem PairT.same {H H' : Hp} (e : Same H H') {x : V} {c : Int × Int} (h : PairT H x c) : PairT H' x c := by
  obtain ⟨t, rfl, h⟩ := h
  exact ⟨t, rfl, e _ _ h⟩
theorem PairT.mut {H : Hp} {l : Addr} {xs : List V} {o : HO} (hl : H l = some (.lst xs)) {x : V} {c : Int × Int} (h : PairT H x c) : PairT (upd H l o) x c := by
  obtain ⟨t, rfl, h⟩ := h
  refine ⟨t, rfl, ?_⟩
  rw [upd_ne (fun z => by rw [z, hl] at h; cases h)]
  exact h
theorem PairT.r {K : PySem.W.Frag} {H : Hp} {x : V} {c : Int × Int} (h : PairT H x c) : PairR K H x c := by
  obtain ⟨t, rfl, h⟩ := h
  exact ⟨t, rfl, .inl (SqT.of h)⟩
theorem paired_mem {α β : Type} {R : α → β → Prop} {xs : List α} {ys : List β} (h : Paired R xs ys) {x : α} (hx : x ∈ xs) : ∃ y ∈ ys, R x y := by
  induction h with
  | nil => cases hx
  | cons a _ ih =>
    rcases List.mem_cons.mp hx with rfl | hx
    · exact ⟨_, List.mem_cons_self, a⟩
    · obtain ⟨y, hy, r⟩ := ih hx
      exact ⟨y, List.mem_cons_of_mem _ hy, r⟩
theorem paired_build {α β : Type} {R : α → β → Prop} {S : β → Prop} : ∀ (xs : List α), (∀ x ∈ xs, ∃ y, R x y ∧ S y) → ∃ ys, Paired R xs ys ∧ ∀ y ∈ ys, S y
  | [], _ => ⟨[], .nil, fun y hy => by cases hy⟩
  | x :: t, h => by
    obtain ⟨y, r, s⟩ := h x List.mem_cons_self
    obtain ⟨ys, rs, ss⟩ := paired_build t fun z hz => h z (List.mem_cons_of_mem _ hz)
    refine ⟨y :: ys, .cons r rs, fun z hz => ?_⟩
    rcases List.mem_cons.mp hz with rfl | hz
    · exact s
    · exact ss z hz
theorem paired_drop {α β : Type} {R : α → β → Prop} : ∀ (k : Nat) {xs : List α} {ys : List β}, Paired R xs ys → Paired R (xs.drop k) (ys.drop k)
  | 0, _, _, h => h
  | k + 1, _, _, .nil => .nil
  | k + 1, _, _, .cons a r => paired_drop k r
theorem paired_take {α β : Type} {R : α → β → Prop} : ∀ (k : Nat) {xs : List α} {ys : List β}, Paired R xs ys → Paired R (xs.take k) (ys.take k)
  | 0, _, _, _ => .nil
  | k + 1, _, _, .nil => .nil
  | k + 1, _, _, .cons a r => .cons a (paired_take k r)
def Er (C : Addr) (fl : Str) (v : V) (H : Hp) : XK := fun cls d H' => cls = .ref C ∧ ∃ d', d = some d' ∧ Same H H' ∧ H' d' = some (.xd [(fl, v)])
theorem rz_er {C : Addr} {fl : Str} {v : V} {H H1 : Hp} (e : Same H H1) : Rz (Er C fl v H) H1 C fl v := fun d H' s hd => ⟨rfl, d, rfl, e.trans s, hd⟩
theorem paired_rep {α β : Type} {R : α → β → Prop} {x : α} {c : β} (h : R x c) : ∀ n, Paired R (List.replicate n [x]).flatten (List.replicate n c)
  | 0 => .nil
  | n + 1 => .cons h (paired_rep h n)
theorem rep_ints (n : Nat) (z : Int) : (List.replicate n [V.int z]).flatten = (List.replicate n z).map V.int := by
  induction n with
  | zero => rfl
  | succ n ih => rw [List.replicate_succ, List.flatten_cons, ih]; rfl
theorem rep_len {α : Type} (n : Nat) (x : α) : (List.replicate n [x]).flatten.length = n := by
  induction n with
  | zero => rfl
  | succ n ih => rw [List.replicate_succ, List.flatten_cons, List.length_append, ih]; simp; omega
end
end L2
end
section
set_option maxRecDepth 100000
set_option maxHeartbeats 4000000
namespace L2
open PySem PySem.Spec PyProof.Rows
/-! ### lists of couples compared -/
def dP (c : Int × Int) : PyData := .tuple [.int c.1, .int c.2]
theorem dp_pair {K : PySem.W.Frag} {H : Hp} {x : V} {c : Int × Int} (h : PairT H x c) : Dp K H x (dP c) := by
  obtain ⟨t, rfl, h⟩ := h
  exact .tup (SqT.of h) (.cons (.int _) (.cons (.int _) .nil))
theorem dp_pairall {K : PySem.W.Frag} {H : Hp} {xs : List V} {ws : List (Int × Int)} (h : Paired (PairT H) xs ws) : DpAll K H xs (ws.map dP) := by
  induction h with
  | nil => exact .nil
  | cons a _ ih => exact .cons (dp_pair a) ih
theorem dp_pairs {K : PySem.W.Frag} {H : Hp} {a : Addr} {xs : List V} {ws : List (Int × Int)} (ha : H a = some (.lst xs)) (h : Paired (PairT H) xs ws) : Dp K H (.ref a) (.list (ws.map dP)) := .lst (SqL.of ha) (dp_pairall h)
theorem lay_pairall : ∀ ws : List (Int × Int), PyData.canLayAll0 (ws.map dP) = true
  | [] => by rw [List.map_nil]; unfold PyData.canLayAll0; rfl
  | c :: r => by
    rw [List.map_cons]
    unfold PyData.canLayAll0
    rw [lay_pairall r]
    unfold dP PyData.canLay0 PyData.canLayAll0 PyData.canLay0 PyData.canLayAll0 PyData.canLay0 PyData.canLayAll0
    rfl
theorem lay_pairs (ws : List (Int × Int)) : (PyData.list (ws.map dP)).canLay0 = true := by
  unfold PyData.canLay0
  exact lay_pairall ws
theorem dep_pairall : ∀ ws : List (Int × Int), PyData.depthAll (ws.map dP) ≤ 2
  | [] => by rw [List.map_nil]; unfold PyData.depthAll; exact Nat.zero_le _
  | c :: r => by
    rw [List.map_cons]
    unfold PyData.depthAll
    have h := dep_pairall r
    have e : (dP c).depth ≤ 2 := by
      unfold dP PyData.depth PyData.depthAll PyData.depth PyData.depthAll PyData.depth PyData.depthAll
      decide
    omega
theorem shaped_pairs (ws : List (Int × Int)) : SeqAt.shaped (PyData.list (ws.map dP)) = true := by
  unfold SeqAt.shaped
  rw [lay_pairs]
  have h := dep_pairall ws
  have e : (PyData.list (ws.map dP)).depth ≤ 64 := by
    unfold PyData.depth
    omega
  rw [decide_eq_true e]
  rfl
theorem ne_pairs {K : PySem.W.Frag} {H : Hp} {a b : Addr} {xs ys : List V} {ws : List (Int × Int)} {Q : VK} (ha : H a = some (.lst xs)) (hb : H b = some (.lst ys)) (h1 : Paired (PairT H) xs ws) (h2 : Paired (PairT H) ys ws) (q : Q (.bl false) H) : rNeD K (.ref a) (.ref b) H Q := by
  refine ⟨_, _, dp_pairs ha h1, dp_pairs hb h2, shaped_pairs ws, shaped_pairs ws, ?_⟩
  rw [SeqAt.eqv_refl _ (lay_pairs ws)]
  exact q
end L2
end
section
set_option maxRecDepth 100000
set_option maxHeartbeats 4000000
/-! the end of a row whose law asks that no repr is under way (after the end with tables) -/
namespace LamX
open PySem PySem.Spec PyProof.Rows L2
/-! ### the first state: nothing is tracked but the empty tables and, where it is not in the written part, the script -/
abbrev tabO : Obj := { cls := .none, data := .fields #[] }
abbrev scrO (us : List Value) : Obj := { cls := .type "list", data := .seq us.toArray }
structure First (K : PySem.W.Frag) (h : Heap) (T : List Addr) (a : Addr) (us : List Value) (ns : List Int) (H : Hp) : Prop where
  tab : ∀ b ∈ T, H b = some (.tbl #[])
  only : ∀ b u, H b = some u → (b ∈ T ∧ u = .tbl #[]) ∨ (b = a ∧ K.lookup a = none ∧ u = .frz (scrO us) (.lst (ns.map V.int)))
  seq : SqL K H a (ns.map V.int)
section
variable {P : Program} {w : World} {K : PySem.W.Frag} {h : Heap} {T : List Addr} {a : Addr} {us : List Value} {ns : List Int} {H : Hp}
theorem first_ex (KX : K.In h) (ha : h.get? a = some (scrO us)) (hT : ∀ b ∈ T, h.get? b = some tabO) (hi : IntsAre us ns) (hl : ns.length ≤ sizeLine) : ∃ H, First K h T a us ns H := by
  have out : ∀ b ∈ T, b ≠ a := fun b hb e => by
    have q := hT b hb
    rw [e, ha] at q
    have := congrArg Obj.data (Option.some.inj q)
    cases this
  cases hk : K.lookup a with
  | some o =>
    have eo : o = scrO us := Option.some.inj ((KX a o hk).symm.trans ha)
    subst eo
    refine ⟨fun b => if b ∈ T then some (.tbl #[]) else none, fun b hb => if_pos hb, fun b u e => ?_, .inr ⟨scrO us, us.toArray, _, hk, rfl, rfl, rfl, ?_, ?_⟩⟩
    · by_cases m : b ∈ T
      · exact .inl ⟨m, Option.some.inj (e.symm.trans (if_pos m))⟩
      · cases (if_neg m).symm.trans e
    · rw [List.size_toArray, hi.length]; exact hl
    · have := vals_ints hi
      simpa using this
  | none =>
    refine ⟨fun b => if b ∈ T then some (.tbl #[]) else if b = a then some (.frz (scrO us) (.lst (ns.map V.int))) else none, fun b hb => if_pos hb, fun b u e => ?_, .inl (.inr ⟨scrO us, ?_⟩)⟩
    · by_cases m : b ∈ T
      · exact .inl ⟨m, Option.some.inj (e.symm.trans (if_pos m))⟩
      · have e := (if_neg m).symm.trans e
        by_cases q : b = a
        · exact .inr ⟨q, hk, Option.some.inj (e.symm.trans (if_pos q))⟩
        · cases (if_neg q).symm.trans e
    · show (if a ∈ T then some (HO.tbl #[]) else if a = a then _ else none) = _
      rw [if_neg (fun m => out a m rfl), if_pos rfl]
theorem First.get (F : First K h T a us ns H) (ha : h.get? a = some (scrO us)) (hT : ∀ b ∈ T, h.get? b = some tabO) {b : Addr} {u : HO} (e : H b = some u) : h.get? b = some tabO ∨ h.get? b = some (scrO us) := by
  rcases F.only b u e with ⟨m, _⟩ | ⟨rfl, _⟩
  · exact .inl (hT b m)
  · exact .inr ha
/-- an object of another kind is not tracked -/
theorem First.free (F : First K h T a us ns H) (ha : h.get? a = some (scrO us)) (hT : ∀ b ∈ T, h.get? b = some tabO) {b : Addr} {o : Obj} (e : h.get? b = some o) (n1 : o ≠ tabO) (n2 : o ≠ scrO us) : H b = none := by
  cases q : H b with
  | none => rfl
  | some u =>
    rcases F.get ha hT q with z | z
    · exact absurd (Option.some.inj (e.symm.trans z)) n1
    · exact absurd (Option.some.inj (e.symm.trans z)) n2
theorem other_dict {o : Obj} {es : Array DictEntry} {n : Nat} (d : o.data = .dict es n) : o ≠ tabO ∧ o ≠ scrO us := ⟨(fun z => by rw [z] at d; cases d), (fun z => by rw [z] at d; cases d)⟩
theorem First.hok (F : First K h T a us ns H) (ha : h.get? a = some (scrO us)) (hT : ∀ b ∈ T, h.get? b = some tabO) (hi : IntsAre us ns) (hl : ns.length ≤ sizeLine) : HOk P w H h := fun b u e => by
  rcases F.only b u e with ⟨m, rfl⟩ | ⟨rfl, _, rfl⟩
  · exact hT b m
  · exact ⟨ha, by rw [List.length_map]; exact hl, us, _, vals_ints hi, ha⟩
/-- the written part stands in what is not tracked -/
theorem First.kin (F : First K h T a us ns H) (KX : K.In h) (nT : ∀ b ∈ T, K.lookup b = none) : K.In (hidT h H) := fun b o e => by
  refine hidT_get (KX b o e) ?_
  cases q : H b with
  | none => rfl
  | some u =>
    rcases F.only b u q with ⟨m, _⟩ | ⟨rfl, z, _⟩
    · rw [nT b m] at e; cases e
    · rw [z] at e; cases e
theorem First.nsOf (F : First K h T a us ns H) (ha : h.get? a = some (scrO us)) (hT : ∀ b ∈ T, h.get? b = some tabO) {b : Addr} {m : Str → Option Value} (g : h.Ns b m) : (hidT h H).Ns b m := by
  obtain ⟨o, es, n, e, d, r⟩ := g
  exact ⟨o, es, n, hidT_get e (F.free ha hT e (other_dict (us := us) d).1 (other_dict (us := us) d).2), d, r⟩
end
theorem law_callG {P : Program} {w : World} {K : PySem.W.Frag} {mg mb : Str → Option Value} {k : Nat} {fa a : Addr} {cs : List (Addr × Addr)} {fd : FuncData} {x : Str} {sp : Sp} {s : Shared} {us : List Value} {ns : List Int}
    (KX : K.In s.heap) (gl : s.heap.Ns mainGlobals mg) (bl : s.heap.Ns builtinsNs mb) (bb : ∀ x : Str, x ≠ "__name__" → mb x = bootBuiltins x) (lim : s.heap.NoLimit) (gens : s.gens = #[])
    (hTc : ∀ p ∈ cs, s.heap.get? p.2 = some tabO) (nTc : ∀ p ∈ cs, K.lookup p.2 = none) (C : ∀ p ∈ cs, PySem.W.CodeHd s.heap p.1 p.2)
    (bm : ∃ (m : Addr) (o : Obj), mg "__builtins__" = some (.ref m) ∧ m ≠ builtinsNs ∧ s.heap.get? m = some o ∧ o.cls = .type "module" ∧ o.dict = some builtinsNs ∧ o.data = .plain)
    (ha : s.heap.get? a = some (scrO us)) (hi : IntsAre us ns) (hl : ns.length ≤ sizeLine) (hr : Room k callerA) (hgd : callerA.guards = some [])
    (F : ∀ base : Heap, K.In base → base.Ns mainGlobals mg → (∀ p ∈ cs, TabB base mg p.1 p.2) → FnG P w K mg base k fa fd [x] sp) (bind : ∀ (s : Shared) (u : Value), BindsTo s fd ⟨[u], []⟩ [(x, u)])
    (hsp : ∀ H : Hp, (∀ p ∈ cs, H p.2 = some (.tbl #[])) → SqL K H a (ns.map V.int) → sp [.ref a] H (fun v _ => v = .bl true) E0) :
    codeAny (model P w) callerA (.call (.ref fa) ⟨[.ref a], []⟩) (fun r t => r = .ok (.ret (.bool true)) ∧ OldK s.heap t.heap ∧ t.os = s.os ∧ AllBare t.gens) s := by
  have inT : ∀ {p}, p ∈ cs → p.2 ∈ cs.map (·.2) := fun hp => List.mem_map_of_mem hp
  have hT : ∀ b ∈ cs.map (·.2), s.heap.get? b = some tabO := fun b hb => by
    obtain ⟨p, hp, rfl⟩ := List.mem_map.mp hb
    exact hTc p hp
  have nT : ∀ b ∈ cs.map (·.2), K.lookup b = none := fun b hb => by
    obtain ⟨p, hp, rfl⟩ := List.mem_map.mp hb
    exact nTc p hp
  obtain ⟨H, W⟩ := first_ex KX ha hT hi hl
  have ok : HOk P w H s.heap := W.hok ha hT hi hl
  have gl' := W.nsOf ha hT gl
  have notG : ∀ {b o}, s.heap.get? b = some o → (∀ es n, o.data ≠ .dict es n) → b ≠ mainGlobals := fun {b o} e n q => by
    obtain ⟨o', es, m, e', d, _⟩ := gl
    rw [q, e'] at e
    rw [Option.some.inj e] at d
    exact n _ _ d
  have M : L2.Mod K mg (hidT s.heap H) := by
    obtain ⟨ml, l1, l2⟩ := lim
    exact ⟨W.kin KX nT, gl', ⟨mb, W.nsOf ha hT bl, bb⟩, ⟨ml, W.nsOf ha hT l1, l2⟩⟩
  have TB : ∀ p ∈ cs, TabB (hidT s.heap H) mg p.1 p.2 := fun p hp => by
    obtain ⟨o, vs, f1, f2, f3, f4, f5, f6, f7, e, c1, c2, c3, rest⟩ := C p hp
    obtain ⟨m, om, b1, b2, b3, b4, b5, b6⟩ := bm
    have fo : H p.1 = none := W.free ha hT e (fun z => by rw [z] at c1; cases c1) (fun z => by rw [z] at c1; exact absurd (show Value.type "list" = Value.type "code" from c1) (by decide))
    have fm : H m = none := W.free ha hT b3 (fun z => by rw [z] at b4; cases b4) (fun z => by rw [z] at b4; exact absurd (show Value.type "list" = Value.type "module" from b4) (by decide))
    have mG : m ≠ mainGlobals := notG b3 fun es n z => by rw [b6] at z; cases z
    have mP : m ≠ p.2 := fun z => by
      rw [z, hTc p hp] at b3
      rw [← Option.some.inj b3] at b6
      cases b6
    have pG : p.2 ≠ mainGlobals := notG (hTc p hp) fun es n z => by cases z
    exact ⟨⟨o, vs, f1, f2, f3, f4, f5, f6, f7, hidT_get e fo, c1, c2, c3, rest⟩, ⟨m, om, b1, b2, mG, mP, hidT_get b3 fm, b4, b5, b6⟩, pG.symm⟩
  have env : Env0 P w K mg (hidT s.heap H) callerA [] s H :=
    { frames := rfl, mod := M, bs := fun b o e => of_hidT e, bsz := Nat.le_of_eq (hidT_size _ _), funs := trivial, frf := fun b hb => (by cases hb), hok := ok, bare := .of_eq gens }
  have run := (F _ M.kin M.glob TB).run callerA [] s H ⟨[.ref a], []⟩ [.ref a] [.ref a] (fun v _ => v = .bl true) hr hgd env (bind s (.ref a)) (.cons rfl .nil) (hsp H (fun p hp => W.tab _ (inT hp)) W.seq)
  refine codeAny_mono run fun r t end_ => ?_
  match r, end_ with
  | .ok (.ret u), ⟨v, H', os, bare, un, ok', rv, e⟩ =>
    subst e
    obtain rfl : u = Value.bool true := rv
    -- what is no table stays
    have stay : ∀ b o, b ∉ cs.map (·.2) → s.heap.get? b = some o → t.heap.get? b = some o := fun b o nb e => by
      cases q : H b with
      | none => exact un.keep b o e q (fun z => by cases z) (fun z => by cases z)
      | some u =>
        rcases W.only b u q with ⟨m, _⟩ | ⟨rfl, _, rfl⟩
        · exact absurd m nb
        · rw [ha] at e
          rw [← Option.some.inj e]
          exact (ok' b _ (un.frzs b _ _ q)).1
    have grow : ∀ b ∈ cs.map (·.2), ∃ more : Array Value, t.heap.get? b = some { cls := .none, data := .fields more } := fun b hb => by
      obtain ⟨more, z⟩ := un.tbls b #[] (W.tab b hb)
      exact ⟨_, ok' b _ z⟩
    refine ⟨rfl, ⟨fun b o e => ?_, fun b o e => ?_⟩, os, bare⟩ <;> by_cases m : b ∈ cs.map (·.2)
    · obtain ⟨p, hp, rfl⟩ := List.mem_map.mp m
      obtain ⟨more, z⟩ := grow _ m
      have eo : o = tabO := Option.some.inj (e.symm.trans (hTc p hp))
      subst eo
      refine .inr (.inl ⟨((C p hp).tab (hTc p hp)).isCodeTable, rfl, #[], more, rfl, ?_⟩)
      rw [Array.empty_append]
      exact z
    · exact .inl (stay b o m e)
    · obtain ⟨more, z⟩ := grow b m
      exact ⟨_, z⟩
    · exact ⟨o, stay b o m e⟩
  | .ok .next, z => exact False.elim z
  | .ok .brk, z => exact False.elim z
  | .ok .cont, z => exact False.elim z
  | .error e, z => exact False.elim z
theorem fnG_defC {P : Program} {w : World} {K : PySem.W.Frag} {mg : Str → Option Value} {base : Heap} {k : Nat} {x : Str} {ps N : List Str} {sp : Sp} {st : Stmt} {cc f : Addr} {fd : FuncData} (F : FnP K x st f fd) (hc : fd.code = .ref cc)
    (S : FnScope N ps (defScope st)) (len : ∀ vs H Q E, sp vs H Q E → vs.length = ps.length)
    (hbody : ∀ (f : Addr) (A : Around) (outer : List Env) (s : Shared) (H : Hp) (vs : List V) (Q : VK), Room k (A.deeper (envOfC x (defScope st) s.heap.objs.size f (.ref cc))) → A.guards = some [] → sp vs H Q E0 →
      ∃ t, PSs (cxOf CX0 P w K mg base N x (defScope st) f (.ref cc) A outer s H E0).nox (defBody st) t ∧ t { nx := fun _ H' => Q .non H', rt := Q } (L2.start N vs) H) : FnG P w K mg base (k + 1) f fd ps sp := by
  obtain ⟨oc, od, dV, kV, doc, pm, an, cdv, ct, osl, rfl, lk, hcd, _, _⟩ := F.ex
  obtain rfl : cdv = .ref cc := hc
  constructor
  · exact len
  · intro A outer s H args us vs Q hr hgd e0 hbt r hsp
    refine run_ofS lk hcd S hr e0 hbt r (len _ _ _ _ hsp) fun hr' => ?_
    obtain ⟨t, h, q⟩ := hbody f A outer s H vs Q hr' hgd hsp
    exact ⟨t, h.nox, q⟩
def LawAtG (l : PySem.W.OpenLaw) (w : World) (K : PySem.W.Frag) (k n : Nat) (x : Str) (mg : Str → Option Value) (fa : Addr) (h : Heap) : Prop :=
  ∃ (fd : FuncData) (cs : List (Addr × Addr)) (sp : Sp), (∀ p ∈ cs, h.get? p.2 = some { cls := .none, data := .fields #[] }) ∧ (∀ p ∈ cs, K.lookup p.2 = none) ∧ (∀ p ∈ cs, PySem.W.CodeHd h p.1 p.2) ∧ (∀ (s : Shared) (u : Value), BindsTo s fd ⟨[u], []⟩ [(x, u)]) ∧
    (∀ (H : Hp) (a : Addr) (ns : List Int), ns.length ≤ n → (∀ p ∈ cs, H p.2 = some (.tbl #[])) → SqL K H a (ns.map V.int) → sp [.ref a] H (fun v _ => v = .bl true) E0) ∧
    ∀ base : Heap, K.In base → base.Ns mainGlobals mg → (∀ p ∈ cs, TabB base mg p.1 p.2) → FnG l.prog w K mg base k fa fd [x] sp
theorem walk_ofG {l : PySem.W.OpenLaw} {n k : Nat} {q : Program} {loose : List Str} {XP : (Str → Option Value) → Heap → Prop} {YP : World → Heap → Prop} {d : DefRec} {x : Str}
    (hn : l.most = some n) (hn2 : n ≤ sizeLine) (hdf : d.params.defaults = []) (hr : Room k callerA) (hgd : callerA.guards = some [])
    (F : ∀ (w : World) (mg : Str → Option Value) (fa : Addr) (h : Heap), YP w h → h.Ns mainGlobals mg → mg d.name = some (.ref fa) → ∃ K : PySem.W.Frag, K.In h ∧ LawAtG l w K k n x mg fa h) :
    PySem.W.WalkO q loose XP YP l.row.toRowW d [] (fun f vs => PySem.call f vs) := by
  refine Att.attach_callB hn hdf fun w s₀ s₁ mg mb fa o pm cd doc a vs ns G Y ho hd hcd hmg hobj hints hlen hbits hg => ?_
  obtain ⟨K, KX, fd, cs, sp, hT, nT, C, hb, hsp, hF⟩ := F w mg fa _ Y G.T.g hmg
  exact law_callG KX G.T.g G.T.b G.T.builtins G.T.nolimit hg hT nT C G.T.bmain hobj hints (Nat.le_trans hlen hn2) hr hgd hF hb (fun H hH hS => hsp H a ns hlen hH hS)
end LamX
end
section
set_option maxRecDepth 100000
set_option maxHeartbeats 4000000
namespace LamX
open PySem PySem.Spec PySem.Calls PyProof.Rows L2
/-- a law whose code object is not looked at -/
theorem fnG_def0 {P : Program} {w : World} {K : PySem.W.Frag} {mg : Str → Option Value} {base : Heap} {k : Nat} {x : Str} {ps N : List Str} {sp : Sp} {st : Stmt} {f : Addr} {fd : FuncData} (F : FnP K x st f fd)
    (S : FnScope N ps (defScope st)) (len : ∀ vs H Q E, sp vs H Q E → vs.length = ps.length)
    (hbody : ∀ (f : Addr) (cdv : Value) (A : Around) (outer : List Env) (s : Shared) (H : Hp) (vs : List V) (Q : VK), Room k (A.deeper (envOfC x (defScope st) s.heap.objs.size f cdv)) → A.guards = some [] → sp vs H Q E0 →
      ∃ t, PSs (cxOf CX0 P w K mg base N x (defScope st) f cdv A outer s H E0).nox (defBody st) t ∧ t { nx := fun _ H' => Q .non H', rt := Q } (L2.start N vs) H) : FnG P w K mg base (k + 1) f fd ps sp := by
  obtain ⟨oc, od, dV, kV, doc, pm, an, cdv, ct, osl, rfl, lk, hcd, _, _⟩ := F.ex
  constructor
  · exact len
  · intro A outer s H args us vs Q hr hgd e0 hbt r hsp
    refine run_ofS lk hcd S hr e0 hbt r (len _ _ _ _ hsp) fun hr' => ?_
    obtain ⟨t, h, q⟩ := hbody f cdv A outer s H vs Q hr' hgd hsp
    exact ⟨t, h.nox, q⟩
end LamX
end
section
set_option maxRecDepth 100000
set_option maxHeartbeats 4000000
namespace L2
open PySem PySem.Spec PyProof.Rows
/-! ### {(a, b): v for a in .. for b in ..}: two clauses, the keys tuples -/
/-- a dict comprehension of two clauses -/
abbrev dC2 (ke ve ta ia tb ib : Expr) (fa fb : List Expr) (sc : Scope) (ps : Pos) : Expr := .DictComp ke ve [⟨ta, ia, fa, 0⟩, ⟨tb, ib, fb, 0⟩] sc ps
abbrev tsL (fs : List Expr) (en : Env) : Sem Bool := forIn fs true fun c r =>
  if r = true then do let z ← isTrue c en (eval c en); pure (ForInStep.yield z)
  else pure (ForInStep.yield r)
section
variable {prog : Program} {w : World} {A : Around} {R : Result → Shared → Prop} {s : Shared} {ke ve ta ia tb ib : Expr} {fa fb : List Expr} {sc : Scope} {ps : Pos} {it acc : Value} {D : Addr} {en : Env}
theorem d2_turn0 : compTurn (dC2 ke ve ta ia tb ib fa fb sc ps) 0 it acc en = (do
    standAt ia.pos
    match ← pyNext it with
    | none => pure (.done .next)
    | some v =>
      letOwnedTupleGo ta it v; assign ta en v
      let mut z := true
      for c in fa do
        if z then z ← isTrue c en (eval c en)
      if z then
        let x ← eval ib en
        standAt ib.pos
        let x ← foldedSetIterable ib en x
        let _ ← runOwn (.compStart (dC2 ke ve ta ia tb ib fa fb sc ps) 1 (← holding [x] (pyIter x)) acc en) en
      again (.compLoop (dC2 ke ve ta ia tb ib fa fb sc ps) 0 it acc en)) := by rfl
theorem d2_turn1 : compTurn (dC2 ke ve ta ia tb ib fa fb sc ps) 1 it (.ref D) en = (do
    standAt ib.pos
    match ← pyNext it with
    | none => pure (.done .next)
    | some v =>
      letOwnedTupleGo tb it v; assign tb en v
      let mut z := true
      for c in fb do
        if z then z ← isTrue c en (eval c en)
      if z then
        (do
          let k1 ← eval ke en
          let v1 ← holding [k1] (eval ve en)
          standAt { ke.pos with endLine := ve.pos.endLine, endCol := ve.pos.endCol }
          holding [k1, v1] (dictSet D k1 v1))
      again (.compLoop (dC2 ke ve ta ia tb ib fa fb sc ps) 1 it (.ref D) en)) := by rfl
abbrev nB (prog : Program) (w : World) (A : Around) (en : Env) (R : Result → Shared → Prop) : Value → Shared → Prop := notedBy (model prog w) A en fun e s' => R (.error e) s'
theorem d2_out (hs : ∀ x, foldedSetIterable ib en x = pure x) (I : Nat → Shared → Prop)
    (turn : ∀ n s, I n s → wpAny (model prog w) A (pyNext it) (fun r s1 => match r with
      | none => R (.ok .next) s1
      | some v => wpAny (model prog w) A (letOwnedTupleGo ta it v) (fun _ s2 =>
          wpAny (model prog w) A (assign ta en v) (fun _ s3 => wpAny (model prog w) A (tsL fa en) (fun z s4 =>
            if z = true then wpAny (model prog w) A (eval ib en) (fun x s5 =>
              wpAny (model prog w) A (pyIter x) (fun it1 s6 => codeAny (model prog w) A (.compStart (dC2 ke ve ta ia tb ib fa fb sc ps) 1 it1 acc en) (fun r s' => match r with
                | .ok _ => ∃ m, m < n ∧ I m s'
                | .error _ => False) s6) (nB prog w A en R) s5) (nB prog w A en R) s4
            else ∃ m, m < n ∧ I m s4) (nB prog w A en R) s3) (nB prog w A en R) s2) (nB prog w A en R) s1) (nB prog w A en R) s)
    (n : Nat) (h : I n s) : codeAny (model prog w) A (.compLoop (dC2 ke ve ta ia tb ib fa fb sc ps) 0 it acc en) R s := by
  refine codeAny_loop rfl I (fun n s hn => ?_) n h
  show wpAny _ A ((compTurn (dC2 ke ve ta ia tb ib fa fb sc ps) 0 it acc en).onRaise fun x => do noteFrame x en; theTreesLotGoes x) _ _ s
  refine wpAny_noted ?_
  rw [d2_turn0]
  refine wpAny_bind (wpAny_standAt (wpAny_bind (wpAny_mono (turn n s hn) (fun r s1 g1 => ?_) fun _ _ q => q)))
  rcases r with _ | v
  · exact wpAny_pure g1
  · refine wpAny_bind (wpAny_mono g1 (fun _ s2 g2 => ?_) fun _ _ q => q)
    refine wpAny_bind (wpAny_mono g2 (fun _ s3 g3 => wpAny_bind (wpAny_mono g3 (fun z s4 g4 => ?_) fun _ _ q => q)) fun _ _ q => q)
    rcases z with _ | _
    · exact wpAny_pure ⟨rfl, g4⟩
    · refine wpAny_bind (wpAny_mono g4 (fun x s5 g5 => ?_) fun _ _ q => q)
      refine wpAny_bind (wpAny_standAt (wpAny_bind (wpAny_of_eq (hs x) (wpAny_bind (wpAny_holding (wpAny_mono g5 (fun it1 s6 g6 => ?_) fun _ _ q => q))))))
      refine wpAny_bind (wpAny_runOwn ?_)
      rw [Around.mark_none]
      refine codeAny_mono g6 fun r s' gr => ?_
      rcases r with e | f
      · first
          | exact gr.elim
          | exact wpAny_pure ⟨rfl, gr⟩
          | exact wpAny_bind (wpAny_pure (wpAny_pure ⟨rfl, gr⟩))
      · first
          | exact gr.elim
          | exact wpAny_pure ⟨rfl, gr⟩
          | exact wpAny_bind (wpAny_pure (wpAny_pure ⟨rfl, gr⟩))
theorem d2_in (I : Nat → Shared → Prop)
    (turn : ∀ n s, I n s → wpAny (model prog w) A (pyNext it) (fun r s1 => match r with
      | none => R (.ok .next) s1
      | some v => wpAny (model prog w) A (letOwnedTupleGo tb it v) (fun _ s2 =>
          wpAny (model prog w) A (assign tb en v) (fun _ s3 => wpAny (model prog w) A (tsL fb en) (fun z s4 =>
            if z = true then wpAny (model prog w) A (eval ke en) (fun k1 s5 =>
              wpAny (model prog w) A (eval ve en) (fun v1 s6 => wpAny (model prog w) A (dictSet D k1 v1) (fun _ s7 => ∃ m, m < n ∧ I m s7) (nB prog w A en R) s6) (nB prog w A en R) s5) (nB prog w A en R) s4
            else ∃ m, m < n ∧ I m s4) (nB prog w A en R) s3) (nB prog w A en R) s2) (nB prog w A en R) s1) (nB prog w A en R) s)
    (n : Nat) (h : I n s) : codeAny (model prog w) A (.compLoop (dC2 ke ve ta ia tb ib fa fb sc ps) 1 it (.ref D) en) R s := by
  refine codeAny_loop rfl I (fun n s hn => ?_) n h
  show wpAny _ A ((compTurn (dC2 ke ve ta ia tb ib fa fb sc ps) 1 it (.ref D) en).onRaise fun x => do noteFrame x en; theTreesLotGoes x) _ _ s
  refine wpAny_noted ?_
  rw [d2_turn1]
  refine wpAny_bind (wpAny_standAt (wpAny_bind (wpAny_mono (turn n s hn) (fun r s1 g1 => ?_) fun _ _ q => q)))
  rcases r with _ | v
  · exact wpAny_pure g1
  · refine wpAny_bind (wpAny_mono g1 (fun _ s2 g2 => ?_) fun _ _ q => q)
    refine wpAny_bind (wpAny_mono g2 (fun _ s3 g3 => wpAny_bind (wpAny_mono g3 (fun z s4 g4 => ?_) fun _ _ q => q)) fun _ _ q => q)
    rcases z with _ | _
    · exact wpAny_pure ⟨rfl, g4⟩
    · exact wpAny_bind (wpAny_bind (wpAny_mono g4 (fun k1 s5 g5 => wpAny_bind (wpAny_holding (wpAny_mono g5 (fun v1 s6 g6 =>
        wpAny_bind (wpAny_standAt (wpAny_holding (wpAny_mono g6 (fun _ s7 g7 => wpAny_pure ⟨rfl, g7⟩) fun _ _ q => q)))) fun _ _ q => q))) fun _ _ q => q))
theorem d2_start1 (h0 : codeAny (model prog w) A (.compLoop (dC2 ke ve ta ia tb ib fa fb sc ps) 1 it acc en) R s)
    (h : wpAny (model prog w) A (pyIter it) (fun it' s' => codeAny (model prog w) A (.compLoop (dC2 ke ve ta ia tb ib fa fb sc ps) 1 it' acc en) R s') (nB prog w A en R) s) :
    codeAny (model prog w) A (.compStart (dC2 ke ve ta ia tb ib fa fb sc ps) 1 it acc en) R s := by
  refine codeAny_of_tree ?_
  show wpAny _ _ ((compStart (dC2 ke ve ta ia tb ib fa fb sc ps) 1 it acc en).onRaise fun x => do noteFrame x en; standAt theWindowsPlace) _ _ s
  refine wpAny_notedAt ?_
  unfold compStart
  show wpAny _ _ (ask >>= _) _ _ s
  refine wpAny_bind (wpAny_askSetting (wpAny_ite ?_))
  split
  · first
      | exact wpAny_pure ⟨rfl, h0⟩
      | exact wpAny_bind (wpAny_pure (wpAny_pure ⟨rfl, h0⟩))
  · first
      | exact wpAny_bind (wpAny_rule (wpAny_bind (wpAny_standAt (wpAny_bind (wpAny_mono h (fun _ _ q => wpAny_pure ⟨rfl, q⟩) fun _ _ q => q)))))
      | (refine wpAny_bind (wpAny_rule ?_)
         show wpAny _ _ (standAt ib.pos >>= _) _ _ s
         exact wpAny_bind (wpAny_standAt (wpAny_bind (wpAny_mono h (fun _ _ q => wpAny_pure ⟨rfl, q⟩) fun _ _ q => q))))
end
end L2
end
section
set_option maxRecDepth 100000
set_option maxHeartbeats 4000000
namespace L2
open PySem PySem.Spec PyProof.Rows
/-- d[b] = v by a comprehension, b a tuple that is tracked -/
theorem d2_store {X : Cx} {pins : List (Addr × Obj)} {σ : St} {H : Hp} {s : Shared} {E : Value → Shared → Prop} {D b : Addr} {kvs : List (List Key × V)} {k : List Key} {v : V} {r : Value} {Q : Unit → Shared → Prop} (hu : X.A.units < cLine) (I : Inv X pins σ H s)
    (hD : H D = some (.dT kvs)) (hb : H b = some (.tup (k.map kV))) (hz : kvs.length < sizeLine) (rv : RelV v r) (h : ∀ s', Inv X pins σ (upd H D (.dT (putK kvs k v))) s' → Q () s') : wpAny (model X.prog X.w) X.A (dictSet D (.ref b) r) Q E s := by
  obtain ⟨z, nd, xs, rel, dd⟩ := dt_of I.hok hD
  have zx : xs.length ≤ sizeLine := by rw [← Paired.length rel]; exact z
  have zk : (putK kvs k v).length ≤ sizeLine := by have := length_putK kvs k v; omega
  refine wpAny_dictSet_heap (hsz := zx) (show (tupleKind (mixKind X.prog X.w)).room X.A from hu) (key_of I.hok hb) dd fun h' dd' sb => h _ ?_
  obtain ⟨q, es, ep, e1, e2, e3, e4, _, e5⟩ := dd'
  refine d_write I (by rw [hD]; exact True.intro) sb ⟨q, e1⟩ ⟨zk, nd, _, (rel.put k hb rv).keeps fun c ys ec => ?_, q, es, ep, e1, e2, e3, e4, e5⟩
  rw [upd_ne (ne_of ec hD fun z => nomatch z)]
  exact ec
/-- {key: v for tg in .. for tg1 in ..}, the keys tuples. vs: the block's names; vs1: those of the second target -/
def tDc2 (wi : TI) (g : TG) (tt : TT) (wi1 : TI) (g1 : TG) (tt1 : TT) (tk tv : TE) (vs vs1 : List Nat) : TE := fun σ H Q => wi σ H fun J H1 => ∀ D, H1 D = none → ∃ W : Nat → Nat → Hp → Prop,
  (∃ m, W 0 m (upd H1 D (.dT []))) ∧ ∀ i m H, W i m H → (J.stop i H ∧ Q (.ref D) H) ∨ (J.go i H ∧ ∃ Nx : Hp → Prop,
    (∀ H', Nx H' → ∃ m', m' < m ∧ W (i + 1) m' H') ∧ ∀ x H', J.yld i H x H' → g x (wipe σ vs) H' fun σ2 H2 => wipe σ2 vs = wipe σ vs ∧ tt σ2 H2 fun b H3 =>
      if b = true then wi1 σ2 H3 fun J1 H4 => ∃ W1 : Nat → Nat → Hp → Prop, (∃ m, W1 0 m H4) ∧ ∀ j k H, W1 j k H →
        (J1.stop j H ∧ Nx H) ∨ (J1.go j H ∧ ∃ Nx1 : Hp → Prop, (∀ H', Nx1 H' → ∃ k', k' < k ∧ W1 (j + 1) k' H') ∧ ∀ x H', J1.yld j H x H' → g1 x (wipe σ2 vs1) H' fun σ3 H5 => wipe σ3 vs1 = wipe σ2 vs1 ∧ tt1 σ3 H5 fun b H6 =>
          if b = true then tk σ3 H6 fun y H7 => tv σ3 H7 fun z H8 => ∃ a kvs k, y = .ref a ∧ H8 a = some (.tup (k.map kV)) ∧ H8 D = some (.dT kvs) ∧ kvs.length < sizeLine ∧ Nx1 (upd H8 D (.dT (putK kvs k z)))
          else Nx1 H6)
      else Nx H3)
section
variable {X : Cx}
abbrev inB (X : Cx) (sc : Scope) (F : Cx → Prop) : Prop := ∀ (s : Shared) (H : Hp) (C : Addr) (cl : List (Str × Addr)) (fp : List Addr), F (X.blk s H sc (compEnvC sc cl C X.env) fp)
theorem d2_core {pins : List (Addr × Obj)} {s : Shared} {σ : St} {H : Hp} {Q : VK} {ke ve ta ia tb ib : Expr} {fa fb : List Expr} {sc : Scope} {own : List (Str × Nat)} {vs1 : List Nat} {ps ps' : Pos} {wi wi1 : TI} {g g1 : TG} {tt tt1 : TT} {tk tv : TE} {use : Option (Value → Sem Unit)} {Qf : Value → Shared → Prop}
    (hc : X.calm = true) (hu : X.A.units < cLine) (hN : X.N.Nodup) (I : Inv X pins σ H s) (hi : PI X ta ia wi) (ok : BlkOk X.N X.env.scope sc own) (hv : ∀ i ∈ vs1, i ∈ own.map (·.2))
    (hg : inB X sc fun Y => PG Y ta g) (ht : inB X sc fun Y => PTs Y fa tt) (hk : inB X sc fun Y => PE Y ke tk) (he : inB X sc fun Y => PE Y ve tv) (hs : ∀ x, foldedSetIterable ia X.env x = pure x)
    (hi1 : inB X sc fun Y => PI Y tb ib wi1) (hg1 : inB X sc fun Y => PG Y tb g1) (ht1 : inB X sc fun Y => PTs Y fb tt1) (hs1 : ∀ env x, foldedSetIterable ib env x = pure x)
    (h : tDc2 wi g tt wi1 g1 tt1 tk tv (own.map (·.2)) vs1 σ H Q)
    (hR : ∀ D C s' m H', Inv X pins σ H' s' → Q (.ref D) H' → s'.heap.Ns C m → FpOk X pins H' C → compPost (model X.prog X.w) X.A X.xe use Qf (.ref D) C (.ok .next) s') :
    wpAny (model X.prog X.w) X.A (comprehension (dC2 ke ve ta ia tb ib fa fb sc ps) sc X.env ps' newDict false (eval ia X.env) use) Qf X.xe s := by
  have free : ∀ y ∈ sc.names, y.2 = .free → ∃ c, X.env.cells.lookup y.1 = some c := fun y hy e => (ok.free y hy e).elim (fun z => I.ok.has _ (.inl z)) fun z => I.ok.has _ (.inr z)
  refine wpAny_comprehension_free (use := use) rfl hs (closure_ok free) ok.kind (fun y hy e => by rw [ok.uniq y hy, e]) (thn (hi.run pins s σ H _ I h) fun xv s1 hx => thn hx fun itv s2 h2 => ?_)
  obtain ⟨it, fp, tn, J, H2, e, I2, T, st2, f2, q⟩ := h2
  subst e
  refine wpAny_newObj_type (newEnv_comp ?_)
  generalize hD : s2.heap.objs.size = D
  obtain ⟨W, ⟨m0, w0⟩, turn⟩ := q D (I2.hok.fresh (Nat.le_of_eq hD))
  generalize hs3 : ({ s2 with heap := s2.heap.push { cls := .type "dict", data := .dict #[] } } : Shared) = s3
  have h3 : s3.heap = s2.heap.push { cls := .type "dict", data := .dict #[] } := by rw [← hs3]
  have I3 : Inv X pins σ (upd H2 D (.dT [])) s3 := by
    rw [← hs3]
    refine I2.laid (t' := s2.toks) (fun b o e => Heap.get?_push_of_some _ e) (Nat.le_of_eq hD) ?_
    rw [← hD]
    exact dt_empty s2.heap I2.big
  have f3 : ∀ b ∈ fp, FpOk X pins (upd H2 D (.dT [])) b ∧ b < s3.heap.objs.size := fun b hb => by
    obtain ⟨o, eo, _⟩ := T.obj _ _ st2 b hb
    have lt := Heap.lt_size eo
    refine ⟨⟨?_, (f2 b hb).2⟩, by rw [h3, Heap.size_push]; exact Nat.lt_succ_of_lt lt⟩
    rw [upd_ne (by rw [← hD]; exact Nat.ne_of_lt lt)]
    exact (f2 b hb).1
  have st3 : tn 0 s3.heap := T.keep _ _ _ st2 fun b _ o e => by rw [h3]; exact Heap.get?_push_of_some _ e
  have I4 := block_start I3 ok hN f3
  generalize hcl : cellsFrom (s3.heap.objs.size + 1) sc.names (cloFrom X.env.cells sc.names []) = cl at I4
  have pg := hg s3 (upd H2 D (.dT [])) s3.heap.objs.size cl fp
  have pt := ht s3 (upd H2 D (.dT [])) s3.heap.objs.size cl fp
  have pk := hk s3 (upd H2 D (.dT [])) s3.heap.objs.size cl fp
  have pe := he s3 (upd H2 D (.dT [])) s3.heap.objs.size cl fp
  have pi1 := hi1 s3 (upd H2 D (.dT [])) s3.heap.objs.size cl fp
  have pg1 := hg1 s3 (upd H2 D (.dT [])) s3.heap.objs.size cl fp
  have pt1 := ht1 s3 (upd H2 D (.dT [])) s3.heap.objs.size cl fp
  have nfp : ∀ b ∈ fp, (upd H2 D (.dT [])) b = none := fun b hb => (f3 b hb).1.1
  have goal0 : codeAny (model X.prog X.w) X.A (.compStart (dC2 ke ve ta ia tb ib fa fb sc ps) 0 (.ref it) (.ref D) (compEnvC sc cl s3.heap.objs.size X.env)) (compPost (model X.prog X.w) X.A X.xe use Qf (.ref D) s3.heap.objs.size)
      { s3 with heap := pushCells (s3.heap.push { cls := .type "dict", data := .dict #[] }) sc.names } := by
    generalize hce : compEnvC sc cl s3.heap.objs.size X.env = ce at I4 pg pt pk pe pi1 pg1 pt1 ⊢
    have cL : ce.locals = s3.heap.objs.size := by subst hce; rfl
    generalize hH3 : upd H2 D (.dT []) = H3 at I3 I4 pg pt pk pe pi1 pg1 pt1 w0 nfp f3
    generalize hs4 : ({ s3 with heap := pushCells (s3.heap.push { cls := .type "dict", data := .dict #[] }) sc.names } : Shared) = s4 at I4 ⊢
    have st4 : tn 0 s4.heap := T.keep _ _ _ st3 fun b _ o e => by rw [← hs4]; exact pushCells_keeps _ _ _ _ (Heap.get?_push_of_some _ e)
    have keepF : ∀ {σ' : St} {H' : Hp} {s' : Shared}, Inv (X.blk s3 H3 sc ce fp) [] σ' H' s' → (∀ b ∈ fp, H' b = none) → ∀ b ∈ fp, FpOk (X.blk s3 H3 sc ce fp) [] H' b := fun {σ' H' s'} I' hn b hb =>
      ⟨hn b hb, (I'.ok.exf b hb).1, I'.ok.exfs b hb, .inl hb, fun x c e => (I'.ok.exf b hb).2 x c e, fun p hp => by cases (show p ∈ ([] : List (Addr × Obj)) from hp)⟩
    -- what stands at the head of each turn
    let Hd : Nat → Shared → Prop := fun n s' => ∃ i H', Inv (X.blk s3 H3 sc ce fp) [] (wipe σ (own.map (·.2))) H' s' ∧ tn i s'.heap ∧ (∀ b ∈ fp, H' b = none) ∧ W i n H'
    refine codeAny_compStart_dict ?_ (T.self X.A 0 _ _ _ st4 ?_)
    all_goals
      refine d2_out (hs1 ce) Hd ?_ m0 ⟨0, H3, I4, st4, nfp, w0⟩
      rintro n s5 ⟨i, H5, I5, st5, n5, w5⟩
      rcases turn i n H5 w5 with ⟨stop, qq⟩ | ⟨go, Nx, hNx, step⟩
      · refine thnF (T.done (X.blk s3 H3 sc ce fp) rfl rfl rfl hc i [] s5 _ H5 (fun _ _ => False) I5 (keepF I5 n5) st5 stop) fun r s6 ⟨er, I6⟩ => ?_
        subst er
        have I7 : Inv X pins σ H5 s6 := I3.call' (ch := fp) I6.os I6.base I6.hok I6.bare fun b hb =>
          let z := (f3 b hb).1.2
          ⟨z.2.2.1, z.1, z.2.2.2.1, z.2.2.2.2⟩
        have nC : H5 s3.heap.objs.size = none := cL ▸ (show H5 ce.locals = none from I6.free)
        obtain ⟨m, hn, _⟩ := I6.loc
        exact hR D s3.heap.objs.size s6 m H5 I7 qq (cL ▸ (show s6.heap.Ns ce.locals m from hn)) (I3.fpOk (Nat.le_refl _) nC)
      · refine thnF (T.item (X.blk s3 H3 sc ce fp) rfl rfl rfl hc i [] s5 _ H5 (fun _ _ => False) I5 (keepF I5 n5) st5 go) fun r s6 ⟨u, er, h6⟩ => ?_
        subst er
        refine thnF h6 fun _ s7 ⟨x, H7, I7, r7, y7, st7, n7⟩ => ?_
        have P7 := I7.pinned (keepF I7 n7) (T.obj _ _ st7)
        refine thnF (pg.run _ s7 _ H7 x u _ P7 r7 (step x H7 y7)) fun _ s8 ⟨σ8, H8, I8, hw8, q8⟩ => ?_
        refine thnF (pt.run _ s8 σ8 H8 _ I8 q8) fun b s9 ⟨H9, I9, q9⟩ => ?_
        have back : ∀ {σ9 : St} {s' : Shared} {H' : Hp}, Inv (X.blk s3 H3 sc ce fp) ([] ++ pinsAt fp s7.heap) σ9 H' s' → (wipe σ (own.map (·.2))).length = σ9.length →
            (∀ (j : Nat) v, (wipe σ (own.map (·.2)))[j]? = some (some v) → σ9[j]? = some (some v)) → Nx H' → ∃ m, m < n ∧ Hd m s' := fun {σ9 s' H'} I' e1 e2 nx => by
          obtain ⟨m', lt, w'⟩ := hNx H' nx
          have stays : ∀ b ∈ fp, ∀ o, s7.heap.get? b = some o → s'.heap.get? b = some o ∧ H' b = none := fun b hb o e => by
            have z := I'.pin (b, o) (List.mem_append_right _ (List.mem_append_right _ (mem_pinsAt hb e)))
            exact ⟨z.1, z.2.1⟩
          refine ⟨m', lt, i + 1, H', (I'.unpinned (pins := [])).weak e1 e2, T.keep _ _ _ st7 fun b hb o e => (stays b hb o e).1, fun b hb => ?_, w'⟩
          obtain ⟨o, e, _⟩ := T.obj _ _ st7 b hb
          exact (stays b hb o e).2
        have e8 : (wipe σ (own.map (·.2))).length = σ8.length := by rw [← hw8, wipe_length]
        have k8 : ∀ (j : Nat) v, (wipe σ (own.map (·.2)))[j]? = some (some v) → σ8[j]? = some (some v) := fun j v e => (wipe_some (hw8.symm ▸ e)).1
        have k9 : ∀ (j : Nat) v, (wipe σ (own.map (·.2)))[j]? = some (some v) → (wipe σ8 vs1)[j]? = some (some v) := fun j v e => by
          obtain ⟨z1, z2⟩ := wipe_some (hw8.symm ▸ e)
          exact (wipe_out fun z => z2 (hv j z)).trans z1
        rcases b with _ | _
        · exact back I9 e8 k8 q9
        · refine thnF (pi1.run _ s9 σ8 H9 _ I9 q9) fun xv s10 hx => thnF hx fun itv s11 h11 => ?_
          obtain ⟨it1, fp1, tn1, J1, H11, e1, I11, T1, st11, f11, W1, ⟨m1, w1⟩, turn1⟩ := h11
          subst e1
          have keepG : ∀ {H' : Hp}, (∀ b ∈ fp1, H' b = none) → ∀ b ∈ fp1, FpOk (X.blk s3 H3 sc ce fp) ([] ++ pinsAt fp s7.heap) H' b := fun hn b hb => ⟨hn b hb, (f11 b hb).2⟩
          let Hd1 : Nat → Shared → Prop := fun k s' => ∃ j H', Inv (X.blk s3 H3 sc ce fp) ([] ++ pinsAt fp s7.heap) (wipe σ8 vs1) H' s' ∧ tn1 j s'.heap ∧ (∀ b ∈ fp1, H' b = none) ∧ W1 j k H'
          refine d2_start1 ?_ (T1.self X.A 0 _ _ _ st11 ?_)
          all_goals
            refine d2_in Hd1 ?_ m1 ⟨0, H11, I11.weak (wipe_length _ _) (fun j v e => (wipe_some e).1), st11, fun b hb => (f11 b hb).1, w1⟩
            rintro k s12 ⟨j, H12, I12, st12, n12, w12⟩
            rcases turn1 j k H12 w12 with ⟨stop1, nx1⟩ | ⟨go1, Nx1, hNx1, step1⟩
            · refine thnF (T1.done (X.blk s3 H3 sc ce fp) rfl rfl rfl hc j _ s12 (wipe σ8 vs1) H12 (fun _ _ => False) I12 (keepG n12) st12 stop1) fun r s13 ⟨er, I13⟩ => ?_
              subst er
              exact back I13 (e8.trans (wipe_length σ8 vs1).symm) k9 nx1
            · refine thnF (T1.item (X.blk s3 H3 sc ce fp) rfl rfl rfl hc j _ s12 (wipe σ8 vs1) H12 (fun _ _ => False) I12 (keepG n12) st12 go1) fun r s13 ⟨u1, er, h13⟩ => ?_
              subst er
              refine thnF h13 fun _ s14 ⟨x1, H14, I14, r14, y14, st14, n14⟩ => ?_
              have P14 := I14.pinned (keepG n14) (T1.obj _ _ st14)
              refine thnF (pg1.run _ s14 (wipe σ8 vs1) H14 x1 u1 _ P14 r14 (step1 x1 H14 y14)) fun _ s15 ⟨σ15, H15, I15, hw15, q15⟩ => ?_
              refine thnF (pt1.run _ s15 σ15 H15 _ I15 q15) fun b1 s16 ⟨H16, I16, q16⟩ => ?_
              have back1 : ∀ {s' : Shared} {H' : Hp}, Inv (X.blk s3 H3 sc ce fp) (([] ++ pinsAt fp s7.heap) ++ pinsAt fp1 s14.heap) σ15 H' s' → Nx1 H' → ∃ m, m < k ∧ Hd1 m s' := fun {s' H'} I' nx => by
                obtain ⟨m', lt, w'⟩ := hNx1 H' nx
                have stays : ∀ b ∈ fp1, ∀ o, s14.heap.get? b = some o → s'.heap.get? b = some o ∧ H' b = none := fun b hb o e => by
                  have z := I'.pin (b, o) (List.mem_append_right _ (List.mem_append_right _ (mem_pinsAt hb e)))
                  exact ⟨z.1, z.2.1⟩
                refine ⟨m', lt, j + 1, H', I'.unpinned.weak (by rw [← hw15, wipe_length]) (fun j v e => (wipe_some (hw15.symm ▸ e)).1), T1.keep _ _ _ st14 fun b hb o e => (stays b hb o e).1, fun b hb => ?_, w'⟩
                obtain ⟨o, e, _⟩ := T1.obj _ _ st14 b hb
                exact (stays b hb o e).2
              rcases b1 with _ | _
              · exact back1 I16 q16
              · refine thnF (pk.run _ s16 σ15 H16 _ I16 q16) fun y s17 ⟨yk, H17, I17, r17, q17⟩ => ?_
                refine thnF (pe.run _ s17 σ15 H17 _ I17 q17) fun z s18 ⟨yv, H18, I18, r18, a, kvs, kk, ey, ha, hDD, hz, nx⟩ => ?_
                subst ey
                obtain rfl : y = Value.ref a := r17
                exact d2_store (X := X.blk s3 H3 sc ce fp) hu I18 hDD ha hz r18 fun s19 I19 => back1 I19 nx
  subst hcl
  exact goal0
/-- as a value -/
theorem pe_dc2 {ke ve ta ia tb ib : Expr} {fa fb : List Expr} {sc : Scope} {own : List (Str × Nat)} {vs1 : List Nat} {ps : Pos} {wi wi1 : TI} {g g1 : TG} {tt tt1 : TT} {tk tv : TE}
    (hc : X.calm = true) (hu : X.A.units < cLine) (hN : X.N.Nodup) (hi : PI X ta ia wi) (ok : BlkOk X.N X.env.scope sc own) (hv : ∀ i ∈ vs1, i ∈ own.map (·.2))
    (hg : inB X sc fun Y => PG Y ta g) (ht : inB X sc fun Y => PTs Y fa tt) (hi1 : inB X sc fun Y => PI Y tb ib wi1) (hg1 : inB X sc fun Y => PG Y tb g1) (ht1 : inB X sc fun Y => PTs Y fb tt1)
    (hk : inB X sc fun Y => PE Y ke tk) (he : inB X sc fun Y => PE Y ve tv) (hs : ∀ x, foldedSetIterable ia X.env x = pure x := by intro _; rfl) (hs1 : ∀ env x, foldedSetIterable ib env x = pure x := by intro _ _; rfl) :
    PE X (.DictComp ke ve [⟨ta, ia, fa, 0⟩, ⟨tb, ib, fb, 0⟩] sc ps) (tDc2 wi g tt wi1 g1 tt1 tk tv (own.map (·.2)) vs1) := by
  refine ⟨fun pins s σ H Q I h => ?_⟩
  rw [arm_eval_DictComp]
  refine d2_core hc hu hN I hi ok hv hg ht hk he hs hi1 hg1 ht1 hs1 h fun D C s' m H' I' q hn f => ⟨m, hn, fun h'' sb => ?_⟩
  obtain ⟨a0, a1, a2, a3, a4, a5⟩ := f
  exact ⟨.ref D, H', I'.turned (t' := s'.toks) (fun b o hb e => (sb.2 b hb).trans e) a0 a1 a3 a4 a5, rfl, q⟩
end
end L2
end
section
set_option maxRecDepth 100000
set_option maxHeartbeats 4000000
namespace L2
open PySem PySem.Spec PyProof.Rows
/-! ### loops by any step over a range -/
theorem rng_W {lo : Int} {n L : Nat} {H0 : Hp} {Qd : Hp → Prop} {B : V → (Hp → Prop) → Hp → Prop} (hn : n = L) (Pv : Nat → Hp → Prop) (h0 : Pv 0 H0) (hs : ∀ i H, i < L → Pv i H → B (.int (lo + i)) (Pv (i + 1)) H) (hd : ∀ H, Pv L H → Qd H) :
    ∃ W : Nat → Nat → Hp → Prop, (∃ m, W 0 m H0) ∧ ∀ i m H, W i m H → ((Itr lo n).stop i H ∧ Qd H) ∨ ((Itr lo n).go i H ∧ ∃ Nx : Hp → Prop, (∀ H', Nx H' → ∃ m', m' < m ∧ W (i + 1) m' H') ∧ ∀ x H', (Itr lo n).yld i H x H' → B x Nx H') := by
  subst hn
  refine ⟨fun i m H => m = n - i ∧ i ≤ n ∧ Pv i H, ⟨n, by simp, Nat.zero_le _, h0⟩, ?_⟩
  rintro i m H ⟨rfl, hi, p⟩
  by_cases lt : i < n
  · refine .inr ⟨lt, Pv (i + 1), fun H' p' => ⟨n - (i + 1), by omega, rfl, lt, p'⟩, fun x H' y => ?_⟩
    obtain ⟨e1, e2⟩ := y
    subst e1 e2
    exact hs i _ lt p
  · obtain rfl : i = n := by omega
    exact .inl ⟨Nat.le_refl _, hd H p⟩
/-! ### a list of rows of ints -/
def rowV (n : Nat) (f : Nat → Int) : List V := (List.range n).map fun b => V.int (f b)
theorem rowV_len {n : Nat} {f : Nat → Int} : (rowV n f).length = n := by unfold rowV; rw [List.length_map, List.length_range]
theorem rowV_get {n : Nat} {f : Nat → Int} {b : Nat} (h : b < n) : (rowV n f)[b]? = some (.int (f b)) := by
  unfold rowV
  rw [List.getElem?_map, List.getElem?_range h]
  rfl
theorem rowV_congr {n : Nat} {f g : Nat → Int} (h : ∀ b, b < n → f b = g b) : rowV n f = rowV n g := by
  unfold rowV
  refine List.map_congr_left fun b hb => ?_
  rw [h b (List.mem_range.mp hb)]
theorem rowV_set {n : Nat} {f : Nat → Int} {b : Nat} {v : Int} : (rowV n f).set b (.int v) = rowV n fun y => if y = b then v else f y := by
  refine List.ext_getElem? fun i => ?_
  rw [List.getElem?_set, rowV_len]
  by_cases h : i < n
  · rw [rowV_get h, rowV_get h]
    by_cases e : b = i
    · subst e
      rw [if_pos rfl, if_pos h, if_pos rfl]
    · rw [if_neg e, if_neg fun z => e z.symm]
  · rw [List.getElem?_eq_none (by rw [rowV_len]; omega), List.getElem?_eq_none (by rw [rowV_len]; omega)]
    split
    · exact if_neg (by omega)
    · rfl
theorem rowV_rep {n : Nat} {z : Int} : (List.replicate n [V.int z]).flatten = rowV n fun _ => z := by
  induction n with
  | zero => rfl
  | succ n ih =>
    rw [List.replicate_succ', List.flatten_append, ih]
    unfold rowV
    rw [List.range_succ, List.map_append]
    rfl
theorem rowV_ints {n : Nat} {f : Nat → Int} : rowV n f = ((List.range n).map f).map V.int := by unfold rowV; rw [List.map_map]; rfl
theorem ix_nat {n j : Nat} (hj : j < n) : ixN n (j : Int) = some j := by
  unfold ixN
  rw [if_pos (by omega), if_pos (by omega), Int.toNat_natCast]
def RowsAt (H : Hp) (g : Addr) (M : Nat → Nat → Int) (n : Nat) : Prop := ∃ rs : List Addr, H g = some (.lst (rs.map V.ref)) ∧ rs.length = n ∧ ∀ a r, rs[a]? = some r → H r = some (.lst (rowV n (M a)))
/-- the rows stand apart, they may be written -/
def GridAt (H0 H : Hp) (g : Addr) (M : Nat → Nat → Int) (n : Nat) : Prop := ∃ rs : List Addr, H g = some (.lst (rs.map V.ref)) ∧ rs.length = n ∧ rs.Nodup ∧ (g ∉ rs ∧ ∀ r ∈ rs, H0 r = none) ∧ ∀ a r, rs[a]? = some r → H r = some (.lst (rowV n (M a)))
theorem GridAt.rows {H0 H : Hp} {g : Addr} {M : Nat → Nat → Int} {n : Nat} (h : GridAt H0 H g M n) : RowsAt H g M n := by
  obtain ⟨rs, h1, h2, _, _, h5⟩ := h
  exact ⟨rs, h1, h2, h5⟩
theorem RowsAt.same {H H' : Hp} {g : Addr} {M : Nat → Nat → Int} {n : Nat} (e : Same H H') (h : RowsAt H g M n) : RowsAt H' g M n := by
  obtain ⟨rs, h1, h2, h3⟩ := h
  exact ⟨rs, e _ _ h1, h2, fun a r h => e _ _ (h3 a r h)⟩
theorem RowsAt.congr {H : Hp} {g : Addr} {M M' : Nat → Nat → Int} {n : Nat} (e : ∀ a b, a < n → b < n → M a b = M' a b) (h : RowsAt H g M n) : RowsAt H g M' n := by
  obtain ⟨rs, h1, h2, h3⟩ := h
  refine ⟨rs, h1, h2, fun a r ha => ?_⟩
  rw [h3 a r ha]
  have : a < n := by rw [← h2]; exact (List.getElem?_eq_some_iff.mp ha).1
  rw [rowV_congr fun b hb => e a b this hb]
theorem GridAt.congr {H0 H : Hp} {g : Addr} {M M' : Nat → Nat → Int} {n : Nat} (e : ∀ a b, a < n → b < n → M a b = M' a b) (h : GridAt H0 H g M n) : GridAt H0 H g M' n := by
  obtain ⟨rs, h1, h2, h3, h4, h5⟩ := h
  refine ⟨rs, h1, h2, h3, h4, fun a r ha => ?_⟩
  rw [h5 a r ha]
  have : a < n := by rw [← h2]; exact (List.getElem?_eq_some_iff.mp ha).1
  rw [rowV_congr fun b hb => e a b this hb]
/-- one cell looked at -/
theorem RowsAt.get {H : Hp} {g : Addr} {M : Nat → Nat → Int} {n a b : Nat} (h : RowsAt H g M n) (ha : a < n) (hb : b < n) : ∃ (rs : List Addr) (r : Addr), H g = some (.lst (rs.map V.ref)) ∧ (rs.map V.ref)[a]? = some (V.ref r) ∧ H r = some (.lst (rowV n (M a))) ∧ (rowV n (M a))[b]? = some (V.int (M a b)) := by
  obtain ⟨rs, h1, h2, h3⟩ := h
  obtain ⟨r, hr⟩ : ∃ r, rs[a]? = some r := ⟨rs[a], List.getElem?_eq_getElem (by omega)⟩
  exact ⟨rs, r, h1, by rw [List.getElem?_map, hr]; rfl, h3 a r hr, rowV_get hb⟩
/-- one cell written -/
theorem GridAt.put {H0 H : Hp} {g : Addr} {M : Nat → Nat → Int} {n a b : Nat} (v : Int) (h : GridAt H0 H g M n) (ha : a < n) (hb : b < n) : ∃ (rs : List Addr) (r : Addr), H g = some (.lst (rs.map V.ref)) ∧ (rs.map V.ref)[a]? = some (V.ref r) ∧ H r = some (.lst (rowV n (M a))) ∧
    H0 r = none ∧ GridAt H0 (upd H r (.lst ((rowV n (M a)).set b (.int v)))) g (fun x y => if x = a ∧ y = b then v else M x y) n := by
  obtain ⟨rs, h1, h2, h3, h4, h5⟩ := h
  obtain ⟨r, hr⟩ : ∃ r, rs[a]? = some r := ⟨rs[a], List.getElem?_eq_getElem (by omega)⟩
  refine ⟨rs, r, h1, by rw [List.getElem?_map, hr]; rfl, h5 a r hr, h4.2 r (List.mem_of_getElem? hr), rs, ?_, h2, h3, h4, fun x q hq => ?_⟩
  · rw [upd_ne fun z => h4.1 (by rw [z]; exact List.mem_of_getElem? hr)]
    exact h1
  · by_cases e : x = a
    · subst e
      rw [hr] at hq
      cases hq
      rw [upd_same, rowV_set]
      congr 2
      refine rowV_congr fun y _ => ?_
      by_cases e : y = b
      · simp only [e, and_self, if_true]
      · simp only [e, and_false, if_false]
    · have : q ≠ r := fun z => e (by rw [z] at hq; exact nd_ix h3 hq hr)
      rw [upd_ne this, h5 x q hq]
      congr 2
      refine rowV_congr fun y _ => ?_
      simp only [e, false_and, if_false]
end L2
end
section
set_option maxRecDepth 100000
set_option maxHeartbeats 4000000
namespace L2
open PySem PySem.Spec PyProof.Rows
/-! ### tables by couples of whole numbers -/
abbrev key2 (t c : Nat) : List Key := [.inl (t : Int), .inl (c : Int)]
theorem key2_inj {t c t' c' : Nat} (h : key2 t c = key2 t' c') : t = t' ∧ c = c' := by
  simp only [key2, List.cons.injEq, Sum.inl.injEq] at h
  omega
theorem key2_kV {t c : Nat} : (key2 t c).map kV = [.int (t : Int), .int (c : Int)] := rfl
section
variable {κ : Type} [DecidableEq κ]
theorem valV_none : ∀ {ks : List (κ × V)} {k : κ}, (∀ p ∈ ks, p.1 ≠ k) → valV ks k = none
  | [], _, _ => rfl
  | p :: r, k, h => by
    rw [valV_neg (h p List.mem_cons_self)]
    exact valV_none fun q hq => h q (List.mem_cons_of_mem _ hq)
theorem valV_mem : ∀ {ks : List (κ × V)}, ks.Pairwise (fun a b => a.1 ≠ b.1) → ∀ p ∈ ks, valV ks p.1 = some p.2
  | [], _, p, hp => by cases hp
  | a :: r, h, p, hp => by
    rw [List.pairwise_cons] at h
    rcases List.mem_cons.mp hp with rfl | hp
    · exact valV_pos rfl
    · rw [valV_neg (h.1 p hp)]
      exact valV_mem h.2 p hp
end
/-- k cells of row t, from the diagonal on -/
def rowT (M : Nat → Nat → Int) (t k : Nat) : List (List Key × V) := (List.range k).map fun j => (key2 t (t + j), V.int (M t (t + j)))
/-- the first i rows -/
def tabL (M : Nat → Nat → Int) (T i : Nat) : List (List Key × V) := (List.range i).flatMap fun t => rowT M t (T + 1 - t)
theorem tabL_succ {M : Nat → Nat → Int} {T i : Nat} : tabL M T (i + 1) = tabL M T i ++ rowT M i (T + 1 - i) := by
  unfold tabL
  rw [List.range_succ, List.flatMap_append]
  simp
theorem rowT_succ {M : Nat → Nat → Int} {t k : Nat} : rowT M t (k + 1) = rowT M t k ++ [(key2 t (t + k), V.int (M t (t + k)))] := by
  unfold rowT
  rw [List.range_succ, List.map_append]
  rfl
theorem rowT_mem {M : Nat → Nat → Int} {t k : Nat} {p : List Key × V} (h : p ∈ rowT M t k) : ∃ j, j < k ∧ p = (key2 t (t + j), V.int (M t (t + j))) := by
  obtain ⟨j, hj, e⟩ := List.mem_map.mp h
  exact ⟨j, List.mem_range.mp hj, e.symm⟩
theorem tabL_mem {M : Nat → Nat → Int} {T i : Nat} {p : List Key × V} (h : p ∈ tabL M T i) : ∃ t c, t < i ∧ t ≤ c ∧ c ≤ T ∧ p = (key2 t c, V.int (M t c)) := by
  obtain ⟨t, ht, hp⟩ := List.mem_flatMap.mp h
  obtain ⟨j, hj, e⟩ := rowT_mem hp
  exact ⟨t, t + j, List.mem_range.mp ht, by omega, by omega, e⟩
theorem rowT_len {M : Nat → Nat → Int} {t k : Nat} : (rowT M t k).length = k := by unfold rowT; rw [List.length_map, List.length_range]
theorem tabL_len {M : Nat → Nat → Int} {T : Nat} (hT : T ≤ 24) : ∀ i, (tabL M T i).length ≤ i * 25
  | 0 => by unfold tabL; simp
  | i + 1 => by
    have := tabL_len (M := M) hT i
    rw [tabL_succ, List.length_append, rowT_len]
    omega
theorem tabL_put {M : Nat → Nat → Int} {T i j : Nat} {v : V} : putK (tabL M T i ++ rowT M i j) (key2 i (i + j)) v = (tabL M T i ++ rowT M i j) ++ [(key2 i (i + j), v)] := by
  refine putK_new _ (valV_none fun p hp e => ?_)
  rcases List.mem_append.mp hp with hp | hp
  · obtain ⟨t, c, h1, h2, h3, rfl⟩ := tabL_mem hp
    have := key2_inj e
    omega
  · obtain ⟨k, h1, rfl⟩ := rowT_mem hp
    have := key2_inj e
    omega
theorem tabL_pw {M : Nat → Nat → Int} {T : Nat} : ∀ i, (tabL M T i).Pairwise fun a b => a.1 ≠ b.1
  | 0 => List.Pairwise.nil
  | i + 1 => by
    rw [tabL_succ, List.pairwise_append]
    refine ⟨tabL_pw i, ?_, fun p hp q hq e => ?_⟩
    · have : ∀ k, (rowT M i k).Pairwise fun a b => a.1 ≠ b.1 := by
        intro k
        induction k with
        | zero => exact List.Pairwise.nil
        | succ k ih =>
          rw [rowT_succ, List.pairwise_append]
          refine ⟨ih, by simp, fun p hp q hq e => ?_⟩
          obtain ⟨j, hj, rfl⟩ := rowT_mem hp
          rw [List.mem_singleton.mp hq] at e
          have := key2_inj e
          omega
      exact this _
    · obtain ⟨t, c, h1, h2, h3, rfl⟩ := tabL_mem hp
      obtain ⟨j, hj, rfl⟩ := rowT_mem hq
      have := key2_inj e
      omega
/-- the whole table -/
def tabM (M : Nat → Nat → Int) (T : Nat) : List (List Key × V) := tabL M T (T + 1)
theorem tabM_ok {M : Nat → Nat → Int} {T : Nat} : ∀ p ∈ tabM M T, ∃ t c, t ≤ c ∧ c ≤ T ∧ p.1 = key2 t c ∧ valV (tabM M T) p.1 = some (.int (M t c)) := fun p hp => by
  have hv := valV_mem (tabL_pw (M := M) (T := T) (T + 1)) p hp
  obtain ⟨t, c, h1, h2, h3, e⟩ := tabL_mem hp
  refine ⟨t, c, h2, h3, by rw [e], ?_⟩
  show valV (tabL M T (T + 1)) p.1 = _
  rw [hv, e]
theorem tabM_len {M : Nat → Nat → Int} {T : Nat} (hT : T ≤ 24) : (tabM M T).length ≤ 1000 := by
  have := tabL_len (M := M) hT (T + 1)
  unfold tabM
  omega
theorem tabM_congr {M M' : Nat → Nat → Int} {T : Nat} (h : ∀ t c, t ≤ c → c ≤ T → M t c = M' t c) : tabM M T = tabM M' T := by
  unfold tabM
  have : ∀ i, i ≤ T + 1 → tabL M T i = tabL M' T i := by
    intro i
    induction i with
    | zero => intro _; rfl
    | succ i ih =>
      intro hi
      rw [tabL_succ, tabL_succ, ih (by omega)]
      congr 1
      unfold rowT
      refine List.map_congr_left fun j hj => ?_
      rw [h i (i + j) (by omega) (by have := List.mem_range.mp hj; omega)]
  exact this _ (Nat.le_refl _)
end L2
end
section
set_option maxRecDepth 100000
set_option maxHeartbeats 4000000
namespace L2
open PySem PySem.Spec PyProof.Rows
theorem for_enum0 {K : PySem.W.Frag} {a : Addr} {xs : List V} {g : TG} {tb : TS} {D : Ends} {σ : St} {H : Hp} (Pv : Nat → St → Hp → Prop) (h0 : Pv 0 σ H) (hl : ∀ i σ H, i ≤ xs.length → Pv i σ H → SqL K H a xs)
    (hs : ∀ i x σ H T, xs[i]? = some x → Pv i σ H → H T = none → g (.ref T) σ (upd H T (.tup [.int (i : Nat), x])) fun σ2 H2 => tb { D with nx := Pv (i + 1), ct := Pv (i + 1), bk := D.nx } σ2 H2) (hd : ∀ σ H, Pv xs.length σ H → D.nx σ H) :
    ∃ W : Nat → Nat → St → Hp → Prop, (∃ m, W 0 m σ H) ∧ ∀ i m σ H, W i m σ H →
      ((Ite K a).stop i H ∧ D.nx σ H) ∨ ((Ite K a).go i H ∧ ∃ N : St → Hp → Prop, (∀ σ' H', N σ' H' → ∃ m', m' < m ∧ W (i + 1) m' σ' H') ∧ ∀ x H', (Ite K a).yld i H x H' → g x σ H' fun σ2 H2 => tb { D with nx := N, ct := N, bk := D.nx } σ2 H2) := by
  refine ⟨fun i m σ H => m = xs.length - i ∧ i ≤ xs.length ∧ Pv i σ H, ⟨_, rfl, Nat.zero_le _, h0⟩, fun i m σ H w => ?_⟩
  obtain ⟨rfl, hi, p⟩ := w
  have q := hl i σ H hi p
  rcases Nat.lt_or_ge i xs.length with hlt | hge
  · refine .inr ⟨⟨xs, _, q, List.getElem?_eq_getElem hlt⟩, Pv (i + 1), fun σ' H' p' => ⟨xs.length - (i + 1), by omega, rfl, hlt, p'⟩, ?_⟩
    rintro x H' ⟨T, y, rfl, hT, rfl, hy⟩
    exact hs i y σ H T (hy xs q) p hT
  · obtain rfl : i = xs.length := by omega
    exact .inl ⟨⟨xs, q, Nat.le_refl _⟩, hd σ H p⟩
theorem PairT.un {K : PySem.W.Frag} {H : Hp} {x : V} {c : Int × Int} (h : PairT H x c) {σ : L2.St} {i j n : Nat} (hn : n = 2) {Q : L2.St → Hp → Prop} (q : Q ((σ.set i (some (.int c.1))).set j (some (.int c.2))) H) : gTup K n (gCons (gName i) (gCons (gName j) gNil)) x σ H Q := by
  subst hn
  obtain ⟨t, rfl, h⟩ := h
  exact ⟨t, _, rfl, SqT.of h, rfl, _, _, rfl, _, _, rfl, rfl, q⟩
theorem PairT.i0 {K : PySem.W.Frag} {H : Hp} {x : V} {c : Int × Int} (h : PairT H x c) {Q : VK} (q : Q (.int c.1) H) : rIx K x (.int 0) H Q := by
  obtain ⟨t, rfl, h⟩ := h
  exact .inr (.inl ⟨t, _, 0, _, rfl, rfl, SqT.of h, rfl, q⟩)
theorem PairT.i1 {K : PySem.W.Frag} {H : Hp} {x : V} {c : Int × Int} (h : PairT H x c) {Q : VK} (q : Q (.int c.2) H) : rIx K x (.int 1) H Q := by
  obtain ⟨t, rfl, h⟩ := h
  exact .inr (.inl ⟨t, _, 1, _, rfl, rfl, SqT.of h, rfl, q⟩)
theorem flt_take {α : Type} {p : α → Bool} {l : List α} {i : Nat} {c : α} (h : l[i]? = some c) (b : Bool) (hb : p c = b) : ((l.take (i + 1)).filter p).length = ((l.take i).filter p).length + (if b then 1 else 0) := by
  rw [take_get h, List.filter_append, List.length_append, List.filter_cons, hb]
  cases b <;> rfl
theorem none_of {H H' : Hp} {a : Addr} (e : Same H H') (h : H' a = none) : H a = none := by
  cases q : H a with
  | none => rfl
  | some o => rw [e _ _ q] at h; cases h
/-- a rain: first, last, least, most -/
abbrev Q4 := Int × Int × Int × Int
abbrev q4V (r : Q4) : List V := [.int r.1, .int r.2.1, .int r.2.2.1, .int r.2.2.2]
def QuadT (H : Hp) (x : V) (r : Q4) : Prop := ∃ t, x = .ref t ∧ H t = some (.tup (q4V r))
theorem QuadT.same {H H' : Hp} (e : Same H H') {x : V} {r : Q4} (h : QuadT H x r) : QuadT H' x r := by
  obtain ⟨t, rfl, h⟩ := h
  exact ⟨t, rfl, e _ _ h⟩
theorem QuadT.mut {H : Hp} {l : Addr} {xs : List V} {o : HO} (hl : H l = some (.lst xs)) {x : V} {r : Q4} (h : QuadT H x r) : QuadT (upd H l o) x r := by
  obtain ⟨t, rfl, h⟩ := h
  refine ⟨t, rfl, ?_⟩
  rw [upd_ne (fun z => by rw [z, hl] at h; cases h)]
  exact h
theorem QuadT.bx {sa : Addr} {H H' : Hp} (hs : Stk H sa) (e : Bx sa H H') {x : V} {r : Q4} (h : QuadT H x r) : QuadT H' x r := by
  obtain ⟨t, rfl, h⟩ := h
  exact ⟨t, rfl, e.tup (ne_stk hs h fun _ z => by cases z) h⟩
theorem QuadT.ix {K : PySem.W.Frag} {H : Hp} {x : V} {r : Q4} (h : QuadT H x r) {i : Nat} {v : V} (hi : (q4V r)[i]? = some v) {Q : VK} (q : Q v H) : rIx K x (.int (i : Nat)) H Q := by
  obtain ⟨t, rfl, h⟩ := h
  exact .inr (.inl ⟨t, _, _, v, rfl, rfl, SqT.of h, at_of rfl hi, q⟩)
theorem QuadT.un {K : PySem.W.Frag} {H : Hp} {x : V} {r : Q4} (h : QuadT H x r) {σ : L2.St} {i j k l n : Nat} (hn : n = 4) {Q : L2.St → Hp → Prop} (q : Q ((((σ.set i (some (.int r.1))).set j (some (.int r.2.1))).set k (some (.int r.2.2.1))).set l (some (.int r.2.2.2))) H) :
    gTup K n (gCons (gName i) (gCons (gName j) (gCons (gName k) (gCons (gName l) gNil)))) x σ H Q := by
  subst hn
  obtain ⟨t, rfl, h⟩ := h
  exact ⟨t, _, rfl, SqT.of h, rfl, _, _, rfl, _, _, rfl, _, _, rfl, _, _, rfl, rfl, q⟩
theorem gnE {i : Nat} {x : V} {σ : L2.St} {H : Hp} {Q : L2.St → Hp → Prop} (h : Q (σ.set i (some x)) H) : gName i x σ H Q := h
end L2
end
section
set_option maxRecDepth 100000
set_option maxHeartbeats 4000000
namespace L2
open PySem PySem.Spec PyProof.Rows
/-! ### methods and own classes by name -/
structure OkM (P : Program) (w : World) (K : PySem.W.Frag) (mg : Str → Option Value) (base : Heap) (CX : CXT) (k : Nat) (C : Addr) (m : Str) (ps : List Str) (sp : Sp) : Prop where
  ex : ∃ f fd, FnOk P w K mg base CX k f fd ps sp ∧ Meth K C m f ∧ Binds K fd ps []
structure OkK (P : Program) (w : World) (K : PySem.W.Frag) (mg : Str → Option Value) (base : Heap) (CX : CXT) (k : Nat) (x : Str) (C : Addr) (ps : List Str) (sp : Sp) : Prop where
  ex : ∃ f fd, FnOk P w K mg base CX k f fd ps sp ∧ Mk K C f ∧ mg x = some (.ref C) ∧ Binds K fd ps []
section
variable {X : Cx} {CX : CXT} {k : Nat} {C : Addr} {x m : Str} {ps : List Str} {sp : Sp} {E : XK} {p pos apos : Pos} {o e : Expr} {es : List Expr} {ta : TE} {t : TA}
theorem pe_okM {pl : Sem Bool} (O : OkM X.prog X.w X.K X.mg X.base CX k C m ps sp) (c : Cls X.K C) (he : PE X o ta) (hr : Room k X.A) (hx : Passes CX X E) (ha : PA X (e :: es) t)
    (hst : starEach (e :: es) X.env = (false, eval e X.env) :: starEach es X.env := by rfl) (hpl : (backTo pos (starEach es X.env)).any (·.1) = false := by rfl)
    (ht : eval (.Call (.Attribute o m apos) (e :: es) [] pos) X.env = (do
      let ov ← eval o X.env
      standAt apos.atName
      let (f, first) ← holding [ov] (getMethod ov m pl)
      callWith pos f first (backTo pos (starEach (e :: es) X.env)) (backToKw pos (keywordEach [] X.env))) := by rfl) : PE X (.Call (.Attribute o m apos) (e :: es) [] pos) (tMeth C m sp [] E ta t) := by
  obtain ⟨f, fd, F, M, B⟩ := O.ex
  exact pe_meth (pl := pl) he c M F hr B .nil hx ha hst hpl ht
theorem pe_okM0 {pl : Sem Bool} (O : OkM X.prog X.w X.K X.mg X.base CX k C m ps sp) (c : Cls X.K C) (he : PE X o ta) (hr : Room k X.A) (hx : Passes CX X E)
    (ht : eval (.Call (.Attribute o m apos) [] [] pos) X.env = (do
      let ov ← eval o X.env
      standAt apos.atName
      let (f, first) ← holding [ov] (getMethod ov m pl)
      callWith pos f first (backTo pos (starEach [] X.env)) (backToKw pos (keywordEach [] X.env))) := by rfl) : PE X (.Call (.Attribute o m apos) [] [] pos) (tMeth C m sp [] E ta tNil) := by
  obtain ⟨f, fd, F, M, B⟩ := O.ex
  exact pe_meth0 (pl := pl) he c M F hr B .nil hx ht
theorem pe_okK (O : OkK X.prog X.w X.K X.mg X.base CX k x C ps sp) (hr : Room (k + 1) X.A) (hg : Gl X x) (hx : Passes CX X E) (ha : PA X (e :: es) t) (hdb : (x == ("__debug__" : Str)) = false := by decide)
    (he : starEach (e :: es) X.env = (false, eval e X.env) :: starEach es X.env := by rfl) (hpl : (backTo pos (starEach es X.env)).any (·.1) = false := by rfl) : PE X (.Call (.Name x p) (e :: es) [] pos) (tMake C sp [] E t) := by
  obtain ⟨f, fd, F, M, hm, B⟩ := O.ex
  exact pe_make M F hr hg hm B .nil hx ha hdb he hpl
end
section
variable {P : Program} {w : World} {K : PySem.W.Frag} {mg : Str → Option Value} {base : Heap} {k : Nat} {C f : Addr} {m q x : Str} {ps N : List Str} {sp : Sp} {st : Stmt}
theorem OkM.def0 (e : ∃ fd, FnM K m q st f fd) (M : Meth K C m f)
    (hb : ∀ (kV doc pm : Value) (an : Option Addr) (cdv ct : Value) (us : List Value), us.length = ps.length → bindArgs (PySem.W.fnOf m q (defArgs st) (defBody st) (defScope st) .none kV doc pm an cdv ct) ⟨us, []⟩ = pure (ps.zip us))
    (S : FnScope N ps (defScope st)) (len : ∀ vs H Q E, sp vs H Q E → vs.length = ps.length)
    (hbody : ∀ (cdv : Value) (A : Around) (outer : List Env) (s : Shared) (H : Hp) (vs : List V) (Q : VK) (E : XK), Room k (A.deeper (envOfC q (defScope st) s.heap.objs.size f cdv)) → sp vs H Q E →
      ∃ t, PSs (cxOf CX0 P w K mg base N q (defScope st) f cdv A outer s H E).nox (defBody st) t ∧ t { nx := fun _ H' => Q .non H', rt := Q } (start N vs) H) : OkM P w K mg base CX0 (k + 1) C m ps sp := by
  obtain ⟨fd, F⟩ := e
  refine ⟨f, fd, F.ok S len fun cdv A outer s H vs Q E hr h => ?_, M, F.bindsN hb⟩
  obtain ⟨t, h1, h2⟩ := hbody cdv A outer s H vs Q E hr h
  exact ⟨t, h1.nox, h2⟩
theorem OkM.defX (e : ∃ fd, FnM K m q st f fd) (M : Meth K C m f)
    (hb : ∀ (kV doc pm : Value) (an : Option Addr) (cdv ct : Value) (us : List Value), us.length = ps.length → bindArgs (PySem.W.fnOf m q (defArgs st) (defBody st) (defScope st) .none kV doc pm an cdv ct) ⟨us, []⟩ = pure (ps.zip us))
    (S : FnScope N ps (defScope st)) (len : ∀ vs H Q E, sp vs H Q E → vs.length = ps.length)
    (hbody : ∀ (cdv : Value) (A : Around) (outer : List Env) (s : Shared) (H : Hp) (vs : List V) (Q : VK) (E : XK), Room k (A.deeper (envOfC q (defScope st) s.heap.objs.size f cdv)) → sp vs H Q E →
      Takes (cxOf (L2.CX P w) P w K mg base N q (defScope st) f cdv A outer s H E) (fun cls d _ H => E cls d H) →
      ∃ t, PSs (cxOf (L2.CX P w) P w K mg base N q (defScope st) f cdv A outer s H E) (defBody st) t ∧ t { nx := fun _ H' => Q .non H', rt := Q } (start N vs) H) : OkM P w K mg base (L2.CX P w) (k + 1) C m ps sp := by
  obtain ⟨fd, F⟩ := e
  exact ⟨f, fd, F.ok S len fun cdv A outer s H vs Q E hr h => hbody cdv A outer s H vs Q E hr h (takes_of rfl rfl rfl rfl), M, F.bindsN hb⟩
theorem OkK.defX (e : ∃ fd, FnM K m q st f fd) (M : Mk K C f) (g : mg x = some (.ref C))
    (hb : ∀ (kV doc pm : Value) (an : Option Addr) (cdv ct : Value) (us : List Value), us.length = ps.length → bindArgs (PySem.W.fnOf m q (defArgs st) (defBody st) (defScope st) .none kV doc pm an cdv ct) ⟨us, []⟩ = pure (ps.zip us))
    (S : FnScope N ps (defScope st)) (len : ∀ vs H Q E, sp vs H Q E → vs.length = ps.length)
    (hbody : ∀ (cdv : Value) (A : Around) (outer : List Env) (s : Shared) (H : Hp) (vs : List V) (Q : VK) (E : XK), Room k (A.deeper (envOfC q (defScope st) s.heap.objs.size f cdv)) → sp vs H Q E →
      Takes (cxOf (L2.CX P w) P w K mg base N q (defScope st) f cdv A outer s H E) (fun cls d _ H => E cls d H) →
      ∃ t, PSs (cxOf (L2.CX P w) P w K mg base N q (defScope st) f cdv A outer s H E) (defBody st) t ∧ t { nx := fun _ H' => Q .non H', rt := Q } (start N vs) H) : OkK P w K mg base (L2.CX P w) (k + 1) x C ps sp := by
  obtain ⟨fd, F⟩ := e
  exact ⟨f, fd, F.ok S len fun cdv A outer s H vs Q E hr h => hbody cdv A outer s H vs Q E hr h (takes_of rfl rfl rfl rfl), M, g, F.bindsN hb⟩
end
end L2
end
section
set_option maxRecDepth 100000
set_option maxHeartbeats 4000000
namespace L2
open PySem PySem.Spec PyProof.Rows
/-! ### the handled exception asked for one of several classes -/
section
variable {X : Cx} {p : Addr × Obj} {d : Option Addr} {D : Addr}
def rIsDT (K : PySem.W.Frag) (D a d : Addr) : List V → Hp → VK → Prop := fun xs H Q => ∃ (tp : Addr) (cs : List V) (us : List Value) (b : Bool) (fs : List (Str × V)), xs = [.ref a, .ref tp] ∧ H tp = some (.tup cs) ∧ Paired ClsV cs us ∧ H d = some (.xd fs) ∧ PySem.W.kitAny K (.ref D) us = some b ∧ Q (.bl b) H
theorem call_isDT {d : Addr} (hp : p ∈ X.pn) (T : ExcC X.K D) (hz : Zc (.ref D) (some d) p.2) (hf : ∃ vs, p.2.data = .fields vs) : CallR X (.builtin "isinstance") (rIsDT X.K D p.1 d) := by
  intro pins s σ H xs us Q I r h
  obtain ⟨tp, cs, ws, b, fs, rfl, hT, k, hd, hk, q⟩ := h
  obtain ⟨u1, u2, rfl, r1, r2⟩ := vals2 r
  obtain rfl : u1 = Value.ref p.1 := r1
  obtain rfl : u2 = Value.ref tp := r2
  obtain ⟨mA, hns, _⟩ := (show ObjOk X.prog X.w H s.heap d (.xd fs) from I.hok d _ hd)
  obtain ⟨od, hod, _⟩ := lookIn_ns hns
  obtain ⟨vs, hdat⟩ := hf
  have at_ : PySem.W.InstAt s.heap p.1 p.2 D (some od) := ⟨(I.pin p (List.mem_append_left _ hp)).1, hz.1, by unfold PySem.W.notCls; rw [hdat] <;> rfl, by rw [hz.2]; exact hod⟩
  obtain ⟨cd, hc, _⟩ := PySem.W.any_some T.hd
  obtain ⟨_, its, rv, o, h1, h2, n, h3⟩ := (show ObjOk X.prog X.w H s.heap tp (.tup cs) from I.hok tp _ hT)
  have e3 := ClsV.all k rv
  subst e3
  obtain ⟨oc, odd, dt, sl⟩ := o
  simp only at h2 h3
  subst h2 h3
  exact PySem.W.kia_tup (PySem.W.kitx_exc (gt := none) (by rw [hc]; rfl) T.hg T.hk T.hs T.ha T.hn T.ht T.hm) I.kIn at_ h1 hk (fun z => nomatch z) fun tk => ⟨.bl b, H, I.tok tk, rfl, q⟩
end
end L2
end
section
set_option maxRecDepth 100000
set_option maxHeartbeats 4000000
namespace L2
open PySem PySem.Spec PyProof.Rows
/-! ### sorted(xs), xs a list of any number of tuples of d ints in [0, B) -/
section
variable {prog : Program} {w : World} {A : Around} {s : Shared}
theorem swoR (r : Value → Int) : SrtO.Swo fun v u => decide (r v < r u) :=
  ⟨fun x y h => decide_eq_false (by have := of_decide_eq_true h; omega), fun x y z h1 h2 => decide_eq_false (by
    have a := of_decide_eq_false h1
    have b := of_decide_eq_false h2
    omega)⟩
/-- two tuples compare as their codes do -/
theorem cmpU {d : Nat} {B : Int} {vs : List Value} (hx : TS.TupsOk s.heap d B vs) (r : Value → Int) (hr : ∀ v ∈ vs, ∀ ns, TS.TupInts s.heap v ns → r v = TS.code B ns) :
    SrtO.Cmp prog w A s (tuples' true) (fun p => p.1 ∈ vs) (SrtO.lt2 fun v u => decide (r v < r u)) := by
  intro p q hp hq
  obtain ⟨ns, T1, n1, b1⟩ := hx _ hp
  obtain ⟨ms, T2, n2, b2⟩ := hx _ hq
  have e : (decide (TS.code B ns < TS.code B ms)) = SrtO.lt2 (fun v u => decide (r v < r u)) p q := by
    show _ = decide (r p.1 < r q.1)
    rw [hr _ hp _ T1, hr _ hq _ T2]
  obtain ⟨a1, l1, e1, ⟨o1, g1, c1, k1, h1⟩, i1⟩ := T1
  obtain ⟨a2, l2, e2, ⟨o2, g2, c2, k2, h2⟩, i2⟩ := T2
  have z1 := i1.length
  have z2 := i2.length
  rw [Array.length_toList] at z1 z2
  rw [e1, e2]
  refine PySem.W.kat_lt g1 h1 g2 h2 ?_
  have z : decide (l1.size < l2.size) = false := decide_eq_false (by omega)
  rw [z]
  exact TS.lex_ints 0 i1 i2 (n1.trans n2.symm) b1 b2 ⟨rfl, e⟩
theorem sortableU {d : Nat} {B : Int} {a : Addr} {vs : List Value} (hd : 1 ≤ d) (h0 : 0 < vs.length) (hx : TS.TupsOk s.heap d B vs) (ha : ∀ o, s.heap.get? a = some o → o.cls ≠ .type "tuple")
    (r : Value → Int) (hr : ∀ v ∈ vs, ∀ ns, TS.TupInts s.heap v ns → r v = TS.code B ns) : SrtO.SortableO prog w A s a vs fun v u => decide (r v < r u) := by
  intro h' keep
  have kp : ∀ b o, s.heap.get? b = some o → o.cls = .type "tuple" → h'.get? b = some o := fun b o g c => keep b o (fun z => ha o (z ▸ g) c) g
  have hx' := hx.keeps kp
  refine ⟨tuples' true, fun Q E hq => ?_, cmpU (s := { s with heap := h' }) hx' r fun v hv ns T => ?_⟩
  · obtain ⟨fs, k, hl, hi⟩ := TS.firsts_of hd vs hx'
    refine PySem.W.kat_kind (T := Value.type "int") k (by omega) (fun f hf => ?_) rfl hq
    obtain ⟨n, t, rfl⟩ := hi f hf
    exact PySem.W.Looks.of_pure rfl
  · obtain ⟨ms, T2, _⟩ := hx v hv
    rw [T.ints.symm.trans (T2.keeps kp).ints]
    exact hr v hv ms T2
end
section
variable {X : Cx} {pins : List (Addr × Obj)} {σ : St} {H : Hp} {s : Shared}
def rSortV (K : PySem.W.Frag) (d : Nat) (B : Int) : List V → Hp → VK → Prop := fun vs H Q => ∃ (a : Addr) (xs : List V), vs = [V.ref a] ∧ SqL K H a xs ∧ (∀ x ∈ xs, ∃ ns, TupI K H x ns ∧ ns.length = d ∧ TS.Bd B ns) ∧
  ∀ (ys : List V) (p : Addr), ys.Perm xs → ys.Pairwise (fun x y => ∀ n m, TupI K H x n → TupI K H y m → TS.code B n ≤ TS.code B m) → H p = none → Q (.ref p) (upd H p (.lst ys))
theorem cr_sortV {d : Nat} {B : Int} (hd : 1 ≤ d) : CallR X (.builtin "sorted") (rSortV X.K d B) := by
  intro pins s σ H vs us Q I r h
  obtain ⟨a, xs, rfl, hs, hx, q⟩ := h
  obtain ⟨its, rv, hl, hz⟩ := I.list hs
  rw [Vals.ref1 r]
  have hlz : its.length ≤ sizeLine := by rw [← rv.length]; exact hz
  obtain ⟨e1, e2⟩ := bkV_refs rv fun x m => by
    obtain ⟨ns, ⟨t, e, _⟩, _⟩ := hx x m
    exact ⟨t, e⟩
  have ok : TS.TupsOk s.heap d B its := fun v hv => by
    obtain ⟨t, rfl⟩ := e2 v hv
    obtain ⟨ns, ⟨t', e, ht⟩, hn, hb⟩ := hx (.ref t) (by rw [e1]; exact List.mem_map.mpr ⟨_, hv, rfl⟩)
    cases e
    exact ⟨ns, tupI_raw I ht, hn, hb⟩
  refine SrtO.sorted_ord (swoR fun v => TS.code B (TS.intsOf s.heap v)) hl.isList hlz (fun h2 h₁ b hb kk => ?_) fun out h1 h2 => ?_
  · refine sortableU (s := { s with heap := h₁ }) hd (by omega) (ok.keeps fun b o g _ => (kk b o g).2) (fun o g => ?_) _ fun v hv ns T => ?_
    · have z : some o = some (seqObj "list" its.toArray 0) := g.symm.trans hb
      cases z
      intro c
      exact absurd (Value.type.inj c) (by decide)
    · obtain ⟨ms, T2, _⟩ := ok v hv
      have z : ns = ms := T.ints.symm.trans (T2.keeps fun b o g _ => (kk b o g).2).ints
      rw [z]
      show TS.code B (TS.intsOf s.heap v) = _
      rw [T2.ints]
  · obtain ⟨ep, he⟩ := PyProof.Rows.sortedAll_at s.heap its out.toArray
    have pm := h2.perm
    have rf : ∀ u ∈ out, ∃ a, u = Value.ref a := fun u hu => e2 u (pm.mem_iff.mp hu)
    have hp : (out.map bkV).Perm xs := by
      rw [e1]
      exact pm.map bkV
    refine ⟨.ref _, upd H (s.heap.objs.size + 1) (.lst (out.map bkV)), I.laid (t' := s.toks) (fun _ _ => PyProof.Rows.sortedAll_old) (Nat.le_succ _) ⟨by rw [hp.length_eq]; exact hz, out, ep, bkV_vals rf, by simpa using he⟩, rfl, q _ _ hp ?_ (I.hok.fresh (Nat.le_succ _))⟩
    rw [List.pairwise_map]
    refine List.Pairwise.imp (fun {u v} huv n m hn hm => ?_) h1
    have z := of_decide_eq_false huv
    obtain ⟨t, et, ht⟩ := hn
    obtain ⟨t', et', ht'⟩ := hm
    have i1 : TS.intsOf s.heap u = n := by
      rw [bkV_ref et]
      exact (tupI_raw I ht).ints
    have i2 : TS.intsOf s.heap v = m := by
      rw [bkV_ref et']
      exact (tupI_raw I ht').ints
    rw [← i1, ← i2]
    omega
end
end L2
namespace L2
open PySem PySem.Spec PyProof.Rows
theorem sortedIK {X : Cx} {K : PySem.W.Frag} (h : X.K = K) : CallR X (.builtin "sorted") (rSortedI K) := h ▸ cr_sortedI
theorem sorted3K {X : Cx} {K : PySem.W.Frag} (h : X.K = K) : CallR X (.builtin "sorted") (rSortV K 3 2000) := h ▸ cr_sortV (by decide)
end L2
namespace L2
theorem du {n m : Nat} (h : n + 64 < m) : n + 1 < m := by omega
end L2
end
section
set_option maxRecDepth 100000
set_option maxHeartbeats 4000000
namespace L2
open PySem PySem.Spec PyProof.Rows
/-! ### what an expression comes to, at every heap behind this one -/
def Ev (σ : St) (H0 : Hp) (t : TE) (v : V) : Prop := ∀ (H' : Hp) (R : VK), Same H0 H' → (∀ H2, Same H' H2 → R v H2) → t σ H' R
def EvT (σ : St) (H0 : Hp) (t : TT) (b : Bool) : Prop := ∀ (H' : Hp) (R : Bool → Hp → Prop), Same H0 H' → (∀ H2, Same H' H2 → R b H2) → t σ H' R
variable {σ : St} {H0 : Hp}
theorem Ev.mono {H1 : Hp} {t : TE} {v : V} (h : Ev σ H0 t v) (e : Same H0 H1) : Ev σ H1 t v := fun H' R s k => h H' R (e.trans s) k
theorem Ev.var {i : Nat} {v : V} (h : σ[i]? = some (some v)) : Ev σ H0 (tVar i) v := fun H' R _ k => ⟨v, h, k H' (Same.refl _)⟩
theorem Ev.c {v : V} : Ev σ H0 (tC v) v := fun H' R _ k => k H' (Same.refl _)
theorem Ev.i2 {f : Int → Int → V} {t1 t2 : TE} {x y : Int} (h1 : Ev σ H0 t1 (.int x)) (h2 : Ev σ H0 t2 (.int y)) : Ev σ H0 (tOp (rI0 f) t1 t2) (f x y) := fun H' R s k =>
  h1 H' _ s fun H1 s1 => h2 H1 _ (s.trans s1) fun H2 s2 => ⟨x, y, rfl, rfl, k H2 (s1.trans s2)⟩
theorem Ev.eq {t1 t2 : TE} {x y : Int} (h1 : Ev σ H0 t1 (.int x)) (h2 : Ev σ H0 t2 (.int y)) : Ev σ H0 (tOp rEq t1 t2) (.bl (decide (x = y))) := fun H' R s k =>
  h1 H' _ s fun H1 s1 => h2 H1 _ (s.trans s1) fun H2 s2 => ⟨rfl, by
    have : decide (V.int x = V.int y) = decide (x = y) := by
      rw [decide_eq_decide]
      exact ⟨fun z => V.int.inj z, fun z => by rw [z]⟩
    rw [this]
    exact k H2 (s1.trans s2)⟩
theorem Ev.ne {t1 t2 : TE} {x y : Int} (h1 : Ev σ H0 t1 (.int x)) (h2 : Ev σ H0 t2 (.int y)) : Ev σ H0 (tOp rNe t1 t2) (.bl (!decide (x = y))) := fun H' R s k =>
  h1 H' _ s fun H1 s1 => h2 H1 _ (s.trans s1) fun H2 s2 => ⟨rfl, by
    have : decide (V.int x = V.int y) = decide (x = y) := by
      rw [decide_eq_decide]
      exact ⟨fun z => V.int.inj z, fun z => by rw [z]⟩
    rw [this]
    exact k H2 (s1.trans s2)⟩
theorem tabM_val {M : Nat → Nat → Int} {T a b : Nat} (h1 : a ≤ b) (h2 : b ≤ T) : valV (tabM M T) (key2 a b) = some (.int (M a b)) := by
  refine valV_mem (tabL_pw (M := M) (T := T) (T + 1)) (key2 a b, V.int (M a b)) ?_
  unfold tabL
  refine List.mem_flatMap.mpr ⟨a, List.mem_range.mpr (by omega), ?_⟩
  unfold rowT
  exact List.mem_map.mpr ⟨b - a, List.mem_range.mpr (by omega), by rw [show a + (b - a) = b by omega]⟩
theorem Ev.dget {t1 t2 : TE} {M : Nat → Nat → Int} {T a b i : Nat} {x y : Int} {tb : Addr} (hd : H0 tb = some (.dT (tabM M T))) (hs : σ[i]? = some (some (.ref tb))) (h1 : Ev σ H0 t1 (.int x)) (h2 : Ev σ H0 t2 (.int y)) (hx : x = (a : Int)) (hy : y = (b : Int)) (hab : a ≤ b) (hb : b ≤ T) : Ev σ H0 (tDGet (tVar i) (tTup (tCons t1 (tCons t2 tNil)))) (.int (M a b)) := fun H' R s k => by
  subst hx hy
  refine ⟨_, hs, h1 H' _ s fun H1 s1 => h2 H1 _ (s.trans s1) fun H2 s2 => ⟨(by show 2 ≤ sizeLine; decide), fun p hp => ?_⟩⟩
  obtain ⟨s3, g3⟩ := new2 (.tup [.int (a : Int), .int (b : Int)]) hp
  have g3' : upd H2 p (.tup [.int (a : Int), .int (b : Int)]) p = some (.tup ((key2 a b).map kV)) := by rw [g3]; rfl
  have e := DGet.t (k := key2 a b) (s3 _ _ (s2 _ _ (s1 _ _ (s _ _ hd)))) g3'
  rw [tabM_val hab hb] at e
  exact ⟨tb, _, rfl, e, k _ (s1.trans (s2.trans s3))⟩
theorem EvT.test {t : TE} {b : Bool} (h : Ev σ H0 t (.bl b)) : EvT σ H0 (tTest t) b := fun H' R s k => h H' _ s fun H1 s1 => ⟨b, rfl, k H1 s1⟩
theorem EvT.or {p q : TT} {b1 b2 : Bool} (hp : EvT σ H0 p b1) (hq : b1 = false → EvT σ H0 q b2) : EvT σ H0 (tOr p q) (b1 || b2) := fun H' R s k =>
  hp H' _ s fun H1 s1 => by
    cases b1 with
    | true => exact k H1 s1
    | false => exact hq rfl H1 _ (s.trans s1) fun H2 s2 => k H2 (s1.trans s2)
theorem EvT.and {p q : TT} {b1 b2 : Bool} (hp : EvT σ H0 p b1) (hq : b1 = true → EvT σ H0 q b2) : EvT σ H0 (tAnd p q) (b1 && b2) := fun H' R s k =>
  hp H' _ s fun H1 s1 => by
    cases b1 with
    | false => exact k H1 s1
    | true => exact hq rfl H1 _ (s.trans s1) fun H2 s2 => k H2 (s1.trans s2)
theorem Ev.or {p q : TE} {b1 b2 : Bool} (hp : Ev σ H0 p (.bl b1)) (hq : b1 = false → Ev σ H0 q (.bl b2)) : Ev σ H0 (tOrV p q) (.bl (b1 || b2)) := fun H' R s k =>
  hp H' _ s fun H1 s1 => ⟨b1, rfl, by
    cases b1 with
    | true => exact k H1 s1
    | false => exact hq rfl H1 _ (s.trans s1) fun H2 s2 => k H2 (s1.trans s2)⟩
theorem Ev.run {t : TE} {v : V} {R : VK} (h : Ev σ H0 t v) (k : ∀ H2, Same H0 H2 → R v H2) : t σ H0 R := h H0 R (Same.refl _) k
theorem EvT.run {t : TT} {b : Bool} {R : Bool → Hp → Prop} (h : EvT σ H0 t b) (k : ∀ H2, Same H0 H2 → R b H2) : t σ H0 R := h H0 R (Same.refl _) k
theorem EvT.ifs {c : TT} {t u : TS} {D : Ends} {b : Bool} (h : EvT σ H0 c b) (k : ∀ H2, Same H0 H2 → if b = true then t D σ H2 else u D σ H2) : tIfS c t u D σ H0 := h H0 _ (Same.refl _) k
theorem Ev.asg {t : TE} {i : Nat} {D : Ends} {v : V} (h : Ev σ H0 t v) (k : ∀ H2, Same H0 H2 → D.nx (σ.set i (some v)) H2) : tAsg t (gName i) D σ H0 := h H0 _ (Same.refl _) k
theorem Ev.seq {t : TE} {i : Nat} {u : TS} {D : Ends} {v : V} (h : Ev σ H0 t v) (k : ∀ H2, Same H0 H2 → u D (σ.set i (some v)) H2) : tSeq (tAsg t (gName i)) u D σ H0 := h H0 _ (Same.refl _) k
theorem EvT.b {t : TE} {b : Bool} (h : Ev σ H0 t (.bl b)) : EvT σ H0 (tB t) b := fun H' R s k => h H' _ s fun H1 s1 => ⟨b, rfl, k H1 s1⟩
section
variable {K : PySem.W.Frag} {a D : Addr} {xs : List V} {g : TG} {tt : TT} {te : TE} {vs : List Nat} {σ : St} {H1 : Hp} {Q : Hp → Prop}
theorem lc_accT (hD : H1 D = none) (hS : SqT K H1 a xs) (hz : xs.length < 100000) (Acc : Nat → List V → Hp → Prop) (h0 : ∀ H', Same H1 H' → Acc 0 [] H')
    (hs : ∀ i x acc H' (N : V → Hp → Prop) (N0 : Hp → Prop), xs[i]? = some x → Same H1 H' → H' D = some (.lst acc) → Acc i acc H' →
      (∀ y H4, Same H' H4 → (∀ H5, But D H4 H5 → H5 D = some (.lst (acc ++ [y])) → Acc (i + 1) (acc ++ [y]) H5) → N y H4) → (∀ H3, Same H' H3 → Acc (i + 1) acc H3 → N0 H3) →
      g x (wipe σ vs) H' fun σ2 H2 => wipe σ2 vs = wipe σ vs ∧ tt σ2 H2 fun b H3 => if b = true then te σ2 H3 N else N0 H3)
    (hd : ∀ acc H', Same H1 H' → H' D = some (.lst acc) → acc.length ≤ xs.length → Acc xs.length acc H' → Q H') :
    ∃ W : Nat → Nat → Hp → Prop, (∃ m, W 0 m (upd H1 D (.lst []))) ∧ ∀ i m H, W i m H →
      ((Itt K a).stop i H ∧ Q H) ∨ ((Itt K a).go i H ∧ ∃ Nx : Hp → Prop, (∀ H', Nx H' → ∃ m', m' < m ∧ W (i + 1) m' H') ∧ ∀ x H', (Itt K a).yld i H x H' → g x (wipe σ vs) H' fun σ2 H2 => wipe σ2 vs = wipe σ vs ∧ tt σ2 H2 fun b H3 =>
        if b = true then te σ2 H3 fun y H4 => ∃ acc, H4 D = some (.lst acc) ∧ acc.length < sizeLine ∧ Nx (upd H4 D (.lst (acc ++ [y]))) else Nx H3) := by
  refine lc_tup (K := K) (a := a) (xs := xs) (fun i H' => Same H1 H' ∧ ∃ acc, H' D = some (.lst acc) ∧ acc.length ≤ i ∧ Acc i acc H') ⟨same_new hD, [], upd_same, Nat.le_refl _, h0 _ (same_new hD)⟩ (fun i H' _ h => h.1.tup hS) ?_ ?_
  · rintro i x H' hx ⟨e, acc, hacc, hl, ha⟩
    have hi : i < xs.length := (List.getElem?_eq_some_iff.mp hx).1
    refine hs i x acc H' _ _ hx e hacc ha (fun y H4 s4 a4 => ?_) (fun H3 s3 a3 => ?_)
    · exact ⟨acc, s4 _ _ hacc, line_lt (by omega), same_mut (e.trans s4) hD, acc ++ [y], upd_same, by rw [List.length_append]; exact Nat.succ_le_succ hl, a4 _ (fun b o hb n => by rw [upd_ne n]; exact hb) upd_same⟩
    · exact ⟨e.trans s3, acc, s3 _ _ hacc, Nat.le_succ_of_le hl, a3⟩
  · rintro H' ⟨e, acc, hacc, hl, ha⟩
    exact hd acc H' e hacc hl ha
end
end L2
end
section
set_option maxRecDepth 100000
set_option maxHeartbeats 4000000
namespace L2
open PySem PySem.Spec PyProof.Rows
/-! ### an own exception of two fields raised -/
def spInit2 (C : Addr) (f g : Str) : Sp := fun vs H Q _ => ∃ (a : Addr) (v u : V), vs = [.ref a, v, u] ∧ H a = some (exo a C none) ∧
  ∀ dx, H dx = none → dx ≠ a → Q .non (upd (upd (upd H dx (exd dx [(f, v)])) a (exo a C (some dx))) dx (exd dx [(g, u), (f, v)]))
theorem mko2 {C : Addr} {f g : Str} {v u : V} {H : Hp} {Q : XK} (h : ∀ d, H d = none → Q (.ref C) (some d) (upd H d (.xd [(g, u), (f, v)]))) : ([v, u] : List V).length ≤ 1000 ∧ ∀ a, H a = none → spInit2 C f g (.ref a :: ([v, u] ++ [])) (upd H a (exo a C none))
    (fun x H2 => x = .non ∧ ∃ (d : Addr) (fs : List (Str × V)), H2 a = some (exo a C (some d)) ∧ H2 d = some (exd d fs) ∧ H d = none ∧ Q (.ref C) (some d) (upd (del H2 a) d (.xd fs))) (fun _ _ _ => False) := by
  refine ⟨by show 2 ≤ 1000; decide, fun a ha => ⟨a, v, u, rfl, upd_same, fun dx hd hne => ⟨rfl, dx, [(g, u), (f, v)], by rw [upd_ne hne.symm, upd_same], upd_same, ?_, ?_⟩⟩⟩
  · rw [upd_ne hne] at hd
    exact hd
  · have hd' : H dx = none := by rw [upd_ne hne] at hd; exact hd
    have e : upd (del (upd (upd (upd (upd H a (exo a C none)) dx (exd dx [(f, v)])) a (exo a C (some dx))) dx (exd dx [(g, u), (f, v)])) a) dx (.xd [(g, u), (f, v)]) = upd H dx (.xd [(g, u), (f, v)]) := by
      funext b
      by_cases hb : b = dx
      · rw [hb, upd_same, upd_same]
      · rw [upd_ne hb, upd_ne hb]
        by_cases hba : b = a
        · rw [hba, del_same, ha]
        · rw [del_ne hba, upd_ne hb, upd_ne hba, upd_ne hb, upd_ne hba]
    rw [e]
    exact h dx hd'
/-- E is told of an error of the class at C whose two fields are so -/
def Rz2 (E : XK) (H : Hp) (C : Addr) (f g : Str) (v u : V) : Prop := ∀ d H', Same H H' → H' d = some (.xd [(g, u), (f, v)]) → E (.ref C) (some d) H'
theorem Rz2.at {E : XK} {H H1 : Hp} {C : Addr} {f g : Str} {v u : V} (r : Rz2 E H C f g v u) (e : Same H H1) : ∀ d, H1 d = none → E (.ref C) (some d) (upd H1 d (.xd [(g, u), (f, v)])) := fun d hd => r d _ (e.trans (same_new hd)) upd_same
/-! ### comparisons of ints, by what they come to -/
section
variable {σ : St} {H0 : Hp} {t1 t2 : TE} {x y : Int}
theorem Ev.lt (h1 : Ev σ H0 t1 (.int x)) (h2 : Ev σ H0 t2 (.int y)) : Ev σ H0 (tOp (rI0 fun i j => .bl (decide (i < j))) t1 t2) (.bl (decide (x < y))) := Ev.i2 (f := fun i j => .bl (decide (i < j))) h1 h2
theorem Ev.le (h1 : Ev σ H0 t1 (.int x)) (h2 : Ev σ H0 t2 (.int y)) : Ev σ H0 (tOp (rI0 fun i j => .bl (decide (i ≤ j))) t1 t2) (.bl (decide (x ≤ y))) := Ev.i2 (f := fun i j => .bl (decide (i ≤ j))) h1 h2
theorem Ev.gt (h1 : Ev σ H0 t1 (.int x)) (h2 : Ev σ H0 t2 (.int y)) : Ev σ H0 (tOp (rI0 fun i j => .bl (decide (j < i))) t1 t2) (.bl (decide (y < x))) := Ev.i2 (f := fun i j => .bl (decide (j < i))) h1 h2
theorem Ev.ge (h1 : Ev σ H0 t1 (.int x)) (h2 : Ev σ H0 t2 (.int y)) : Ev σ H0 (tOp (rI0 fun i j => .bl (decide (j ≤ i))) t1 t2) (.bl (decide (y ≤ x))) := Ev.i2 (f := fun i j => .bl (decide (j ≤ i))) h1 h2
end
section
variable {K : PySem.W.Frag} {a D : Addr} {xs : List V} {g : TG} {tt : TT} {te : TE} {vs : List Nat} {σ : St} {H1 : Hp} {Q : Hp → Prop}
theorem lc_accL (hD : H1 D = none) (hS : SqL K H1 a xs) (hz : xs.length < 10000000) (Acc : Nat → List V → Hp → Prop) (h0 : ∀ H', Same H1 H' → Acc 0 [] H')
    (hs : ∀ i x acc H' (N : V → Hp → Prop) (N0 : Hp → Prop), xs[i]? = some x → Same H1 H' → H' D = some (.lst acc) → Acc i acc H' →
      (∀ y H4, Same H' H4 → (∀ H5, But D H4 H5 → H5 D = some (.lst (acc ++ [y])) → Acc (i + 1) (acc ++ [y]) H5) → N y H4) → (∀ H3, Same H' H3 → Acc (i + 1) acc H3 → N0 H3) →
      g x (wipe σ vs) H' fun σ2 H2 => wipe σ2 vs = wipe σ vs ∧ tt σ2 H2 fun b H3 => if b = true then te σ2 H3 N else N0 H3)
    (hd : ∀ acc H', Same H1 H' → H' D = some (.lst acc) → acc.length ≤ xs.length → Acc xs.length acc H' → Q H') :
    ∃ W : Nat → Nat → Hp → Prop, (∃ m, W 0 m (upd H1 D (.lst []))) ∧ ∀ i m H, W i m H →
      ((Itl K a).stop i H ∧ Q H) ∨ ((Itl K a).go i H ∧ ∃ Nx : Hp → Prop, (∀ H', Nx H' → ∃ m', m' < m ∧ W (i + 1) m' H') ∧ ∀ x H', (Itl K a).yld i H x H' → g x (wipe σ vs) H' fun σ2 H2 => wipe σ2 vs = wipe σ vs ∧ tt σ2 H2 fun b H3 =>
        if b = true then te σ2 H3 fun y H4 => ∃ acc, H4 D = some (.lst acc) ∧ acc.length < sizeLine ∧ Nx (upd H4 D (.lst (acc ++ [y]))) else Nx H3) := by
  refine lc_list (K := K) (a := a) (xs := xs) (fun i H' => Same H1 H' ∧ ∃ acc, H' D = some (.lst acc) ∧ acc.length ≤ i ∧ Acc i acc H') ⟨same_new hD, [], upd_same, Nat.le_refl _, h0 _ (same_new hD)⟩ (fun i H' _ h => h.1.seq hS) ?_ ?_
  · rintro i x H' hx ⟨e, acc, hacc, hl, ha⟩
    have hi : i < xs.length := (List.getElem?_eq_some_iff.mp hx).1
    refine hs i x acc H' _ _ hx e hacc ha (fun y H4 s4 a4 => ?_) (fun H3 s3 a3 => ?_)
    · exact ⟨acc, s4 _ _ hacc, Nat.lt_of_lt_of_le (show acc.length < 10000000 by omega) (by decide), same_mut (e.trans s4) hD, acc ++ [y], upd_same, by rw [List.length_append]; exact Nat.succ_le_succ hl, a4 _ (fun b o hb n => by rw [upd_ne n]; exact hb) upd_same⟩
    · exact ⟨e.trans s3, acc, s3 _ _ hacc, Nat.le_succ_of_le hl, a3⟩
  · rintro H' ⟨e, acc, hacc, hl, ha⟩
    exact hd acc H' e hacc hl ha
end
theorem yesE {te : TE} {σ : St} {H : Hp} {N : V → Hp → Prop} {N0 : Hp → Prop} (h : te σ H N) : tYes σ H fun b H3 => if b = true then te σ H3 N else N0 H3 := h
end L2
end
section
set_option maxRecDepth 100000
set_option maxHeartbeats 4000000
/-! ### spans, their days, and lots of stretches: plain -/
namespace L2
def insB (s c : Int × Int) : Bool := decide (s.1 < c.1) && decide (c.2 ≤ s.2)
def okDay (s c : Int × Int) (d : Int) : Bool := insB s c || (decide (d ≤ s.1) || decide (s.2 < d))
def okLot (lot : List (Int × Int)) (c : Int × Int) (d : Int) : Bool := lot.all fun s => okDay s c d
def daysO (T : Nat) (c : Int × Int) : List Int := (List.range (min c.2 (T : Int) + 1 - c.1).toNat).map fun (i : Nat) => c.1 + (i : Int)
def freeD (T : Nat) (lot : List (Int × Int)) (c : Int × Int) : Int := match (daysO T c).find? (okLot lot c) with
  | some d => d
  | none => if (T : Int) < c.2 then (T : Int) + 1 else 0
def optO (T : Nat) (c : Int × Int) : List (Option Int) := (daysO T c).map some ++ if (T : Int) < c.2 then [none] else []
def okO (lot : List (Int × Int)) (c : Int × Int) : Option Int → Bool
  | some d => okLot lot c d
  | none => true
def optOf (T : Nat) (d : Int) : Option Int := if d ≤ (T : Int) then some d else none
theorem mem_daysO {T : Nat} {c : Int × Int} {d : Int} : d ∈ daysO T c ↔ c.1 ≤ d ∧ d ≤ c.2 ∧ d ≤ (T : Int) := by
  unfold daysO
  rw [List.mem_map]
  constructor
  · rintro ⟨i, hi, rfl⟩
    have := List.mem_range.mp hi
    omega
  · intro h
    exact ⟨(d - c.1).toNat, List.mem_range.mpr (by omega), by omega⟩
theorem mem_optO_some {T : Nat} {c : Int × Int} {d : Int} : some d ∈ optO T c ↔ c.1 ≤ d ∧ d ≤ c.2 ∧ d ≤ (T : Int) := by
  unfold optO
  rw [List.mem_append, List.mem_map]
  constructor
  · rintro (⟨e, he, h⟩ | h)
    · cases h
      exact mem_daysO.mp he
    · split at h
      · simp at h
      · cases h
  · intro h
    exact .inl ⟨d, mem_daysO.mpr h, rfl⟩
theorem mem_optO_none {T : Nat} {c : Int × Int} : none ∈ optO T c ↔ (T : Int) < c.2 := by
  unfold optO
  rw [List.mem_append, List.mem_map]
  constructor
  · rintro (⟨e, _, h⟩ | h)
    · cases h
    · split at h
      · assumption
      · cases h
  · intro h
    exact .inr (by rw [if_pos h]; exact List.mem_singleton.mpr rfl)
theorem freeD_is {T : Nat} {lot : List (Int × Int)} {c : Int × Int} {i : Nat} (hi : i < (min c.2 (T : Int) + 1 - c.1).toNat) (hp : okLot lot c (c.1 + (i : Int)) = true) (hn : ∀ j, j < i → okLot lot c (c.1 + (j : Int)) = false) : freeD T lot c = c.1 + (i : Int) := by
  have : (daysO T c).find? (okLot lot c) = some (c.1 + (i : Int)) := by
    unfold daysO
    rw [List.find?_map]
    have : (List.range (min c.2 (T : Int) + 1 - c.1).toNat).find? (okLot lot c ∘ fun (i : Nat) => c.1 + (i : Int)) = some i := by
      rw [List.find?_range_eq_some]
      exact ⟨hp, List.mem_range.mpr hi, fun j hj => by simp [Function.comp, hn j hj]⟩
    rw [this]
    rfl
  unfold freeD
  rw [this]
theorem freeD_no {T : Nat} {lot : List (Int × Int)} {c : Int × Int} (hn : ∀ j, j < (min c.2 (T : Int) + 1 - c.1).toNat → okLot lot c (c.1 + (j : Int)) = false) : freeD T lot c = if (T : Int) < c.2 then (T : Int) + 1 else 0 := by
  have : (daysO T c).find? (okLot lot c) = none := by
    rw [List.find?_eq_none]
    intro d hd
    unfold daysO at hd
    obtain ⟨j, hj, rfl⟩ := List.mem_map.mp hd
    rw [hn j (List.mem_range.mp hj)]
    exact fun z => by cases z
  unfold freeD
  rw [this]
theorem freeD_cases {T : Nat} {lot : List (Int × Int)} {c : Int × Int} (h1 : 1 ≤ c.1) :
    (freeD T lot c = 0 ∧ ∀ o ∈ optO T c, okO lot c o = false) ∨ (1 ≤ freeD T lot c ∧ freeD T lot c ≤ (T : Int) + 1 ∧ optOf T (freeD T lot c) ∈ optO T c ∧ okO lot c (optOf T (freeD T lot c)) = true) := by
  unfold freeD
  cases e : (daysO T c).find? (okLot lot c) with
  | some d =>
    have hm := mem_daysO.mp (List.mem_of_find?_eq_some e)
    have hp := List.find?_some e
    refine .inr ?_
    show 1 ≤ d ∧ d ≤ (T : Int) + 1 ∧ optOf T d ∈ optO T c ∧ okO lot c (optOf T d) = true
    have : optOf T d = some d := by unfold optOf; rw [if_pos hm.2.2]
    rw [this]
    exact ⟨by omega, by omega, mem_optO_some.mpr hm, hp⟩
  | none =>
    rw [List.find?_eq_none] at e
    show (_ ∧ _) ∨ _
    by_cases h : (T : Int) < c.2
    · refine .inr ?_
      show 1 ≤ (if (T : Int) < c.2 then (T : Int) + 1 else 0) ∧ (if (T : Int) < c.2 then (T : Int) + 1 else 0) ≤ (T : Int) + 1 ∧ optOf T (if (T : Int) < c.2 then (T : Int) + 1 else 0) ∈ optO T c ∧ okO lot c (optOf T (if (T : Int) < c.2 then (T : Int) + 1 else 0)) = true
      rw [if_pos h]
      have : optOf T ((T : Int) + 1) = none := by unfold optOf; rw [if_neg (by omega)]
      rw [this]
      exact ⟨by omega, by omega, mem_optO_none.mpr h, rfl⟩
    · refine .inl ⟨?_, fun o ho => ?_⟩
      · show (if (T : Int) < c.2 then (T : Int) + 1 else 0) = 0
        rw [if_neg h]
      · cases o with
        | none => exact absurd (mem_optO_none.mp ho) h
        | some d =>
          have := e d (mem_daysO.mpr (mem_optO_some.mp ho))
          show okLot lot c d = false
          simpa using this
theorem freeD_zero {T : Nat} {lot : List (Int × Int)} {c : Int × Int} (h1 : 1 ≤ c.1) : freeD T lot c = 0 ↔ ∀ o ∈ optO T c, okO lot c o = false := by
  rcases freeD_cases (T := T) (lot := lot) h1 with ⟨h, k⟩ | ⟨h, _, k1, k2⟩
  · exact ⟨fun _ => k, fun _ => h⟩
  · refine ⟨fun z => by omega, fun z => ?_⟩
    rw [z _ k1] at k2
    cases k2
/-- a stretch of its own is borne by every span -/
theorem one_ok {T : Nat} {s c : Int × Int} (h0 : 0 ≤ s.1) (h2 : s.1 < s.2) (h3 : s.2 ≤ (T : Int)) (h4 : 1 ≤ c.1) (h5 : c.1 ≤ c.2) : ∃ o ∈ optO T c, okO [s] c o = true := by
  have one : ∀ d, okO [s] c (some d) = okDay s c d := fun d => by show ([s].all fun s => okDay s c d) = _; simp
  by_cases hi : insB s c = true
  · refine ⟨some c.1, mem_optO_some.mpr ?_, ?_⟩
    · unfold insB at hi
      simp only [Bool.and_eq_true, decide_eq_true_eq] at hi
      omega
    · rw [one]
      unfold okDay
      rw [hi]
      rfl
  · unfold insB at hi
    simp only [Bool.and_eq_true, decide_eq_true_eq] at hi
    by_cases hf : c.1 ≤ s.1
    · refine ⟨some c.1, mem_optO_some.mpr (by omega), ?_⟩
      rw [one]
      unfold okDay
      rw [decide_eq_true hf]
      simp
    · by_cases hT : (T : Int) < c.2
      · exact ⟨none, mem_optO_none.mpr hT, rfl⟩
      · refine ⟨some c.2, mem_optO_some.mpr (by omega), ?_⟩
        rw [one]
        unfold okDay
        rw [decide_eq_true (p := s.2 < c.2) (by omega)]
        simp
/-! ### weathers of chosen days -/
def repN (os : List (Option Int)) (n k : Nat) : List (Int × Int) := ((List.range n).filter fun at_ => decide (os[at_]? = some (some ((k : Int) + 1)))).map fun (at_ : Nat) => ((at_ : Int) + 1, (1 : Int))
def wayR (T : Nat) (os : List (Option Int)) (n : Nat) : List (List (Int × Int)) := (List.range T).map (repN os n)
theorem repN_succ {os : List (Option Int)} {n k : Nat} : repN os (n + 1) k = repN os n k ++ if os[n]? = some (some ((k : Int) + 1)) then [((n : Int) + 1, 1)] else [] := by
  unfold repN
  rw [List.range_succ, List.filter_append, List.map_append, List.filter_cons]
  by_cases h : os[n]? = some (some ((k : Int) + 1))
  · rw [if_pos h, if_pos (decide_eq_true h)]
    rfl
  · rw [if_neg h, if_neg (fun z => h (of_decide_eq_true z))]
    rfl
theorem wayR_len {T : Nat} {os : List (Option Int)} {n : Nat} : (wayR T os n).length = T := by unfold wayR; rw [List.length_map, List.length_range]
theorem wayR_get {T : Nat} {os : List (Option Int)} {n k : Nat} (hk : k < T) : (wayR T os n)[k]? = some (repN os n k) := by
  unfold wayR
  rw [List.getElem?_map, List.getElem?_range hk]
  rfl
theorem wayR_zero {T : Nat} {os : List (Option Int)} : wayR T os 0 = List.replicate T [] := by
  apply List.ext_getElem?
  intro k
  by_cases hk : k < T
  · rw [wayR_get hk, List.getElem?_replicate, if_pos hk]
    rfl
  · rw [List.getElem?_eq_none (by rw [wayR_len]; omega), List.getElem?_eq_none (by rw [List.length_replicate]; omega)]
theorem wayR_skip {T : Nat} {os : List (Option Int)} {n : Nat} (h : ∀ k : Nat, k < T → os[n]? ≠ some (some ((k : Int) + 1))) : wayR T os (n + 1) = wayR T os n := by
  apply List.ext_getElem?
  intro k
  by_cases hk : k < T
  · rw [wayR_get hk, wayR_get hk, repN_succ, if_neg (h k hk), List.append_nil]
  · rw [List.getElem?_eq_none (by rw [wayR_len]; omega), List.getElem?_eq_none (by rw [wayR_len]; omega)]
theorem wayR_put {T : Nat} {os : List (Option Int)} {n k : Nat} (h : os[n]? = some (some ((k : Int) + 1))) (hk : k < T) : wayR T os (n + 1) = (wayR T os n).set k (repN os n k ++ [((n : Int) + 1, 1)]) := by
  apply List.ext_getElem?
  intro j
  by_cases hj : j < T
  · rw [wayR_get hj]
    by_cases e : j = k
    · subst e
      rw [List.getElem?_set_self (by rw [wayR_len]; exact hj), repN_succ, if_pos h]
    · rw [List.getElem?_set_ne (by omega), wayR_get hj, repN_succ, if_neg, List.append_nil]
      rw [h]
      intro z
      injection z with z
      injection z with z
      omega
  · rw [List.getElem?_eq_none (by rw [wayR_len]; omega), List.getElem?_eq_none (by rw [List.length_set, wayR_len]; omega)]
theorem mem_repN {os : List (Option Int)} {n k : Nat} {c : Int × Int} : c ∈ repN os n k ↔ ∃ at_ : Nat, at_ < n ∧ os[at_]? = some (some ((k : Int) + 1)) ∧ c = ((at_ : Int) + 1, 1) := by
  unfold repN
  rw [List.mem_map]
  constructor
  · rintro ⟨a, h, rfl⟩
    rw [List.mem_filter, List.mem_range, decide_eq_true_eq] at h
    exact ⟨a, h.1, h.2, rfl⟩
  · rintro ⟨a, h1, h2, rfl⟩
    exact ⟨a, by rw [List.mem_filter, List.mem_range, decide_eq_true_eq]; exact ⟨h1, h2⟩, rfl⟩
theorem repN_le {os : List (Option Int)} {n k : Nat} : (repN os n k).length ≤ n := by
  unfold repN
  rw [List.length_map]
  have := List.length_filter_le (fun at_ : Nat => decide (os[at_]? = some (some ((k : Int) + 1)))) (List.range n)
  rw [List.length_range] at this
  exact this
def allN (T : Nat) (ws : List (Int × Int)) : Nat → List (List (Option Int))
  | 0 => [[]]
  | n + 1 => (allN T ws n).flatMap fun fs => (optO T (ws.getD n (0, 0))).map fun o => fs ++ [o]
theorem mem_allN {T : Nat} {ws : List (Int × Int)} : ∀ {n : Nat} {os : List (Option Int)}, os ∈ allN T ws n ↔ os.length = n ∧ ∀ i, i < n → ∃ o, os[i]? = some o ∧ o ∈ optO T (ws.getD i (0, 0))
  | 0, os => by
    unfold allN
    rw [List.mem_singleton]
    constructor
    · rintro rfl
      exact ⟨rfl, fun i h => by omega⟩
    · rintro ⟨h, _⟩
      exact List.length_eq_zero_iff.mp h
  | n + 1, os => by
    unfold allN
    rw [List.mem_flatMap]
    constructor
    · rintro ⟨fs, hf, h⟩
      obtain ⟨o, ho, rfl⟩ := List.mem_map.mp h
      obtain ⟨h1, h2⟩ := mem_allN.mp hf
      refine ⟨by rw [List.length_append, h1]; rfl, fun i hi => ?_⟩
      by_cases e : i = n
      · refine ⟨o, ?_, by rw [e]; exact ho⟩
        rw [e, List.getElem?_append_right (by omega), h1]
        simp
      · obtain ⟨o', q1, q2⟩ := h2 i (by omega)
        exact ⟨o', by rw [List.getElem?_append_left (by omega)]; exact q1, q2⟩
    · rintro ⟨h1, h2⟩
      obtain ⟨o, q1, q2⟩ := h2 n (by omega)
      refine ⟨os.take n, mem_allN.mpr ⟨by rw [List.length_take]; omega, fun i hi => ?_⟩, List.mem_map.mpr ⟨o, q2, ?_⟩⟩
      · obtain ⟨o', r1, r2⟩ := h2 i (by omega)
        exact ⟨o', by rw [List.getElem?_take_of_lt hi]; exact r1, r2⟩
      · have := take_get q1
        rw [List.take_of_length_le (by omega)] at this
        exact this.symm
/-- choosing a day for each -/
theorem choose_all {T : Nat} {ws : List (Int × Int)} {p : Int × Int → Option Int → Prop} (h : ∀ c ∈ ws, ∃ o ∈ optO T c, p c o) : ∃ os ∈ allN T ws ws.length, ∀ (i : Nat) (c : Int × Int) (o : Option Int), ws[i]? = some c → os[i]? = some o → p c o := by
  have : ∀ n, n ≤ ws.length → ∃ os ∈ allN T ws n, ∀ (i : Nat) (c : Int × Int) (o : Option Int), ws[i]? = some c → os[i]? = some o → p c o := by
    intro n
    induction n with
    | zero => exact fun _ => ⟨[], List.mem_singleton.mpr rfl, fun i c o _ h => by simp at h⟩
    | succ n ih =>
      intro hn
      obtain ⟨os, h1, h2⟩ := ih (by omega)
      have hl := (mem_allN.mp h1).1
      have hc : ws[n]? = some ws[n] := List.getElem?_eq_getElem _
      obtain ⟨o, ho, hp⟩ := h ws[n] (List.getElem_mem _)
      refine ⟨os ++ [o], ?_, fun i c o' hi ho' => ?_⟩
      · unfold allN
        rw [List.mem_flatMap]
        refine ⟨os, h1, List.mem_map.mpr ⟨o, ?_, rfl⟩⟩
        rw [List.getD_eq_getElem?_getD, hc]
        exact ho
      · by_cases e : i < os.length
        · rw [List.getElem?_append_left e] at ho'
          exact h2 i c o' hi ho'
        · rw [List.getElem?_append_right (by omega)] at ho'
          have : i = os.length := by
            by_cases e2 : i = os.length
            · exact e2
            · rw [List.getElem?_eq_none (by show 1 ≤ _; omega)] at ho'
              cases ho'
          subst this
          rw [hl, hc] at hi
          cases hi
          simp at ho'
          cases ho'
          exact hp
  exact this ws.length (Nat.le_refl _)
end L2
end
section
set_option maxRecDepth 100000
set_option maxHeartbeats 4000000
namespace L2
open PySem PySem.Spec PyProof.Rows
/-! ### {(a, b): v for ..}: one clause, the keys tuples -/
abbrev dC1 (ke ve ta ia : Expr) (fa : List Expr) (sc : Scope) (ps : Pos) : Expr := .DictComp ke ve [⟨ta, ia, fa, 0⟩] sc ps
section
variable {prog : Program} {w : World} {A : Around} {R : Result → Shared → Prop} {s : Shared} {ke ve ta ia : Expr} {fa : List Expr} {sc : Scope} {ps : Pos} {it acc : Value} {D : Addr} {en : Env}
theorem d1_turn : compTurn (dC1 ke ve ta ia fa sc ps) 0 it (.ref D) en = (do
    standAt ia.pos
    match ← pyNext it with
    | none => pure (.done .next)
    | some v =>
      letOwnedTupleGo ta it v; assign ta en v
      let mut z := true
      for c in fa do
        if z then z ← isTrue c en (eval c en)
      if z then
        (do
          let k1 ← eval ke en
          let v1 ← holding [k1] (eval ve en)
          standAt { ke.pos with endLine := ve.pos.endLine, endCol := ve.pos.endCol }
          holding [k1, v1] (dictSet D k1 v1))
      again (.compLoop (dC1 ke ve ta ia fa sc ps) 0 it (.ref D) en)) := by rfl
theorem d1_in (I : Nat → Shared → Prop)
    (turn : ∀ n s, I n s → wpAny (model prog w) A (pyNext it) (fun r s1 => match r with
      | none => R (.ok .next) s1
      | some v => wpAny (model prog w) A (letOwnedTupleGo ta it v) (fun _ s2 =>
          wpAny (model prog w) A (assign ta en v) (fun _ s3 => wpAny (model prog w) A (tsL fa en) (fun z s4 =>
            if z = true then wpAny (model prog w) A (eval ke en) (fun k1 s5 =>
              wpAny (model prog w) A (eval ve en) (fun v1 s6 => wpAny (model prog w) A (dictSet D k1 v1) (fun _ s7 => ∃ m, m < n ∧ I m s7) (nB prog w A en R) s6) (nB prog w A en R) s5) (nB prog w A en R) s4
            else ∃ m, m < n ∧ I m s4) (nB prog w A en R) s3) (nB prog w A en R) s2) (nB prog w A en R) s1) (nB prog w A en R) s)
    (n : Nat) (h : I n s) : codeAny (model prog w) A (.compLoop (dC1 ke ve ta ia fa sc ps) 0 it (.ref D) en) R s := by
  refine codeAny_loop rfl I (fun n s hn => ?_) n h
  show wpAny _ A ((compTurn (dC1 ke ve ta ia fa sc ps) 0 it (.ref D) en).onRaise fun x => do noteFrame x en; theTreesLotGoes x) _ _ s
  refine wpAny_noted ?_
  rw [d1_turn]
  refine wpAny_bind (wpAny_standAt (wpAny_bind (wpAny_mono (turn n s hn) (fun r s1 g1 => ?_) fun _ _ q => q)))
  rcases r with _ | v
  · exact wpAny_pure g1
  · refine wpAny_bind (wpAny_mono g1 (fun _ s2 g2 => ?_) fun _ _ q => q)
    refine wpAny_bind (wpAny_mono g2 (fun _ s3 g3 => wpAny_bind (wpAny_mono g3 (fun z s4 g4 => ?_) fun _ _ q => q)) fun _ _ q => q)
    rcases z with _ | _
    · exact wpAny_pure ⟨rfl, g4⟩
    · exact wpAny_bind (wpAny_bind (wpAny_mono g4 (fun k1 s5 g5 => wpAny_bind (wpAny_holding (wpAny_mono g5 (fun v1 s6 g6 =>
        wpAny_bind (wpAny_standAt (wpAny_holding (wpAny_mono g6 (fun _ s7 g7 => wpAny_pure ⟨rfl, g7⟩) fun _ _ q => q)))) fun _ _ q => q))) fun _ _ q => q))
end
def tDc1 (wi : TI) (g : TG) (tt : TT) (tk tv : TE) (vs : List Nat) : TE := fun σ H Q => wi σ H fun J H1 => ∀ D, H1 D = none → ∃ W : Nat → Nat → Hp → Prop,
  (∃ m, W 0 m (upd H1 D (.dT []))) ∧ ∀ i m H, W i m H → (J.stop i H ∧ Q (.ref D) H) ∨ (J.go i H ∧ ∃ Nx : Hp → Prop,
    (∀ H', Nx H' → ∃ m', m' < m ∧ W (i + 1) m' H') ∧ ∀ x H', J.yld i H x H' → g x (wipe σ vs) H' fun σ2 H2 => wipe σ2 vs = wipe σ vs ∧ tt σ2 H2 fun b H3 =>
      if b = true then tk σ2 H3 fun y H4 => tv σ2 H4 fun z H5 => ∃ a kvs k, y = .ref a ∧ H5 a = some (.tup (k.map kV)) ∧ H5 D = some (.dT kvs) ∧ kvs.length < sizeLine ∧ Nx (upd H5 D (.dT (putK kvs k z)))
      else Nx H3)
section
variable {X : Cx}
theorem d1_core {pins : List (Addr × Obj)} {s : Shared} {σ : St} {H : Hp} {Q : VK} {ke ve ta ia : Expr} {fa : List Expr} {sc : Scope} {own : List (Str × Nat)} {ps ps' : Pos} {wi : TI} {g : TG} {tt : TT} {tk tv : TE} {use : Option (Value → Sem Unit)} {Qf : Value → Shared → Prop}
    (hc : X.calm = true) (hu : X.A.units < cLine) (hN : X.N.Nodup) (I : Inv X pins σ H s) (hi : PI X ta ia wi) (ok : BlkOk X.N X.env.scope sc own)
    (hg : inB X sc fun Y => PG Y ta g) (ht : inB X sc fun Y => PTs Y fa tt) (hk : inB X sc fun Y => PE Y ke tk) (he : inB X sc fun Y => PE Y ve tv) (hs : ∀ x, foldedSetIterable ia X.env x = pure x)
    (h : tDc1 wi g tt tk tv (own.map (·.2)) σ H Q)
    (hR : ∀ D C s' m H', Inv X pins σ H' s' → Q (.ref D) H' → s'.heap.Ns C m → FpOk X pins H' C → compPost (model X.prog X.w) X.A X.xe use Qf (.ref D) C (.ok .next) s') :
    wpAny (model X.prog X.w) X.A (comprehension (dC1 ke ve ta ia fa sc ps) sc X.env ps' newDict false (eval ia X.env) use) Qf X.xe s := by
  have free : ∀ y ∈ sc.names, y.2 = .free → ∃ c, X.env.cells.lookup y.1 = some c := fun y hy e => (ok.free y hy e).elim (fun z => I.ok.has _ (.inl z)) fun z => I.ok.has _ (.inr z)
  refine wpAny_comprehension_free (use := use) rfl hs (closure_ok free) ok.kind (fun y hy e => by rw [ok.uniq y hy, e]) (thn (hi.run pins s σ H _ I h) fun xv s1 hx => thn hx fun itv s2 h2 => ?_)
  obtain ⟨it, fp, tn, J, H2, e, I2, T, st2, f2, q⟩ := h2
  subst e
  refine wpAny_newObj_type (newEnv_comp ?_)
  generalize hD : s2.heap.objs.size = D
  obtain ⟨W, ⟨m0, w0⟩, turn⟩ := q D (I2.hok.fresh (Nat.le_of_eq hD))
  generalize hs3 : ({ s2 with heap := s2.heap.push { cls := .type "dict", data := .dict #[] } } : Shared) = s3
  have h3 : s3.heap = s2.heap.push { cls := .type "dict", data := .dict #[] } := by rw [← hs3]
  have I3 : Inv X pins σ (upd H2 D (.dT [])) s3 := by
    rw [← hs3]
    refine I2.laid (t' := s2.toks) (fun b o e => Heap.get?_push_of_some _ e) (Nat.le_of_eq hD) ?_
    rw [← hD]
    exact dt_empty s2.heap I2.big
  have f3 : ∀ b ∈ fp, FpOk X pins (upd H2 D (.dT [])) b ∧ b < s3.heap.objs.size := fun b hb => by
    obtain ⟨o, eo, _⟩ := T.obj _ _ st2 b hb
    have lt := Heap.lt_size eo
    refine ⟨⟨?_, (f2 b hb).2⟩, by rw [h3, Heap.size_push]; exact Nat.lt_succ_of_lt lt⟩
    rw [upd_ne (by rw [← hD]; exact Nat.ne_of_lt lt)]
    exact (f2 b hb).1
  have st3 : tn 0 s3.heap := T.keep _ _ _ st2 fun b _ o e => by rw [h3]; exact Heap.get?_push_of_some _ e
  have I4 := block_start I3 ok hN f3
  generalize hcl : cellsFrom (s3.heap.objs.size + 1) sc.names (cloFrom X.env.cells sc.names []) = cl at I4
  have pg := hg s3 (upd H2 D (.dT [])) s3.heap.objs.size cl fp
  have pt := ht s3 (upd H2 D (.dT [])) s3.heap.objs.size cl fp
  have pk := hk s3 (upd H2 D (.dT [])) s3.heap.objs.size cl fp
  have pe := he s3 (upd H2 D (.dT [])) s3.heap.objs.size cl fp
  have nfp : ∀ b ∈ fp, (upd H2 D (.dT [])) b = none := fun b hb => (f3 b hb).1.1
  have goal0 : codeAny (model X.prog X.w) X.A (.compStart (dC1 ke ve ta ia fa sc ps) 0 (.ref it) (.ref D) (compEnvC sc cl s3.heap.objs.size X.env)) (compPost (model X.prog X.w) X.A X.xe use Qf (.ref D) s3.heap.objs.size)
      { s3 with heap := pushCells (s3.heap.push { cls := .type "dict", data := .dict #[] }) sc.names } := by
    generalize hce : compEnvC sc cl s3.heap.objs.size X.env = ce at I4 pg pt pk pe ⊢
    have cL : ce.locals = s3.heap.objs.size := by subst hce; rfl
    generalize hH3 : upd H2 D (.dT []) = H3 at I3 I4 pg pt pk pe w0 nfp f3
    generalize hs4 : ({ s3 with heap := pushCells (s3.heap.push { cls := .type "dict", data := .dict #[] }) sc.names } : Shared) = s4 at I4 ⊢
    have st4 : tn 0 s4.heap := T.keep _ _ _ st3 fun b _ o e => by rw [← hs4]; exact pushCells_keeps _ _ _ _ (Heap.get?_push_of_some _ e)
    have keepF : ∀ {σ' : St} {H' : Hp} {s' : Shared}, Inv (X.blk s3 H3 sc ce fp) [] σ' H' s' → (∀ b ∈ fp, H' b = none) → ∀ b ∈ fp, FpOk (X.blk s3 H3 sc ce fp) [] H' b := fun {σ' H' s'} I' hn b hb =>
      ⟨hn b hb, (I'.ok.exf b hb).1, I'.ok.exfs b hb, .inl hb, fun x c e => (I'.ok.exf b hb).2 x c e, fun p hp => by cases (show p ∈ ([] : List (Addr × Obj)) from hp)⟩
    -- what stands at the head of each turn
    let Hd : Nat → Shared → Prop := fun n s' => ∃ i H', Inv (X.blk s3 H3 sc ce fp) [] (wipe σ (own.map (·.2))) H' s' ∧ tn i s'.heap ∧ (∀ b ∈ fp, H' b = none) ∧ W i n H'
    refine codeAny_compStart_dict ?_ (T.self X.A 0 _ _ _ st4 ?_)
    all_goals
      refine d1_in Hd ?_ m0 ⟨0, H3, I4, st4, nfp, w0⟩
      rintro n s5 ⟨i, H5, I5, st5, n5, w5⟩
      rcases turn i n H5 w5 with ⟨stop, qq⟩ | ⟨go, Nx, hNx, step⟩
      · refine thnF (T.done (X.blk s3 H3 sc ce fp) rfl rfl rfl hc i [] s5 _ H5 (fun _ _ => False) I5 (keepF I5 n5) st5 stop) fun r s6 ⟨er, I6⟩ => ?_
        subst er
        have I7 : Inv X pins σ H5 s6 := I3.call' (ch := fp) I6.os I6.base I6.hok I6.bare fun b hb =>
          let z := (f3 b hb).1.2
          ⟨z.2.2.1, z.1, z.2.2.2.1, z.2.2.2.2⟩
        have nC : H5 s3.heap.objs.size = none := cL ▸ (show H5 ce.locals = none from I6.free)
        obtain ⟨m, hn, _⟩ := I6.loc
        exact hR D s3.heap.objs.size s6 m H5 I7 qq (cL ▸ (show s6.heap.Ns ce.locals m from hn)) (I3.fpOk (Nat.le_refl _) nC)
      · refine thnF (T.item (X.blk s3 H3 sc ce fp) rfl rfl rfl hc i [] s5 _ H5 (fun _ _ => False) I5 (keepF I5 n5) st5 go) fun r s6 ⟨u, er, h6⟩ => ?_
        subst er
        refine thnF h6 fun _ s7 ⟨x, H7, I7, r7, y7, st7, n7⟩ => ?_
        have P7 := I7.pinned (keepF I7 n7) (T.obj _ _ st7)
        refine thnF (pg.run _ s7 _ H7 x u _ P7 r7 (step x H7 y7)) fun _ s8 ⟨σ8, H8, I8, hw8, q8⟩ => ?_
        refine thnF (pt.run _ s8 σ8 H8 _ I8 q8) fun b s9 ⟨H9, I9, q9⟩ => ?_
        have back : ∀ {σ9 : St} {s' : Shared} {H' : Hp}, Inv (X.blk s3 H3 sc ce fp) ([] ++ pinsAt fp s7.heap) σ9 H' s' → (wipe σ (own.map (·.2))).length = σ9.length →
            (∀ (j : Nat) v, (wipe σ (own.map (·.2)))[j]? = some (some v) → σ9[j]? = some (some v)) → Nx H' → ∃ m, m < n ∧ Hd m s' := fun {σ9 s' H'} I' e1 e2 nx => by
          obtain ⟨m', lt, w'⟩ := hNx H' nx
          have stays : ∀ b ∈ fp, ∀ o, s7.heap.get? b = some o → s'.heap.get? b = some o ∧ H' b = none := fun b hb o e => by
            have z := I'.pin (b, o) (List.mem_append_right _ (List.mem_append_right _ (mem_pinsAt hb e)))
            exact ⟨z.1, z.2.1⟩
          refine ⟨m', lt, i + 1, H', (I'.unpinned (pins := [])).weak e1 e2, T.keep _ _ _ st7 fun b hb o e => (stays b hb o e).1, fun b hb => ?_, w'⟩
          obtain ⟨o, e, _⟩ := T.obj _ _ st7 b hb
          exact (stays b hb o e).2
        have e8 : (wipe σ (own.map (·.2))).length = σ8.length := by rw [← hw8, wipe_length]
        have k8 : ∀ (j : Nat) v, (wipe σ (own.map (·.2)))[j]? = some (some v) → σ8[j]? = some (some v) := fun j v e => (wipe_some (hw8.symm ▸ e)).1
        rcases b with _ | _
        · exact back I9 e8 k8 q9
        · refine thnF (pk.run _ s9 σ8 H9 _ I9 q9) fun y s17 ⟨yk, H17, I17, r17, q17⟩ => ?_
          refine thnF (pe.run _ s17 σ8 H17 _ I17 q17) fun z s18 ⟨yv, H18, I18, r18, a, kvs, kk, ey, ha, hDD, hz, nx⟩ => ?_
          subst ey
          obtain rfl : y = Value.ref a := r17
          exact d2_store (X := X.blk s3 H3 sc ce fp) hu I18 hDD ha hz r18 fun s19 I19 => back I19 e8 k8 nx
  subst hcl
  exact goal0
theorem pe_dc1 {ke ve ta ia : Expr} {fa : List Expr} {sc : Scope} {own : List (Str × Nat)} {ps : Pos} {wi : TI} {g : TG} {tt : TT} {tk tv : TE}
    (hc : X.calm = true) (hu : X.A.units < cLine) (hN : X.N.Nodup) (hi : PI X ta ia wi) (ok : BlkOk X.N X.env.scope sc own)
    (hg : inB X sc fun Y => PG Y ta g) (ht : inB X sc fun Y => PTs Y fa tt)
    (hk : inB X sc fun Y => PE Y ke tk) (he : inB X sc fun Y => PE Y ve tv) (hs : ∀ x, foldedSetIterable ia X.env x = pure x := by intro _; rfl) :
    PE X (.DictComp ke ve [⟨ta, ia, fa, 0⟩] sc ps) (tDc1 wi g tt tk tv (own.map (·.2))) := by
  refine ⟨fun pins s σ H Q I h => ?_⟩
  rw [arm_eval_DictComp]
  refine d1_core hc hu hN I hi ok hg ht hk he hs h fun D C s' m H' I' q hn f => ⟨m, hn, fun h'' sb => ?_⟩
  obtain ⟨a0, a1, a2, a3, a4, a5⟩ := f
  exact ⟨.ref D, H', I'.turned (t' := s'.toks) (fun b o hb e => (sb.2 b hb).trans e) a0 a1 a3 a4 a5, rfl, q⟩
end
end L2
end
section
set_option maxRecDepth 100000
set_option maxHeartbeats 4000000
namespace L2
open PySem PySem.Spec PyProof.Rows
/-! ### dicts keyed by couples of ints -/
abbrev keyP (c : Int × Int) : List Key := [.inl c.1, .inl c.2]
theorem keyP_inj {c d : Int × Int} (h : keyP c = keyP d) : c = d := by
  simp only [keyP, List.cons.injEq, Sum.inl.injEq, and_true] at h
  exact Prod.ext h.1 h.2
theorem keyP_kV {c : Int × Int} : (keyP c).map kV = [.int c.1, .int c.2] := rfl
/-- a set of couples, as the keys of a dict -/
def SetP (H : Hp) (d : Addr) (n : Nat) (p : Int × Int → Bool) : Prop := ∃ kvs, H d = some (.dT kvs) ∧ kvs.length ≤ n ∧ ∀ c, valV kvs (keyP c) = if p c = true then some (.bl true) else none
theorem SetP.same {H H' : Hp} {d : Addr} {n : Nat} {p : Int × Int → Bool} (e : Same H H') (h : SetP H d n p) : SetP H' d n p := by
  obtain ⟨kvs, h1, h2⟩ := h
  exact ⟨kvs, e _ _ h1, h2⟩
theorem SetP.congr {H : Hp} {d : Addr} {n : Nat} {p q : Int × Int → Bool} (h : SetP H d n p) (e : ∀ c, p c = q c) : SetP H d n q := by
  obtain ⟨kvs, h1, h2, h3⟩ := h
  exact ⟨kvs, h1, h2, fun c => by rw [← e c]; exact h3 c⟩
theorem SetP.get {H : Hp} {d : Addr} {n : Nat} {p : Int × Int → Bool} (h : SetP H d n p) {x : V} {c : Int × Int} (hx : PairT H x c) : DGet H d x (if p c = true then some (.bl true) else none) := by
  obtain ⟨kvs, h1, h2, h3⟩ := h
  obtain ⟨t, rfl, ht⟩ := hx
  rw [← h3 c]
  exact DGet.t h1 (by rw [keyP_kV]; exact ht)
theorem setP_put {kvs : List (List Key × V)} {p : Int × Int → Bool} {n : Nat} (h2 : kvs.length ≤ n) (h3 : ∀ c, valV kvs (keyP c) = if p c = true then some (.bl true) else none) (c : Int × Int) :
    (putK kvs (keyP c) (.bl true)).length ≤ n + 1 ∧ ∀ e, valV (putK kvs (keyP c) (.bl true)) (keyP e) = if (p e || decide (e = c)) = true then some (.bl true) else none := by
  refine ⟨Nat.le_trans (length_putK _ _ _) (by omega), fun e => ?_⟩
  rw [valV_put, h3 e]
  by_cases q : e = c
  · rw [if_pos (by rw [q]), decide_eq_true q, Bool.or_true, if_pos rfl]
  · rw [if_neg (fun z => q (keyP_inj z)), decide_eq_false q, Bool.or_false]
theorem dc1_list {K : PySem.W.Frag} {a D : Addr} {xs : List V} {g : TG} {tt : TT} {tk tv : TE} {vs : List Nat} {σ : St} {H1 : Hp} {Q : Hp → Prop} (Pv : Nat → Hp → Prop) (h0 : Pv 0 (upd H1 D (.dT []))) (hl : ∀ i H, i ≤ xs.length → Pv i H → SqL K H a xs)
    (hs : ∀ i x H, xs[i]? = some x → Pv i H → g x (wipe σ vs) H fun σ2 H2 => wipe σ2 vs = wipe σ vs ∧ tt σ2 H2 fun b H3 =>
      if b = true then tk σ2 H3 fun y H4 => tv σ2 H4 fun z H5 => ∃ a kvs k, y = .ref a ∧ H5 a = some (.tup (k.map kV)) ∧ H5 D = some (.dT kvs) ∧ kvs.length < sizeLine ∧ Pv (i + 1) (upd H5 D (.dT (putK kvs k z))) else Pv (i + 1) H3)
    (hd : ∀ H, Pv xs.length H → Q H) :
    ∃ W : Nat → Nat → Hp → Prop, (∃ m, W 0 m (upd H1 D (.dT []))) ∧ ∀ i m H, W i m H → ((Itl K a).stop i H ∧ Q H) ∨ ((Itl K a).go i H ∧ ∃ Nx : Hp → Prop,
      (∀ H', Nx H' → ∃ m', m' < m ∧ W (i + 1) m' H') ∧ ∀ x H', (Itl K a).yld i H x H' → g x (wipe σ vs) H' fun σ2 H2 => wipe σ2 vs = wipe σ vs ∧ tt σ2 H2 fun b H3 =>
        if b = true then tk σ2 H3 fun y H4 => tv σ2 H4 fun z H5 => ∃ a kvs k, y = .ref a ∧ H5 a = some (.tup (k.map kV)) ∧ H5 D = some (.dT kvs) ∧ kvs.length < sizeLine ∧ Nx (upd H5 D (.dT (putK kvs k z)))
        else Nx H3) := by
  refine ⟨fun i m H => m = xs.length - i ∧ i ≤ xs.length ∧ Pv i H, ⟨_, rfl, Nat.zero_le _, h0⟩, fun i m H w => ?_⟩
  obtain ⟨rfl, hi, p⟩ := w
  have q := hl i H hi p
  rcases Nat.lt_or_ge i xs.length with hlt | hge
  · refine .inr ⟨⟨xs, _, q, List.getElem?_eq_getElem hlt⟩, Pv (i + 1), fun H' p' => ⟨xs.length - (i + 1), by omega, rfl, hlt, p'⟩, ?_⟩
    rintro x H' ⟨rfl, y⟩
    exact hs i x _ (y xs q) p
  · obtain rfl : i = xs.length := by omega
    exact .inl ⟨⟨xs, q, Nat.le_refl _⟩, hd H p⟩
/-- {x: True for x in couples} -/
theorem dc1_set {K : PySem.W.Frag} {a D : Addr} {xs : List V} {L : List (Int × Int)} {i0 : Nat} {σ : St} {H1 : Hp} {Q : Hp → Prop} (hi0 : i0 < σ.length) (hD : H1 D = none) (ha : H1 a = some (.lst xs)) (hP : Paired (PairT H1) xs L) (hz : xs.length < 100000)
    (hd : ∀ H', Same H1 H' → SetP H' D xs.length (fun c => decide (c ∈ L)) → Q H') :
    ∃ W : Nat → Nat → Hp → Prop, (∃ m, W 0 m (upd H1 D (.dT []))) ∧ ∀ i m H, W i m H → ((Itl K a).stop i H ∧ Q H) ∨ ((Itl K a).go i H ∧ ∃ Nx : Hp → Prop,
      (∀ H', Nx H' → ∃ m', m' < m ∧ W (i + 1) m' H') ∧ ∀ x H', (Itl K a).yld i H x H' → gName i0 x (wipe σ [i0]) H' fun σ2 H2 => wipe σ2 [i0] = wipe σ [i0] ∧ tYes σ2 H2 fun b H3 =>
        if b = true then tVar i0 σ2 H3 fun y H4 => tC (.bl true) σ2 H4 fun z H5 => ∃ a kvs k, y = .ref a ∧ H5 a = some (.tup (k.map kV)) ∧ H5 D = some (.dT kvs) ∧ kvs.length < sizeLine ∧ Nx (upd H5 D (.dT (putK kvs k z)))
        else Nx H3) := by
  refine dc1_list (K := K) (a := a) (xs := xs) (fun i H' => Same H1 H' ∧ SetP H' D i (fun c => decide (c ∈ L.take i))) ⟨same_new hD, [], upd_same, Nat.zero_le _, fun c => by rw [valV_nil]; simp⟩ (fun i H' _ h => SqL.of (h.1 _ _ ha)) ?_ ?_
  · rintro i x H' hx ⟨e, kvs, k1, k2, k3⟩
    have hi : i < xs.length := (List.getElem?_eq_some_iff.mp hx).1
    obtain ⟨c, hc, hr⟩ := paired_get hP hx
    obtain ⟨t, rfl, ht⟩ := hr.same e
    obtain ⟨q1, q2⟩ := setP_put k2 k3 c
    refine gnE ⟨?_, ?_⟩
    · show ((wipe σ [i0]).set i0 _).set i0 none = (σ.set i0 none)
      show ((σ.set i0 none).set i0 _).set i0 none = (σ.set i0 none)
      rw [List.set_set, List.set_set]
    · refine ⟨.ref t, ?_, t, kvs, keyP c, rfl, by rw [keyP_kV]; exact ht, k1, line_lt (by omega), same_mut e hD, _, upd_same, q1, fun e' => ?_⟩
      · show ((σ.set i0 none).set i0 (some (V.ref t)))[i0]? = _
        rw [List.getElem?_set_self (by rw [List.length_set]; exact hi0)]
      · rw [q2 e']
        rw [take_get hc]
        have : (decide (e' ∈ L.take i) || decide (e' = c)) = decide (e' ∈ L.take i ++ [c]) := by
          rw [Bool.eq_iff_iff]
          simp
        rw [this]
  · rintro H' ⟨e, hS⟩
    rw [Paired.length hP, List.take_length] at hS
    exact hd H' e (by rw [Paired.length hP]; exact hS)
end L2
end
section
set_option maxRecDepth 100000
set_option maxHeartbeats 4000000
namespace L2
open PySem PySem.Spec PyProof.Rows
section
variable {σ : St} {H0 : Hp} {ta tb tc : TE} {x y z : Int}
theorem Ev.p0 {K : PySem.W.Frag} {v : V} {c : Int × Int} (h : Ev σ H0 ta v) (hp : PairT H0 v c) : Ev σ H0 (tOp (rIx K) ta (tC (.int 0))) (.int c.1) := fun H' R s k =>
  h H' _ s fun H1 s1 => (hp.same (s.trans s1)).i0 (k H1 s1)
theorem Ev.p1 {K : PySem.W.Frag} {v : V} {c : Int × Int} (h : Ev σ H0 ta v) (hp : PairT H0 v c) : Ev σ H0 (tOp (rIx K) ta (tC (.int 1))) (.int c.2) := fun H' R s k =>
  h H' _ s fun H1 s1 => (hp.same (s.trans s1)).i1 (k H1 s1)
theorem Ev.ltle (h1 : Ev σ H0 ta (.int x)) (h2 : Ev σ H0 tb (.int y)) (h3 : Ev σ H0 tc (.int z)) : Ev σ H0 (tChain (rI0 fun i j => .bl (decide (i < j))) (rI0 fun i j => .bl (decide (i ≤ j))) ta tb tc) (.bl (decide (x < y) && decide (y ≤ z))) := fun H' R s k =>
  h1 H' _ s fun H1 s1 => h2 H1 _ (s.trans s1) fun H2 s2 => ⟨x, y, rfl, rfl, _, rfl, by
    cases hb : decide (x < y) with
    | false =>
      rw [hb] at k
      exact k H2 (s1.trans s2)
    | true =>
      rw [hb] at k
      exact h3 H2 _ (s.trans (s1.trans s2)) fun H3 s3 => ⟨y, z, rfl, rfl, k H3 (s1.trans (s2.trans s3))⟩⟩
end
/-- a filter is empty -/
theorem filter_len0 {α : Type} {p : α → Bool} {l : List α} : (l.filter p).length = 0 ↔ l.all (fun x => !p x) = true := by
  rw [List.length_eq_zero_iff, List.filter_eq_nil_iff, List.all_eq_true]
  constructor
  · intro h x hx
    have := h x hx
    simpa using this
  · intro h x hx
    have := h x hx
    simpa using this
section
variable {K : PySem.W.Frag} {a D : Addr} {xs : List V} {g : TG} {tt : TT} {te : TE} {vs : List Nat} {σ : St} {H1 : Hp} {Q : Hp → Prop}
/-- the things of a list that pass a test, as they stand: how many -/
theorem lc_count {α : Type} {R : Hp → V → α → Prop} {ds : List α} {p : α → Bool} (hD : H1 D = none) (ha : H1 a = some (.lst xs)) (hP : Paired (R H1) xs ds) (hz : xs.length < 100000)
    (hs : ∀ (i : Nat) (x : V) (d : α) (H' : Hp) (N : V → Hp → Prop) (N0 : Hp → Prop), xs[i]? = some x → ds[i]? = some d → R H1 x d → Same H1 H' → (∀ H4, Same H' H4 → p d = true → N x H4) → (∀ H4, Same H' H4 → p d = false → N0 H4) →
      g x (wipe σ vs) H' fun σ2 H2 => wipe σ2 vs = wipe σ vs ∧ tt σ2 H2 fun b H3 => if b = true then te σ2 H3 N else N0 H3)
    (hd : ∀ acc H', Same H1 H' → H' D = some (.lst acc) → acc.length = (ds.filter p).length → (∀ x ∈ acc, x ∈ xs) → Q H') :
    ∃ W : Nat → Nat → Hp → Prop, (∃ m, W 0 m (upd H1 D (.lst []))) ∧ ∀ i m H, W i m H →
      ((Itl K a).stop i H ∧ Q H) ∨ ((Itl K a).go i H ∧ ∃ Nx : Hp → Prop, (∀ H', Nx H' → ∃ m', m' < m ∧ W (i + 1) m' H') ∧ ∀ x H', (Itl K a).yld i H x H' → g x (wipe σ vs) H' fun σ2 H2 => wipe σ2 vs = wipe σ vs ∧ tt σ2 H2 fun b H3 =>
        if b = true then te σ2 H3 fun y H4 => ∃ acc, H4 D = some (.lst acc) ∧ acc.length < sizeLine ∧ Nx (upd H4 D (.lst (acc ++ [y]))) else Nx H3) := by
  refine lc_acc (K := K) (a := a) (xs := xs) hD (SqL.of ha) hz (fun j acc _ => acc.length = ((ds.take j).filter p).length ∧ ∀ x ∈ acc, x ∈ xs) (fun _ _ => ⟨rfl, fun x hx => by cases hx⟩) ?_ ?_
  · rintro i x acc H' N N0 hx s hacc ⟨hl, hm⟩ hN hN0
    obtain ⟨d, hdi, hr⟩ := paired_get hP hx
    refine hs i x d H' N N0 hx hdi hr s (fun H4 s4 q => hN x H4 s4 fun H5 b5 _ => ⟨?_, fun y hy => ?_⟩) fun H4 s4 q => hN0 H4 s4 ⟨?_, hm⟩
    · rw [flt_take hdi true q, List.length_append, hl]
      rfl
    · rcases List.mem_append.mp hy with hy | hy
      · exact hm y hy
      · rw [List.mem_singleton.mp hy]
        exact List.mem_of_getElem? hx
    · rw [flt_take hdi false q, hl]
      rfl
  · rintro acc H' s hacc _ ⟨hl, hm⟩
    rw [Paired.length hP, List.take_length] at hl
    exact hd acc H' s hacc hl hm
end
/-! ### what is told and what is due, None among them -/
def LeafN (v w : V) : Prop := (v = .non ∧ w = .non) ∨ Leaf v w
def MtN : Nat → Hp → V → V → Prop
  | 0, _, v, w => LeafN v w
  | k + 1, H, v, w => LeafN v w ∨ Comp (MtN k) H v w
theorem MtN.same : ∀ {k : Nat} {H H' : Hp} {v w : V}, Same H H' → MtN k H v w → MtN k H' v w
  | 0, _, _, _, _, _, h => h
  | k + 1, _, _, _, _, e, .inl h => .inl h
  | k + 1, _, _, _, _, e, .inr ⟨a, b, xs, ys, e1, e2, h, hl, hz, hr⟩ => .inr ⟨a, b, xs, ys, e1, e2, h.imp (fun z => ⟨e _ _ z.1, e _ _ z.2⟩) (fun z => ⟨e _ _ z.1, e _ _ z.2⟩), hl, hz, fun i x y hx hy => MtN.same e (hr i x y hx hy)⟩
theorem mtN_of : ∀ {k : Nat} {H : Hp} {v w : V}, Mt k H v w → MtN k H v w
  | 0, _, _, _, h => .inr h
  | k + 1, _, _, _, .inl h => .inl (.inr h)
  | k + 1, _, _, _, .inr ⟨a, b, xs, ys, e1, e2, h, hl, hz, hr⟩ => .inr ⟨a, b, xs, ys, e1, e2, h, hl, hz, fun i x y hx hy => mtN_of (hr i x y hx hy)⟩
theorem mtN_up : ∀ {k : Nat} {H : Hp} {v u : V}, MtN k H v u → MtN (k + 1) H v u
  | 0, _, _, _, h => .inl h
  | k + 1, _, _, _, .inl h => .inl h
  | k + 1, _, _, _, .inr ⟨a, b, xs, ys, e1, e2, h, hl, hz, hr⟩ => .inr ⟨a, b, xs, ys, e1, e2, h, hl, hz, fun i x y hx hy => mtN_up (hr i x y hx hy)⟩
theorem mtN_pair {H : Hp} {x y : V} {c : Int × Int} (h1 : PairT H x c) (h2 : PairT H y c) : MtN 1 H x y := by
  obtain ⟨t, rfl, ht⟩ := h1
  obtain ⟨u, rfl, hu⟩ := h2
  refine .inr ⟨t, u, _, _, rfl, rfl, .inr ⟨ht, hu⟩, rfl, (by show 2 ≤ 1000; decide), fun i x y hx hy => ?_⟩
  rw [hx] at hy
  cases hy
  rcases i with _ | _ | i
  · cases hx; exact .inr (.inl ⟨_, rfl, rfl⟩)
  · cases hx; exact .inr (.inl ⟨_, rfl, rfl⟩)
  · cases hx
theorem mtN_list {k : Nat} {α : Type} {R : Hp → V → α → Prop} {H : Hp} {a b : Addr} {xs ys : List V} {ws : List α} (hz : ws.length ≤ 1000) (ha : H a = some (.lst xs)) (hb : H b = some (.lst ys)) (h1 : Paired (R H) xs ws) (h2 : Paired (R H) ys ws) (hR : ∀ x y w, R H x w → R H y w → MtN k H x y) : MtN (k + 1) H (.ref a) (.ref b) := by
  refine .inr ⟨a, b, _, _, rfl, rfl, .inl ⟨ha, hb⟩, by rw [Paired.length h1, Paired.length h2], by rw [Paired.length h2]; exact hz, fun i x y hx hy => ?_⟩
  obtain ⟨c, hc, r1⟩ := paired_get h1 hx
  obtain ⟨d, hd, r2⟩ := paired_get h2 hy
  rw [hc] at hd
  cases hd
  exact hR _ _ _ r1 r2
theorem mtN_two {k : Nat} {H : Hp} {r d : Addr} {z : Str} {x y : V} (hr : H r = some (.tup [.str z, x])) (hd : H d = some (.tup [.str z, y])) (h : MtN k H x y) : MtN (k + 1) H (.ref r) (.ref d) := by
  refine .inr ⟨r, d, _, _, rfl, rfl, .inr ⟨hr, hd⟩, rfl, (by show 2 ≤ 1000; decide), fun i x y hx hy => ?_⟩
  rcases i with _ | _ | i
  · cases hx
    cases hy
    cases k with
    | zero => exact .inr (.inr ⟨_, rfl, rfl⟩)
    | succ k => exact .inl (.inr (.inr ⟨_, rfl, rfl⟩))
  · cases hx
    cases hy
    exact h
  · cases hx
end L2
end
section
namespace L2
open PySem PySem.Spec PyProof.Rows
/-! ### in, not in: the frame named -/
theorem inK {X : Cx} {K : PySem.W.Frag} (h : X.K = K) : OpR X (compareOp .In) (rIn K false) := h ▸ op_in_seq
theorem notInK {X : Cx} {K : PySem.W.Frag} (h : X.K = K) : OpR X (compareOp .NotIn) (rIn K true) := h ▸ op_notIn_seq
theorem inDK {X : Cx} {K : PySem.W.Frag} (h : X.K = K) (hu : X.A.units + 65 < cLine) : OpR X (compareOp .In) (rInD K) := h ▸ op_inD hu
theorem notInDK {X : Cx} {K : PySem.W.Frag} (h : X.K = K) (hu : X.A.units + 65 < cLine) : OpR X (compareOp .NotIn) (rNotInD K) := h ▸ op_notInD hu
theorem sortedPK {X : Cx} {K : PySem.W.Frag} (h : X.K = K) : CallR X (.builtin "sorted") (rSortedP K) := h ▸ cr_sortedP
theorem un65 {k : Nat} {A : Around} (r : Room k A) : A.units + 65 < cLine := by have := r.un; omega
end L2
end
section
set_option maxRecDepth 100000
set_option maxHeartbeats 4000000
namespace L2
open PySem PySem.Spec PyProof.Rows
/-! ### lists of lists of ints as data -/
/-- a list of ints -/
def IntsT (H : Hp) (x : V) (ns : List Int) : Prop := ∃ a, x = .ref a ∧ H a = some (.lst (ns.map V.int))
theorem IntsT.same {H H' : Hp} (e : Same H H') {x : V} {ns : List Int} (h : IntsT H x ns) : IntsT H' x ns := by
  obtain ⟨a, rfl, h⟩ := h
  exact ⟨a, rfl, e _ _ h⟩
def dI (ns : List Int) : PyData := .list (ns.map PyData.int)
theorem lay_ints : ∀ ns : List Int, PyData.canLayAll0 (ns.map PyData.int) = true
  | [] => by rw [List.map_nil]; unfold PyData.canLayAll0; rfl
  | c :: r => by
    rw [List.map_cons]
    unfold PyData.canLayAll0
    rw [lay_ints r]
    unfold PyData.canLay0
    rfl
theorem dep_ints : ∀ ns : List Int, PyData.depthAll (ns.map PyData.int) ≤ 1
  | [] => by rw [List.map_nil]; unfold PyData.depthAll; exact Nat.zero_le _
  | c :: r => by
    rw [List.map_cons]
    unfold PyData.depthAll
    have h := dep_ints r
    have e : (PyData.int c).depth ≤ 1 := by
      unfold PyData.depth
      decide
    omega
theorem shaped_dI (ns : List Int) : SeqAt.shaped (dI ns) = true := by
  unfold SeqAt.shaped dI
  have h := dep_ints ns
  have e : (PyData.list (ns.map PyData.int)).depth ≤ 64 := by
    unfold PyData.depth
    omega
  have f : (PyData.list (ns.map PyData.int)).canLay0 = true := by
    unfold PyData.canLay0
    exact lay_ints ns
  rw [f, decide_eq_true e]
  rfl
theorem lay_rows : ∀ W : List (List Int), PyData.canLayAll0 (W.map dI) = true
  | [] => by rw [List.map_nil]; unfold PyData.canLayAll0; rfl
  | rep :: r => by
    rw [List.map_cons]
    unfold PyData.canLayAll0
    rw [lay_rows r]
    have : (dI rep).canLay0 = true := by
      unfold dI PyData.canLay0
      exact lay_ints rep
    rw [this]
    rfl
theorem dep_rows : ∀ W : List (List Int), PyData.depthAll (W.map dI) ≤ 2
  | [] => by rw [List.map_nil]; unfold PyData.depthAll; exact Nat.zero_le _
  | rep :: r => by
    rw [List.map_cons]
    unfold PyData.depthAll
    have h := dep_rows r
    have e : (dI rep).depth ≤ 2 := by
      have := dep_ints rep
      unfold dI PyData.depth
      omega
    omega
theorem shaped_rows (W : List (List Int)) : SeqAt.shaped (PyData.list (W.map dI)) = true := by
  unfold SeqAt.shaped
  have h := dep_rows W
  have e : (PyData.list (W.map dI)).depth ≤ 64 := by
    unfold PyData.depth
    omega
  have f : (PyData.list (W.map dI)).canLay0 = true := by
    unfold PyData.canLay0
    exact lay_rows W
  rw [f, decide_eq_true e]
  rfl
theorem dp_dI {K : PySem.W.Frag} {H : Hp} {x : V} {ns : List Int} (h : IntsT H x ns) : Dp K H x (dI ns) := by
  obtain ⟨a, rfl, h⟩ := h
  exact dp_ints (SqL.of h)
theorem dp_rows {K : PySem.W.Frag} {H : Hp} {xs : List V} {W : List (List Int)} (h : Paired (IntsT H) xs W) : DpAll K H xs (W.map dI) := by
  induction h with
  | nil => exact .nil
  | cons a _ ih => exact .cons (dp_dI a) ih
theorem eqv_intsAll : ∀ a b : List Int, PyData.eqvAll (a.map PyData.int) (b.map PyData.int) = decide (a = b)
  | [], [] => by simp [PyData.eqvAll]
  | [], _ :: _ => by simp [PyData.eqvAll]
  | _ :: _, [] => by simp [PyData.eqvAll]
  | x :: a, y :: b => by
    rw [List.map_cons, List.map_cons]
    unfold PyData.eqvAll
    rw [eqv_intsAll a b]
    have : PyData.eqv (.int x) (.int y) = decide (x = y) := by
      unfold PyData.eqv
      rw [Bool.eq_iff_iff, decide_eq_true_eq]
      exact beq_iff_eq
    rw [this, Bool.eq_iff_iff, Bool.and_eq_true, decide_eq_true_eq, decide_eq_true_eq, decide_eq_true_eq, List.cons.injEq]
theorem eqv_dI (a b : List Int) : PyData.eqv (dI a) (dI b) = decide (a = b) := by
  unfold dI PyData.eqv
  exact eqv_intsAll a b
/-- row not in rows, by what it comes to -/
theorem notin_rows {K : PySem.W.Frag} {H : Hp} {x : V} {a : Addr} {xs : List V} {r : List Int} {W : List (List Int)} {Q : VK} (hx : IntsT H x r) (ha : H a = some (.lst xs)) (h : Paired (IntsT H) xs W) (q : Q (.bl (!decide (r ∈ W))) H) : rNotInD K x (.ref a) H Q := by
  refine ⟨dI r, W.map dI, dp_dI hx, .lst (SqL.of ha) (dp_rows h), shaped_dI r, shaped_rows W, ?_⟩
  have e : ((W.map dI).any fun z => PyData.eqv z (dI r)) = decide (r ∈ W) := by
    rw [List.any_map, Bool.eq_iff_iff, List.any_eq_true, decide_eq_true_eq]
    constructor
    · rintro ⟨s, hs, e⟩
      have e : decide (s = r) = true := by rw [← eqv_dI]; exact e
      rw [← of_decide_eq_true e]
      exact hs
    · intro hr
      refine ⟨r, hr, ?_⟩
      show PyData.eqv (dI r) (dI r) = true
      rw [eqv_dI]
      exact decide_eq_true rfl
  rw [e]
  exact q
end L2
end
section
set_option maxRecDepth 100000
set_option maxHeartbeats 4000000
namespace L2
open PySem PySem.Spec PyProof.Rows
/-! ### the answer of an ask that was refused: ("raised", [(name, ..)]) -/
def RsdX (H : Hp) (r : Addr) (tl : List V) : Prop := ∃ l t, H r = some (.tup [.str "raised", .ref l]) ∧ H l = some (.lst [.ref t]) ∧ H t = some (.tup tl)
theorem RsdX.same {H H' : Hp} {r : Addr} {tl : List V} (h : RsdX H r tl) (e : Same H H') : RsdX H' r tl := by
  obtain ⟨m1, m2, z1, z2, z3⟩ := h
  exact ⟨m1, m2, e _ _ z1, e _ _ z2, e _ _ z3⟩
def dRsX (ds : List PyData) : PyData := .tuple [.str "raised", .list [.tuple ds]]
theorem RsdX.dp {K : PySem.W.Frag} {H : Hp} {r : Addr} {tl : List V} {ds : List PyData} (h : RsdX H r tl) (hd : DpAll K H tl ds) : Dp K H (.ref r) (dRsX ds) := by
  obtain ⟨l, t, h1, h2, h3⟩ := h
  exact .tup (SqT.of h1) (.cons (.str _) (.cons (.lst (SqL.of h2) (.cons (.tup (SqT.of h3) hd) .nil)) .nil))
theorem str_raised : PyData.strOk (Str.ofString "raised") = true := by decide +kernel
theorem shaped_rsX {ds : List PyData} (h1 : PyData.canLayAll0 ds = true) (h2 : PyData.depthAll ds ≤ 0) : SeqAt.shaped (dRsX ds) = true := by
  have e1 : (dRsX ds).canLay0 = true := by
    unfold dRsX
    simp [PyData.canLay0, PyData.canLayAll0, str_raised, h1]
  have e2 : (dRsX ds).depth ≤ 64 := by
    unfold dRsX
    simp [PyData.depth, PyData.depthAll]
    omega
  unfold SeqAt.shaped
  rw [e1, decide_eq_true e2]
  rfl
section
variable {K : PySem.W.Frag} {H : Hp} {a b : Addr} {tl : List V} {ds : List PyData} {Q : VK}
theorem ne_rsX (hd : DpAll K H tl ds) (hl1 : PyData.canLayAll0 ds = true) (hl2 : PyData.depthAll ds ≤ 0) (h1 : RsdX H a tl) (h2 : RsdX H b tl) (q : Q (.bl false) H) : rNeD K (.ref a) (.ref b) H Q := by
  have hs := shaped_rsX hl1 hl2
  refine ⟨_, _, h1.dp hd, h2.dp hd, hs, hs, ?_⟩
  rw [eqv_self hs]
  exact q
theorem eq_rsX (hd : DpAll K H tl ds) (hl1 : PyData.canLayAll0 ds = true) (hl2 : PyData.depthAll ds ≤ 0) (h1 : RsdX H a tl) (h2 : RsdX H b tl) (q : Q (.bl true) H) : rEqD K (.ref a) (.ref b) H Q := by
  have hs := shaped_rsX hl1 hl2
  refine ⟨_, _, h1.dp hd, h2.dp hd, hs, hs, ?_⟩
  rw [eqv_self hs]
  exact q
theorem ne_int2 {z : Str} {x y : Int} (hz : PyData.strOk z = true) (h1 : RsdX H a [.str z, .int x, .int y]) (h2 : RsdX H b [.str z, .int x, .int y]) (q : Q (.bl false) H) : rNeD K (.ref a) (.ref b) H Q :=
  ne_rsX (ds := [.str z, .int x, .int y]) (.cons (.str _) (.cons (.int _) (.cons (.int _) .nil))) (by simp [PyData.canLayAll0, PyData.canLay0, hz]) (by simp [PyData.depthAll, PyData.depth]) h1 h2 q
theorem ne_int {z : Str} {x : Int} (hz : PyData.strOk z = true) (h1 : RsdX H a [.str z, .int x]) (h2 : RsdX H b [.str z, .int x]) (q : Q (.bl false) H) : rNeD K (.ref a) (.ref b) H Q :=
  ne_rsX (ds := [.str z, .int x]) (.cons (.str _) (.cons (.int _) .nil)) (by simp [PyData.canLayAll0, PyData.canLay0, hz]) (by simp [PyData.depthAll, PyData.depth]) h1 h2 q
theorem ne_str {z y : Str} (hz : PyData.strOk z = true) (hy : PyData.strOk y = true) (h1 : RsdX H a [.str z, .str y]) (h2 : RsdX H b [.str z, .str y]) (q : Q (.bl false) H) : rNeD K (.ref a) (.ref b) H Q :=
  ne_rsX (ds := [.str z, .str y]) (.cons (.str _) (.cons (.str _) .nil)) (by simp [PyData.canLayAll0, PyData.canLay0, hz, hy]) (by simp [PyData.depthAll, PyData.depth]) h1 h2 q
theorem eq_int {z : Str} {x : Int} (hz : PyData.strOk z = true) (h1 : RsdX H a [.str z, .int x]) (h2 : RsdX H b [.str z, .int x]) (q : Q (.bl true) H) : rEqD K (.ref a) (.ref b) H Q :=
  eq_rsX (ds := [.str z, .int x]) (.cons (.str _) (.cons (.int _) .nil)) (by simp [PyData.canLayAll0, PyData.canLay0, hz]) (by simp [PyData.depthAll, PyData.depth]) h1 h2 q
theorem eq_str {z y : Str} (hz : PyData.strOk z = true) (hy : PyData.strOk y = true) (h1 : RsdX H a [.str z, .str y]) (h2 : RsdX H b [.str z, .str y]) (q : Q (.bl true) H) : rEqD K (.ref a) (.ref b) H Q :=
  eq_rsX (ds := [.str z, .str y]) (.cons (.str _) (.cons (.str _) .nil)) (by simp [PyData.canLayAll0, PyData.canLay0, hz, hy]) (by simp [PyData.depthAll, PyData.depth]) h1 h2 q
end
theorem perm_eraseIdx {α : Type} : ∀ {l : List α} {i : Nat} {v : α}, l[i]? = some v → (v :: l.eraseIdx i).Perm l
  | [], _, _, h => by cases h
  | x :: l, 0, v, h => by
    cases h
    exact List.Perm.refl _
  | x :: l, i + 1, v, h => by
    have ih := perm_eraseIdx (l := l) (i := i) (v := v) h
    show (v :: x :: l.eraseIdx i).Perm (x :: l)
    exact (List.Perm.swap x v _).trans (ih.cons x)
theorem Rz.mono {E : XK} {H H' : Hp} {C : Addr} {f : Str} {v : V} (r : Rz E H C f v) (e : Same H H') : Rz E H' C f v := fun d H2 s hd => r d H2 (e.trans s) hd
theorem Rz2.mono {E : XK} {H H' : Hp} {C : Addr} {f g : Str} {v u : V} (r : Rz2 E H C f g v u) (e : Same H H') : Rz2 E H' C f g v u := fun d H2 s hd => r d H2 (e.trans s) hd
theorem QuadT.but {H H' : Hp} {D : Addr} {ys : List V} (hD : H D = some (.lst ys)) (e : But D H H') {x : V} {c : Q4} (h : QuadT H x c) : QuadT H' x c := by
  obtain ⟨t, rfl, h⟩ := h
  exact ⟨t, rfl, e _ _ h fun z => by rw [z, hD] at h; cases h⟩
theorem mk_rsd {H : Hp} {t l d : Addr} {tl : List V} (h1 : H t = none) (h2 : upd H t (.tup tl) l = none) (h3 : upd (upd H t (.tup tl)) l (.lst [V.ref t]) d = none) :
    Same H (upd (upd (upd H t (.tup tl)) l (.lst [V.ref t])) d (.tup [.str "raised", .ref l])) ∧ RsdX (upd (upd (upd H t (.tup tl)) l (.lst [V.ref t])) d (.tup [.str "raised", .ref l])) d tl := by
  obtain ⟨s1, g1⟩ := new2 (.tup tl) h1
  obtain ⟨s2, g2⟩ := new2 (.lst [V.ref t]) h2
  obtain ⟨s3, g3⟩ := new2 (.tup [.str "raised", .ref l]) h3
  exact ⟨s1.trans (s2.trans s3), l, t, g3, s3 _ _ g2, s3 _ _ (s2 _ _ g1)⟩
/-- making ("raised", [(..)]) in the middle of an expression -/
theorem rsd_lit {H : Hp} {tl : List V} {R : VK} (hl : tl.length ≤ sizeLine) (k : ∀ d H', Same H H' → RsdX H' d tl → R (.ref d) H') :
    tl.length ≤ sizeLine ∧ ∀ t, H t = none → (1 ≤ sizeLine ∧ ∀ l, upd H t (.tup tl) l = none → (2 ≤ sizeLine ∧ ∀ d, upd (upd H t (.tup tl)) l (.lst [V.ref t]) d = none → R (.ref d) (upd (upd (upd H t (.tup tl)) l (.lst [V.ref t])) d (.tup [.str "raised", .ref l])))) :=
  ⟨hl, fun t h1 => ⟨by decide, fun l h2 => ⟨by decide, fun d h3 => by
    obtain ⟨s, g⟩ := mk_rsd h1 h2 h3
    exact k d _ s g⟩⟩⟩
end L2
end
section
set_option maxRecDepth 100000
set_option maxHeartbeats 4000000
/-! sorted(xs, key=lambda one: ..), the lambda with captured names -/
namespace L2
open PySem PySem.Spec PyProof.Rows LamX NdefX
def CXF : CXT := fun _ _ _ _ _ _ => False
section
variable {P : Program} {w : World} {K : PySem.W.Frag} {mg : Str → Option Value} {base : Heap} {N ps fr : List Str} {F : NF} {body : Expr} {f : Addr} {k : Nat} {A : Around} {outer : List Env} {s : Shared} {H : Hp} {us : List Value} {vs : List V} {ws : List (Option V)} {Q : VK} {E : XK} {pm ctv : Value} {tb : TE}
/-- a lambda called -/
theorem run_lam (S : NScope N ps fr F.scope) (hr : Room (k + 1) A) (e0 : Env0 P w K mg base A outer s H)
    (hf : s.heap.get? f = some (PySem.W.kla_obj F.name F.qual F.params body F.scope F.cl pm F.c ctv)) (hc : H F.c = some (CodeO F.c F.qual))
    (hb : ∀ (us : List Value), us.length = ps.length → bindArgs (PySem.W.kla_fn F.name F.qual F.params body F.scope F.cl pm (.ref F.c) ctv) ⟨us, []⟩ = pure (ps.zip us))
    (hl : vs.length = ps.length) (r : Vals vs us) (C : CellsAt F.cl fr ws s.heap H)
    (hbody : Room k (A.deeper (envF F f s.heap.objs.size)) → PE (ncx CXF P w K mg base N F f A outer s H E) body tb) (hq : tb (startF N vs ws) H Q) :
    codeAny (model P w) A (.call (.ref f) ⟨us, []⟩) (CR CXF outer P w H s Q E) s := by
  have lim : s.heap.NoLimit := e0.mod.nolimit.keeps fun b o e => (e0.bs b o e).1
  refine PySem.W.kla_callFunE hr.depth hf rfl S.co S.gen rfl (codeO_at e0.hok hc) ?_
  rw [hb us (by rw [← r.length]; exact hl)]
  refine wpAny_pure (wpAny_newFunctionEnv S.nocell (fun ⟨n, _⟩ hy => S.par n (List.of_mem_zip hy).1) (fun h₁ hns hsb => ⟨lim.fresh _ hsb, ?_⟩) S.kind)
  show codeAny _ _ (.expr body (envF F f s.heap.objs.size)) _ _
  have kp : ∀ b o, s.heap.get? b = some o → h₁.get? b = some o := fun b o e => hsb.extBut b o (Nat.ne_of_lt (Heap.lt_size e)) (Heap.get?_push_of_some _ e)
  have I : Inv (ncx CXF P w K mg base N F f A outer s H E) [] (startF N vs ws) H { s with heap := h₁, toks := s.toks + (ps.zip us).length } := inv_startN S hr.hd e0 hl r C hns kp
  refine PySem.W.kla_codeExpr (wpAny_mono ((hbody (hr.deeper _)).run [] _ _ H Q I hq) (fun v s' hq => ?_) fun e s' hq => hq)
  obtain ⟨w', H', J, rv, q⟩ := hq
  exact ⟨w', H', J.os, J.bare, J.base, J.hok, rv, q⟩
end
end L2
namespace L2
open PySem PySem.Spec PySem.Calls PyProof.Rows LamX NdefX
section
variable {X : Cx} {pins : List (Addr × Obj)} {σ : St} {H : Hp} {s : Shared}
theorem each_dp (I : Inv X pins σ H s) : ∀ {kvs : List V} {us : List Value} {ds : List PyData}, Vals kvs us → DpAll X.K H kvs ds → PySem.W.EachIs (fun u d => ∃ as, Reads s.heap u d as) us ds
  | _, _, _, .nil, h => by cases h; exact .nil
  | _, _, _, .cons r t, h => by
    cases h with
    | cons a b => exact .cons (Dp.reads I _ _ _ a r) (each_dp I t b)
theorem each_zip {ds : List PyData} {xs : List V} {us : List Value} (r : Vals xs us) (h : ds.length = xs.length) : PySem.W.EachIs (fun (u : Value) (p : V × PyData) => RelV p.1 u) us (xs.zip ds) := by
  induction r generalizing ds with
  | nil => exact .nil
  | cons a _ ih =>
    cases ds with
    | nil => cases h
    | cons d ds => exact .cons a (ih (by simpa using h))
theorem vals_fst {ps : List (V × PyData)} {us : List Value} (h : PySem.W.EachIs (fun (u : Value) (p : V × PyData) => RelV p.1 u) us ps) : Vals (ps.map Prod.fst) us := by
  induction h with
  | nil => exact .nil
  | cons a _ ih => exact .cons a ih
theorem dpAll_snoc {K : PySem.W.Frag} {v : V} {d : PyData} : ∀ {vs : List V} {ds : List PyData}, DpAll K H vs ds → Dp K H v d → DpAll K H (vs ++ [v]) (ds ++ [d])
  | _, _, .nil, h => .cons h .nil
  | _, _, .cons a b, h => .cons a (dpAll_snoc b h)
theorem vals_snoc {v : V} {u : Value} : ∀ {vs : List V} {us : List Value}, Vals vs us → RelV v u → Vals (vs ++ [v]) (us ++ [u])
  | _, _, .nil, h => .cons h .nil
  | _, _, .cons a b, h => .cons a (vals_snoc b h)
mutual
theorem dp_sameK {K : PySem.W.Frag} {H H' : Hp} (e : Same H H') : ∀ {v : V} {d : PyData}, Dp K H v d → Dp K H' v d
  | _, _, .non => .non
  | _, _, .bl b => .bl b
  | _, _, .int i => .int i
  | _, _, .str x => .str x
  | _, _, .lst h a =>   .lst (e.seq h) (dpAll_sameK e a)
  | _, _, .tup h a =>   .tup (e.tup h) (dpAll_sameK e a)
theorem dpAll_sameK {K : PySem.W.Frag} {H H' : Hp} (e : Same H H') : ∀ {vs : List V} {ds : List PyData}, DpAll K H vs ds → DpAll K H' vs ds
  | _, _, .nil => .nil
  | _, _, .cons a b => .cons (dp_sameK e a) (dpAll_sameK e b)
end
end
end L2
end
section
set_option maxRecDepth 100000
set_option maxHeartbeats 4000000
namespace L2
open PySem PySem.Spec PySem.Calls PyProof.Rows LamX NdefX
/-- the list that sorted(xs, key=..) gives: ds the keys -/
def keyed (xs : List V) (ds : List PyData) : List V := ((xs.zip ds).mergeSort (PySem.W.dataLe false Prod.snd)).map Prod.fst
theorem keyed_perm {xs : List V} {ds : List PyData} (h : ds.length = xs.length) : (keyed xs ds).Perm xs := by
  unfold keyed
  refine ((List.mergeSort_perm _ _).map Prod.fst).trans ?_
  rw [List.map_fst_zip (by omega)]
section
variable {X : Cx} {pins : List (Addr × Obj)} {σ : St} {H : Hp} {s : Shared}
theorem freed_get {h : Heap} {k : Addr} (o : Obj) : (h.update k fun _ => { o with data := .freed }).get? k = none := by
  unfold Heap.get? Heap.update
  cases h with
  | mk objs l => 
    show (match (objs.modify k fun _ => { o with data := .freed })[k]? with | some ⟨_, _, .freed, _⟩ => none | o => o) = none
    rw [Array.getElem?_modify]
    cases objs[k]? <;> simp
theorem sorted_lam {F : NF} {body : Expr} {f l : Addr} {pm ctv : Value} {N fr : List Str} {js : List Nat} {tb : TE} {x0 : Str} {k : Nat} {xs : List V} {ds : List PyData} {Q : VK}
    (I : Inv X pins σ H s) (S : NScope N [x0] fr F.scope) (hr : Room (k + 3) X.A) (hf : s.heap.get? f = some (PySem.W.kla_obj F.name F.qual F.params body F.scope F.cl pm F.c ctv)) (hfn : H f = none) (hfr : f ∉ frs X.stack)
    (hc : H F.c = some (CodeO F.c F.qual)) (hb : ∀ (us : List Value), us.length = 1 → bindArgs (PySem.W.kla_fn F.name F.qual F.params body F.scope F.cl pm (.ref F.c) ctv) ⟨us, []⟩ = pure ([x0].zip us)) (cp : X.Ok → Caps X F.cl fr js)
    (hs : SqL X.K H l xs) (hl : ds.length = xs.length) (hal : PySem.W.AllAlike ds) (hsk : PySem.W.Sortable ds) (hdp : ∀ d ∈ ds, d.depth ≤ 64)
    (hbody : ∀ (A : Around) (outer : List Env) (s : Shared) (H : Hp), Room k (A.deeper (envF F f s.heap.objs.size)) → PE (ncx CXF X.prog X.w X.K X.mg X.base N F f A outer s H C8.E0) body tb)
    (turn : ∀ (i : Nat) (x : V) (d : PyData), xs[i]? = some x → ds[i]? = some d → ∀ H', Same H H' → tb (startF N [x] (js.map (NdefX.slotAt σ))) H' fun v H'' => Same H' H'' ∧ Dp X.K H'' v d)
    (q : ∀ (p : Addr) H', Same H H' → H p = none → H' p = none → Q (.ref p) (upd H' p (.lst (keyed xs ds)))) :
    wpAny (model X.prog X.w) X.A (call (.builtin "sorted") [.ref l] [(Str.ofString "key", .ref f)]) (EP X pins σ Q) X.xe s := by
  obtain ⟨its, rv, hpl, hz⟩ := I.list hs
  have hlz : its.length ≤ sizeLine := by rw [← rv.length]; exact hz
  refine PySem.W.sorted_of_sort hpl.isList hlz (ksk_s1 _ _) (fun _ => ksk_l1 _ _) fun E' => ?_
  rw [ksk_t1]
  have ho := PySem.W.copyHeap_at s.heap its
  have ha0 : s.heap.objs.size ≤ s.heap.objs.size + 1 := by omega
  generalize hA : s.heap.objs.size + 1 = a at ho ha0 ⊢
  have ha : a < (PySem.W.copyHeap s.heap its).objs.size := Heap.lt_size ho
  obtain ⟨e1, ho1⟩ : ∃ e1, ((PySem.W.copyHeap s.heap its).update a (Obj.mapSeq fun _ => (#[] : Array Value))).get? a = some (seqObj "list" #[] e1) := ⟨_, get?_update_seq ho fun _ => #[]⟩
  have hkS : (((PySem.W.copyHeap s.heap its).update a (Obj.mapSeq fun _ => (#[] : Array Value))).push (seqObj "tuple" its.toArray 0)).objs.size = (PySem.W.copyHeap s.heap its).objs.size + 1 := by rw [size_push', Heap.size_update]
  unfold ksk_tree
  refine wpAny_bind (listItems_at ho rfl ?_)
  refine wpAny_bind (listUpdate_at ho rfl ?_ (by rw [List.size_toArray]; exact hlz) (Nat.zero_le _))
  refine wpAny_bind (seqEpoch_at ho1 rfl ?_)
  refine wpAny_bind (wpAny_newTuple ?_ (by show its.length ≤ _; exact hlz))
  refine wpAny_bind (wpAny_newList ?_ (Nat.zero_le _))
  refine wpAny_holding ?_
  generalize hKd : (((PySem.W.copyHeap s.heap its).update a (Obj.mapSeq fun _ => (#[] : Array Value))).push (seqObj "tuple" its.toArray 0)).objs.size = kS at hkS ⊢
  have hka : kS ≠ a := by omega
  have hk0 : s.heap.objs.size ≤ kS := by omega
  have hfk : ∀ H', H' kS = none → FpOk X pins H' kS := fun H' h => I.fpOk hk0 h
  have hfa : ∀ H', H' a = none → FpOk X pins H' a := fun H' h => I.fpOk ha0 h
  have nfr : ∀ b, s.heap.objs.size ≤ b → b ∉ frs X.stack := fun b hb z => by
    rcases List.mem_cons.mp (I.stkSub b z) with e | e
    · rw [e] at hb
      exact absurd (Nat.lt_of_lt_of_le I.lt hb) (Nat.lt_irrefl _)
    · exact I.nofs hb e
  have hna := nfr a ha0
  have hnk := nfr kS hk0
  have hHa : H a = none := I.hok.fresh ha0
  have hHk : H kS = none := I.hok.fresh hk0
  -- the state at which the keys are asked
  have hold : ∀ b o, s.heap.get? b = some o → ((((PySem.W.copyHeap s.heap its).update a (Obj.mapSeq fun _ => (#[] : Array Value))).push (seqObj "tuple" its.toArray 0)).push (seqObj "list" #[] 0)).get? b = some o := fun b o e => by
    have := PySem.W.sorting_copy_old (vs := its) e
    rw [hA] at this
    exact this
  have hat : ((((PySem.W.copyHeap s.heap its).update a (Obj.mapSeq fun _ => (#[] : Array Value))).push (seqObj "tuple" its.toArray 0)).push (seqObj "list" #[] 0)).get? a = some (seqObj "list" #[] e1) :=
    Heap.get?_push_of_some _ (Heap.get?_push_of_some _ ho1)
  have hkt : ((((PySem.W.copyHeap s.heap its).update a (Obj.mapSeq fun _ => (#[] : Array Value))).push (seqObj "tuple" its.toArray 0)).push (seqObj "list" #[] 0)).get? kS = some (seqObj "list" #[] 0) := by
    rw [← hKd]
    exact Heap.get?_push_size _ rfl
  have I0 := I.kept (t' := s.toks) hold
  generalize ((((PySem.W.copyHeap s.heap its).update a (Obj.mapSeq fun _ => (#[] : Array Value))).push (seqObj "tuple" its.toArray 0)).push (seqObj "list" #[] 0)) = h0 at hold hat hkt I0 ⊢
  have hr2 : Room (k + 1) X.A.in1.in1 := hr.in1.in1
  unfold ksk_rest
  refine wpAny_bind (wpAny_rule ?_)
  first
    | rw [List.forIn_toArray]
    | (rw [← Array.forIn_toList]; simp only [List.toList_toArray])
    | rw [← Array.forIn_toList]
  refine wpAny_bind (ksk_fold (fun i s' => ∃ H' kA e kvs, Inv X pins σ H' s' ∧ Same H H' ∧ H' a = none ∧ H' kS = none ∧ H' f = none ∧ s'.heap.get? a = some (seqObj "list" #[] e1) ∧ s'.heap.get? kS = some (seqObj "list" kA e) ∧
    s'.heap.get? f = some (PySem.W.kla_obj F.name F.qual F.params body F.scope F.cl pm F.c ctv) ∧ Vals kvs kA.toList ∧ DpAll X.K H' kvs (ds.take i)) its 0 _ ⟨H, #[], 0, [], I0, Same.refl H, hHa, hHk, hfn, hat, hkt, hold _ _ hf, .nil, .nil⟩ ?_ ?_)
  · rintro j v s' hv ⟨H', kA, e, kvs, I', sm, na, nk, nf, ga, gk, gf, rk, dk⟩
    simp only [Nat.zero_add] at dk ⊢
    have hj : j < its.length := (List.getElem?_eq_some_iff.mp hv).1
    have hjx : j < xs.length := by rw [rv.length]; exact hj
    obtain ⟨x, hx⟩ : ∃ x, xs[j]? = some x := ⟨_, List.getElem?_eq_getElem hjx⟩
    obtain ⟨d, hd⟩ : ∃ d, ds[j]? = some d := ⟨_, List.getElem?_eq_getElem (by omega)⟩
    obtain ⟨v', hv', rxv⟩ := rv.get hx
    rw [hv] at hv'
    cases hv'
    have hkl : kA.size ≤ its.length := by
      have h1 := (each_dp I' rk dk).length
      rw [Array.length_toList, List.length_take] at h1
      omega
    refine wpAny_bind (wpAny_attempt (wpAny_call (codeAny_mono (run_lam (E := C8.E0) S hr2 I'.env0.in1.in1 gf (sm _ _ hc) hb rfl (.cons rxv .nil) (NdefX.cells_of I' (cp I'.ok)) (fun hr => hbody _ _ _ _ hr) (turn j x d hx hd H' sm)) fun r s'' hq => ?_)))
    cases r with
    | error e => exact False.elim hq
    | ok fl =>
      cases fl with
      | next => exact False.elim hq
      | brk => exact False.elim hq
      | cont => exact False.elim hq
      | ret u =>
        obtain ⟨kv, H'', os, bare, un, hok, ru, sm2, dv⟩ := hq
        obtain ⟨_, G, I2, _, _, eG⟩ := I'.after (Q := fun v H => v = kv ∧ H = H'') ⟨kv, H'', os, bare, un, hok, ru, rfl, rfl⟩
        rw [eG] at I2
        have ga2 := un.keep _ _ ga na hna (by simp)
        have gk2 := un.keep _ _ gk nk hnk (by simp)
        have gf2 := un.keep _ _ gf nf hfr (by simp)
        have na2 := un.free _ _ ga na (by simp)
        have nk2 := un.free _ _ gk nk (by simp)
        have nf2 := un.free _ _ gf nf (by simp)
        have nfk : f ≠ kS := fun z => by
          rw [z, gk2] at gf2
          have e := congrArg Obj.data (Option.some.inj gf2)
          cases e
        try dsimp only
        have s1 := Heap.SameBut.update s''.heap kS (Obj.mapSeq (·.push u))
        obtain ⟨c2, hc2⟩ : ∃ c2, (s''.heap.update kS (Obj.mapSeq (·.push u))).get? kS = some (seqObj "list" (kA.push u) c2) := ⟨_, get?_update_seq gk2 (·.push u)⟩
        refine wpAny_bind (listUpdate_at gk2 rfl ?_ (Nat.le_trans hkl hlz) (Nat.le_trans (Nat.le_of_eq (Array.size_push ..)) (Nat.succ_le_succ (Nat.le_trans hkl hlz))))
        obtain ⟨_, hL, _, h1, h2, h3⟩ := hfk _ nk2
        have I3 := I2.turned (t' := s''.toks) (it := kS) (fun b o hb e => (s1.2 b hb).trans e) nk2 hL h1 h2 h3
        refine wpAny_pure ⟨rfl, _, kA.push u, c2, kvs ++ [kv], I3, sm.trans sm2, na2, nk2, nf2, (s1.2 a hka.symm).trans ga2, hc2, (s1.2 f nfk).trans gf2, ?_, ?_⟩
        · rw [Array.toList_push]
          exact vals_snoc rk ru
        · rw [take_get hd]
          exact dpAll_snoc (dpAll_sameK sm2 dk) dv
  · rintro s' ⟨H', kA, e, kvs, I', sm, na, nk, nf, ga, gk, gf, rk, dk⟩
    simp only [Nat.zero_add] at dk
    rw [List.take_of_length_le (by rw [hl, rv.length]; exact Nat.le_refl _)] at dk
    have hk' := each_dp I' rk dk
    have hsz : kA.size = its.length := by
      have h1 := hk'.length
      rw [Array.length_toList] at h1
      rw [h1, hl, rv.length]
    try dsimp only
    refine wpAny_bind (listItems_at gk rfl ?_)
    have kp : PySem.W.KeepsBut a (s'.heap.update kS fun _ => { seqObj "list" kA e with data := .freed }) s'.heap := fun b o hb q => by
      by_cases z : b = kS
      · rw [z, freed_get] at q
        cases q
      · rw [Heap.get?_update_ne _ _ _ _ z] at q
        exact q
    refine PySem.W.keyH_end (κ := PySem.W.dataKind s'.heap ds) (h₁ := s'.heap.update kS fun _ => { seqObj "list" kA e with data := .freed }) kp (freed_get _) gk ga hka (PySem.W.SortsAt.data (s := s') hk' hal hsk fun d hd => ?_) hsz hlz fun h3 tk3 c k3 n3 => ⟨rfl, ?_⟩
    · have := hdp d hd
      have := hr2.un
      omega
    have kall : ∀ b o, b ∉ [kS, a] → s'.heap.get? b = some o → h3.get? b = some o := fun b o hb q => by
      rw [List.mem_cons, List.mem_cons, not_or, not_or] at hb
      exact k3 b o hb.2.1 ((Heap.get?_update_ne _ _ _ _ hb.1).trans q)
    have I3 := I'.turnedL (t' := tk3) (ch := [kS, a]) kall (fun b hb => by
      rcases List.mem_cons.mp hb with rfl | hb
      · exact hfk H' nk
      · rw [List.mem_singleton.mp hb]
        exact hfa H' na)
    have ez : (xs.zip ds).map Prod.snd = ds := List.map_snd_zip (by omega)
    have eo := PySem.W.keyedOut_each (rev := false) (bs := xs.zip ds) (vs := its) (R := fun (u : Value) (p : V × PyData) => RelV p.1 u) Prod.snd (by rw [ez]; exact ⟨s'.heap, kA.toList, hal, rfl, hk'⟩) (each_zip rv hl)
    have ev := vals_fst eo
    have I4 := I3.take (t' := tk3) (it := a) (o := .lst (keyed xs ds)) (h' := h3) (fun b ob _ e => e) (hfa H' na) ⟨by rw [(keyed_perm hl).length_eq]; exact hz, _, c, ev, n3⟩
    exact ⟨.ref a, _, I4, rfl, q a H' sm hHa na⟩
end
end L2
end
section
set_option maxRecDepth 100000
set_option maxHeartbeats 4000000
namespace L2
open PySem PySem.Spec PySem.Calls PyProof.Rows LamX NdefX
def sortPost (K : PySem.W.Frag) (T : List (Addr × Str)) (N : List Str) (js : List Nat) (tb : TE) (σ : St) (Q : VK) (v : V) (H1 : Hp) : Prop := ∃ (l : Addr) (xs : List V) (ds : List PyData), v = .ref l ∧ SqL K H1 l xs ∧ Tabs T H1 ∧ ds.length = xs.length ∧ PySem.W.AllAlike ds ∧ PySem.W.Sortable ds ∧ (∀ d ∈ ds, d.depth ≤ 64) ∧
  ∀ H2, ExtN H1 H2 → Tabs T H2 → (∀ (i : Nat) (x : V) (d : PyData), xs[i]? = some x → ds[i]? = some d → ∀ H3, Same H2 H3 → tb (startF N [x] (js.map (NdefX.slotAt σ))) H3 fun kv H4 => Same H3 H4 ∧ Dp K H4 kv d) ∧
    ∀ (p : Addr) H3, Same H2 H3 → H2 p = none → H3 p = none → Q (.ref p) (upd H3 p (.lst (keyed xs ds)))
def tSortLam (K : PySem.W.Frag) (T : List (Addr × Str)) (N : List Str) (js : List Nat) (te tb : TE) : TE := fun σ H Q => te σ H (sortPost K T N js tb σ Q)
theorem extN_seq {K : PySem.W.Frag} {H H' : Hp} {a : Addr} {xs : List V} (e : ExtN H H') (h : SqL K H a xs) : SqL K H' a xs := by
  rcases h with h | h
  · refine .inl ?_
    rcases h with h | ⟨o, h⟩
    · exact .inl (e _ _ h fun ps z => by cases z)
    · exact .inr ⟨o, e _ _ h fun ps z => by cases z⟩
  · exact .inr h
theorem pe_sortLam {X : Cx} {T : List (Addr × Str)} {c P : Addr} {k : Nat} {params : Arguments} {body e : Expr} {scope : Scope} {lpos p pos kpos : Pos} {te tb : TE} {x0 : Str} {fr N : List Str} {js : List Nat}
    (hg : Gl X "sorted") (hm : X.mg "sorted" = none) (ha : PA X [e] (tCons te tNil)) (TB : TabB X.base X.mg c P) (hcode : X.env.code = .ref c) (hmT : (P, X.env.qual ++ "<lambda>") ∈ T) (hu : ∀ p ∈ T, p.1 = P → p.2 = X.env.qual ++ "<lambda>") (hr : Room (k + 3) X.A) (S : NScope N [x0] fr scope)
    (hfree : ∀ y ∈ scope.names, y.2 = .free → X.env.scope.names.lookup y.1 = some .cell ∨ X.env.scope.names.lookup y.1 = some .free) (hfr : ∀ y ∈ fr, (y, NameKind.free) ∈ scope.names) (hjs : js.map (fun j => X.N[j]?) = fr.map some)
    (hdef : defaultsOf params X.env = ([], [])) (hbind : ∀ (q : Str) (cl : List (Str × Addr)) (pm cv ctv u : Value), bindArgs (PySem.W.kla_fn "<lambda>" q params body scope cl pm cv ctv) ⟨[u], []⟩ = pure [(x0, u)])
    (hbody : ∀ (q : Str) (cl : List (Str × Addr)) (c' f : Addr) (A : Around) (outer : List Env) (s : Shared) (H : Hp), Room k (A.deeper (envF ⟨"<lambda>", q, params, [], scope, cl, c'⟩ f s.heap.objs.size)) → PE (ncx CXF X.prog X.w X.K X.mg X.base N ⟨"<lambda>", q, params, [], scope, cl, c'⟩ f A outer s H C8.E0) body tb)
    (hse : backTo pos (starEach [e] X.env) = (false, eval e X.env) :: backTo pos (starEach [] X.env) := by rfl) (hpl : (backTo pos (starEach [e] X.env)).any (·.1) = false := by rfl)
    (hall : (backToKw pos (keywordEach [⟨some "key", .Lambda params body scope lpos, kpos⟩] X.env)).all (·.1.isSome) = true := by rfl) (hnone : (backToKw pos (keywordEach [⟨some "key", .Lambda params body scope lpos, kpos⟩] X.env)).any (·.1.isNone) = false := by rfl)
    (hks : (backToKw pos (keywordEach [⟨some "key", .Lambda params body scope lpos, kpos⟩] X.env)).filterMap (·.1) = [Str.ofString "key"] := by rfl) :
    PE X (.Call (.Name "sorted" p) [e] [⟨some "key", .Lambda params body scope lpos, kpos⟩] pos) (tSortLam X.K T N js te tb) := by
  refine ⟨fun pins s σ H Q I h => ?_⟩
  refine wpAny_Call_Name_kw (ld_blt I hg hm (by rfl) ?_ (by decide) (by decide))
  refine PyProof.Rows.callWith_kw (thn (ha.run pos pins s σ H (fun vs H1 => match vs with
    | [v] => sortPost X.K T N js tb σ Q v H1
    | _ => False) I h) fun us s1 ⟨vs, H1, I1, r1, q1⟩ => ?_) hse hpl hall hnone
  cases r1 with
  | nil => exact False.elim q1
  | cons rv r1 =>
    cases r1 with
    | cons _ _ => exact False.elim q1
    | nil =>
      obtain ⟨l, xs, ds, rfl, hs, hT, hl, hal, hsk, hdp, q⟩ := q1
      obtain rfl : _ = Value.ref l := rv
      have hF := fun y hy e => hfree y hy e
      have has : ∀ y ∈ scope.names, y.2 = .free → ∃ c, X.env.cells.lookup y.1 = some c := fun y hy e => (hfree y hy e).elim (fun z => I1.ok.has _ (.inl z)) fun z => I1.ok.has _ (.inr z)
      show wpAny _ _ (evalAll ((do let v ← eval (.Lambda params body scope lpos) X.env; standAt pos; pure v) :: [])) _ _ s1
      refine wpAny_evalAll_cons (wpAny_bind (lam_make2 I1 TB hcode hmT hu hT hdef has fun f c' pm ctv H2 s2 I2 eN T2 hf hfn hfr' hco => wpAny_bind (wpAny_standAt (wpAny_pure (wpAny_evalAll_nil ?_)))))
      rw [hks]
      obtain ⟨q1, q2⟩ := q H2 eN T2
      exact sorted_lam (F := ⟨"<lambda>", X.env.qual ++ "<lambda>", params, [], scope, cloFrom X.env.cells scope.names [], c'⟩) I2 S hr hf hfn hfr' hco (fun us hus => by
        match us, hus with
        | [u], _ => exact hbind _ _ _ _ _ _) (fun ok => NdefX.Caps.made ok hfree hfr hjs) (extN_seq eN hs) hl hal hsk hdp (fun A outer s H hr => hbody _ _ _ _ A outer s H hr) q1 q2
end L2
end
section
set_option maxRecDepth 100000
set_option maxHeartbeats 4000000
namespace K85
open PySem PySem.Spec PyProof.Rows L2
theorem lim_days : (("days" : Str), He.Dv.int 24) ∈ limits := List.mem_of_getElem? (i := 0) rfl
theorem lim_rains : (("rains" : Str), He.Dv.int 40) ∈ limits := List.mem_of_getElem? (i := 1) rfl
theorem lim_cans : (("cans" : Str), He.Dv.int (10 ^ 12)) ∈ limits := List.mem_of_getElem? (i := 2) rfl
theorem lim_seeds : (("seeds" : Str), He.Dv.int 120) ∈ limits := List.mem_of_getElem? (i := 3) rfl
theorem lim_weathers : (("weathers" : Str), He.Dv.int 100) ∈ limits := List.mem_of_getElem? (i := 4) rfl
theorem lim_calls : (("calls" : Str), He.Dv.int 60) ∈ limits := List.mem_of_getElem? (i := 5) rfl
theorem lim_price : (("price" : Str), He.Dv.int (10 ^ 12)) ∈ limits := List.mem_of_getElem? (i := 6) rfl
theorem lim_offers : (("offers" : Str), He.Dv.int 120) ∈ limits := List.mem_of_getElem? (i := 7) rfl
theorem lim_trials : (("trials" : Str), He.Dv.int 6) ∈ limits := List.mem_of_getElem? (i := 8) rfl
theorem lim_lot : (("lot" : Str), He.Dv.int 14) ∈ limits := List.mem_of_getElem? (i := 9) rfl
theorem lim_houses : (("houses" : Str), He.Dv.int 6) ∈ limits := List.mem_of_getElem? (i := 10) rfl
theorem lim_row : (("row" : Str), He.Dv.int 4) ∈ limits := List.mem_of_getElem? (i := 11) rfl
theorem lim_deeds : (("deeds" : Str), He.Dv.int 120) ∈ limits := List.mem_of_getElem? (i := 12) rfl
section
variable {P : Program} {w : World} {K : PySem.W.Frag} {mg : Str → Option Value} {base : Heap}
abbrev cTM (K : PySem.W.Frag) : Addr := He.ga K "TooMany"
abbrev cSk (K : PySem.W.Frag) : Addr := He.ga K "BadSky"
abbrev cWe (K : PySem.W.Frag) : Addr := He.ga K "BadWeather"
abbrev cRe (K : PySem.W.Frag) : Addr := He.ga K "BadReport"
abbrev cBG (K : PySem.W.Frag) : Addr := He.ga K "BadGarden"
abbrev cSe (K : PySem.W.Frag) : Addr := He.ga K "BadSetting"
abbrev cBH (K : PySem.W.Frag) : Addr := He.ga K "BadHouse"
abbrev cBD (K : PySem.W.Frag) : Addr := He.ga K "BadDay"
abbrev cTx (K : PySem.W.Frag) : Addr := He.ga K "BadText"
abbrev cNK (K : PySem.W.Frag) : Addr := He.ga K "NotKept"
abbrev cUn (K : PySem.W.Frag) : Addr := He.ga K "Unsafe"
abbrev cBC (K : PySem.W.Frag) : Addr := He.ga K "BadCalls"
abbrev cBO (K : PySem.W.Frag) : Addr := He.ga K "BadOffers"
abbrev cBT (K : PySem.W.Frag) : Addr := He.ga K "BadTable"
abbrev cBR (K : PySem.W.Frag) : Addr := He.ga K "BadRow"
abbrev cCa (K : PySem.W.Frag) : Addr := He.ga K "BadCalendar"
abbrev cDe (K : PySem.W.Frag) : Addr := He.ga K "BadDeed"
abbrev cA (K : PySem.W.Frag) : Addr := He.ga K "Almanac"
abbrev cG (K : PySem.W.Frag) : Addr := He.ga K "Garden"
abbrev cBe (K : PySem.W.Frag) : Addr := He.ga K "Bed"
theorem x_TooMany (T : Txt w K mg) : XOk P w K mg base 1 "TooMany" (cTM K) ["self", "what"] (spInit (cTM K) "what") := by
  obtain ⟨fd, F⟩ := fi_TooMany T
  refine ⟨_, fd, xt_TooMany T, F.ok (CX := CX0) sc_TooMany___init__ (fun vs H Q E h => ?_) (fun cdv A outer s H vs Q E hr h => ?_), g_TooMany T, F.bindsN (fun _ _ _ _ _ _ us hl => match us, hl with | [_, _], _ => rfl)⟩
  · obtain ⟨a, v, rfl, _⟩ := h
    rfl
  · obtain ⟨a, v, rfl, ha, k⟩ := h
    refine ⟨_, PSs.nox (pss_cons (ps_expr (pe_seinit (se T) rfl (g_SeenError T) (pa_cons (pv 0) (pa_cons pe_str pa_nil))))
      (pss_one (ps_ost (pv 0) (pv 1)))), ?_⟩
    refine ⟨_, rfl, a, cTM K, [.str _], rfl, (by show 1 ≤ 1000; decide), (xt_TooMany T).oex, ha, ?_⟩
    exact ⟨_, rfl, _, rfl, a, cTM K, rfl, (xt_TooMany T).oex, xn_TooMany_what T, .inl ⟨ha, fun dx hd hne => k dx hd hne⟩⟩
theorem x_BadSky (T : Txt w K mg) : XOk P w K mg base 1 "BadSky" (cSk K) ["self", "row"] (spInit (cSk K) "row") := by
  obtain ⟨fd, F⟩ := fi_BadSky T
  refine ⟨_, fd, xt_BadSky T, F.ok (CX := CX0) sc_BadSky___init__ (fun vs H Q E h => ?_) (fun cdv A outer s H vs Q E hr h => ?_), g_BadSky T, F.bindsN (fun _ _ _ _ _ _ us hl => match us, hl with | [_, _], _ => rfl)⟩
  · obtain ⟨a, v, rfl, _⟩ := h
    rfl
  · obtain ⟨a, v, rfl, ha, k⟩ := h
    refine ⟨_, PSs.nox (pss_cons (ps_expr (pe_seinit (se T) rfl (g_SeenError T) (pa_cons (pv 0) (pa_cons pe_str pa_nil))))
      (pss_one (ps_ost (pv 0) (pv 1)))), ?_⟩
    refine ⟨_, rfl, a, cSk K, [.str _], rfl, (by show 1 ≤ 1000; decide), (xt_BadSky T).oex, ha, ?_⟩
    exact ⟨_, rfl, _, rfl, a, cSk K, rfl, (xt_BadSky T).oex, xn_BadSky_row T, .inl ⟨ha, fun dx hd hne => k dx hd hne⟩⟩
theorem x_BadWeather (T : Txt w K mg) : XOk P w K mg base 1 "BadWeather" (cWe K) ["self", "day"] (spInit (cWe K) "day") := by
  obtain ⟨fd, F⟩ := fi_BadWeather T
  refine ⟨_, fd, xt_BadWeather T, F.ok (CX := CX0) sc_BadWeather___init__ (fun vs H Q E h => ?_) (fun cdv A outer s H vs Q E hr h => ?_), g_BadWeather T, F.bindsN (fun _ _ _ _ _ _ us hl => match us, hl with | [_, _], _ => rfl)⟩
  · obtain ⟨a, v, rfl, _⟩ := h
    rfl
  · obtain ⟨a, v, rfl, ha, k⟩ := h
    refine ⟨_, PSs.nox (pss_cons (ps_expr (pe_seinit (se T) rfl (g_SeenError T) (pa_cons (pv 0) (pa_cons pe_str pa_nil))))
      (pss_one (ps_ost (pv 0) (pv 1)))), ?_⟩
    refine ⟨_, rfl, a, cWe K, [.str _], rfl, (by show 1 ≤ 1000; decide), (xt_BadWeather T).oex, ha, ?_⟩
    exact ⟨_, rfl, _, rfl, a, cWe K, rfl, (xt_BadWeather T).oex, xn_BadWeather_day T, .inl ⟨ha, fun dx hd hne => k dx hd hne⟩⟩
theorem x_BadSetting (T : Txt w K mg) : XOk P w K mg base 1 "BadSetting" (cSe K) ["self", "what"] (spInit (cSe K) "what") := by
  obtain ⟨fd, F⟩ := fi_BadSetting T
  refine ⟨_, fd, xt_BadSetting T, F.ok (CX := CX0) sc_BadSetting___init__ (fun vs H Q E h => ?_) (fun cdv A outer s H vs Q E hr h => ?_), g_BadSetting T, F.bindsN (fun _ _ _ _ _ _ us hl => match us, hl with | [_, _], _ => rfl)⟩
  · obtain ⟨a, v, rfl, _⟩ := h
    rfl
  · obtain ⟨a, v, rfl, ha, k⟩ := h
    refine ⟨_, PSs.nox (pss_cons (ps_expr (pe_seinit (se T) rfl (g_SeenError T) (pa_cons (pv 0) (pa_cons pe_str pa_nil))))
      (pss_one (ps_ost (pv 0) (pv 1)))), ?_⟩
    refine ⟨_, rfl, a, cSe K, [.str _], rfl, (by show 1 ≤ 1000; decide), (xt_BadSetting T).oex, ha, ?_⟩
    exact ⟨_, rfl, _, rfl, a, cSe K, rfl, (xt_BadSetting T).oex, xn_BadSetting_what T, .inl ⟨ha, fun dx hd hne => k dx hd hne⟩⟩
theorem x_BadTable (T : Txt w K mg) : XOk P w K mg base 1 "BadTable" (cBT K) ["self", "first", "last"] (spInit2 (cBT K) "first" "last") := by
  obtain ⟨fd, F⟩ := fi_BadTable T
  refine ⟨_, fd, xt_BadTable T, F.ok (CX := CX0) sc_BadTable___init__ (fun vs H Q E h => ?_) (fun cdv A outer s H vs Q E hr h => ?_), g_BadTable T, F.bindsN (fun _ _ _ _ _ _ us hl => match us, hl with | [_, _, _], _ => rfl)⟩
  · obtain ⟨a, v, u, rfl, _⟩ := h
    rfl
  · obtain ⟨a, v, u, rfl, ha, k⟩ := h
    refine ⟨_, PSs.nox (pss_cons (ps_expr (pe_seinit (se T) rfl (g_SeenError T) (pa_cons (pv 0) (pa_cons pe_str pa_nil))))
      (pss_cons (ps_ost (pv 0) (pv 1))
      (pss_one (ps_ost (pv 0) (pv 2))))), ?_⟩
    refine ⟨_, rfl, a, cBT K, [.str _], rfl, (by show 1 ≤ 1000; decide), (xt_BadTable T).oex, ha, ?_⟩
    refine ⟨_, rfl, _, rfl, a, cBT K, rfl, (xt_BadTable T).oex, xn_BadTable_first T, .inl ⟨ha, fun dx hd hne => ?_⟩⟩
    refine ⟨_, rfl, _, rfl, a, cBT K, rfl, (xt_BadTable T).oex, xn_BadTable_last T, .inr ⟨dx, _, upd_same, by rw [upd_ne hne, upd_same], by show 1 ≤ 900; decide, ?_⟩⟩
    exact k dx hd hne
def spCheck (K : PySem.W.Frag) : Sp := fun vs H Q E => ∃ (z : Str) (n m : Int), vs = [.str z, .int n] ∧ (z, He.Dv.int m) ∈ limits ∧ (n ≤ m → Q .non H) ∧ (m < n → Rz E H (cTM K) "what" (.str z))
theorem ok_check (T : Txt w K mg) : Ok P w K mg base (L2.CX P w) 4 "check" ["what", "number"] (spCheck K) := by
  refine Ok.defX (f_check T) (fun _ _ _ _ _ _ us hl => match us, hl with | [_, _], _ => rfl) sc_check (fun vs H Q E h => ?_) (fun f cdv A outer s H vs Q E hr h tk => ?_)
  · obtain ⟨z, n, m, rfl, _⟩ := h
    rfl
  · obtain ⟨z, n, m, rfl, hz, k1, k2⟩ := h
    refine ⟨_, (pss_one (ps_if (pt_cmpR op_gt (pv 1) (pe_ix ix_kdict (pe_glob (v := .ref _) rfl (g_LIMITS T) rfl) (pv 0) (fun _ _ => rfl)) (nomark _)) (pss_one (ps_raise rfl tk (pmk_x (x_TooMany T) (hr.mono (by first | decide | omega)) rfl (pa_cons (pv 0) pa_nil)))) pss_nil)), ?_⟩
    refine ⟨_, rfl, _, rfl, _, z, .int m, rfl, rfl, lim T hz, _, _, rfl, rfl, _, rfl, ?_⟩
    refine ite2 (fun c => ?_) (fun c => ?_)
    · exact ⟨_, rfl, mko ((k2 (of_decide_eq_true c)).at (Same.refl H))⟩
    · exact k1 (by simpa using c)
end
end K85
end
section
set_option maxRecDepth 100000
set_option maxHeartbeats 4000000
namespace K85
open PySem PySem.Spec PyProof.Rows L2
/-- the tables of the defs that make lambdas, the names of what they hold -/
def Tl (K : PySem.W.Frag) : List (Addr × Str) := tf.map fun p => ((He.cT K p).2, p.1 ++ (".<locals>.<lambda>" : Str))
theorem nodup_map_inj {α β : Type} {f : α → β} : ∀ {l : List α}, (l.map f).Nodup → ∀ {a b : α}, a ∈ l → b ∈ l → f a = f b → a = b
  | [], _, _, _, h, _, _ => by cases h
  | x :: l, hn, a, b, ha, hb, e => by
    rw [List.map_cons, List.nodup_cons] at hn
    rcases List.mem_cons.mp ha with h1 | h1
    · rcases List.mem_cons.mp hb with h2 | h2
      · rw [h1, h2]
      · exact absurd (show f x ∈ l.map f from List.mem_map.mpr ⟨b, h2, by rw [← e, h1]⟩) hn.1
    · rcases List.mem_cons.mp hb with h2 | h2
      · exact absurd (show f x ∈ l.map f from List.mem_map.mpr ⟨a, h1, by rw [e, h2]⟩) hn.1
      · exact nodup_map_inj hn.2 h1 h2 e
theorem tl_one {w : World} {K : PySem.W.Frag} {mg : Str → Option Value} (T : Txt w K mg) {P : Addr} {q : Str} (h : (P, q) ∈ Tl K) : ∀ p ∈ Tl K, p.1 = P → p.2 = q := by
  intro p hp e
  obtain ⟨x, hx, rfl⟩ := List.mem_map.mp hp
  obtain ⟨y, hy, e2⟩ := List.mem_map.mp h
  have e3 : (He.cT K y).2 = P := congrArg Prod.fst e2
  have := nodup_map_inj (tabs_nodup T) hx hy (e.trans e3.symm)
  rw [this]
  exact congrArg Prod.snd e2
abbrev TabsB (K : PySem.W.Frag) (base : Heap) (mg : Str → Option Value) : Prop := ∀ p ∈ tf, LamX.TabB base mg (He.cT K p).1 (He.cT K p).2
end K85
end
section
set_option maxRecDepth 100000
set_option maxHeartbeats 4000000
namespace K85
open PySem PySem.Spec PyProof.Rows L2
section
variable {P : Program} {w : World} {K : PySem.W.Frag} {mg : Str → Option Value} {base : Heap}
theorem ok__law_draw (T : Txt w K mg) : Ok P w K mg base CX0 1 "_law_draw" ["stock", "many"] spDraw := by
  refine Ok.def0 (f__law_draw T) (fun _ _ _ _ _ _ us hl => match us, hl with | [_, _], _ => rfl) sc__law_draw (fun vs H Q E h => ?_) (fun f cdv A outer s H vs Q E hr h => ?_)
  · obtain ⟨sa, m, rfl, _⟩ := h
    rfl
  · obtain ⟨sa, m, rfl, h0, h1, ⟨a, b, c, hs⟩, k⟩ := h
    have hm : m ≠ 0 := by omega
    refine ⟨_, (pss_cons (ps_if (pt_cmpR op_gt (pe_ix (ix_listK (K := K) rfl) (pv 0) pe_int (fun _ _ => rfl)) pe_int (nomark _)) (pss_cons (ps_set (i := 2) sc__law_draw.nd rfl (by first | exact Or.inl rfl | exact Or.inr rfl) (pe_op op_modN (pe_callTy call_int1 rfl (n_int T) (by decide +kernel) (pa_cons (pe_ix (ix_listK (K := K) rfl) (pv 0) pe_int (fun _ _ => rfl)) pa_nil)) (pv 1)))
      (pss_cons (ps_asg (pe_op op_fdivN (pe_ix (ix_listK (K := K) rfl) (pv 0) pe_int (fun _ _ => rfl)) (pv 1)) (pg_sub (pv 0) pe_int set_list))
      (pss_one (ps_ret (pv 2))))) pss_nil)
      (pss_cons (ps_augS (pv 0) pe_int (get_listK (K := K) rfl) pe_int ip_add set_list)
      (pss_cons (ps_asg (pe_op op_modN (pe_callTy call_int1 rfl (n_int T) (by decide +kernel) (pa_cons (pe_op op_add (pe_op op_mul (pe_ix (ix_listK (K := K) rfl) (pv 0) pe_int (fun _ _ => rfl)) pe_int) (pe_op op_mul (pe_ix (ix_listK (K := K) rfl) (pv 0) pe_int (fun _ _ => rfl)) pe_int)) pa_nil)) pe_int) (pg_sub (pv 0) pe_int set_list))
      (pss_one (ps_ret (pe_op op_modN (pe_op op_fdivN (pe_op op_modN (pe_callTy call_int1 rfl (n_int T) (by decide +kernel) (pa_cons (pe_op op_add (pe_op op_mul (pe_ix (ix_listK (K := K) rfl) (pv 0) pe_int (fun _ _ => rfl)) pe_int) (pe_op op_mul (pe_ix (ix_listK (K := K) rfl) (pv 0) pe_int (fun _ _ => rfl)) pe_int)) pa_nil)) pe_int) pe_int) (pv 1))))))), ?_⟩
    refine ⟨_, rfl, sa, _, 0, _, rfl, rfl, SqL.of hs, rfl, _, _, rfl, rfl, _, rfl, ?_⟩
    refine ite2 (fun c1 => ?_) (fun c1 => ?_)
    · refine ⟨_, rfl, sa, _, 0, _, rfl, rfl, SqL.of hs, rfl, .inl ⟨_, rfl, _, rfl, _, _, rfl, rfl, hm, ?_⟩⟩
      refine ⟨_, rfl, sa, _, 0, _, rfl, rfl, SqL.of hs, rfl, _, rfl, _, _, rfl, rfl, ⟨hm, by omega⟩, _, rfl, sa, _, 0, 0, rfl, rfl, hs, rfl, ?_⟩
      refine ⟨_, rfl, k _ _ _ _ (fmod_range a h0).1 (fmod_range a h0).2⟩
    · refine ⟨_, rfl, sa, _, 2, _, rfl, rfl, SqL.of hs, rfl, _, _, rfl, rfl, sa, _, 2, 2, rfl, rfl, hs, rfl, ?_⟩
      refine ⟨_, rfl, sa, _, 1, _, rfl, rfl, SqL.of upd_same, rfl, _, _, rfl, rfl, .inr (by decide), _, rfl, sa, _, 2, _, rfl, rfl, SqL.of upd_same, rfl, _, _, rfl, rfl, .inr (by decide), _, _, rfl, rfl, .inl ⟨_, rfl, _, _, rfl, rfl, (by show (2147483647 : Int) ≠ 0; decide), _, rfl, sa, _, 1, 1, rfl, rfl, upd_same, rfl, ?_⟩⟩
      refine ⟨_, rfl, sa, _, 1, _, rfl, rfl, SqL.of upd_same, rfl, _, _, rfl, rfl, .inr (by decide), _, rfl, sa, _, 2, _, rfl, rfl, SqL.of upd_same, rfl, _, _, rfl, rfl, .inr (by decide), _, _, rfl, rfl, .inl ⟨_, rfl, _, _, rfl, rfl, (by show (2147483629 : Int) ≠ 0; decide), _, _, rfl, rfl, ⟨by decide, by decide⟩, _, rfl, _, _, rfl, rfl, hm, ?_⟩⟩
      rw [upd_upd]
      exact k _ _ _ _ (fmod_range _ h0).1 (fmod_range _ h0).2
theorem ok__law_stock (T : Txt w K mg) : Ok P w K mg base CX0 1 "_law_stock" ["script", "at"] (spStock K) := by
  refine Ok.def0 (f__law_stock T) (fun _ _ _ _ _ _ us hl => match us, hl with | [_, _], _ => rfl) sc__law_stock (fun vs H Q E h => ?_) (fun f cdv A outer s H vs Q E hr h => ?_)
  · obtain ⟨a, ns, z, rfl, _⟩ := h
    rfl
  · obtain ⟨a, ns, z, rfl, hS, hl, h0, h1, k⟩ := h
    refine ⟨_, (pss_cons (ps_set (i := 3) sc__law_stock.nd rfl (by first | exact Or.inl rfl | exact Or.inr rfl) (pe_ifExp (pt_cmpR op_lt (pv 1) (pe_callB (len_seqK (K := K) rfl) rfl (n_len T) (by decide +kernel) (pa_cons (pv 0) pa_nil)) (nomark _)) (pe_callTy call_int1 rfl (n_int T) (by decide +kernel) (pa_cons (pe_ix (ix_listK (K := K) rfl) (pv 0) (pv 1) (fun _ _ => rfl)) pa_nil)) (pe_op op_mul pe_int (pe_callB (sumK (K := K) rfl rfl) rfl (n_sum T) (by decide +kernel) (pa_cons (pe_lc (own := [("one", 2)]) rfl sc__law_stock.nd (pi_listK (K := K) rfl (pe_slice (sl_listK (K := K) rfl) (pv 0) po_none (po_some pe_int))) (blkOk_by (N := ["script", "at", "one", "cell", "size", "small"]) (sc := defScope s__law_stock) (by decide +kernel)) (fun _ _ _ _ _ => (pg_name (i := 2) sc__law_stock.nd rfl (by first | exact Or.inl rfl | exact Or.inr rfl))) (fun _ _ _ _ _ => pts_nil) (fun _ _ _ _ _ => (pe_op op_modN (pe_callTy call_int1 rfl (n_int T) (by decide +kernel) (pa_cons (pv 2) pa_nil)) pe_int))) pa_nil)))))
      (pss_cons (ps_set (i := 4) sc__law_stock.nd rfl (by first | exact Or.inl rfl | exact Or.inr rfl) (pe_callB call_abs rfl (n_abs T) (by decide +kernel) (pa_cons (pv 3) pa_nil)))
      (pss_cons (ps_set (i := 5) sc__law_stock.nd rfl (by first | exact Or.inl rfl | exact Or.inr rfl) (pe_op op_modN (pe_callTy call_int1 rfl (n_int T) (by decide +kernel) (pa_cons (pe_op op_add (pe_op op_add (pe_op op_add (pe_op op_mul pe_int (pv 4)) (pe_ifExp (pt_cmpR op_lt (pv 3) pe_int (nomark _)) pe_int pe_int)) (pe_op op_mul (pv 1) pe_int)) pe_int) pa_nil)) pe_int))
      (pss_one (ps_ret (pe_lst (pa_cons (pe_ifExp (pt_cmpR op_ge (pv 4) (pe_op op_pow pe_int pe_int) (nomark _)) (pv 4) pe_int) (pa_cons (pe_op op_modN (pe_callTy call_int1 rfl (n_int T) (by decide +kernel) (pa_cons (pe_op op_mul (pe_op op_add (pv 5) pe_int) (pe_op op_add (pv 5) pe_int)) pa_nil)) pe_int) (pa_cons (pv 1) pa_nil))))))))), ?_⟩
    refine st_let (fun v H' => ∃ c, v = .int c ∧ Same H H') (fun R hR => ?_) (fun v H1 hv => ?_)
    · refine ⟨_, rfl, _, rfl, _, _, rfl, .inl hS, _, _, rfl, rfl, _, rfl, ?_⟩
      refine ite2 (fun c1 => ?_) (fun c1 => ?_)
      · have c2 : z < (ns.map V.int).length := of_decide_eq_true c1
        rw [ints_len] at c2
        obtain ⟨n, hn⟩ : ∃ n, ns[z.toNat]? = some n := ⟨ns[z.toNat]'(by omega), List.getElem?_eq_getElem (by omega)⟩
        exact ⟨_, rfl, _, rfl, a, _, z, _, rfl, rfl, hS, atI_int h0 (ints_at hn), .inl ⟨_, rfl, hR _ _ ⟨_, rfl, Same.refl H⟩⟩⟩
      · obtain ⟨ms, e1, e2⟩ := cutV_map V.int ns none (some 4)
        refine ⟨_, rfl, _, rfl, a, _, rfl, hS, fun p hp => ?_⟩
        rw [e1]
        have s1 : Same H (upd H p (.lst (ms.map V.int))) := same_new hp
        refine ⟨p, rfl, ⟨_, SqL.of upd_same⟩, fun D hD => lc_acc (K := K) (a := p) (xs := ms.map V.int) hD (SqL.of upd_same) (by rw [ints_len, e2]; exact Nat.lt_of_le_of_lt (List.length_take_le' _ _) (by rw [List.length_drop]; omega)) (fun i acc H' => ∃ zs : List Int, acc = zs.map V.int) (fun _ _ => ⟨[], rfl⟩) ?_ ?_⟩
        · rintro i x acc H' N N0 hx s2 hacc ⟨zs, rfl⟩ hN hN0
          obtain ⟨y, hy, rfl⟩ := ints_get hx
          refine ⟨rfl, ?_⟩
          exact ⟨_, rfl, .inl ⟨_, rfl, _, _, rfl, rfl, (by show (1000003 : Int) ≠ 0; decide), hN _ _ (Same.refl _) fun _ _ _ => ⟨zs ++ [y.fmod 1000003], by rw [List.map_append]; rfl⟩⟩⟩
        · rintro acc H' s2 hacc _ ⟨zs, rfl⟩
          exact ⟨D, zs, rfl, SqL.of hacc, _, _, rfl, rfl, .inl (by decide), hR _ _ ⟨_, rfl, s1.trans s2⟩⟩
    · obtain ⟨c, rfl, s1⟩ := hv
      -- size = abs(cell)
      refine ⟨_, rfl, _, rfl, ?_⟩
      generalize hsz : (if c < 0 then -c else c) = size
      -- small = ..
      refine nxE (st_let (fun v H' => ∃ d : Int, v = .int d ∧ 0 ≤ d ∧ d < 2147483629 ∧ H' = H1) (fun R hR => ?_) (fun v H2 hv => ?_))
      · refine ⟨_, rfl, _, _, rfl, rfl, .inl (by decide), ?_⟩
        have fin : ∀ k : Int, R (.int ((2 * size + k + z * 104729 + 12345).fmod 2147483629)) H1 := fun k => hR _ _ ⟨_, rfl, (fmod_range _ (by decide)).1, (fmod_range _ (by decide)).2, rfl⟩
        refine ⟨_, rfl, _, _, rfl, rfl, _, rfl, ?_⟩
        refine ite2 (fun c1 => ?_) (fun c1 => ?_)
        · exact ⟨_, _, rfl, rfl, _, rfl, _, _, rfl, rfl, .inr (by decide), _, _, rfl, rfl, _, _, rfl, rfl, .inl ⟨_, rfl, _, _, rfl, rfl, (by show (2147483629 : Int) ≠ 0; decide), fin 1⟩⟩
        · exact ⟨_, _, rfl, rfl, _, rfl, _, _, rfl, rfl, .inr (by decide), _, _, rfl, rfl, _, _, rfl, rfl, .inl ⟨_, rfl, _, _, rfl, rfl, (by show (2147483629 : Int) ≠ 0; decide), fin 0⟩⟩
      · obtain ⟨d, rfl, d0, d1, rfl⟩ := hv
        -- return [..]
        have fin : ∀ e : Int, ∀ p, H2 p = none → Q (.ref p) (upd H2 p (.lst [.int e, .int (((d + 7919) * (d + 104729)).fmod 2147483629), .int z])) := fun e p hp => k p _ (s1.free hp) (s1.trans (same_new hp)) ⟨_, _, _, upd_same⟩
        refine ⟨_, rfl, _, _, rfl, rfl, ⟨by decide, by decide, by decide⟩, _, _, rfl, rfl, _, rfl, ?_⟩
        refine ite2 (fun c1 => ?_) (fun c1 => ?_)
        · exact ⟨_, rfl, _, rfl, _, _, rfl, rfl, _, rfl, _, _, rfl, rfl, _, _, rfl, rfl, .inl ⟨by show -(2 ^ 64) < d + 7919; omega, by show d + 7919 < 2 ^ 64; omega⟩, .inl ⟨_, rfl, _, _, rfl, rfl, (by show (2147483629 : Int) ≠ 0; decide), _, rfl, (by show 3 ≤ sizeLine; decide), fun p hp => fin _ p hp⟩⟩
        · exact ⟨_, rfl, _, _, rfl, rfl, _, rfl, _, _, rfl, rfl, _, _, rfl, rfl, .inl ⟨by show -(2 ^ 64) < d + 7919; omega, by show d + 7919 < 2 ^ 64; omega⟩, .inl ⟨_, rfl, _, _, rfl, rfl, (by show (2147483629 : Int) ≠ 0; decide), _, rfl, (by show 3 ≤ sizeLine; decide), fun p hp => fin _ p hp⟩⟩
end
end K85
end
section
set_option maxRecDepth 100000
set_option maxHeartbeats 4000000
namespace K85
open PySem PySem.Spec PyProof.Rows L2
abbrev af (d : Int) (l : Addr) : List (Str × V) := [("days_number", V.int d), ("rains_list", V.ref l)]
theorem af_days (d : Int) (l : Addr) : (af d l).lookup ("days_number" : Str) = some (.int d) := by simp [List.lookup]
theorem af_rains (d : Int) (l : Addr) : (af d l).lookup ("rains_list" : Str) = some (.ref l) := by
  have e : (("rains_list" : Str) == ("days_number" : Str)) = false := by decide +kernel
  simp [List.lookup, e]
theorem af_no {d : Int} {l : Addr} {x : Str} (h1 : (x == ("days_number" : Str)) = false) (h2 : (x == ("rains_list" : Str)) = false) : (af d l).lookup x = none := by
  simp [List.lookup, h1, h2]
def AlmAt (K : PySem.W.Frag) (H : Hp) (p : Addr) (d : Int) (rs : List Q4) : Prop := ∃ dx l xs, H p = some (.ins (cA K) dx (af d l)) ∧ H l = some (.lst xs) ∧ Paired (QuadT H) xs rs
theorem AlmAt.same {K : PySem.W.Frag} {H H' : Hp} {p : Addr} {d : Int} {rs : List Q4} (e : Same H H') (h : AlmAt K H p d rs) : AlmAt K H' p d rs := by
  obtain ⟨dx, l, xs, h1, h2, h3⟩ := h
  exact ⟨dx, l, xs, e _ _ h1, e _ _ h2, Paired.mapP h3 fun _ _ z => z.same e⟩
/-- a rain that is allowed -/
def GoodR (r : Q4) : Prop := 1 ≤ r.1 ∧ r.1 ≤ r.2.1 ∧ 0 ≤ r.2.2.1 ∧ r.2.2.1 ≤ r.2.2.2 ∧ r.2.2.2 ≤ 10 ^ 12
section
variable {P : Program} {w : World} {K : PySem.W.Frag} {mg : Str → Option Value} {base : Heap}
def spEach (K : PySem.W.Frag) : Sp := fun vs H Q E => ∃ (z : Str) (l : Addr) (ns : List Int) (m : Int), vs = [.str z, .ref l] ∧ H l = some (.lst (ns.map V.int)) ∧ (z, He.Dv.int m) ∈ limits ∧ (∀ n ∈ ns, n ≤ m) ∧ Q .non H
theorem ok_check_each (T : Txt w K mg) : Ok P w K mg base (L2.CX P w) 5 "check_each" ["what", "numbers"] (spEach K) := by
  refine Ok.defX (f_check_each T) (fun _ _ _ _ _ _ us hl => match us, hl with | [_, _], _ => rfl) sc_check_each (fun vs H Q E h => ?_) (fun f cdv A outer s H vs Q E hr h tk => ?_)
  · obtain ⟨z, l, ns, m, rfl, _⟩ := h
    rfl
  · obtain ⟨z, l, ns, m, rfl, hl, hz, hn, k⟩ := h
    refine ⟨_, (pss_one (ps_for (passes_of rfl) rfl (pi_listK (K := K) rfl (pv 1)) (pg_name (i := 2) sc_check_each.nd rfl (by first | exact Or.inl rfl | exact Or.inr rfl))
        (pss_one (ps_expr (pe_okS (ok_check T) (hr.mono (by first | decide | omega)) rfl (fun σ => passAt tk σ) (pa_cons (pv 0) (pa_cons (pv 2) pa_nil))))))), ?_⟩
    refine ⟨_, rfl, l, rfl, ⟨_, SqL.of hl⟩, for_list (K := K) (a := l) (xs := ns.map V.int) (fun i σ H' => ∃ v2, σ = [some (.str z), some (.ref l), v2] ∧ H' = H) ⟨_, rfl, rfl⟩ (fun _ _ _ _ ⟨_, _, e⟩ => by rw [e]; exact SqL.of hl) ?_ ?_⟩
    · rintro i x σ H' hx ⟨v2, rfl, rfl⟩
      obtain ⟨n, hi, rfl⟩ := ints_get hx
      have hnm := hn n (List.mem_of_getElem? hi)
      exact ⟨_, rfl, _, rfl, z, n, m, rfl, hz, fun _ => ⟨_, rfl, rfl⟩, fun c => absurd hnm (by omega)⟩
    · rintro σ H' ⟨v2, rfl, rfl⟩
      exact k
def spAInit (K : PySem.W.Frag) : Sp := fun vs H Q E => ∃ p dx d s ys rs, vs = [.ref p, .int d, .ref s] ∧ H p = some (.ins (cA K) dx []) ∧ H s = some (.lst ys) ∧ Paired (QuadT H) ys rs ∧ 1 ≤ d ∧ d ≤ 24 ∧ rs.length ≤ 40 ∧ (∀ r ∈ rs, GoodR r) ∧ ∀ H', But p H H' → AlmAt K H' p d rs → Q .non H'
theorem okk_Almanac (T : Txt w K mg) : OkK P w K mg base (L2.CX P w) 6 "Almanac" (cA K) ["self", "days", "rains"] (spAInit K) := by
  refine OkK.defX (fm_Almanac___init__ T) (mk_Almanac T) (g_Almanac T) (fun _ _ _ _ _ _ us hl => match us, hl with | [_, _, _], _ => rfl) sc_Almanac___init__ (fun vs H Q E h => ?_) (fun cdv A outer s H vs Q E hr h tk => ?_)
  · obtain ⟨p, dx, d, s, ys, rs, rfl, _⟩ := h
    rfl
  · obtain ⟨p, dx, d, sd, ys, rs, rfl, hp, hS, hP, d1, d2, hl, hg, k⟩ := h
    have hyl : ys.length ≤ 40 := by rw [Paired.length hP]; exact hl
    refine ⟨_, (pss_cons (ps_expr (pe_okS (ok_check T) (hr.mono (by first | decide | omega)) rfl (fun σ => passAt tk σ) (pa_cons pe_str (pa_cons (pv 1) pa_nil))))
      (pss_cons (ps_expr (pe_okS (ok_check T) (hr.mono (by first | decide | omega)) rfl (fun σ => passAt tk σ) (pa_cons pe_str (pa_cons (pe_callB (len_seqK (K := K) rfl) rfl (n_len T) (by decide +kernel) (pa_cons (pv 2) pa_nil)) pa_nil))))
      (pss_cons (ps_for (passes_of rfl) rfl (pi_listK (K := K) rfl (pv 2)) (pg_name (i := 3) sc_Almanac___init__.nd rfl (by first | exact Or.inl rfl | exact Or.inr rfl))
        (pss_one (ps_expr (pe_okS (ok_check_each T) (hr.mono (by first | decide | omega)) rfl (fun σ => passAt tk σ) (pa_cons pe_str (pa_cons (pe_lst (pa_cons (pe_ix (ix_seqK (K := K) rfl) (pv 3) pe_int (fun _ _ => rfl)) (pa_cons (pe_ix (ix_seqK (K := K) rfl) (pv 3) pe_int (fun _ _ => rfl)) pa_nil))) pa_nil))))))
      (pss_cons (ps_if (pt_cmpR op_lt (pv 1) pe_int (nomark _)) (pss_one (ps_raise rfl tk (pmk_x (x_BadSky T) (hr.mono (by first | decide | omega)) rfl (pa_cons pe_int pa_nil)))) pss_nil)
      (pss_cons (ps_for (passes_of rfl) rfl (pi_enum rfl (n_enumerate T) (pa_cons (pv 2) pa_nil)) (pg_tupK (K := K) (n := 2) rfl rfl (pgs_cons (pg_name (i := 4) sc_Almanac___init__.nd rfl (by first | exact Or.inl rfl | exact Or.inr rfl)) (pgs_cons (pg_tupK (K := K) (n := 4) rfl rfl (pgs_cons (pg_name (i := 5) sc_Almanac___init__.nd rfl (by first | exact Or.inl rfl | exact Or.inr rfl)) (pgs_cons (pg_name (i := 6) sc_Almanac___init__.nd rfl (by first | exact Or.inl rfl | exact Or.inr rfl)) (pgs_cons (pg_name (i := 7) sc_Almanac___init__.nd rfl (by first | exact Or.inl rfl | exact Or.inr rfl)) (pgs_cons (pg_name (i := 8) sc_Almanac___init__.nd rfl (by first | exact Or.inl rfl | exact Or.inr rfl)) pgs_nil))))) pgs_nil)))
        (pss_one (ps_if (PW.pt (pw_or (pt_cmpR op_lt (pv 5) pe_int (nomark _)) (pw_or (pt_cmpR op_lt (pv 6) (pv 5) (nomark _)) (pw_or (pt_cmpR op_lt (pv 7) pe_int (nomark _)) (pw_or1 (pt_cmpR op_lt (pv 8) (pv 7) (nomark _))))))) (pss_one (ps_raise rfl tk (pmk_x (x_BadSky T) (hr.mono (by first | decide | omega)) rfl (pa_cons (pe_op op_add (pv 4) pe_int) pa_nil)))) pss_nil)))
      (pss_cons (ps_fld (pv 0) (pv 1) rfl)
      (pss_one (ps_fld (pv 0) (pe_lc (own := [("rain", 3)]) rfl sc_Almanac___init__.nd (pi_listK (K := K) rfl (pv 2)) (blkOk_by (N := ["self", "days", "rains", "rain", "at", "first", "last", "least", "most"]) (sc := defScope s_Almanac___init__) (by decide +kernel)) (fun _ _ _ _ _ => (pg_name (i := 3) sc_Almanac___init__.nd rfl (by first | exact Or.inl rfl | exact Or.inr rfl))) (fun _ _ _ _ _ => pts_nil) (fun _ _ _ _ _ => (pe_tup (pa_cons (pe_ix (ix_seqK (K := K) rfl) (pv 3) pe_int (fun _ _ => rfl)) (pa_cons (pe_ix (ix_seqK (K := K) rfl) (pv 3) pe_int (fun _ _ => rfl)) (pa_cons (pe_ix (ix_seqK (K := K) rfl) (pv 3) pe_int (fun _ _ => rfl)) (pa_cons (pe_ix (ix_seqK (K := K) rfl) (pv 3) pe_int (fun _ _ => rfl)) pa_nil))))))) rfl)))))))), ?_⟩
    refine ⟨_, rfl, "days", d, 24, rfl, lim_days, fun c1 => ?_, fun c1 => absurd d2 (by omega)⟩
    refine ⟨_, rfl, _, _, rfl, .inl (SqL.of hS), "rains", _, 40, rfl, lim_rains, fun c2 => ?_, fun c2 => absurd hyl (by omega)⟩
    refine ⟨_, rfl, sd, rfl, ⟨_, SqL.of hS⟩, for_list (K := K) (a := sd) (xs := ys) (fun i σ H' => ∃ v3, σ = [some (.ref p), some (.int d), some (.ref sd), v3, none, none, none, none, none] ∧ Same H H') ⟨_, rfl, Same.refl H⟩ (fun _ _ _ _ ⟨_, _, e⟩ => SqL.of (e _ _ hS)) ?_ ?_⟩
    · rintro i x σ H' hx ⟨v3, rfl, e⟩
      obtain ⟨r, hr', hq⟩ := paired_get hP hx
      have hgr := hg r (List.mem_of_getElem? hr')
      have hq := hq.same e
      refine ⟨_, rfl, hq.ix (i := 2) rfl ⟨_, rfl, hq.ix (i := 3) rfl ⟨(by show 2 ≤ sizeLine; decide), fun m hm => ?_⟩⟩⟩
      obtain ⟨s1, g1⟩ := new2 (.lst [V.int r.2.2.1, V.int r.2.2.2]) hm
      refine ⟨"cans", m, [r.2.2.1, r.2.2.2], 10 ^ 12, rfl, g1, lim_cans, fun n hn => ?_, ?_⟩
      · unfold GoodR at hgr
        simp only [List.mem_cons, List.not_mem_nil, or_false] at hn
        rcases hn with rfl | rfl <;> omega
      · exact ⟨_, rfl, e.trans s1⟩
    · rintro σ H1 ⟨v3, rfl, e1⟩
      refine ⟨_, rfl, _, _, rfl, rfl, _, rfl, ?_⟩
      rw [show decide (d < 1) = false from decide_eq_false (by omega)]
      refine iteF ⟨_, rfl, sd, ys, rfl, SqL.of (e1 _ _ hS), for_enum0 (K := K) (a := sd) (xs := ys) (fun i σ H' => ∃ v3 v4 v5 v6 v7 v8, σ = [some (.ref p), some (.int d), some (.ref sd), v3, v4, v5, v6, v7, v8] ∧ Same H H') ⟨_, _, _, _, _, _, rfl, e1⟩ (fun _ _ _ _ ⟨_, _, _, _, _, _, _, e⟩ => SqL.of (e _ _ hS)) ?_ ?_⟩
      · rintro i x σ H' TT hx ⟨v3, v4, v5, v6, v7, v8, rfl, e⟩ hTT
        obtain ⟨r, hr', hq⟩ := paired_get hP hx
        have hgr := hg r (List.mem_of_getElem? hr')
        unfold GoodR at hgr
        obtain ⟨s1, g1⟩ := new2 (.tup [.int (i : Nat), x]) hTT
        have e2 := e.trans s1
        have hq := hq.same e2
        refine ⟨TT, _, rfl, SqT.of g1, rfl, _, _, rfl, _, _, rfl, hq.un rfl ⟨rfl, ?_⟩⟩
        refine ⟨_, rfl, _, _, rfl, rfl, _, rfl, ?_⟩
        rw [decide_eq_false (by omega)]
        refine ⟨_, rfl, _, rfl, _, _, rfl, rfl, _, rfl, ?_⟩
        rw [decide_eq_false (by omega)]
        refine ⟨_, rfl, _, _, rfl, rfl, _, rfl, ?_⟩
        rw [decide_eq_false (by omega)]
        refine ⟨_, rfl, _, rfl, _, _, rfl, rfl, _, rfl, ?_⟩
        rw [decide_eq_false (by omega)]
        exact ⟨_, _, _, _, _, _, rfl, e2⟩
      · rintro σ H2 ⟨v3, v4, v5, v6, v7, v8, rfl, e2⟩
        have hp2 := e2 _ _ hp
        have hS2 := e2 _ _ hS
        have nps : sd ≠ p := fun z => by rw [z, hp2] at hS2; cases hS2
        refine ⟨_, rfl, _, rfl, p, _, dx, [], rfl, hp2, cl_Almanac T, na_Almanac_days_number T, (by show 0 < 1000; decide), ?_⟩
        have b1 : But p H2 (upd H2 p (.ins (cA K) dx (putF "days_number" (.int d) []))) := (But.refl p H2).upd
        have p1 : upd H2 p (.ins (cA K) dx (putF "days_number" (.int d) [])) p = some (.ins (cA K) dx (putF "days_number" (.int d) [])) := upd_same
        generalize upd H2 p (.ins (cA K) dx (putF "days_number" (.int d) [])) = H3 at b1 p1 ⊢
        have hS3 := b1 _ _ hS2 nps
        have hP3 : Paired (QuadT H3) ys rs := Paired.mapP hP fun _ _ z => by
          obtain ⟨t, rfl, h⟩ := z.same e2
          exact ⟨t, rfl, b1 _ _ h fun z => by rw [z, hp2] at h; cases h⟩
        refine ⟨_, rfl, sd, rfl, ⟨_, SqL.of hS3⟩, fun D hD => lc_acc (K := K) (a := sd) (xs := ys) hD (SqL.of hS3) (by omega) (fun j acc H4 => Paired (QuadT H4) acc (rs.take j)) (fun _ _ => .nil) ?_ ?_⟩
        · rintro j x acc H4 N N0 hx s2 hacc hI hN hN0
          obtain ⟨r, hc, hr⟩ := paired_get hP3 hx
          have hr := hr.same s2
          refine ⟨rfl, ?_⟩
          refine ⟨_, rfl, hr.ix (i := 0) rfl ⟨_, rfl, hr.ix (i := 1) rfl ⟨_, rfl, hr.ix (i := 2) rfl ⟨_, rfl, hr.ix (i := 3) rfl ⟨(by show 4 ≤ sizeLine; decide), fun t ht => ?_⟩⟩⟩⟩⟩
          obtain ⟨s3, g3⟩ := new2 (.tup (q4V r)) ht
          have tD : t ≠ D := fun z => by rw [z, hacc] at ht; cases ht
          refine hN _ _ s3 fun H5 b5 _ => ?_
          rw [take_get hc]
          refine paired_snoc (Paired.mapP hI fun _ _ z => ?_) ⟨t, rfl, b5 _ _ g3 tD⟩
          obtain ⟨u, rfl, h⟩ := z.same s3
          exact ⟨u, rfl, b5 _ _ h fun z => by rw [z, s3 _ _ hacc] at h; cases h⟩
        · rintro acc H4 s2 hacc hal hI
          rw [Paired.length hP3, List.take_length] at hI
          have p2 := s2 _ _ p1
          refine ⟨_, rfl, p, _, dx, _, rfl, p2, cl_Almanac T, na_Almanac_rains_list T, (by show 1 < 1000; decide), ?_⟩
          have pD : D ≠ p := fun z => by rw [z, p1] at hD; cases hD
          have b2 : But p H (upd H4 p (.ins (cA K) dx (putF "rains_list" (.ref D) (putF "days_number" (.int d) [])))) := ((But.of e2).trans (b1.trans (But.of s2))).upd
          refine k _ b2 ⟨dx, D, acc, ?_, by rw [upd_ne pD]; exact hacc, Paired.mapP hI fun _ _ z => ?_⟩
          · rw [upd_same]
            have e : ¬ (("days_number" : Str) = "rains_list") := by decide +kernel
            show some (HO.ins (cA K) dx (if ("days_number" : Str) = "rains_list" then _ else _)) = _
            rw [if_neg e]
            rfl
          · obtain ⟨u, rfl, h⟩ := z
            exact ⟨u, rfl, by rw [upd_ne fun z => by rw [z, p2] at h; cases h]; exact h⟩
/-- the making of an almanac that is allowed -/
theorem amade {E : XK} {Q : Addr → Hp → Prop} {H : Hp} {s : Addr} {ys : List V} {rs : List Q4} {d : Int} (hS : H s = some (.lst ys)) (hP : Paired (QuadT H) ys rs) (d1 : 1 ≤ d) (d2 : d ≤ 24) (hl : rs.length ≤ 40) (hg : ∀ r ∈ rs, GoodR r)
    (k : ∀ x H', H x = none → Same H H' → AlmAt K H' x d rs → Q x H') :
    ∀ x dx, H x = none → H dx = none → dx ≠ x → spAInit K (.ref x :: ([.int d, .ref s] ++ [])) (upd (upd H dx (.own x)) x (.ins (cA K) dx [])) (fun v H2 => v = .non ∧ Q x H2) E := by
  intro x dx hx hdx hne
  have s1 : Same H (upd (upd H dx (.own x)) x (.ins (cA K) dx [])) := same_mut (same_new hdx) hx
  exact ⟨x, dx, d, s, ys, rs, rfl, upd_same, s1 _ _ hS, Paired.mapP hP fun _ _ z => z.same s1, d1, d2, hl, hg, fun H' b h => ⟨rfl, k x H' hx (fun c o hc => b c o (s1 c o hc) (ne_of_none hc hx)) h⟩⟩
def spADays (K : PySem.W.Frag) : Sp := fun vs H Q _ => ∃ p d rs, vs = [.ref p] ∧ AlmAt K H p d rs ∧ Q (.int d) H
theorem okm_Almanac_days (T : Txt w K mg) : OkM P w K mg base CX0 1 (cA K) "days" ["self"] (spADays K) := by
  refine OkM.def0 (fm_Almanac_days T) (me_Almanac_days T) (fun _ _ _ _ _ _ us hl => match us, hl with | [_], _ => rfl) sc_Almanac_days (fun vs H Q E h => ?_) (fun cdv A outer s H vs Q E hr h => ?_)
  · obtain ⟨p, d, rs, rfl, _⟩ := h
    rfl
  · obtain ⟨p, d, rs, rfl, ⟨dx, l, xs, h1, h2, h3⟩, k⟩ := h
    refine ⟨_, (pss_one (ps_ret (pe_fld (pv 0) rfl))), ?_⟩
    exact ⟨_, rfl, p, _, dx, _, _, rfl, h1, cl_Almanac T, na_Almanac_days_number T, af_days d l, k⟩
def spARains (K : PySem.W.Frag) : Sp := fun vs H Q _ => ∃ p d rs, vs = [.ref p] ∧ AlmAt K H p d rs ∧ ∀ l xs H', H l = none → Same H H' → H' l = some (.lst xs) → Paired (QuadT H') xs rs → Q (.ref l) H'
theorem okm_Almanac_rains (T : Txt w K mg) : OkM P w K mg base CX0 1 (cA K) "rains" ["self"] (spARains K) := by
  refine OkM.def0 (fm_Almanac_rains T) (me_Almanac_rains T) (fun _ _ _ _ _ _ us hl => match us, hl with | [_], _ => rfl) sc_Almanac_rains (fun vs H Q E h => ?_) (fun cdv A outer s H vs Q E hr h => ?_)
  · obtain ⟨p, d, rs, rfl, _⟩ := h
    rfl
  · obtain ⟨p, d, rs, rfl, ⟨dx, l, xs, h1, h2, h3⟩, k⟩ := h
    refine ⟨_, (pss_one (ps_ret (pe_callTy (list_ofK (K := K) rfl) rfl (n_list T) (by decide +kernel) (pa_cons (pe_fld (pv 0) rfl) pa_nil)))), ?_⟩
    refine ⟨_, rfl, p, _, dx, _, _, rfl, h1, cl_Almanac T, na_Almanac_rains_list T, af_rains d l, l, xs, rfl, .inl (SqL.of h2), fun m hm => ?_⟩
    obtain ⟨s1, g1⟩ := new2 (.lst xs) hm
    exact k m xs _ hm s1 g1 (Paired.mapP h3 fun _ _ z => z.same s1)
end
end K85
end
section
set_option maxRecDepth 100000
set_option maxHeartbeats 4000000
namespace K85
open PySem PySem.Spec PyProof.Rows L2
/-! ### what is right with a weather, day by day -/
def okR (r : Q4) (day cans : Int) : Bool := decide (r.1 ≤ day) && (decide (day ≤ r.2.1) && (decide (r.2.2.1 ≤ cans) && decide (cans ≤ r.2.2.2)))
def okF (rs : List Q4) (day b : Int) (g : List Int) (c : Int × Int) : Bool := decide (b < c.1) && (decide (c.1 ≤ (rs.length : Int)) && (!decide (c.1 ∈ g) && okR (rs.getD (c.1 - 1).toNat (0, 0, 0, 0)) day c.2))
def falls (rs : List Q4) (day : Int) : Int → List Int → List (Int × Int) → Option (List Int)
  | _, g, [] => some g
  | b, g, c :: r => if okF rs day b g c = true then falls rs day c.1 (g ++ [c.1]) r else none
/-- a rain that must be gone and is not -/
def late (rs : List Q4) (day : Int) (g : List Int) (at_ : Nat) : Bool := decide ((rs.getD at_ (0, 0, 0, 0)).2.1 ≤ day) && !decide (((at_ : Int) + 1) ∈ g)
def dueBad (rs : List Q4) (day : Int) (g : List Int) : Bool := (List.range rs.length).any (late rs day g)
def dayStep (rs : List Q4) (day : Int) (g : List Int) (rep : List (Int × Int)) : Option (List Int) :=
  match falls rs day 0 g rep with
  | none => none
  | some g' => if dueBad rs day g' = true then none else some g'
def firstBad (rs : List Q4) : Int → List Int → List (List (Int × Int)) → Int
  | _, _, [] => 0
  | k, g, rep :: W => match dayStep rs k g rep with
    | none => k
    | some g' => firstBad rs (k + 1) g' W
def ascends : Int → List (Int × Int) → Bool
  | _, [] => true
  | b, c :: r => decide (b < c.1) && (decide (0 ≤ c.2) && ascends c.1 r)
theorem okR_nn {r : Q4} {day cans : Int} (h0 : 0 ≤ r.2.2.1) (h : okR r day cans = true) : 0 ≤ cans := by
  unfold okR at h
  simp only [Bool.and_eq_true, decide_eq_true_eq] at h
  omega
theorem falls_asc {rs : List Q4} (hg : ∀ r ∈ rs, GoodR r) {day : Int} : ∀ {b : Int} {g : List Int} {rep : List (Int × Int)}, 0 ≤ b → ascends b rep = false → falls rs day b g rep = none
  | b, g, [], _, h => by cases h
  | b, g, c :: r, hb, h => by
    unfold falls
    split
    · rename_i ho
      unfold okF at ho
      simp only [Bool.and_eq_true, decide_eq_true_eq] at ho
      obtain ⟨h1, h2, h3, h4⟩ := ho
      have hn : 0 ≤ c.2 := by
        have lt : (c.1 - 1).toNat < rs.length := by omega
        have e : rs.getD (c.1 - 1).toNat (0, 0, 0, 0) = rs[(c.1 - 1).toNat] := by rw [List.getD_eq_getElem?_getD, List.getElem?_eq_getElem lt]; rfl
        rw [e] at h4
        have := hg _ (List.getElem_mem lt)
        unfold GoodR at this
        exact okR_nn this.2.2.1 h4
      refine falls_asc hg (by omega) ?_
      unfold ascends at h
      rw [decide_eq_true h1, decide_eq_true hn] at h
      simpa using h
    · rfl
section
variable {P : Program} {w : World} {K : PySem.W.Frag} {mg : Str → Option Value} {base : Heap}
end
end K85
end
section
set_option maxRecDepth 100000
set_option maxHeartbeats 4000000
namespace K85
open PySem PySem.Spec PyProof.Rows L2
section
variable {P : Program} {w : World} {K : PySem.W.Frag} {mg : Str → Option Value} {base : Heap}
def spAsc : Sp := fun vs H Q _ => ∃ l xs ws, vs = [.ref l] ∧ H l = some (.lst xs) ∧ Paired (PairT H) xs ws ∧ Q (.bl (ascends 0 ws)) H
theorem ok_report_ascends (T : Txt w K mg) : Ok P w K mg base CX0 1 "report_ascends" ["report"] spAsc := by
  refine Ok.def0 (f_report_ascends T) (fun _ _ _ _ _ _ us hl => match us, hl with | [_], _ => rfl) sc_report_ascends (fun vs H Q E h => ?_) (fun f cdv A outer s H vs Q E hr h => ?_)
  · obtain ⟨l, xs, ws, rfl, _⟩ := h
    rfl
  · obtain ⟨l, xs, ws, rfl, h2, h3, k⟩ := h
    refine ⟨_, (pss_cons (ps_set (i := 1) sc_report_ascends.nd rfl (by first | exact Or.inl rfl | exact Or.inr rfl) pe_int)
      (pss_cons (ps_for PassesOwn.never rfl (pi_listK (K := K) rfl (pv 0)) (pg_tupK (K := K) (n := 2) rfl rfl (pgs_cons (pg_name (i := 2) sc_report_ascends.nd rfl (by first | exact Or.inl rfl | exact Or.inr rfl)) (pgs_cons (pg_name (i := 3) sc_report_ascends.nd rfl (by first | exact Or.inl rfl | exact Or.inr rfl)) pgs_nil)))
        (pss_cons (ps_if (PW.pt (pw_or (pt_cmpR op_le (pv 2) (pv 1) (nomark _)) (pw_or1 (pt_cmpR op_lt (pv 3) pe_int (nomark _))))) (pss_one (ps_ret pe_bl)) pss_nil)
      (pss_one (ps_set (i := 1) sc_report_ascends.nd rfl (by first | exact Or.inl rfl | exact Or.inr rfl) (pv 2)))))
      (pss_one (ps_ret pe_bl)))), ?_⟩
    refine ⟨_, rfl, l, rfl, ⟨_, SqL.of h2⟩, for_list (K := K) (a := l) (xs := xs) (fun i σ H' => ∃ v2 v3 b, σ = [some (.ref l), some (.int b), v2, v3] ∧ H' = H ∧ ascends 0 ws = ascends b (ws.drop i)) ⟨_, _, 0, rfl, rfl, rfl⟩ (fun _ _ _ _ ⟨_, _, _, _, e, _⟩ => by rw [e]; exact SqL.of h2) ?_ ?_⟩
    · rintro i x σ H' hx ⟨v2, v3, b, rfl, rfl, ha⟩
      obtain ⟨c, hc, hr⟩ := paired_get h3 hx
      rw [drop_get hc] at ha
      have step : ascends b (c :: ws.drop (i + 1)) = (decide (b < c.1) && (decide (0 ≤ c.2) && ascends c.1 (ws.drop (i + 1)))) := rfl
      refine PairT.un hr rfl ?_
      refine ⟨_, rfl, _, rfl, _, _, rfl, rfl, _, rfl, ?_⟩
      have no : (decide (b < c.1) && (decide (0 ≤ c.2) && ascends c.1 (ws.drop (i + 1)))) = false → ascends 0 ws = false := fun q => by rw [ha, step, q]
      cases q1 : decide (c.1 ≤ b) with
      | true =>
        have : decide (b < c.1) = false := decide_eq_false (by have := of_decide_eq_true q1; omega)
        rw [no (by rw [this]; rfl)] at k
        exact k
      | false =>
        have q1' : decide (b < c.1) = true := decide_eq_true (by have := of_decide_eq_false q1; omega)
        refine ⟨_, rfl, _, _, rfl, rfl, _, rfl, ?_⟩
        cases q2 : decide (c.2 < 0) with
        | true =>
          have : decide (0 ≤ c.2) = false := decide_eq_false (by have := of_decide_eq_true q2; omega)
          rw [no (by rw [q1', this]; rfl)] at k
          exact k
        | false =>
          have q2' : decide (0 ≤ c.2) = true := decide_eq_true (by have := of_decide_eq_false q2; omega)
          rw [q1', q2'] at step
          exact ⟨_, rfl, _, _, c.1, rfl, rfl, by rw [ha, step]; rfl⟩
    · rintro σ H' ⟨v2, v3, b, rfl, rfl, ha⟩
      rw [Paired.length h3, List.drop_length] at ha
      rw [ha] at k
      exact k
/-- a weather: the reports of each day -/
def RepT (H : Hp) (x : V) (rep : List (Int × Int)) : Prop := ∃ l xs, x = .ref l ∧ H l = some (.lst xs) ∧ Paired (PairT H) xs rep
theorem RepT.same {H H' : Hp} (e : Same H H') {x : V} {rep : List (Int × Int)} (h : RepT H x rep) : RepT H' x rep := by
  obtain ⟨l, xs, rfl, h1, h2⟩ := h
  exact ⟨l, xs, rfl, e _ _ h1, Paired.mapP h2 fun _ _ z => z.same e⟩
def WeaT (H : Hp) (p : Addr) (W : List (List (Int × Int))) : Prop := ∃ xs, H p = some (.lst xs) ∧ Paired (RepT H) xs W
theorem WeaT.same {H H' : Hp} (e : Same H H') {p : Addr} {W : List (List (Int × Int))} (h : WeaT H p W) : WeaT H' p W := by
  obtain ⟨xs, h1, h2⟩ := h
  exact ⟨xs, e _ _ h1, Paired.mapP h2 fun _ _ z => z.same e⟩
def total (W : List (List (Int × Int))) : Nat := (W.map List.length).sum
theorem total_app (a b : List (List (Int × Int))) : total (a ++ b) = total a + total b := by
  unfold total
  rw [List.map_append, List.sum_append]
theorem total_le (W : List (List (Int × Int))) (i : Nat) : total (W.take i) ≤ total W := by
  have := total_app (W.take i) (W.drop i)
  rw [List.take_append_drop] at this
  omega
theorem total_step {W : List (List (Int × Int))} {i : Nat} {rep : List (Int × Int)} (h : W[i]? = some rep) : total (W.take (i + 1)) = total (W.take i) + rep.length := by
  rw [take_get h, total_app]
  unfold total
  simp
def spBegins (K : PySem.W.Frag) : Sp := fun vs H Q _ => ∃ p T rs a W, vs = [.ref p, .ref a] ∧ AlmAt K H p T rs ∧ rs.length ≤ 40 ∧ (∀ r ∈ rs, GoodR r) ∧ WeaT H a W ∧ (W.length : Int) ≤ T ∧ total W ≤ 2000 ∧ ∀ H', Same H H' → Q (.int (firstBad rs 1 [] W)) H'
theorem okm_Almanac_begins (T : Txt w K mg) : OkM P w K mg base CX0 2 (cA K) "begins" ["self", "beginning"] (spBegins K) := by
  refine OkM.def0 (fm_Almanac_begins T) (me_Almanac_begins T) (fun _ _ _ _ _ _ us hl => match us, hl with | [_, _], _ => rfl) sc_Almanac_begins (fun vs H Q E h => ?_) (fun cdv A outer s H vs Q E hr h => ?_)
  · obtain ⟨p, TT, rs, a, W, rfl, _⟩ := h
    rfl
  · obtain ⟨p, TT, rs, a, W, rfl, ⟨dx, l, xs, h1, h2, h3⟩, hl, hg, ⟨ys, w1, w2⟩, hT, htot, k⟩ := h
    have hxl : xs.length = rs.length := Paired.length h3
    refine ⟨_, (pss_cons (ps_set (i := 2) sc_Almanac_begins.nd rfl (by first | exact Or.inl rfl | exact Or.inr rfl) (pe_callTy0 cr_set0 rfl (n_set T) (by decide +kernel)))
      (pss_cons (ps_for PassesOwn.never rfl (pi_enum rfl (n_enumerate T) (pa_cons (pv 1) pa_nil)) (pg_tupK (K := K) (n := 2) rfl rfl (pgs_cons (pg_name (i := 3) sc_Almanac_begins.nd rfl (by first | exact Or.inl rfl | exact Or.inr rfl)) (pgs_cons (pg_name (i := 4) sc_Almanac_begins.nd rfl (by first | exact Or.inl rfl | exact Or.inr rfl)) pgs_nil)))
        (pss_cons (ps_set (i := 5) sc_Almanac_begins.nd rfl (by first | exact Or.inl rfl | exact Or.inr rfl) (pe_op op_add (pv 3) pe_int))
      (pss_cons (ps_if (PW.pt (pw_or (pt_cmpR op_gt (pv 5) (pe_fld (pv 0) rfl) (nomark _)) (pw_or1 (pt_not (pt_val (pe_ok (ok_report_ascends T) (hr.mono (by first | decide | omega)) rfl pass0 (pa_cons (pv 4) pa_nil))))))) (pss_one (ps_ret (pv 5))) pss_nil)
      (pss_cons (ps_for PassesOwn.never rfl (pi_listK (K := K) rfl (pv 4)) (pg_tupK (K := K) (n := 2) rfl rfl (pgs_cons (pg_name (i := 6) sc_Almanac_begins.nd rfl (by first | exact Or.inl rfl | exact Or.inr rfl)) (pgs_cons (pg_name (i := 7) sc_Almanac_begins.nd rfl (by first | exact Or.inl rfl | exact Or.inr rfl)) pgs_nil)))
        (pss_cons (ps_if (PW.pt (pw_or (pt_cmpR op_gt (pv 6) (pe_callB (len_seqK (K := K) rfl) rfl (n_len T) (by decide +kernel) (pa_cons (pe_fld (pv 0) rfl) pa_nil)) (nomark _)) (pw_or1 (pt_cmpR or_sin (pv 6) (pv 2) (by with_unfolding_all rfl))))) (pss_one (ps_ret (pv 5))) pss_nil)
      (pss_cons (ps_asg (pe_ix (ix_seqK (K := K) rfl) (pe_fld (pv 0) rfl) (pe_op op_sub (pv 6) pe_int) (fun _ _ => rfl)) (pg_tupK (K := K) (n := 4) rfl rfl (pgs_cons (pg_name (i := 8) sc_Almanac_begins.nd rfl (by first | exact Or.inl rfl | exact Or.inr rfl)) (pgs_cons (pg_name (i := 9) sc_Almanac_begins.nd rfl (by first | exact Or.inl rfl | exact Or.inr rfl)) (pgs_cons (pg_name (i := 10) sc_Almanac_begins.nd rfl (by first | exact Or.inl rfl | exact Or.inr rfl)) (pgs_cons (pg_name (i := 11) sc_Almanac_begins.nd rfl (by first | exact Or.inl rfl | exact Or.inr rfl)) pgs_nil))))))
      (pss_cons (ps_if (PW.pt (pw_or (pt_cmpR op_lt (pv 5) (pv 8) (nomark _)) (pw_or (pt_cmpR op_gt (pv 5) (pv 9) (nomark _)) (pw_or (pt_cmpR op_lt (pv 7) (pv 10) (nomark _)) (pw_or1 (pt_cmpR op_gt (pv 7) (pv 11) (nomark _))))))) (pss_one (ps_ret (pv 5))) pss_nil)
      (pss_one (ps_expr (pe_sadd (pv 2) (pa_cons (pv 6) pa_nil))))))))
      (pss_one (ps_for PassesOwn.never rfl (pi_enum rfl (n_enumerate T) (pa_cons (pe_fld (pv 0) rfl) pa_nil)) (pg_tupK (K := K) (n := 2) rfl rfl (pgs_cons (pg_name (i := 12) sc_Almanac_begins.nd rfl (by first | exact Or.inl rfl | exact Or.inr rfl)) (pgs_cons (pg_name (i := 13) sc_Almanac_begins.nd rfl (by first | exact Or.inl rfl | exact Or.inr rfl)) pgs_nil)))
        (pss_one (ps_if (PW.pt (pw_and (pt_cmpR op_le (pe_ix (ix_seqK (K := K) rfl) (pv 13) pe_int (fun _ _ => rfl)) (pv 5) (nomark _)) (pw_and1 (pt_cmpR or_snotin (pe_op op_add (pv 12) pe_int) (pv 2) (by with_unfolding_all rfl))))) (pss_one (ps_ret (pv 5))) pss_nil))))))))
      (pss_one (ps_ret pe_int)))), ?_⟩
    refine ⟨rfl, fun sp hsp => ?_⟩
    have s1 : Same H (upd H sp (SetO w sp (fun _ => false) 0)) := same_new hsp
    refine ⟨_, rfl, a, ys, rfl, SqL.of (s1 _ _ w1), for_enum0 (K := K) (a := a) (xs := ys) (fun i σ H' => ∃ v3 v4 v5 v6 v7 v8 v9 v10 v11 v12 v13 S gone, σ = [some (.ref p), some (.ref a), some (.ref sp), v3, v4, v5, v6, v7, v8, v9, v10, v11, v12, v13] ∧ Same H H' ∧ H' sp = some (SetO w sp S gone.length) ∧ (∀ z, S z = decide (z ∈ gone)) ∧ gone.length ≤ total (W.take i) ∧ firstBad rs 1 [] W = firstBad rs ((i : Int) + 1) gone (W.drop i)) ⟨_, _, _, _, _, _, _, _, _, _, _, _, [], rfl, s1, upd_same, fun z => by simp, Nat.zero_le _, rfl⟩ (fun _ _ _ _ h => ?_) ?_ ?_⟩
    · obtain ⟨_, _, _, _, _, _, _, _, _, _, _, _, _, _, e, _⟩ := h
      exact SqL.of (e _ _ w1)
    · rintro i x σ H1 TP hx ⟨v3, v4, v5, v6, v7, v8, v9, v10, v11, v12, v13, S, gone, rfl, e1, hS, hSg, hgl, hfb⟩ hTP
      obtain ⟨rep, hrep, l2, zs, rfl, r1, r2⟩ := paired_get w2 hx
      obtain ⟨s2, g2⟩ := new2 (.tup [.int (i : Nat), .ref l2]) hTP
      have e2 := e1.trans s2
      have hS2 := s2 _ _ hS
      have hiW : i < W.length := (List.getElem?_eq_some_iff.mp hrep).1
      rw [drop_get hrep] at hfb
      have hst : firstBad rs ((i : Int) + 1) gone (rep :: W.drop (i + 1)) = match dayStep rs ((i : Int) + 1) gone rep with
        | none => ((i : Int) + 1)
        | some g' => firstBad rs ((i : Int) + 1 + 1) g' (W.drop (i + 1)) := rfl
      have ret : ∀ H', Same H H' → dayStep rs ((i : Int) + 1) gone rep = none → Q (.int ((i : Int) + 1)) H' := fun H' e hd => by
        rw [hd] at hst
        have := hfb.trans hst
        rw [this] at k
        exact k H' e
      refine ⟨TP, _, rfl, SqT.of g2, rfl, _, _, rfl, _, _, rfl, rfl, ?_⟩
      refine ⟨_, rfl, _, _, rfl, rfl, ?_⟩
      refine ⟨_, rfl, _, rfl, p, _, dx, _, _, rfl, e2 _ _ h1, cl_Almanac T, na_Almanac_days_number T, af_days TT l, _, _, rfl, rfl, _, rfl, ?_⟩
      rw [decide_eq_false (by omega)]
      refine ⟨_, rfl, l2, zs, rep, rfl, e2 _ _ r1, Paired.mapP r2 fun _ _ z => z.same e2, ?_⟩
      cases hasc : ascends 0 rep with
      | false =>
        refine ⟨_, rfl, _, rfl, ret _ e2 ?_⟩
        unfold dayStep
        rw [falls_asc hg (Int.le_refl 0) hasc]
      | true =>
        have hbnd : gone.length + rep.length ≤ total (W.take (i + 1)) := by
          rw [total_step hrep]
          omega
        have htk : total (W.take (i + 1)) ≤ 2000 := Nat.le_trans (total_le W (i + 1)) htot
        refine ⟨_, rfl, _, rfl, l2, rfl, ⟨_, SqL.of (e2 _ _ r1)⟩, for_list (K := K) (a := l2) (xs := zs) (fun j σ H' => ∃ v6 v7 v8 v9 v10 v11 v12 v13 S g b, σ = [some (.ref p), some (.ref a), some (.ref sp), some (.int (i : Nat)), some (.ref l2), some (.int ((i : Int) + 1)), v6, v7, v8, v9, v10, v11, v12, v13] ∧ Same H H' ∧ H' sp = some (SetO w sp S g.length) ∧ (∀ z, S z = decide (z ∈ g)) ∧ g.length ≤ gone.length + j ∧ falls rs ((i : Int) + 1) 0 gone rep = falls rs ((i : Int) + 1) b g (rep.drop j) ∧ ascends b (rep.drop j) = true ∧ 0 ≤ b) ⟨_, _, _, _, _, _, _, _, _, gone, 0, rfl, e2, hS2, hSg, Nat.le_refl _, rfl, hasc, Int.le_refl 0⟩ (fun _ _ _ _ h => ?_) ?_ ?_⟩
        · obtain ⟨_, _, _, _, _, _, _, _, _, _, _, _, e, _⟩ := h
          exact SqL.of (e _ _ r1)
        · rintro j x σ H3 hx3 ⟨v6, v7, v8, v9, v10, v11, v12, v13, S3, g3, b, rfl, e3, hS3, hSg3, hgl3, hfl, has3, hb0⟩
          obtain ⟨c, hc, hr⟩ := paired_get r2 hx3
          have hr := hr.same e3
          have hj : j < rep.length := (List.getElem?_eq_some_iff.mp hc).1
          rw [drop_get hc] at hfl has3
          have hst3 : falls rs ((i : Int) + 1) b g3 (c :: rep.drop (j + 1)) = if okF rs ((i : Int) + 1) b g3 c = true then falls rs ((i : Int) + 1) c.1 (g3 ++ [c.1]) (rep.drop (j + 1)) else none := rfl
          unfold ascends at has3
          simp only [Bool.and_eq_true, decide_eq_true_eq] at has3
          obtain ⟨a1, a2, a3⟩ := has3
          have bad : okF rs ((i : Int) + 1) b g3 c = false → Q (.int ((i : Int) + 1)) H3 := fun q => ret _ e3 (by
            unfold dayStep
            rw [hfl, hst3, q]
            rfl)
          refine PairT.un hr rfl ?_
          refine ⟨_, rfl, _, rfl, p, _, dx, _, _, rfl, e3 _ _ h1, cl_Almanac T, na_Almanac_rains_list T, af_rains TT l, l, xs, rfl, .inl (SqL.of (e3 _ _ h2)), _, _, rfl, rfl, _, rfl, ?_⟩
          rw [hxl]
          cases q1 : decide ((rs.length : Int) < c.1) with
          | true =>
            refine ⟨_, rfl, bad ?_⟩
            unfold okF
            rw [decide_eq_false (p := c.1 ≤ (rs.length : Int)) (by have := of_decide_eq_true q1; omega)]
            simp
          | false =>
            have q1 := of_decide_eq_false q1
            refine ⟨_, rfl, _, rfl, c.1, sp, S3, _, rfl, rfl, hS3, _, rfl, ?_⟩
            rw [hSg3]
            cases q2 : decide (c.1 ∈ g3) with
            | true =>
              refine ⟨_, rfl, bad ?_⟩
              unfold okF
              rw [q2]
              simp
            | false =>
              obtain ⟨n, hn⟩ : ∃ n : Nat, c.1 = (n : Int) + 1 := ⟨(c.1 - 1).toNat, by omega⟩
              have hnl : n < rs.length := by omega
              obtain ⟨r, hr4⟩ : ∃ r, rs[n]? = some r := ⟨rs[n], List.getElem?_eq_getElem hnl⟩
              obtain ⟨y, hy⟩ : ∃ y, xs[n]? = some y := ⟨xs[n]'(by omega), List.getElem?_eq_getElem _⟩
              obtain ⟨r', hr', hq⟩ := paired_get h3 hy
              rw [hr4] at hr'
              cases hr'
              have hq := hq.same e3
              have egr : rs.getD (c.1 - 1).toNat (0, 0, 0, 0) = r := by
                have : (c.1 - 1).toNat = n := by omega
                rw [this, List.getD_eq_getElem?_getD, hr4]
                rfl
              have okr : okF rs ((i : Int) + 1) b g3 c = okR r ((i : Int) + 1) c.2 := by
                unfold okF
                rw [egr, decide_eq_true a1, decide_eq_true (by omega), q2]
                rfl
              refine ⟨_, rfl, p, _, dx, _, _, rfl, e3 _ _ h1, cl_Almanac T, na_Almanac_rains_list T, af_rains TT l, _, rfl, _, _, rfl, rfl, .inl ⟨l, xs, _, y, rfl, rfl, SqL.of (e3 _ _ h2), at_of (by omega) hy, hq.un rfl ?_⟩⟩
              refine ⟨_, rfl, _, rfl, _, _, rfl, rfl, _, rfl, ?_⟩
              have badR : okR r ((i : Int) + 1) c.2 = false → Q (.int ((i : Int) + 1)) H3 := fun q => bad (okr.trans q)
              cases t1 : decide ((i : Int) + 1 < r.1) with
              | true =>
                refine ⟨_, rfl, badR ?_⟩
                unfold okR
                rw [decide_eq_false (p := r.1 ≤ (i : Int) + 1) (by have := of_decide_eq_true t1; omega)]
                rfl
              | false =>
                have t1 := of_decide_eq_false t1
                refine ⟨_, rfl, _, rfl, _, _, rfl, rfl, _, rfl, ?_⟩
                cases t2 : decide (r.2.1 < (i : Int) + 1) with
                | true =>
                  refine ⟨_, rfl, badR ?_⟩
                  unfold okR
                  rw [decide_eq_false (p := (i : Int) + 1 ≤ r.2.1) (by have := of_decide_eq_true t2; omega)]
                  simp
                | false =>
                  have t2 := of_decide_eq_false t2
                  refine ⟨_, rfl, _, rfl, _, _, rfl, rfl, _, rfl, ?_⟩
                  cases t3 : decide (c.2 < r.2.2.1) with
                  | true =>
                    refine ⟨_, rfl, badR ?_⟩
                    unfold okR
                    rw [decide_eq_false (p := r.2.2.1 ≤ c.2) (by have := of_decide_eq_true t3; omega)]
                    simp
                  | false =>
                    have t3 := of_decide_eq_false t3
                    refine ⟨_, rfl, _, rfl, _, _, rfl, rfl, _, rfl, ?_⟩
                    cases t4 : decide (r.2.2.2 < c.2) with
                    | true =>
                      refine ⟨_, rfl, badR ?_⟩
                      unfold okR
                      rw [decide_eq_false (p := c.2 ≤ r.2.2.2) (by have := of_decide_eq_true t4; omega)]
                      simp
                    | false =>
                      have t4 := of_decide_eq_false t4
                      have good : okF rs ((i : Int) + 1) b g3 c = true := by
                        rw [okr]
                        unfold okR
                        rw [decide_eq_true (by omega), decide_eq_true (by omega), decide_eq_true (by omega), decide_eq_true (by omega)]
                        rfl
                      refine ⟨_, rfl, ⟨sp, S3, _, rfl, hS3⟩, _, rfl, sp, c.1, S3, _, rfl, rfl, hS3, (by show _ < 4096; omega), ?_⟩
                      have hno : S3 c.1 = false := by rw [hSg3, q2]
                      rw [hno]
                      have hsp0 : H sp = none := hsp
                      refine ⟨_, _, _, _, _, _, _, _, fun j => S3 j || decide (j = c.1), g3 ++ [c.1], c.1, rfl, same_mut e3 hsp0, ?_, fun z => ?_, ?_, ?_, a3, by omega⟩
                      · rw [upd_same, List.length_append]
                        rfl
                      · show (S3 z || decide (z = c.1)) = _
                        rw [hSg3]
                        simp
                      · rw [List.length_append]
                        show _ + 1 ≤ _
                        omega
                      · rw [hfl, hst3, good]
                        rfl
        · rintro σ H3 ⟨v6, v7, v8, v9, v10, v11, v12, v13, S3, g, b, rfl, e3, hS3, hSg3, hgl3, hfl, has3, hb0⟩
          rw [Paired.length r2, List.drop_length] at hfl
          have hfl : falls rs ((i : Int) + 1) 0 gone rep = some g := hfl
          rw [Paired.length r2] at hgl3
          have hds : dayStep rs ((i : Int) + 1) gone rep = if dueBad rs ((i : Int) + 1) g = true then none else some g := by
            unfold dayStep
            rw [hfl]
          refine ⟨_, rfl, p, _, dx, _, _, rfl, e3 _ _ h1, cl_Almanac T, na_Almanac_rains_list T, af_rains TT l, l, xs, rfl, SqL.of (e3 _ _ h2), for_enum0 (K := K) (a := l) (xs := xs) (fun m σ H' => ∃ v6 v7 v8 v9 v10 v11 v12 v13, σ = [some (.ref p), some (.ref a), some (.ref sp), some (.int (i : Nat)), some (.ref l2), some (.int ((i : Int) + 1)), v6, v7, v8, v9, v10, v11, v12, v13] ∧ Same H3 H' ∧ ∀ q, q < m → late rs ((i : Int) + 1) g q = false) ⟨_, _, _, _, _, _, _, _, rfl, Same.refl H3, fun q h => by omega⟩ (fun _ _ _ _ h => ?_) ?_ ?_⟩
          · obtain ⟨_, _, _, _, _, _, _, _, _, e, _⟩ := h
            exact SqL.of (e _ _ (e3 _ _ h2))
          · rintro m x σ H4 TQ hx4 ⟨v6, v7, v8, v9, v10, v11, v12, v13, rfl, e4, hlt⟩ hTQ
            obtain ⟨r, hr4, hq⟩ := paired_get h3 hx4
            obtain ⟨s5, g5⟩ := new2 (.tup [.int (m : Nat), x]) hTQ
            have e45 := e4.trans s5
            have hq := hq.same (e3.trans e45)
            have hml : m < rs.length := (List.getElem?_eq_some_iff.mp hr4).1
            have egr : rs.getD m (0, 0, 0, 0) = r := by rw [List.getD_eq_getElem?_getD, hr4]; rfl
            have el : late rs ((i : Int) + 1) g m = (decide (r.2.1 ≤ (i : Int) + 1) && !decide ((m : Int) + 1 ∈ g)) := by unfold late; rw [egr]
            refine ⟨TQ, _, rfl, SqT.of g5, rfl, _, _, rfl, _, _, rfl, rfl, ?_⟩
            refine ⟨_, rfl, hq.ix (i := 1) rfl ⟨_, rfl, _, _, rfl, rfl, _, rfl, ?_⟩⟩
            cases t1 : decide (r.2.1 ≤ (i : Int) + 1) with
            | false =>
              refine ⟨_, _, _, _, _, _, _, _, rfl, e45, fun q hq => ?_⟩
              by_cases eq : q = m
              · rw [eq, el, t1]
                rfl
              · exact hlt q (by omega)
            | true =>
              refine ⟨_, rfl, _, _, rfl, rfl, _, rfl, (m : Int) + 1, sp, S3, _, rfl, rfl, e45 _ _ hS3, _, rfl, ?_⟩
              rw [hSg3]
              cases t2 : decide ((m : Int) + 1 ∈ g) with
              | true =>
                refine ⟨_, _, _, _, _, _, _, _, rfl, e45, fun q hq => ?_⟩
                by_cases eq : q = m
                · rw [eq, el, t2]
                  simp
                · exact hlt q (by omega)
              | false =>
                refine ⟨_, rfl, ret _ (e3.trans e45) ?_⟩
                rw [hds, if_pos]
                unfold dueBad
                rw [List.any_eq_true]
                exact ⟨m, List.mem_range.mpr hml, by rw [el, t1, t2]; rfl⟩
          · rintro σ H4 ⟨v6, v7, v8, v9, v10, v11, v12, v13, rfl, e4, hlt⟩
            have hno : dueBad rs ((i : Int) + 1) g = false := by
              unfold dueBad
              rw [List.any_eq_false]
              intro q hq
              rw [hlt q (by rw [hxl]; exact List.mem_range.mp hq)]
              exact fun z => by cases z
            rw [hno] at hds
            have hds : dayStep rs ((i : Int) + 1) gone rep = some g := hds
            refine ⟨_, _, _, _, _, _, _, _, _, _, _, S3, g, rfl, e3.trans e4, e4 _ _ hS3, hSg3, by omega, ?_⟩
            rw [hfb, hst, hds]
            rfl
    · rintro σ H1 ⟨v3, v4, v5, v6, v7, v8, v9, v10, v11, v12, v13, S, gone, rfl, e1, hS, hSg, hgl, hfb⟩
      rw [Paired.length w2, List.drop_length] at hfb
      have : firstBad rs 1 [] W = 0 := hfb
      rw [this] at k
      exact k _ e1
end
end K85
end
section
set_option maxRecDepth 100000
set_option maxHeartbeats 4000000
namespace K85
open PySem PySem.Spec PyProof.Rows L2
def wrongOf (rs : List Q4) (T : Nat) (W : List (List (Int × Int))) : Int := if W.length = T then (if firstBad rs 1 [] W = 0 then -1 else firstBad rs 1 [] W) else 0
theorem inV_ints (n : Int) (ns : List Int) : inV (.int n) (ns.map V.int) = decide (n ∈ ns) := by
  unfold inV
  rw [List.any_map, Bool.eq_iff_iff, decide_eq_true_eq, List.any_eq_true]
  constructor
  · rintro ⟨m, hm, e⟩
    have : m = n := by simpa [eqV] using e
    rw [← this]
    exact hm
  · intro h
    exact ⟨n, h, by simp [eqV]⟩
theorem flat_ints (ns : List Int) : (ns.map V.int).all flatV = true := by
  rw [List.all_map]
  exact List.all_eq_true.mpr fun _ _ => rfl
section
variable {P : Program} {w : World} {K : PySem.W.Frag} {mg : Str → Option Value} {base : Heap}
def spFW : Sp := fun vs H Q _ => ∃ (T : Nat) (rl a : Addr) (xs : List V) (rs : List Q4) (W : List (List (Int × Int))), vs = [.int T, .ref rl, .ref a] ∧ H rl = some (.lst xs) ∧ Paired (QuadT H) xs rs ∧ WeaT H a W ∧ T ≤ 24 ∧ W.length ≤ 100 ∧ rs.length ≤ 40 ∧ (∀ r ∈ rs, GoodR r) ∧ total W ≤ 2000 ∧ ∀ H', Same H H' → Q (.int (wrongOf rs T W)) H'
theorem ok__law_first_wrong (T : Txt w K mg) : Ok P w K mg base CX0 1 "_law_first_wrong" ["days", "rains", "weather"] spFW := by
  refine Ok.def0 (f__law_first_wrong T) (fun _ _ _ _ _ _ us hl => match us, hl with | [_, _, _], _ => rfl) sc__law_first_wrong (fun vs H Q E h => ?_) (fun f cdv A outer s H vs Q E hr h => ?_)
  · obtain ⟨TT, rl, a, xs, rs, W, rfl, _⟩ := h
    rfl
  · obtain ⟨TT, rl, a, xs, rs, W, rfl, h2, h3, ⟨ys, w1, w2⟩, hT, hW, hl, hg, htot, k⟩ := h
    have hxl : xs.length = rs.length := Paired.length h3
    have hyl : ys.length = W.length := Paired.length w2
    refine ⟨_, (pss_cons (ps_if (pt_cmpR op_ne (pe_callB (len_seqK (K := K) rfl) rfl (n_len T) (by decide +kernel) (pa_cons (pv 2) pa_nil)) (pv 0) (nomark _)) (pss_one (ps_ret pe_int)) pss_nil)
      (pss_cons (ps_set (i := 3) sc__law_first_wrong.nd rfl (by first | exact Or.inl rfl | exact Or.inr rfl) (pe_lst pa_nil))
      (pss_cons (ps_for PassesOwn.never rfl (pi_range2 rfl (n_range T) (pa_cons pe_int (pa_cons (pe_op op_add (pv 0) pe_int) pa_nil))) (pg_name (i := 4) sc__law_first_wrong.nd rfl (by first | exact Or.inl rfl | exact Or.inr rfl))
        (pss_cons (ps_set (i := 5) sc__law_first_wrong.nd rfl (by first | exact Or.inl rfl | exact Or.inr rfl) pe_int)
      (pss_cons (ps_for PassesOwn.never rfl (pi_listK (K := K) rfl (pe_ix (ix_listK (K := K) rfl) (pv 2) (pe_op op_sub (pv 4) pe_int) (fun _ _ => rfl))) (pg_name (i := 6) sc__law_first_wrong.nd rfl (by first | exact Or.inl rfl | exact Or.inr rfl))
        (pss_cons (ps_set (i := 7) sc__law_first_wrong.nd rfl (by first | exact Or.inl rfl | exact Or.inr rfl) (pe_ix (ix_seqK (K := K) rfl) (pv 6) pe_int (fun _ _ => rfl)))
      (pss_cons (ps_if (PW.pt (pw_or (pt_cmpR op_le (pv 7) (pv 5) (nomark _)) (pw_or (pt_cmpR op_gt (pv 7) (pe_callB (len_seqK (K := K) rfl) rfl (n_len T) (by decide +kernel) (pa_cons (pv 1) pa_nil)) (nomark _)) (pw_or1 (pt_cmpR (inK (K := K) rfl) (pv 7) (pv 3) (by with_unfolding_all rfl)))))) (pss_one (ps_ret (pv 4))) pss_nil)
      (pss_cons (ps_set (i := 8) sc__law_first_wrong.nd rfl (by first | exact Or.inl rfl | exact Or.inr rfl) (pe_ix (ix_listK (K := K) rfl) (pv 1) (pe_op op_sub (pv 7) pe_int) (fun _ _ => rfl)))
      (pss_cons (ps_if (PW.pt (pw_or (pt_not (pt_chain op_le op_le (pe_ix (ix_seqK (K := K) rfl) (pv 8) pe_int (fun _ _ => rfl)) (pv 4) (pe_ix (ix_seqK (K := K) rfl) (pv 8) pe_int (fun _ _ => rfl)))) (pw_or1 (pt_not (pt_chain op_le op_le (pe_ix (ix_seqK (K := K) rfl) (pv 8) pe_int (fun _ _ => rfl)) (pe_ix (ix_seqK (K := K) rfl) (pv 6) pe_int (fun _ _ => rfl)) (pe_ix (ix_seqK (K := K) rfl) (pv 8) pe_int (fun _ _ => rfl))))))) (pss_one (ps_ret (pv 4))) pss_nil)
      (pss_cons (ps_set (i := 5) sc__law_first_wrong.nd rfl (by first | exact Or.inl rfl | exact Or.inr rfl) (pv 7))
      (pss_one (ps_expr (pe_bm PySem.F.plainAttrs_list PySem.F.slot_list_append PySem.F.type_list_append mt_append (pv 3) (pa_cons (pv 7) pa_nil))))))))))
      (pss_one (ps_for PassesOwn.never rfl (pi_range1 rfl (n_range T) (pa_cons (pe_callB (len_seqK (K := K) rfl) rfl (n_len T) (by decide +kernel) (pa_cons (pv 1) pa_nil)) pa_nil)) (pg_name (i := 9) sc__law_first_wrong.nd rfl (by first | exact Or.inl rfl | exact Or.inr rfl))
        (pss_one (ps_if (PW.pt (pw_and (pt_cmpR op_eq (pe_ix (ix_seqK (K := K) rfl) (pe_ix (ix_listK (K := K) rfl) (pv 1) (pv 9) (fun _ _ => rfl)) pe_int (fun _ _ => rfl)) (pv 4) (nomark _)) (pw_and1 (pt_cmpR (notInK (K := K) rfl) (pe_op op_add (pv 9) pe_int) (pv 3) (by with_unfolding_all rfl))))) (pss_one (ps_ret (pv 4))) pss_nil)))))))
      (pss_one (ps_ret (pe_un un_neg pe_int)))))), ?_⟩
    refine ⟨_, rfl, _, _, rfl, .inl (SqL.of w1), _, rfl, rfl, _, rfl, ?_⟩
    rw [hyl]
    have ecast : (!decide (V.int (W.length : Int) = V.int (TT : Int))) = !decide (W.length = TT) := by
      congr 1
      rw [decide_eq_decide]
      exact ⟨fun z => by cases z; omega, fun z => by rw [z]⟩
    rw [ecast]
    cases hlen : decide (W.length = TT) with
    | false =>
      have hlen := of_decide_eq_false hlen
      have : wrongOf rs TT W = 0 := by unfold wrongOf; rw [if_neg hlen]
      rw [this] at k
      exact k _ (Same.refl H)
    | true =>
      have hlen := of_decide_eq_true hlen
      have kw : ∀ H', Same H H' → firstBad rs 1 [] W = 0 → Q (.int (-1)) H' := fun H' e z => by
        have : wrongOf rs TT W = -1 := by unfold wrongOf; rw [if_pos hlen, if_pos z]
        rw [this] at k
        exact k H' e
      have kb : ∀ H' (d : Int), Same H H' → d ≠ 0 → firstBad rs 1 [] W = d → Q (.int d) H' := fun H' d e hd z => by
        have : wrongOf rs TT W = d := by unfold wrongOf; rw [if_pos hlen, z, if_neg hd]
        rw [this] at k
        exact k H' e
      refine ⟨(by show 0 ≤ sizeLine; decide), fun gl hgl0 => ?_⟩
      obtain ⟨s1, g1⟩ := new2 (.lst []) hgl0
      refine ⟨_, rfl, _, _, rfl, rfl, 1, TT + 1, rfl, by omega, for_upto (lo := 1) (L := TT) (by omega) (fun i σ H' => ∃ v4 v5 v6 v7 v8 v9 gone, σ = [some (.int TT), some (.ref rl), some (.ref a), some (.ref gl), v4, v5, v6, v7, v8, v9] ∧ Same H H' ∧ H' gl = some (.lst ((gone : List Int).map V.int)) ∧ gone.length ≤ total (W.take i) ∧ firstBad rs 1 [] W = firstBad rs ((i : Int) + 1) gone (W.drop i) ∧ ∀ (q : Nat) (r : Q4), rs[q]? = some r → r.2.1 < (i : Int) + 1 → (q : Int) + 1 ∈ gone) ⟨_, _, _, _, _, _, [], rfl, s1, g1, Nat.zero_le _, rfl, fun q r hq hr => ?_⟩ ?_ ?_⟩
      · have := hg r (List.mem_of_getElem? hq)
        unfold GoodR at this
        omega
      · rintro i σ H1 hi ⟨v4, v5, v6, v7, v8, v9, gone, rfl, e1, hgl, hgn, hfb, hold⟩
        have ed : (1 : Int) + (i : Int) = (i : Int) + 1 := by omega
        rw [ed]
        obtain ⟨rep, hrep⟩ : ∃ rep, W[i]? = some rep := ⟨W[i]'(by omega), List.getElem?_eq_getElem _⟩
        obtain ⟨x, hx⟩ : ∃ x, ys[i]? = some x := ⟨ys[i]'(by omega), List.getElem?_eq_getElem _⟩
        obtain ⟨rep', hrep', l2, zs, rfl, r1, r2⟩ := paired_get w2 hx
        rw [hrep] at hrep'
        cases hrep'
        rw [drop_get hrep] at hfb
        have hst : firstBad rs ((i : Int) + 1) gone (rep :: W.drop (i + 1)) = match dayStep rs ((i : Int) + 1) gone rep with
          | none => ((i : Int) + 1)
          | some g' => firstBad rs ((i : Int) + 1 + 1) g' (W.drop (i + 1)) := rfl
        have ret : ∀ H', Same H H' → dayStep rs ((i : Int) + 1) gone rep = none → Q (.int ((i : Int) + 1)) H' := fun H' e hd => by
          rw [hd] at hst
          exact kb H' _ e (by omega) (hfb.trans hst)
        have hbnd : gone.length + rep.length ≤ total (W.take (i + 1)) := by
          rw [total_step hrep]
          omega
        have htk : total (W.take (i + 1)) ≤ 2000 := Nat.le_trans (total_le W (i + 1)) htot
        refine gnE ?_
        refine ⟨_, rfl, _, rfl, _, _, rfl, rfl, a, ys, _, _, rfl, rfl, SqL.of (e1 _ _ w1), at_of (by omega) hx, l2, rfl, ⟨_, SqL.of (e1 _ _ r1)⟩, for_list (K := K) (a := l2) (xs := zs) (fun j σ H' => ∃ v6 v7 v8 v9 g b, σ = [some (.int TT), some (.ref rl), some (.ref a), some (.ref gl), some (.int ((i : Int) + 1)), some (.int b), v6, v7, v8, v9] ∧ Same H H' ∧ H' gl = some (.lst ((g : List Int).map V.int)) ∧ g.length ≤ gone.length + j ∧ falls rs ((i : Int) + 1) 0 gone rep = falls rs ((i : Int) + 1) b g (rep.drop j) ∧ 0 ≤ b ∧ ∀ z ∈ gone, z ∈ g) ⟨_, _, _, _, gone, 0, rfl, e1, hgl, Nat.le_refl _, rfl, Int.le_refl 0, fun z h => h⟩ (fun _ _ _ _ h => ?_) ?_ ?_⟩
        · obtain ⟨_, _, _, _, _, _, _, e, _⟩ := h
          exact SqL.of (e _ _ r1)
        · rintro j x σ H3 hx3 ⟨v6, v7, v8, v9, g, b, rfl, e3, hg3, hgl3, hfl, hb0, hsub⟩
          obtain ⟨c, hc, hr⟩ := paired_get r2 hx3
          have hr := hr.same e3
          have hj : j < rep.length := (List.getElem?_eq_some_iff.mp hc).1
          rw [drop_get hc] at hfl
          have hst3 : falls rs ((i : Int) + 1) b g (c :: rep.drop (j + 1)) = if okF rs ((i : Int) + 1) b g c = true then falls rs ((i : Int) + 1) c.1 (g ++ [c.1]) (rep.drop (j + 1)) else none := rfl
          have bad : okF rs ((i : Int) + 1) b g c = false → Q (.int ((i : Int) + 1)) H3 := fun q => ret _ e3 (by
            unfold dayStep
            rw [hfl, hst3, q]
            rfl)
          refine ⟨_, rfl, hr.i0 ⟨_, rfl, _, rfl, _, _, rfl, rfl, _, rfl, ?_⟩⟩
          cases q0 : decide (c.1 ≤ b) with
          | true =>
            refine ⟨_, rfl, bad ?_⟩
            unfold okF
            rw [decide_eq_false (p := b < c.1) (by have := of_decide_eq_true q0; omega)]
            rfl
          | false =>
            have q0 := of_decide_eq_false q0
            refine ⟨_, rfl, _, rfl, _, _, rfl, .inl (SqL.of (e3 _ _ h2)), _, _, rfl, rfl, _, rfl, ?_⟩
            rw [hxl]
            cases q1 : decide ((rs.length : Int) < c.1) with
            | true =>
              refine ⟨_, rfl, bad ?_⟩
              unfold okF
              rw [decide_eq_false (p := c.1 ≤ (rs.length : Int)) (by have := of_decide_eq_true q1; omega)]
              simp
            | false =>
              have q1 := of_decide_eq_false q1
              refine ⟨_, rfl, _, rfl, gl, _, rfl, .inl (SqL.of hg3), rfl, flat_ints _, decide (c.1 ∈ g), congrArg V.bl (inV_ints c.1 g), ?_⟩
              cases q2 : decide (c.1 ∈ g) with
              | true =>
                refine ⟨_, rfl, bad ?_⟩
                unfold okF
                rw [q2]
                simp
              | false =>
                obtain ⟨n, hn⟩ : ∃ n : Nat, c.1 = (n : Int) + 1 := ⟨(c.1 - 1).toNat, by omega⟩
                have hnl : n < rs.length := by omega
                obtain ⟨r, hr4⟩ : ∃ r, rs[n]? = some r := ⟨rs[n], List.getElem?_eq_getElem hnl⟩
                obtain ⟨y, hy⟩ : ∃ y, xs[n]? = some y := ⟨xs[n]'(by omega), List.getElem?_eq_getElem _⟩
                obtain ⟨r', hr', hq⟩ := paired_get h3 hy
                rw [hr4] at hr'
                cases hr'
                have hq := hq.same e3
                have egr : rs.getD (c.1 - 1).toNat (0, 0, 0, 0) = r := by
                  have : (c.1 - 1).toNat = n := by omega
                  rw [this, List.getD_eq_getElem?_getD, hr4]
                  rfl
                have okr : okF rs ((i : Int) + 1) b g c = okR r ((i : Int) + 1) c.2 := by
                  unfold okF
                  rw [egr, decide_eq_true (p := b < c.1) (by omega), decide_eq_true (p := c.1 ≤ (rs.length : Int)) (by omega), q2]
                  rfl
                have badR : okR r ((i : Int) + 1) c.2 = false → Q (.int ((i : Int) + 1)) H3 := fun q => bad (okr.trans q)
                refine ⟨_, rfl, _, rfl, _, _, rfl, rfl, rl, xs, _, y, rfl, rfl, SqL.of (e3 _ _ h2), at_of (by omega) hy, ?_⟩
                refine ⟨_, rfl, hq.ix (i := 0) rfl ⟨_, rfl, _, _, rfl, rfl, _, rfl, ?_⟩⟩
                cases t1 : decide (r.1 ≤ (i : Int) + 1) with
                | false =>
                  refine ⟨_, rfl, _, rfl, badR ?_⟩
                  unfold okR
                  rw [t1]
                  rfl
                | true =>
                  refine ⟨_, rfl, hq.ix (i := 1) rfl ⟨_, _, rfl, rfl, _, rfl, ?_⟩⟩
                  cases t2 : decide ((i : Int) + 1 ≤ r.2.1) with
                  | false =>
                    refine ⟨_, rfl, badR ?_⟩
                    unfold okR
                    rw [t2]
                    simp
                  | true =>
                    refine ⟨_, rfl, hq.ix (i := 2) rfl ⟨_, rfl, hr.i1 ⟨_, _, rfl, rfl, _, rfl, ?_⟩⟩⟩
                    cases t3 : decide (r.2.2.1 ≤ c.2) with
                    | false =>
                      refine ⟨_, rfl, _, rfl, badR ?_⟩
                      unfold okR
                      rw [t3]
                      simp
                    | true =>
                      refine ⟨_, rfl, hq.ix (i := 3) rfl ⟨_, _, rfl, rfl, _, rfl, ?_⟩⟩
                      cases t4 : decide (c.2 ≤ r.2.2.2) with
                      | false =>
                        refine ⟨_, rfl, badR ?_⟩
                        unfold okR
                        rw [t4]
                        simp
                      | true =>
                        have good : okF rs ((i : Int) + 1) b g c = true := by
                          rw [okr]
                          unfold okR
                          rw [t1, t2, t3, t4]
                          rfl
                        refine ⟨_, rfl, _, rfl, .inl ⟨rfl, _, SqL.of hg3⟩, _, rfl, gl, _, _, rfl, rfl, hg3, line_lt (by rw [List.length_map]; omega), ?_⟩
                        refine ⟨_, _, _, _, g ++ [c.1], c.1, rfl, same_mut e3 hgl0, by rw [upd_same, List.map_append]; rfl, by rw [List.length_append]; show _ + 1 ≤ _; omega, ?_, by omega, fun z hz => List.mem_append_left _ (hsub z hz)⟩
                        rw [hfl, hst3, good]
                        rfl
        · rintro σ H3 ⟨v6, v7, v8, v9, g, b, rfl, e3, hg3, hgl3, hfl, hb0, hsub⟩
          rw [Paired.length r2, List.drop_length] at hfl
          have hfl : falls rs ((i : Int) + 1) 0 gone rep = some g := hfl
          rw [Paired.length r2] at hgl3
          have hds : dayStep rs ((i : Int) + 1) gone rep = if dueBad rs ((i : Int) + 1) g = true then none else some g := by
            unfold dayStep
            rw [hfl]
          refine ⟨_, rfl, _, _, rfl, .inl (SqL.of (e3 _ _ h2)), _, rfl, by omega, by omega, for_upto (lo := 0) (L := rs.length) (by rw [hxl]; omega) (fun m σ H' => ∃ v6 v7 v8 v9, σ = [some (.int TT), some (.ref rl), some (.ref a), some (.ref gl), some (.int ((i : Int) + 1)), some (.int b), v6, v7, v8, v9] ∧ Same H3 H' ∧ ∀ q r, q < m → rs[q]? = some r → r.2.1 = (i : Int) + 1 → (q : Int) + 1 ∈ g) ⟨_, _, _, _, rfl, Same.refl H3, fun q r h => by omega⟩ ?_ ?_⟩
          · rintro m σ H4 hm ⟨v6, v7, v8, v9, rfl, e4, hlt⟩
            have em : (0 : Int) + (m : Int) = (m : Int) := by omega
            rw [em]
            refine gnE ?_
            obtain ⟨r, hr4⟩ : ∃ r, rs[m]? = some r := ⟨rs[m], List.getElem?_eq_getElem hm⟩
            obtain ⟨y, hy⟩ : ∃ y, xs[m]? = some y := ⟨xs[m]'(by omega), List.getElem?_eq_getElem _⟩
            obtain ⟨r', hr', hq⟩ := paired_get h3 hy
            rw [hr4] at hr'
            cases hr'
            have e34 := e3.trans e4
            have hq := hq.same e34
            refine ⟨_, rfl, _, rfl, rl, xs, _, y, rfl, rfl, SqL.of (e34 _ _ h2), at_of rfl hy, hq.ix (i := 1) rfl ⟨_, rfl, rfl, _, rfl, ?_⟩⟩
            have ec : decide (V.int r.2.1 = V.int ((i : Int) + 1)) = decide (r.2.1 = (i : Int) + 1) := by
              rw [decide_eq_decide]
              exact ⟨fun z => V.int.inj z, fun z => by rw [z]⟩
            rw [ec]
            cases t1 : decide (r.2.1 = (i : Int) + 1) with
            | false =>
              have t1 := of_decide_eq_false t1
              refine ⟨_, _, _, _, rfl, e4, fun q r' hq hr' ht => ?_⟩
              by_cases eq : q = m
              · rw [eq, hr4] at hr'
                cases hr'
                exact absurd ht t1
              · exact hlt q r' (by omega) hr' ht
            | true =>
              have t1 := of_decide_eq_true t1
              refine ⟨_, rfl, _, _, rfl, rfl, _, rfl, gl, _, rfl, .inl (SqL.of (e4 _ _ hg3)), rfl, flat_ints _, !decide ((m : Int) + 1 ∈ g), congrArg (fun z => V.bl (!z)) (inV_ints ((m : Int) + 1) g), ?_⟩
              cases t2 : decide ((m : Int) + 1 ∈ g) with
              | true =>
                have t2 := of_decide_eq_true t2
                refine ⟨_, _, _, _, rfl, e4, fun q r' hq hr' ht => ?_⟩
                by_cases eq : q = m
                · rw [eq]
                  exact t2
                · exact hlt q r' (by omega) hr' ht
              | false =>
                refine ⟨_, rfl, ret _ e34 ?_⟩
                rw [hds, if_pos]
                unfold dueBad
                rw [List.any_eq_true]
                refine ⟨m, List.mem_range.mpr hm, ?_⟩
                unfold late
                rw [List.getD_eq_getElem?_getD, hr4]
                show (decide (r.2.1 ≤ (i : Int) + 1) && !decide ((m : Int) + 1 ∈ g)) = true
                rw [t2, decide_eq_true (by omega)]
                rfl
          · rintro σ H4 ⟨v6, v7, v8, v9, rfl, e4, hlt⟩
            have hin : ∀ (q : Nat) (r : Q4), rs[q]? = some r → r.2.1 < (i : Int) + 1 + 1 → (q : Int) + 1 ∈ g := fun q r hr ht => by
              by_cases c : r.2.1 = (i : Int) + 1
              · exact hlt q r (List.getElem?_eq_some_iff.mp hr).1 hr c
              · exact hsub _ (hold q r hr (by omega))
            have hno : dueBad rs ((i : Int) + 1) g = false := by
              unfold dueBad
              rw [List.any_eq_false]
              intro q hq
              have hql := List.mem_range.mp hq
              unfold late
              rw [List.getD_eq_getElem?_getD, List.getElem?_eq_getElem hql]
              show ¬(decide (rs[q].2.1 ≤ (i : Int) + 1) && !decide ((q : Int) + 1 ∈ g)) = true
              intro z
              simp only [Bool.and_eq_true, decide_eq_true_eq, Bool.not_eq_true', decide_eq_false_iff_not] at z
              exact z.2 (hin q _ (List.getElem?_eq_getElem hql) (by omega))
            rw [hno] at hds
            have hds : dayStep rs ((i : Int) + 1) gone rep = some g := hds
            refine ⟨_, _, _, _, _, _, g, rfl, e3.trans e4, e4 _ _ hg3, by omega, ?_, fun q r hr ht => hin q r hr (by omega)⟩
            rw [hfb, hst, hds]
            have : (((i + 1 : Nat) : Int) + 1) = (i : Int) + 1 + 1 := by omega
            rw [this]
      · rintro σ H1 ⟨v4, v5, v6, v7, v8, v9, gone, rfl, e1, hgl, hgn, hfb, hold⟩
        rw [← hlen, List.drop_length] at hfb
        exact ⟨_, rfl, kw _ e1 hfb⟩
end
end K85
end
section
set_option maxRecDepth 100000
set_option maxHeartbeats 4000000
namespace K85
open PySem PySem.Spec PyProof.Rows L2
/-- the stretches that end on day n + 1, up to first day k -/
def strRow (n k : Nat) : List (Int × Int) := (List.range k).map fun (a : Nat) => ((a : Int), (n : Int) + 1)
def strL : Nat → List (Int × Int)
  | 0 => []
  | n + 1 => strL n ++ strRow n (n + 1)
theorem strRow_succ {n k : Nat} : strRow n (k + 1) = strRow n k ++ [((k : Int), (n : Int) + 1)] := by
  unfold strRow
  rw [List.range_succ, List.map_append]
  rfl
theorem strRow_len {n k : Nat} : (strRow n k).length = k := by unfold strRow; rw [List.length_map, List.length_range]
theorem strL_len : ∀ n, n ≤ 24 → (strL n).length ≤ n * 24
  | 0, _ => Nat.zero_le _
  | n + 1, h => by
    show (strL n ++ strRow n (n + 1)).length ≤ _
    rw [List.length_append, strRow_len]
    have := strL_len n (by omega)
    omega
theorem strL_mem : ∀ {n : Nat} {c : Int × Int}, c ∈ strL n → ∃ a b : Nat, a < b ∧ b ≤ n ∧ c = ((a : Int), (b : Int))
  | 0, c, h => by cases h
  | n + 1, c, h => by
    rcases List.mem_append.mp h with h | h
    · obtain ⟨a, b, h1, h2, rfl⟩ := strL_mem h
      exact ⟨a, b, h1, by omega, rfl⟩
    · obtain ⟨a, ha, rfl⟩ := List.mem_map.mp h
      exact ⟨a, n + 1, List.mem_range.mp ha, Nat.le_refl _, rfl⟩
theorem _root_.L2.PairT.but {H H' : Hp} {D : Addr} {ys : List V} (hD : H D = some (.lst ys)) (e : But D H H') {x : V} {c : Int × Int} (h : PairT H x c) : PairT H' x c := by
  obtain ⟨t, rfl, h⟩ := h
  exact ⟨t, rfl, e _ _ h fun z => by rw [z, hD] at h; cases h⟩
theorem _root_.PySem.Paired.append {α β : Type} {F : α → β → Prop} {l₁ : List α} {m₁ : List β} (h1 : Paired F l₁ m₁) : ∀ {l₂ : List α} {m₂ : List β}, Paired F l₂ m₂ → Paired F (l₁ ++ l₂) (m₁ ++ m₂) := by
  induction h1 with
  | nil => exact fun h => h
  | cons a _ ih => exact fun h => .cons a (ih h)
section
variable {P : Program} {w : World} {K : PySem.W.Frag} {mg : Str → Option Value} {base : Heap}
def spStr : Sp := fun vs H Q _ => ∃ T : Nat, vs = [.int T] ∧ T ≤ 24 ∧ ∀ p ys H', Same H H' → H p = none → H' p = some (.lst ys) → Paired (PairT H') ys (strL T) → Q (.ref p) H'
theorem ok_all_stretches (T : Txt w K mg) : Ok P w K mg base CX0 1 "all_stretches" ["days"] spStr := by
  refine Ok.def0 (f_all_stretches T) (fun _ _ _ _ _ _ us hl => match us, hl with | [_], _ => rfl) sc_all_stretches (fun vs H Q E h => ?_) (fun f cdv A outer s H vs Q E hr h => ?_)
  · obtain ⟨TT, rfl, _⟩ := h
    rfl
  · obtain ⟨TT, rfl, hT, k⟩ := h
    refine ⟨_, (pss_one (ps_ret (pe_lc2 (own := [("b", 1), ("a", 2)]) (vs1 := [2]) rfl sc_all_stretches.nd (pi_range2 rfl (n_range T) (pa_cons pe_int (pa_cons (pe_op op_add (pv 0) pe_int) pa_nil))) (blkOk_by (N := ["days", "b", "a"]) (sc := defScope s_all_stretches) (by decide +kernel)) (by decide) (fun _ _ _ _ _ => (pg_name (i := 1) sc_all_stretches.nd rfl (by first | exact Or.inl rfl | exact Or.inr rfl))) (fun _ _ _ _ _ => pts_nil) (fun _ _ _ _ _ => (pi_range1 rfl (n_range T) (pa_cons (pv 1) pa_nil))) (fun _ _ _ _ _ => (pg_name (i := 2) sc_all_stretches.nd rfl (by first | exact Or.inl rfl | exact Or.inr rfl))) (fun _ _ _ _ _ => pts_nil) (fun _ _ _ _ _ => (pe_tup (pa_cons (pv 2) (pa_cons (pv 1) pa_nil))))))), ?_⟩
    refine ⟨_, rfl, _, _, rfl, rfl, _, _, rfl, by omega, fun D hD => ?_⟩
    refine rng_W (lo := 1) (L := TT) (by omega) (fun i H' => Same H H' ∧ ∃ ys, H' D = some (.lst ys) ∧ Paired (PairT H') ys (strL i)) ⟨same_new hD, [], upd_same, .nil⟩ ?_ ?_
    · rintro i H1 hi ⟨e1, ys1, g1, p1⟩
      have z1 : (1 : Int) + (i : Int) = (i : Int) + 1 := by omega
      refine ⟨rfl, ?_⟩
      refine ⟨_, rfl, _, rfl, by omega, by omega, rng_W (lo := 0) (L := i + 1) (by omega) (fun j H' => Same H H' ∧ ∃ ys, H' D = some (.lst ys) ∧ Paired (PairT H') ys (strL i ++ strRow i j)) ⟨e1, ys1, g1, by unfold strRow; simpa using p1⟩ ?_ ?_⟩
      · rintro j H2 hj ⟨e2, ys2, g2, p2⟩
        have z2 : (0 : Int) + (j : Int) = (j : Int) := by omega
        refine ⟨rfl, ?_⟩
        refine ⟨_, rfl, _, rfl, (by show 2 ≤ sizeLine; decide), fun t ht => ?_⟩
        rw [z1, z2]
        obtain ⟨s3, g3⟩ := new2 (.tup [.int (j : Int), .int ((i : Int) + 1)]) ht
        refine ⟨ys2, s3 _ _ g2, line_lt ?_, same_mut (e2.trans s3) hD, _, upd_same, ?_⟩
        · rw [Paired.length p2, List.length_append, strRow_len]
          have := strL_len i (by omega)
          omega
        · rw [strRow_succ, ← List.append_assoc]
          exact Paired.snoc (Paired.mapP p2 fun _ _ z => (z.same s3).mut (s3 _ _ g2)) ((show PairT _ (.ref t) ((j : Int), (i : Int) + 1) from ⟨t, rfl, g3⟩).mut (s3 _ _ g2))
      · rintro H2 ⟨e2, ys2, g2, p2⟩
        exact ⟨e2, ys2, g2, p2⟩
    · rintro H1 ⟨e1, ys1, g1, p1⟩
      exact k D ys1 H1 e1 hD g1 p1
theorem ok__law_stretches (T : Txt w K mg) : Ok P w K mg base CX0 1 "_law_stretches" ["days"] spStr := by
  refine Ok.def0 (f__law_stretches T) (fun _ _ _ _ _ _ us hl => match us, hl with | [_], _ => rfl) sc__law_stretches (fun vs H Q E h => ?_) (fun f cdv A outer s H vs Q E hr h => ?_)
  · obtain ⟨TT, rfl, _⟩ := h
    rfl
  · obtain ⟨TT, rfl, hT, k⟩ := h
    refine ⟨_, (pss_cons (ps_set (i := 1) sc__law_stretches.nd rfl (by first | exact Or.inl rfl | exact Or.inr rfl) (pe_lst pa_nil))
      (pss_cons (ps_for PassesOwn.never rfl (pi_range2 rfl (n_range T) (pa_cons pe_int (pa_cons (pe_op op_add (pv 0) pe_int) pa_nil))) (pg_name (i := 2) sc__law_stretches.nd rfl (by first | exact Or.inl rfl | exact Or.inr rfl))
        (pss_one (ps_set (i := 1) sc__law_stretches.nd rfl (by first | exact Or.inl rfl | exact Or.inr rfl) (pe_op op_cat (pv 1) (pe_lc (own := [("a", 3)]) rfl sc__law_stretches.nd (pi_range1 rfl (n_range T) (pa_cons (pv 2) pa_nil)) (blkOk_by (N := ["days", "found", "b", "a"]) (sc := defScope s__law_stretches) (by decide +kernel)) (fun _ _ _ _ _ => (pg_name (i := 3) sc__law_stretches.nd rfl (by first | exact Or.inl rfl | exact Or.inr rfl))) (fun _ _ _ _ _ => pts_nil) (fun _ _ _ _ _ => (pe_tup (pa_cons (pv 3) (pa_cons (pv 2) pa_nil)))))))))
      (pss_one (ps_ret (pv 1))))), ?_⟩
    refine ⟨(by show 0 ≤ sizeLine; decide), fun D hD => ?_⟩
    obtain ⟨s1, g1⟩ := new2 (.lst []) hD
    refine ⟨_, rfl, _, _, rfl, rfl, _, _, rfl, by omega, for_upto (lo := 1) (L := TT) (by omega) (fun i σ H' => ∃ v2 v3 p ys, σ = [some (.int TT), some (.ref p), v2, v3] ∧ Same H H' ∧ H p = none ∧ H' p = some (.lst ys) ∧ Paired (PairT H') ys (strL i)) ⟨_, _, D, [], rfl, s1, hD, g1, .nil⟩ ?_ ?_⟩
    · rintro i σ H1 hi ⟨v2, v3, p, ys, rfl, e1, hp, h1, p1⟩
      have z1 : (1 : Int) + (i : Int) = (i : Int) + 1 := by omega
      rw [z1]
      refine gnE ?_
      refine ⟨_, rfl, _, rfl, _, rfl, by omega, by omega, fun D2 hD2 => lc_upto (lo := 0) (L := i + 1) (by omega) hD2 (by omega) (fun j acc H' => Paired (PairT H') acc (strRow i j)) (fun _ _ => .nil) ?_ ?_⟩
      · rintro j acc H2 N N0 hj e2 g2 p2 hN hN0
        have z2 : (0 : Int) + (j : Int) = (j : Int) := by omega
        rw [z2]
        refine gnE ⟨rfl, ?_⟩
        refine ⟨_, rfl, _, rfl, (by show 2 ≤ sizeLine; decide), fun t ht => ?_⟩
        obtain ⟨s3, g3⟩ := new2 (.tup [.int (j : Int), .int ((i : Int) + 1)]) ht
        refine hN _ _ s3 fun H5 b5 _ => ?_
        rw [strRow_succ]
        exact Paired.snoc (Paired.mapP p2 fun _ _ z => (z.same s3).but (s3 _ _ g2) b5) ((show PairT _ (.ref t) ((j : Int), (i : Int) + 1) from ⟨t, rfl, g3⟩).but (s3 _ _ g2) b5)
      · rintro acc H2 e2 g2 hal p2
        have hl := strL_len i (by omega)
        refine ⟨p, D2, ys, acc, rfl, rfl, e2 _ _ h1, g2, Nat.le_of_lt (line_lt ?_), fun l hl => ?_⟩
        · rw [Paired.length p1]
          omega
        · obtain ⟨s3, g3⟩ := new2 (.lst (ys ++ acc)) hl
          have e4 := e1.trans (e2.trans s3)
          exact ⟨_, _, l, ys ++ acc, rfl, e4, none_of (e1.trans e2) hl, g3, (Paired.append (Paired.mapP p1 fun _ _ z => z.same (e2.trans s3)) (Paired.mapP p2 fun _ _ z => z.same s3))⟩
    · rintro σ H1 ⟨v2, v3, p, ys, rfl, e1, hp, h1, p1⟩
      exact ⟨_, rfl, k p ys H1 e1 hp h1 p1⟩
end
end K85
end
section
set_option maxRecDepth 100000
set_option maxHeartbeats 4000000
namespace K85
open PySem PySem.Spec PyProof.Rows L2
/-- how many of these spans lie in the stretch -/
def cS (a b : Int) (ws : List (Int × Int)) : Nat := (ws.filter fun c => decide (a < c.1) && decide (c.2 ≤ b)).length
theorem cS_le {a b : Int} {ws : List (Int × Int)} : cS a b ws ≤ ws.length := List.length_filter_le _ _
section
variable {P : Program} {w : World} {K : PySem.W.Frag} {mg : Str → Option Value} {base : Heap}
def spSpansIn : Sp := fun vs H Q _ => ∃ l xs ws a b, vs = [.ref l, .int a, .int b] ∧ H l = some (.lst xs) ∧ Paired (PairT H) xs ws ∧ ws.length ≤ 40 ∧ ∀ H', Same H H' → Q (.int (cS a b ws)) H'
theorem ok__law_spans_in (T : Txt w K mg) : Ok P w K mg base CX0 1 "_law_spans_in" ["spans", "a", "b"] spSpansIn := by
  refine Ok.def0 (f__law_spans_in T) (fun _ _ _ _ _ _ us hl => match us, hl with | [_, _, _], _ => rfl) sc__law_spans_in (fun vs H Q E h => ?_) (fun f cdv A outer s H vs Q E hr h => ?_)
  · obtain ⟨l, xs, ws, a, b, rfl, _⟩ := h
    rfl
  · obtain ⟨l, xs, ws, a, b, rfl, h2, h3, hl, k⟩ := h
    refine ⟨_, (pss_one (ps_ret (pe_callB (len_seqK (K := K) rfl) rfl (n_len T) (by decide +kernel) (pa_cons (pe_lc (own := [("span", 3)]) rfl sc__law_spans_in.nd (pi_listK (K := K) rfl (pv 0)) (blkOk_by (N := ["spans", "a", "b", "span"]) (sc := defScope s__law_spans_in) (by decide +kernel)) (fun _ _ _ _ _ => (pg_name (i := 3) sc__law_spans_in.nd rfl (by first | exact Or.inl rfl | exact Or.inr rfl))) (fun _ _ _ _ _ => pts_one (PW.pt (pw_and (pt_cmpR op_lt (pv 1) (pe_ix (ix_seqK (K := K) rfl) (pv 3) pe_int (fun _ _ => rfl)) (nomark _)) (pw_and1 (pt_cmpR op_le (pe_ix (ix_seqK (K := K) rfl) (pv 3) pe_int (fun _ _ => rfl)) (pv 2) (nomark _)))))) (fun _ _ _ _ _ => (pv 3))) pa_nil)))), ?_⟩
    have hxl : xs.length ≤ 40 := by rw [Paired.length h3]; exact hl
    refine ⟨_, rfl, l, rfl, ⟨_, SqL.of h2⟩, fun D hD => lc_acc (K := K) (a := l) (xs := xs) hD (SqL.of h2) (by omega) (fun j acc _ => acc.length = cS a b (ws.take j)) (fun _ _ => rfl) ?_ ?_⟩
    · rintro j x acc H' N N0 hx s' hacc hI hN hN0
      obtain ⟨c, hc, hr⟩ := paired_get h3 hx
      refine ⟨rfl, ?_⟩
      refine ⟨_, rfl, _, rfl, (hr.same s').i0 ⟨_, _, rfl, rfl, _, rfl, ?_⟩⟩
      cases q1 : decide (a < c.1) with
      | false => exact iteF (hN0 _ (Same.refl _) (by unfold cS; rw [flt_take hc false (by rw [q1]; rfl)]; exact hI))
      | true =>
        refine ⟨_, rfl, (hr.same s').i1 ⟨_, rfl, _, _, rfl, rfl, _, rfl, ?_⟩⟩
        cases q2 : decide (c.2 ≤ b) with
        | false => exact hN0 _ (Same.refl _) (by unfold cS; rw [flt_take hc false (by rw [q1, q2]; rfl)]; exact hI)
        | true => exact ⟨_, rfl, hN _ _ (Same.refl _) fun _ _ _ => by unfold cS; rw [flt_take hc true (by rw [q1, q2]; rfl), List.length_append, hI]; rfl⟩
    · rintro acc H' s' hacc _ hI
      rw [Paired.length h3, List.take_length] at hI
      refine ⟨D, acc, rfl, .inl (SqL.of hacc), ?_⟩
      rw [hI]
      exact k _ s'
/-- the table of these spans -/
def tabS (ws : List (Int × Int)) (a b : Nat) : Int := (cS (a : Int) (b : Int) ws : Nat)
def spSpanTable : Sp := fun vs H Q _ => ∃ (T : Nat) (l : Addr) (xs : List V) (ws : List (Int × Int)), vs = [.int T, .ref l] ∧ H l = some (.lst xs) ∧ Paired (PairT H) xs ws ∧ ws.length ≤ 40 ∧ T ≤ 24 ∧ ∀ p H', H p = none → Same H H' → H' p = some (.dT (tabM (tabS ws) T)) → Q (.ref p) H'
theorem ok__law_span_table (T : Txt w K mg) : Ok P w K mg base CX0 2 "_law_span_table" ["days", "spans"] spSpanTable := by
  refine Ok.def0 (f__law_span_table T) (fun _ _ _ _ _ _ us hl => match us, hl with | [_, _], _ => rfl) sc__law_span_table (fun vs H Q E h => ?_) (fun f cdv A outer s H vs Q E hr h => ?_)
  · obtain ⟨TT, l, xs, ws, rfl, _⟩ := h
    rfl
  · obtain ⟨TT, l, xs, ws, rfl, h2, h3, hl, hT, k⟩ := h
    refine ⟨_, (pss_cons (ps_set (i := 2) sc__law_span_table.nd rfl (by first | exact Or.inl rfl | exact Or.inr rfl) pe_dnewT)
      (pss_cons (ps_for PassesOwn.never rfl (pi_range1 rfl (n_range T) (pa_cons (pe_op op_add (pv 0) pe_int) pa_nil)) (pg_name (i := 3) sc__law_span_table.nd rfl (by first | exact Or.inl rfl | exact Or.inr rfl))
        (pss_one (ps_for PassesOwn.never rfl (pi_range2 rfl (n_range T) (pa_cons (pv 3) (pa_cons (pe_op op_add (pv 0) pe_int) pa_nil))) (pg_name (i := 4) sc__law_span_table.nd rfl (by first | exact Or.inl rfl | exact Or.inr rfl))
        (pss_one (ps_asg (pe_ok (ok__law_spans_in T) (hr.mono (by first | decide | omega)) rfl pass0 (pa_cons (pv 1) (pa_cons (pv 3) (pa_cons (pv 4) pa_nil)))) (pg_sub (pv 2) (pe_tup (pa_cons (pv 3) (pa_cons (pv 4) pa_nil))) (set_dict (du hr.units))))))))
      (pss_one (ps_ret (pv 2))))), ?_⟩
    refine fun tb htb => ?_
    obtain ⟨s1, g1⟩ := new2 (.dT []) htb
    refine ⟨_, rfl, _, _, rfl, rfl, _, rfl, by omega, by omega, for_upto (lo := 0) (L := TT + 1) (by omega) (fun i σ H' => ∃ v3 v4, σ = [some (.int TT), some (.ref l), some (.ref tb), v3, v4] ∧ Same H H' ∧ H' tb = some (.dT (tabL (tabS ws) TT i))) ⟨_, _, rfl, s1, g1⟩ ?_ ?_⟩
    · rintro i σ H1 hi ⟨v3, v4, rfl, e1, d1⟩
      have z1 : (0 : Int) + (i : Int) = (i : Int) := by omega
      rw [z1]
      refine gnE ?_
      refine ⟨_, rfl, _, rfl, _, _, rfl, rfl, _, _, rfl, by omega, for_upto (lo := (i : Int)) (L := TT + 1 - i) (by omega) (fun j σ H' => ∃ v4, σ = [some (.int TT), some (.ref l), some (.ref tb), some (.int (i : Int)), v4] ∧ Same H H' ∧ H' tb = some (.dT (tabL (tabS ws) TT i ++ rowT (tabS ws) i j))) ⟨_, rfl, e1, by rw [d1]; unfold rowT; simp⟩ ?_ ?_⟩
      · rintro j σ H2 hj ⟨v4, rfl, e2, d2⟩
        have z2 : (i : Int) + (j : Int) = ((i + j : Nat) : Int) := by omega
        rw [z2]
        refine gnE ?_
        refine ⟨_, rfl, _, rfl, _, rfl, l, xs, ws, _, _, rfl, e2 _ _ h2, Paired.mapP h3 fun _ _ z => z.same e2, hl, fun H3 s3 => ?_⟩
        refine ⟨_, rfl, _, rfl, _, rfl, (by show 2 ≤ sizeLine; decide), fun t ht => ?_⟩
        obtain ⟨s4, g4⟩ := new2 (.tup [.int (i : Int), .int ((i + j : Nat) : Int)]) ht
        have g4' : upd H3 t (.tup [.int (i : Int), .int ((i + j : Nat) : Int)]) t = some (.tup ((key2 i (i + j)).map kV)) := by
          rw [g4]
          rfl
        refine ⟨tb, _, rfl, DPut.t (s4 _ _ (s3 _ _ d2)) g4' (line_lt ?_), ?_⟩
        · have := tabL_len (M := tabS ws) hT i
          rw [List.length_append, rowT_len]
          omega
        · refine ⟨_, rfl, same_mut ((e2.trans s3).trans s4) htb, ?_⟩
          rw [upd_same, tabL_put, rowT_succ, List.append_assoc]
          rfl
      · rintro σ H2 ⟨v4, rfl, e2, d2⟩
        refine ⟨_, _, rfl, e2, ?_⟩
        rw [tabL_succ]
        exact d2
    · rintro σ H1 ⟨v3, v4, rfl, e1, d1⟩
      exact ⟨_, rfl, k tb H1 htb e1 d1⟩
end
end K85
end
section
set_option maxRecDepth 100000
set_option maxHeartbeats 4000000
namespace K85
open PySem PySem.Spec PyProof.Rows L2
def eN (rs : List Q4) (a y : Int) : Nat := (rs.filter fun r => decide (a < r.1) && decide (r.2.1 = y)).length
def cN (rs : List Q4) (a b : Int) : Nat := (rs.filter fun r => decide (a < r.1) && decide (r.2.1 ≤ b)).length
theorem cN_step (a b : Int) : ∀ rs : List Q4, cN rs a (b + 1) = cN rs a b + eN rs a (b + 1)
  | [] => rfl
  | r :: rs => by
    have ih := cN_step a b rs
    unfold cN eN at ih ⊢
    rw [List.filter_cons, List.filter_cons, List.filter_cons]
    by_cases h1 : a < r.1
    · rw [decide_eq_true h1]
      by_cases h2 : r.2.1 ≤ b
      · rw [decide_eq_true h2, decide_eq_true (p := r.2.1 ≤ b + 1) (by omega), decide_eq_false (p := r.2.1 = b + 1) (by omega)]
        simp only [Bool.and_self, Bool.and_true, Bool.and_false, if_true, Bool.false_eq_true, if_false, List.length_cons]
        omega
      · by_cases h3 : r.2.1 = b + 1
        · rw [decide_eq_false h2, decide_eq_true (p := r.2.1 ≤ b + 1) (by omega), decide_eq_true h3]
          simp only [Bool.and_self, Bool.and_true, Bool.and_false, if_true, Bool.false_eq_true, if_false, List.length_cons]
          omega
        · rw [decide_eq_false h2, decide_eq_false (p := r.2.1 ≤ b + 1) (by omega), decide_eq_false h3]
          simp only [Bool.and_self, Bool.and_true, Bool.and_false, if_true, Bool.false_eq_true, if_false, List.length_cons]
          omega
    · rw [decide_eq_false h1]
      simp only [Bool.false_and, Bool.false_eq_true, if_false]
      exact ih
theorem cN_none {a b : Int} (hb : b ≤ a) : ∀ {rs : List Q4}, (∀ r ∈ rs, GoodR r) → cN rs a b = 0
  | [], _ => rfl
  | r :: rs, h => by
    have hr := h r List.mem_cons_self
    unfold GoodR at hr
    have ih := cN_none hb (rs := rs) fun r hr => h r (List.mem_cons_of_mem _ hr)
    unfold cN at ih ⊢
    rw [List.filter_cons]
    have : (decide (a < r.1) && decide (r.2.1 ≤ b)) = false := by
      by_cases h1 : a < r.1
      · rw [decide_eq_false (p := r.2.1 ≤ b) (by omega)]
        simp
      · rw [decide_eq_false h1]
        rfl
    rw [this]
    exact ih
def tabR (rs : List Q4) (a b : Nat) : Int := (cN rs (a : Int) (b : Int) : Nat)
theorem eN_le {rs : List Q4} {a b : Int} : eN rs a b ≤ rs.length := List.length_filter_le _ _
theorem cN_le {rs : List Q4} {a b : Int} : cN rs a b ≤ rs.length := List.length_filter_le _ _
section
variable {P : Program} {w : World} {K : PySem.W.Frag} {mg : Str → Option Value} {base : Heap}
def spSpanCounts (K : PySem.W.Frag) : Sp := fun vs H Q _ => ∃ (T : Nat) (p : Addr) (rs : List Q4), vs = [.ref p] ∧ AlmAt K H p T rs ∧ rs.length ≤ 40 ∧ T ≤ 24 ∧ (∀ r ∈ rs, GoodR r) ∧ ∀ tb H', H tb = none → Same H H' → H' tb = some (.dT (tabM (tabR rs) T)) → Q (.ref tb) H'
theorem ok_span_counts (T : Txt w K mg) : Ok P w K mg base CX0 2 "span_counts" ["almanac"] (spSpanCounts K) := by
  refine Ok.def0 (f_span_counts T) (fun _ _ _ _ _ _ us hl => match us, hl with | [_], _ => rfl) sc_span_counts (fun vs H Q E h => ?_) (fun f cdv A outer s H vs Q E hr h => ?_)
  · obtain ⟨TT, p, rs, rfl, _⟩ := h
    rfl
  · obtain ⟨TT, p, rs, rfl, hA, hl, hT, hg, k⟩ := h
    refine ⟨_, (pss_cons (ps_set (i := 1) sc_span_counts.nd rfl (by first | exact Or.inl rfl | exact Or.inr rfl) (pe_okM0 (okm_Almanac_days T) (cl_Almanac T) (pv 0) (hr.mono (by first | decide | omega)) pass0))
      (pss_cons (ps_set (i := 2) sc_span_counts.nd rfl (by first | exact Or.inl rfl | exact Or.inr rfl) (pe_okM0 (okm_Almanac_rains T) (cl_Almanac T) (pv 0) (hr.mono (by first | decide | omega)) pass0))
      (pss_cons (ps_set (i := 3) sc_span_counts.nd rfl (by first | exact Or.inl rfl | exact Or.inr rfl) pe_dnewT)
      (pss_cons (ps_for PassesOwn.never rfl (pi_range1 rfl (n_range T) (pa_cons (pe_op op_add (pv 1) pe_int) pa_nil)) (pg_name (i := 4) sc_span_counts.nd rfl (by first | exact Or.inl rfl | exact Or.inr rfl))
        (pss_cons (ps_set (i := 5) sc_span_counts.nd rfl (by first | exact Or.inl rfl | exact Or.inr rfl) (pe_op op_rep (pe_lst (pa_cons pe_int pa_nil)) (pe_op op_add (pv 1) pe_int)))
      (pss_cons (ps_for PassesOwn.never rfl (pi_listK (K := K) rfl (pv 2)) (pg_name (i := 6) sc_span_counts.nd rfl (by first | exact Or.inl rfl | exact Or.inr rfl))
        (pss_one (ps_if (PW.pt (pw_and (pt_cmpR op_gt (pe_ix (ix_seqK (K := K) rfl) (pv 6) pe_int (fun _ _ => rfl)) (pv 4) (nomark _)) (pw_and1 (pt_cmpR op_le (pe_ix (ix_seqK (K := K) rfl) (pv 6) pe_int (fun _ _ => rfl)) (pv 1) (nomark _))))) (pss_one (ps_augS (pv 5) (pe_ix (ix_seqK (K := K) rfl) (pv 6) pe_int (fun _ _ => rfl)) (get_listK (K := K) rfl) pe_int ip_add set_list)) pss_nil)))
      (pss_cons (ps_set (i := 7) sc_span_counts.nd rfl (by first | exact Or.inl rfl | exact Or.inr rfl) pe_int)
      (pss_one (ps_for PassesOwn.never rfl (pi_range2 rfl (n_range T) (pa_cons (pv 4) (pa_cons (pe_op op_add (pv 1) pe_int) pa_nil))) (pg_name (i := 8) sc_span_counts.nd rfl (by first | exact Or.inl rfl | exact Or.inr rfl))
        (pss_cons (ps_aug (i := 7) sc_span_counts.nd rfl (by first | exact Or.inl rfl | exact Or.inr rfl) (pe_ix (ix_listK (K := K) rfl) (pv 5) (pv 8) (fun _ _ => rfl)) ip_add)
      (pss_one (ps_asg (pv 7) (pg_sub (pv 3) (pe_tup (pa_cons (pv 4) (pa_cons (pv 8) pa_nil))) (set_dict (du hr.units))))))))))))
      (pss_one (ps_ret (pv 3))))))), ?_⟩
    obtain ⟨dx, l0, xs0, h1, h2, h3⟩ := id hA
    refine ⟨_, rfl, p, dx, _, rfl, h1, af_no (by decide +kernel) (by decide +kernel), p, TT, rs, rfl, hA, ?_⟩
    refine ⟨_, rfl, p, dx, _, rfl, h1, af_no (by decide +kernel) (by decide +kernel), p, TT, rs, rfl, hA, fun l xs H1 hl0 s1 hl1 hP => ?_⟩
    have hxl : xs.length ≤ 40 := by rw [Paired.length hP]; exact hl
    refine fun tb htb => ?_
    obtain ⟨s2, g2⟩ := new2 (.dT []) htb
    have htb0 : H tb = none := none_of s1 htb
    refine ⟨_, rfl, _, _, rfl, rfl, _, rfl, by omega, by omega, for_upto (lo := 0) (L := TT + 1) (by omega) (fun i σ H' => ∃ v4 v5 v6 v7 v8, σ = [some (.ref p), some (.int TT), some (.ref l), some (.ref tb), v4, v5, v6, v7, v8] ∧ Same H1 H' ∧ H' tb = some (.dT (tabL (tabR rs) TT i))) ⟨_, _, _, _, _, rfl, s2, g2⟩ ?_ ?_⟩
    · rintro i σ H2 hi ⟨v4, v5, v6, v7, v8, rfl, e2, d2⟩
      have z1 : (0 : Int) + (i : Int) = (i : Int) := by omega
      rw [z1]
      refine gnE ?_
      refine ⟨(by show 1 ≤ sizeLine; decide), fun q hq => ⟨_, rfl, _, _, rfl, rfl, q, _, _, rfl, rfl, upd_same, by omega, by omega, line_of (by show 1 * _ ≤ _; omega), fun en hen => ?_⟩⟩
      obtain ⟨s3, g3⟩ := new2 (.lst [V.int 0]) hq
      obtain ⟨s4, g4⟩ := new2 (.lst (List.replicate ((TT : Int) + 1).toNat [V.int 0]).flatten) hen
      have e0 : ((TT : Int) + 1).toNat = TT + 1 := by omega
      rw [rowV_rep, e0] at s4 g4 ⊢
      have s34 := s3.trans s4
      generalize upd (upd H2 q (.lst [V.int 0])) en (.lst (rowV (TT + 1) fun _ => 0)) = H4 at s4 g4 s34 ⊢
      have hen2 : H2 en = none := none_of s3 hen
      have hen1 : H1 en = none := none_of e2 hen2
      have ne : tb ≠ en := fun z => by rw [z, hen2] at d2; cases d2
      refine ⟨_, rfl, l, rfl, ⟨_, SqL.of ((e2.trans s34) _ _ hl1)⟩, for_list (K := K) (a := l) (xs := xs) (fun m σ H' => ∃ v6 v7 v8, σ = [some (.ref p), some (.int TT), some (.ref l), some (.ref tb), some (.int (i : Int)), some (.ref en), v6, v7, v8] ∧ Same H1 H' ∧ H' tb = some (.dT (tabL (tabR rs) TT i)) ∧ H' en = some (.lst (rowV (TT + 1) fun y => (eN (rs.take m) (i : Int) (y : Int) : Nat)))) ⟨_, _, _, rfl, e2.trans s34, s34 _ _ d2, g4⟩ (fun _ _ _ _ ⟨_, _, _, _, z, _⟩ => SqL.of (z _ _ hl1)) ?_ ?_⟩
      · rintro m x σ H5 hx ⟨v6, v7, v8, rfl, e5, d5, g5⟩
        obtain ⟨r, hr', hq5⟩ := paired_get hP hx
        have hgr := hg r (List.mem_of_getElem? hr')
        unfold GoodR at hgr
        have hq5 := hq5.same e5
        have st : ∀ y : Nat, eN (rs.take (m + 1)) (i : Int) (y : Int) = eN (rs.take m) (i : Int) (y : Int) + if (decide ((i : Int) < r.1) && decide (r.2.1 = (y : Int))) = true then 1 else 0 := fun y => flt_take hr' _ rfl
        refine ⟨_, rfl, hq5.ix (i := 0) rfl ⟨_, rfl, _, _, rfl, rfl, _, rfl, ?_⟩⟩
        cases t1 : decide ((i : Int) < r.1) with
        | false =>
          refine ⟨_, _, _, rfl, e5, d5, ?_⟩
          rw [g5]
          congr 2
          refine rowV_congr fun y _ => ?_
          rw [st, t1]
          rfl
        | true =>
          refine ⟨_, rfl, hq5.ix (i := 1) rfl ⟨_, rfl, _, _, rfl, rfl, _, rfl, ?_⟩⟩
          cases t2 : decide (r.2.1 ≤ (TT : Int)) with
          | false =>
            have t2 := of_decide_eq_false t2
            refine ⟨_, _, _, rfl, e5, d5, ?_⟩
            rw [g5]
            congr 2
            refine rowV_congr fun y hy => ?_
            rw [st, decide_eq_false (p := r.2.1 = (y : Int)) (by omega)]
            simp
          | true =>
            have t2 := of_decide_eq_true t2
            obtain ⟨y0, hy0⟩ : ∃ y0 : Nat, r.2.1 = (y0 : Int) := ⟨r.2.1.toNat, by omega⟩
            refine ⟨_, rfl, _, rfl, hq5.ix (i := 1) rfl ⟨en, _, _, _, rfl, rfl, SqL.of g5, at_of (j := y0) hy0 (rowV_get (by omega)), _, _, rfl, rfl, en, _, _, y0, rfl, rfl, g5, ?_, ?_⟩⟩
            · rw [rowV_len, hy0]
              exact ix_nat (by omega)
            · refine ⟨_, _, _, rfl, same_mut e5 hen1, by rw [upd_ne ne]; exact d5, ?_⟩
              rw [upd_same, rowV_set]
              congr 2
              refine rowV_congr fun y _ => ?_
              rw [st, t1, hy0]
              by_cases c : y = y0
              · rw [if_pos c, c]
                simp
              · rw [if_neg c, decide_eq_false (p := (y0 : Int) = (y : Int)) (by omega)]
                simp
      · rintro σ H5 ⟨v6, v7, v8, rfl, e5, d5, g5⟩
        rw [Paired.length hP, List.take_length] at g5
        refine ⟨_, rfl, _, rfl, _, _, rfl, rfl, _, _, rfl, by omega, for_upto (lo := (i : Int)) (L := TT + 1 - i) (by omega) (fun j σ H' => ∃ v8, σ = [some (.ref p), some (.int TT), some (.ref l), some (.ref tb), some (.int (i : Int)), some (.ref en), v6, some (.int (cN rs (i : Int) ((i : Int) + (j : Int) - 1) : Nat)), v8] ∧ Same H1 H' ∧ H' tb = some (.dT (tabL (tabR rs) TT i ++ rowT (tabR rs) i j)) ∧ H' en = some (.lst (rowV (TT + 1) fun y => (eN rs (i : Int) (y : Int) : Nat)))) ⟨v8, ?_, e5, ?_, g5⟩ ?_ ?_⟩
        · rw [cN_none (by omega) hg]
          rfl
        · rw [d5]
          unfold rowT
          simp
        · rintro j σ H6 hj ⟨v8, rfl, e6, d6, g6⟩
          have z2 : (i : Int) + (j : Int) = ((i + j : Nat) : Int) := by omega
          have cl := cN_le (rs := rs) (a := (i : Int)) (b := (i : Int) + (j : Int) - 1)
          have el := eN_le (rs := rs) (a := (i : Int)) (b := ((i + j : Nat) : Int))
          have cs : (cN rs (i : Int) ((i : Int) + (j : Int) - 1) : Int) + (eN rs (i : Int) ((i + j : Nat) : Int) : Int) = (cN rs (i : Int) ((i + j : Nat) : Int) : Int) := by
            have := cN_step (i : Int) ((i : Int) + (j : Int) - 1) rs
            rw [show (i : Int) + (j : Int) - 1 + 1 = ((i + j : Nat) : Int) by omega] at this
            omega
          rw [z2] at cs
          rw [z2]
          refine gnE ?_
          refine ⟨_, rfl, _, rfl, _, rfl, en, _, _, _, rfl, rfl, SqL.of g6, at_of (j := i + j) rfl (rowV_get (by omega)), _, _, rfl, rfl, ?_⟩
          refine ⟨_, rfl, _, rfl, _, rfl, _, rfl, (by show 2 ≤ sizeLine; decide), fun t ht => ?_⟩
          obtain ⟨s7, g7⟩ := new2 (.tup [.int (i : Int), .int ((i + j : Nat) : Int)]) ht
          have g7' : upd H6 t (.tup [.int (i : Int), .int ((i + j : Nat) : Int)]) t = some (.tup ((key2 i (i + j)).map kV)) := by
            rw [g7]
            rfl
          refine ⟨tb, _, rfl, DPut.t (s7 _ _ d6) g7' (line_lt ?_), ?_⟩
          · have := tabL_len (M := tabR rs) hT i
            rw [List.length_append, rowT_len]
            omega
          · refine ⟨some (.int ((i + j : Nat) : Int)), ?_, same_mut (e6.trans s7) htb, ?_, ?_⟩
            · rw [show (i : Int) + ((j + 1 : Nat) : Int) - 1 = ((i + j : Nat) : Int) by omega, ← cs]
              rfl
            · rw [upd_same, tabL_put, rowT_succ, List.append_assoc, show tabR rs i (i + j) = _ from cs.symm]
            · rw [upd_ne ne.symm]
              exact s7 _ _ g6
        · rintro σ H6 ⟨v8, rfl, e6, d6, g6⟩
          refine ⟨_, _, _, _, _, rfl, e6, ?_⟩
          rw [tabL_succ]
          exact d6
    · rintro σ H2 ⟨v4, v5, v6, v7, v8, rfl, e2, d2⟩
      exact ⟨_, rfl, k tb H2 htb0 (s1.trans e2) d2⟩
end
end K85
end
section
set_option maxRecDepth 100000
set_option maxHeartbeats 4000000
namespace K85
open PySem PySem.Spec PyProof.Rows L2
/-- whether a stretch is a key one, by a table -/
def keyB (M : Nat → Nat → Int) (T : Nat) (c : Int × Int) : Bool := (decide (c.1 = 0) || decide (M c.1.toNat c.2.toNat < M (c.1.toNat - 1) c.2.toNat)) && (decide (c.2 = (T : Int)) || decide (M c.1.toNat c.2.toNat < M c.1.toNat (c.2.toNat + 1)))
def keysL (M : Nat → Nat → Int) (T : Nat) : List (Int × Int) := (strL T).filter (keyB M T)
theorem keyB_nat {M : Nat → Nat → Int} {T a b : Nat} : keyB M T ((a : Int), (b : Int)) = ((decide ((a : Int) = 0) || decide (M a b < M (a - 1) b)) && (decide ((b : Int) = (T : Int)) || decide (M a b < M a (b + 1)))) := rfl
theorem keysL_le {M : Nat → Nat → Int} {T : Nat} (hT : T ≤ 24) : (keysL M T).length ≤ 576 := by
  have := List.length_filter_le (keyB M T) (strL T)
  have := strL_len T hT
  unfold keysL
  omega
theorem flt_take2 {α : Type} {p : α → Bool} {l : List α} {i : Nat} {c : α} (h : l[i]? = some c) (b : Bool) (hb : p c = b) : (l.take (i + 1)).filter p = (l.take i).filter p ++ (if b then [c] else []) := by
  obtain ⟨lt, e⟩ := List.getElem?_eq_some_iff.mp h
  rw [← List.take_append_getElem lt, List.filter_append, e, List.filter_cons, hb]
  cases b <;> rfl
section
variable {P : Program} {w : World} {K : PySem.W.Frag} {mg : Str → Option Value} {base : Heap}
def spKeyList : Sp := fun vs H Q _ => ∃ (T : Nat) (tb : Addr) (M : Nat → Nat → Int), vs = [.int T, .ref tb] ∧ H tb = some (.dT (tabM M T)) ∧ T ≤ 24 ∧ ∀ p ys H', H p = none → Same H H' → H' p = some (.lst ys) → Paired (PairT H') ys (keysL M T) → Q (.ref p) H'
theorem ok__law_key_list (T : Txt w K mg) : Ok P w K mg base CX0 2 "_law_key_list" ["days", "table"] spKeyList := by
  refine Ok.def0 (f__law_key_list T) (fun _ _ _ _ _ _ us hl => match us, hl with | [_, _], _ => rfl) sc__law_key_list (fun vs H Q E h => ?_) (fun f cdv A outer s H vs Q E hr h => ?_)
  · obtain ⟨TT, tb, M, rfl, _⟩ := h
    rfl
  · obtain ⟨TT, tb, M, rfl, h2, hT, k⟩ := h
    refine ⟨_, (pss_cons (ps_set (i := 2) sc__law_key_list.nd rfl (by first | exact Or.inl rfl | exact Or.inr rfl) (pe_lst pa_nil))
      (pss_cons (ps_for PassesOwn.never rfl (pi_listK (K := K) rfl (pe_ok (ok__law_stretches T) (hr.mono (by first | decide | omega)) rfl pass0 (pa_cons (pv 0) pa_nil))) (pg_tupK (K := K) (n := 2) rfl rfl (pgs_cons (pg_name (i := 3) sc__law_key_list.nd rfl (by first | exact Or.inl rfl | exact Or.inr rfl)) (pgs_cons (pg_name (i := 4) sc__law_key_list.nd rfl (by first | exact Or.inl rfl | exact Or.inr rfl)) pgs_nil)))
        (pss_one (ps_if (PW.pt (pw_and (PW.pt (pw_or (pt_cmpR op_eq (pv 3) pe_int (nomark _)) (pw_or1 (pt_cmpR op_gt (pe_dget (du hr.units) (pv 1) (pe_tup (pa_cons (pe_op op_sub (pv 3) pe_int) (pa_cons (pv 4) pa_nil))) (fun _ _ => rfl)) (pe_dget (du hr.units) (pv 1) (pe_tup (pa_cons (pv 3) (pa_cons (pv 4) pa_nil))) (fun _ _ => rfl)) (nomark _))))) (pw_and1 (PW.pt (pw_or (pt_cmpR op_eq (pv 4) (pv 0) (nomark _)) (pw_or1 (pt_cmpR op_gt (pe_dget (du hr.units) (pv 1) (pe_tup (pa_cons (pv 3) (pa_cons (pe_op op_add (pv 4) pe_int) pa_nil))) (fun _ _ => rfl)) (pe_dget (du hr.units) (pv 1) (pe_tup (pa_cons (pv 3) (pa_cons (pv 4) pa_nil))) (fun _ _ => rfl)) (nomark _)))))))) (pss_one (ps_expr (pe_bm PySem.F.plainAttrs_list PySem.F.slot_list_append PySem.F.type_list_append mt_append (pv 2) (pa_cons (pe_tup (pa_cons (pv 3) (pa_cons (pv 4) pa_nil))) pa_nil)))) pss_nil)))
      (pss_one (ps_ret (pv 2))))), ?_⟩
    refine ⟨(by show 0 ≤ sizeLine; decide), fun D hD => ?_⟩
    obtain ⟨s1, g1⟩ := new2 (.lst []) hD
    refine ⟨_, rfl, TT, rfl, hT, fun l xs H1 s2 hl0 hl1 hP => ?_⟩
    have hxl : xs.length ≤ 576 := by
      rw [Paired.length hP]
      have := strL_len TT hT
      omega
    have nlD : l ≠ D := fun z => by rw [z, upd_same] at hl0; cases hl0
    refine ⟨l, rfl, ⟨_, SqL.of hl1⟩, for_list (K := K) (a := l) (xs := xs) (fun m σ H' => ∃ v3 v4 ys, σ = [some (.int TT), some (.ref tb), some (.ref D), v3, v4] ∧ Same H H' ∧ H' l = some (.lst xs) ∧ Paired (PairT H') xs (strL TT) ∧ H' D = some (.lst ys) ∧ Paired (PairT H') ys (((strL TT).take m).filter (keyB M TT))) ⟨_, _, [], rfl, s1.trans s2, hl1, hP, s2 _ _ g1, .nil⟩ (fun _ _ _ _ h => ?_) ?_ ?_⟩
    · obtain ⟨_, _, _, _, _, z, _⟩ := h
      exact SqL.of z
    · rintro m x σ H2 hx ⟨v3, v4, ys, rfl, e2, hl2, hP2, hD2, hK2⟩
      obtain ⟨c, hc, hr⟩ := paired_get hP2 hx
      obtain ⟨a, b, h1, h2', rfl⟩ := strL_mem (List.mem_of_getElem? hc)
      refine hr.un rfl ?_
      have hd2 := e2 _ _ h2
      refine EvT.ifs (b := keyB M TT ((a : Int), (b : Int))) ?_ fun H3 s3 => ?_
      · rw [keyB_nat]
        refine EvT.and (EvT.or (EvT.test (Ev.eq (Ev.var rfl) Ev.c)) fun z => EvT.test (Ev.i2 (Ev.dget (a := a - 1) (b := b) hd2 rfl (Ev.i2 (Ev.var rfl) Ev.c) (Ev.var rfl) ?_ rfl (by omega) h2') (Ev.dget (a := a) (b := b) hd2 rfl (Ev.var rfl) (Ev.var rfl) rfl rfl (by omega) h2')))
          fun _ => EvT.or (EvT.test (Ev.eq (Ev.var rfl) (Ev.var rfl))) fun z => EvT.test (Ev.i2 (Ev.dget (a := a) (b := b + 1) hd2 rfl (Ev.var rfl) (Ev.i2 (Ev.var rfl) Ev.c) rfl ?_ (by omega) ?_) (Ev.dget (a := a) (b := b) hd2 rfl (Ev.var rfl) (Ev.var rfl) rfl rfl (by omega) h2'))
        · have := of_decide_eq_false z
          omega
        · omega
        · have := of_decide_eq_false z
          omega
      · have hK3 := Paired.mapP hK2 fun _ _ z => z.same s3
        have hP3 := Paired.mapP hP2 fun _ _ z => z.same s3
        have st := flt_take2 (p := keyB M TT) hc _ rfl
        cases q : keyB M TT ((a : Int), (b : Int)) with
        | false =>
          rw [q] at st
          have st : ((strL TT).take (m + 1)).filter (keyB M TT) = ((strL TT).take m).filter (keyB M TT) := st.trans (List.append_nil _)
          refine ⟨_, _, ys, rfl, e2.trans s3, s3 _ _ hl2, hP3, s3 _ _ hD2, ?_⟩
          rw [st]
          exact hK3
        | true =>
          rw [q] at st
          have st : ((strL TT).take (m + 1)).filter (keyB M TT) = ((strL TT).take m).filter (keyB M TT) ++ [((a : Int), (b : Int))] := st
          refine ⟨_, rfl, .inl ⟨rfl, _, SqL.of (s3 _ _ hD2)⟩, _, rfl, _, rfl, (by show 2 ≤ sizeLine; decide), fun t ht => ?_⟩
          obtain ⟨s4, g4⟩ := new2 (.tup [.int (a : Int), .int (b : Int)]) ht
          have hD4 := s4 _ _ (s3 _ _ hD2)
          have hyl : ys.length ≤ 576 := by
            rw [Paired.length hK2]
            have := List.length_filter_le (keyB M TT) ((strL TT).take m)
            have := List.length_take_le m (strL TT)
            have := strL_len TT hT
            have : ((strL TT).take m).length ≤ (strL TT).length := by rw [List.length_take]; omega
            omega
          refine ⟨D, ys, _, rfl, rfl, hD4, line_lt (by omega), ?_⟩
          refine ⟨_, _, ys ++ [.ref t], rfl, same_mut ((e2.trans s3).trans s4) hD, ?_, ?_, upd_same, ?_⟩
          · rw [upd_ne nlD]
            exact s4 _ _ (s3 _ _ hl2)
          · exact Paired.mapP hP3 fun _ _ z => (z.same s4).mut hD4
          · rw [st]
            exact Paired.snoc (Paired.mapP hK3 fun _ _ z => (z.same s4).mut hD4) ((show PairT _ (.ref t) ((a : Int), (b : Int)) from ⟨t, rfl, g4⟩).mut hD4)
    · rintro σ H2 ⟨v3, v4, ys, rfl, e2, hl2, hP2, hD2, hK2⟩
      rw [Paired.length hP, List.take_length] at hK2
      exact ⟨_, rfl, k D ys H2 hD e2 hD2 hK2⟩
end
end K85
end
section
set_option maxRecDepth 100000
set_option maxHeartbeats 4000000
namespace K85
open PySem PySem.Spec PyProof.Rows L2
theorem ev_rain {K : PySem.W.Frag} {σ : L2.St} {H0 : Hp} {l : Addr} {xs : List V} {x : V} {r : Q4} {i j n k : Nat} {v : V} (hi : σ[i]? = some (some (.ref l))) (hj : σ[j]? = some (some (.int (n : Int)))) (hl : H0 l = some (.lst xs)) (hx : xs[n]? = some x) (hq : QuadT H0 x r) (hv : (q4V r)[k]? = some v) :
    Ev σ H0 (tOp (rIx K) (tOp (rIxL K) (tVar i) (tVar j)) (tC (.int (k : Nat)))) v := fun H' R s q =>
  ⟨_, hi, _, hj, l, xs, _, x, rfl, rfl, SqL.of (s _ _ hl), at_of rfl hx, (hq.same s).ix hv (q H' (Same.refl _))⟩
section
variable {P : Program} {w : World} {K : PySem.W.Frag} {mg : Str → Option Value} {base : Heap}
def spOneCan (K : PySem.W.Frag) : Sp := fun vs H Q E => ∃ (p : Addr) (d : Int) (rs : List Q4), vs = [.ref p] ∧ AlmAt K H p d rs ∧ rs.length ≤ 40 ∧ ((∀ r ∈ rs, r.2.2.1 = 1 ∧ r.2.2.2 = 1) → ∀ H', Same H H' → Q .non H') ∧ ∀ (n : Nat) (r : Q4), rs[n]? = some r → (∀ m, m < n → ∀ r, rs[m]? = some r → r.2.2.1 = 1 ∧ r.2.2.2 = 1) → ¬ (r.2.2.1 = 1 ∧ r.2.2.2 = 1) → Rz E H (cSk K) "row" (.int ((n : Int) + 1))
theorem ok_check_one_can (T : Txt w K mg) : Ok P w K mg base (L2.CX P w) 6 "check_one_can" ["almanac"] (spOneCan K) := by
  refine Ok.defX (f_check_one_can T) (fun _ _ _ _ _ _ us hl => match us, hl with | [_], _ => rfl) sc_check_one_can (fun vs H Q E h => ?_) (fun f cdv A outer s H vs Q E hr h tk => ?_)
  · obtain ⟨p, d, rs, rfl, _⟩ := h
    rfl
  · obtain ⟨p, d, rs, rfl, hA, hl, k, kb⟩ := h
    refine ⟨_, (pss_cons (ps_set (i := 1) sc_check_one_can.nd rfl (by first | exact Or.inl rfl | exact Or.inr rfl) (pe_okM0 (okm_Almanac_rains T) (cl_Almanac T) (pv 0) (hr.mono (by first | decide | omega)) pass0))
      (pss_one (ps_for (passes_of rfl) rfl (pi_range1 rfl (n_range T) (pa_cons (pe_callB (len_seqK (K := K) rfl) rfl (n_len T) (by decide +kernel) (pa_cons (pv 1) pa_nil)) pa_nil)) (pg_name (i := 2) sc_check_one_can.nd rfl (by first | exact Or.inl rfl | exact Or.inr rfl))
        (pss_one (ps_if (PW.pt (pw_or (pt_cmpR op_ne (pe_ix (ix_seqK (K := K) rfl) (pe_ix (ix_listK (K := K) rfl) (pv 1) (pv 2) (fun _ _ => rfl)) pe_int (fun _ _ => rfl)) pe_int (nomark _)) (pw_or1 (pt_cmpR op_ne (pe_ix (ix_seqK (K := K) rfl) (pe_ix (ix_listK (K := K) rfl) (pv 1) (pv 2) (fun _ _ => rfl)) pe_int (fun _ _ => rfl)) pe_int (nomark _))))) (pss_one (ps_raise rfl tk (pmk_x (x_BadSky T) (hr.mono (by first | decide | omega)) rfl (pa_cons (pe_op op_add (pv 2) pe_int) pa_nil)))) pss_nil))))), ?_⟩
    obtain ⟨dx, l0, xs0, h1, h2, h3⟩ := id hA
    refine ⟨_, rfl, p, dx, _, rfl, h1, af_no (by decide +kernel) (by decide +kernel), p, d, rs, rfl, hA, fun l xs H1 hl0 s1 hl1 hP => ?_⟩
    have hxl : xs.length = rs.length := Paired.length hP
    refine ⟨_, rfl, _, _, rfl, .inl (SqL.of hl1), _, rfl, by omega, by omega, for_upto (lo := 0) (L := rs.length) (by rw [hxl]; omega) (fun m σ H' => ∃ v2, σ = [some (.ref p), some (.ref l), v2] ∧ Same H1 H' ∧ ∀ q, q < m → ∀ r, rs[q]? = some r → r.2.2.1 = 1 ∧ r.2.2.2 = 1) ⟨_, rfl, Same.refl _, fun q h => by omega⟩ ?_ ?_⟩
    · rintro m σ H2 hm ⟨v2, rfl, e2, hlt⟩
      have em : (0 : Int) + (m : Int) = (m : Int) := by omega
      rw [em]
      refine gnE ?_
      obtain ⟨r, hr4⟩ : ∃ r, rs[m]? = some r := ⟨rs[m], List.getElem?_eq_getElem hm⟩
      obtain ⟨y, hy⟩ : ∃ y, xs[m]? = some y := ⟨xs[m]'(by omega), List.getElem?_eq_getElem _⟩
      obtain ⟨r', hr', hq⟩ := paired_get hP hy
      rw [hr4] at hr'
      cases hr'
      have hq2 := hq.same e2
      refine EvT.ifs (b := !decide (r.2.2.1 = 1) || !decide (r.2.2.2 = 1)) (EvT.or (EvT.test (Ev.ne (ev_rain (k := 2) rfl rfl (e2 _ _ hl1) hy hq2 rfl) Ev.c)) fun _ => EvT.test (Ev.ne (ev_rain (k := 3) rfl rfl (e2 _ _ hl1) hy hq2 rfl) Ev.c)) fun H3 s3 => ?_
      by_cases c : r.2.2.1 = 1 ∧ r.2.2.2 = 1
      · rw [decide_eq_true c.1, decide_eq_true c.2]
        refine ⟨_, rfl, e2.trans s3, fun q hq r' hr' => ?_⟩
        by_cases eq : q = m
        · rw [eq, hr4] at hr'
          cases hr'
          exact c
        · exact hlt q (by omega) r' hr'
      · have : (!decide (r.2.2.1 = 1) || !decide (r.2.2.2 = 1)) = true := by
          by_cases c1 : r.2.2.1 = 1
          · rw [decide_eq_false (p := r.2.2.2 = 1) fun z => c ⟨c1, z⟩]
            simp
          · rw [decide_eq_false c1]
            rfl
        rw [this]
        exact ⟨_, rfl, _, _, rfl, rfl, mko ((kb m r hr4 hlt c).at (s1.trans (e2.trans s3)))⟩
    · rintro σ H2 ⟨v2, rfl, e2, hlt⟩
      refine k (fun r hr => ?_) _ (s1.trans e2)
      obtain ⟨q, hq⟩ := List.getElem?_of_mem hr
      exact hlt q (List.getElem?_eq_some_iff.mp hq).1 r hq
end
end K85
end
section
set_option maxRecDepth 100000
set_option maxHeartbeats 4000000
namespace K85
open PySem PySem.Spec PyProof.Rows L2
def OneCan (rs : List Q4) : Prop := ∀ r ∈ rs, r.2.2.1 = 1 ∧ r.2.2.2 = 1
def BadCan (rs : List Q4) (n : Nat) : Prop := ∃ r, rs[n]? = some r ∧ (∀ m, m < n → ∀ r, rs[m]? = some r → r.2.2.1 = 1 ∧ r.2.2.2 = 1) ∧ ¬ (r.2.2.1 = 1 ∧ r.2.2.2 = 1)
section
variable {P : Program} {w : World} {K : PySem.W.Frag} {mg : Str → Option Value} {base : Heap}
def spKeyStr (K : PySem.W.Frag) : Sp := fun vs H Q E => ∃ (T : Nat) (p : Addr) (rs : List Q4), vs = [.ref p] ∧ AlmAt K H p T rs ∧ rs.length ≤ 40 ∧ T ≤ 24 ∧ (∀ r ∈ rs, GoodR r) ∧ (OneCan rs → ∀ q ys H', H q = none → Same H H' → H' q = some (.lst ys) → Paired (PairT H') ys (keysL (tabR rs) T) → Q (.ref q) H') ∧ (∀ n, BadCan rs n → Rz E H (cSk K) "row" (.int ((n : Int) + 1)))
theorem ok_key_stretches (T : Txt w K mg) : Ok P w K mg base (L2.CX P w) 7 "key_stretches" ["almanac"] (spKeyStr K) := by
  refine Ok.defX (f_key_stretches T) (fun _ _ _ _ _ _ us hl => match us, hl with | [_], _ => rfl) sc_key_stretches (fun vs H Q E h => ?_) (fun f cdv A outer s H vs Q E hr h tk => ?_)
  · obtain ⟨TT, p, rs, rfl, _⟩ := h
    rfl
  · obtain ⟨TT, p, rs, rfl, hA, hl, hT, hg, k, kb⟩ := h
    refine ⟨_, (pss_cons (ps_expr (pe_okS (ok_check_one_can T) (hr.mono (by first | decide | omega)) rfl (fun σ => passAt tk σ) (pa_cons (pv 0) pa_nil)))
      (pss_cons (ps_set (i := 1) sc_key_stretches.nd rfl (by first | exact Or.inl rfl | exact Or.inr rfl) (pe_okM0 (okm_Almanac_days T) (cl_Almanac T) (pv 0) (hr.mono (by first | decide | omega)) pass0))
      (pss_cons (ps_set (i := 2) sc_key_stretches.nd rfl (by first | exact Or.inl rfl | exact Or.inr rfl) (pe_ok (ok_span_counts T) (hr.mono (by first | decide | omega)) rfl pass0 (pa_cons (pv 0) pa_nil)))
      (pss_cons (ps_set (i := 3) sc_key_stretches.nd rfl (by first | exact Or.inl rfl | exact Or.inr rfl) (pe_lst pa_nil))
      (pss_cons (ps_for (passes_of rfl) rfl (pi_listK (K := K) rfl (pe_ok (ok_all_stretches T) (hr.mono (by first | decide | omega)) rfl pass0 (pa_cons (pv 1) pa_nil))) (pg_tupK (K := K) (n := 2) rfl rfl (pgs_cons (pg_name (i := 4) sc_key_stretches.nd rfl (by first | exact Or.inl rfl | exact Or.inr rfl)) (pgs_cons (pg_name (i := 5) sc_key_stretches.nd rfl (by first | exact Or.inl rfl | exact Or.inr rfl)) pgs_nil)))
        (pss_cons (ps_set (i := 6) sc_key_stretches.nd rfl (by first | exact Or.inl rfl | exact Or.inr rfl) (pe_or (pe_cmpR op_eq (pv 4) pe_int (nomark _)) (pe_one (pe_cmpR op_gt (pe_dget (du hr.units) (pv 2) (pe_tup (pa_cons (pe_op op_sub (pv 4) pe_int) (pa_cons (pv 5) pa_nil))) (fun _ _ => rfl)) (pe_dget (du hr.units) (pv 2) (pe_tup (pa_cons (pv 4) (pa_cons (pv 5) pa_nil))) (fun _ _ => rfl)) (nomark _)))))
      (pss_cons (ps_set (i := 7) sc_key_stretches.nd rfl (by first | exact Or.inl rfl | exact Or.inr rfl) (pe_or (pe_cmpR op_eq (pv 5) (pv 1) (nomark _)) (pe_one (pe_cmpR op_gt (pe_dget (du hr.units) (pv 2) (pe_tup (pa_cons (pv 4) (pa_cons (pe_op op_add (pv 5) pe_int) pa_nil))) (fun _ _ => rfl)) (pe_dget (du hr.units) (pv 2) (pe_tup (pa_cons (pv 4) (pa_cons (pv 5) pa_nil))) (fun _ _ => rfl)) (nomark _)))))
      (pss_one (ps_if (PW.pt (pw_and (pt_val (pv 6)) (pw_and1 (pt_val (pv 7))))) (pss_one (ps_expr (pe_bm PySem.F.plainAttrs_list PySem.F.slot_list_append PySem.F.type_list_append mt_append (pv 3) (pa_cons (pe_tup (pa_cons (pv 4) (pa_cons (pv 5) pa_nil))) pa_nil)))) pss_nil)))))
      (pss_one (ps_ret (pv 3)))))))), ?_⟩
    refine ⟨_, rfl, p, TT, rs, rfl, hA, hl, fun hone H1 s1 => ?_, fun n r h1 h2 h3 => kb n ⟨r, h1, h2, h3⟩⟩
    have hA1 := hA.same s1
    obtain ⟨dx, l0, xs0, i1, i2, i3⟩ := id hA1
    refine ⟨_, rfl, p, dx, _, rfl, i1, af_no (by decide +kernel) (by decide +kernel), p, TT, rs, rfl, hA1, ?_⟩
    refine ⟨_, rfl, TT, p, rs, rfl, hA1, hl, hT, hg, fun tb H2 htb s2 d2 => ?_⟩
    have e2 := s1.trans s2
    refine ⟨(by show 0 ≤ sizeLine; decide), fun D hD => ?_⟩
    obtain ⟨s3, g3⟩ := new2 (.lst []) hD
    have hD0 : H D = none := none_of e2 hD
    refine ⟨_, rfl, TT, rfl, hT, fun l xs H3 s4 hl0 hl1 hP => ?_⟩
    have d3 : H3 tb = some (.dT (tabM (tabR rs) TT)) := s4 _ _ (s3 _ _ d2)
    have hxl : xs.length ≤ 576 := by
      rw [Paired.length hP]
      have := strL_len TT hT
      omega
    have nlD : l ≠ D := fun z => by rw [z, upd_same] at hl0; cases hl0
    have ntD : tb ≠ D := fun z => by rw [z, hD] at d2; cases d2
    refine ⟨l, rfl, ⟨_, SqL.of hl1⟩, for_list (K := K) (a := l) (xs := xs) (fun m σ H' => ∃ v4 v5 v6 v7 ys, σ = [some (.ref p), some (.int TT), some (.ref tb), some (.ref D), v4, v5, v6, v7] ∧ Same H H' ∧ H' tb = some (.dT (tabM (tabR rs) TT)) ∧ H' l = some (.lst xs) ∧ Paired (PairT H') xs (strL TT) ∧ H' D = some (.lst ys) ∧ Paired (PairT H') ys (((strL TT).take m).filter (keyB (tabR rs) TT))) ⟨_, _, _, _, [], rfl, e2.trans (s3.trans s4), d3, hl1, hP, s4 _ _ g3, .nil⟩ (fun _ _ _ _ h => ?_) ?_ ?_⟩
    · obtain ⟨_, _, _, _, _, _, _, _, z, _⟩ := h
      exact SqL.of z
    · rintro m x σ H4 hx ⟨v4, v5, v6, v7, ys, rfl, e4, d4, hl4, hP4, hD4, hK4⟩
      obtain ⟨c, hc, hr⟩ := paired_get hP4 hx
      obtain ⟨a, b, h1, h2', rfl⟩ := strL_mem (List.mem_of_getElem? hc)
      refine hr.un rfl ?_
      refine Ev.seq (v := .bl (decide ((a : Int) = 0) || decide (tabR rs a b < tabR rs (a - 1) b))) (Ev.or (Ev.eq (Ev.var rfl) Ev.c) fun z => Ev.i2 (Ev.dget (a := a - 1) (b := b) d4 rfl (Ev.i2 (Ev.var rfl) Ev.c) (Ev.var rfl) ?_ rfl (by omega) h2') (Ev.dget (a := a) (b := b) d4 rfl (Ev.var rfl) (Ev.var rfl) rfl rfl (by omega) h2')) fun H5 s5 => ?_
      · have := of_decide_eq_false z
        omega
      have d5 := s5 _ _ d4
      refine Ev.seq (v := .bl (decide ((b : Int) = (TT : Int)) || decide (tabR rs a b < tabR rs a (b + 1)))) (Ev.or (Ev.eq (Ev.var rfl) (Ev.var rfl)) fun z => Ev.i2 (Ev.dget (a := a) (b := b + 1) d5 rfl (Ev.var rfl) (Ev.i2 (Ev.var rfl) Ev.c) rfl ?_ (by omega) ?_) (Ev.dget (a := a) (b := b) d5 rfl (Ev.var rfl) (Ev.var rfl) rfl rfl (by omega) h2')) fun H6 s6 => ?_
      · omega
      · have := of_decide_eq_false z
        omega
      refine EvT.ifs (b := keyB (tabR rs) TT ((a : Int), (b : Int))) ?_ fun H7 s7 => ?_
      · rw [keyB_nat]
        exact EvT.and (EvT.b (Ev.var rfl)) fun _ => EvT.b (Ev.var rfl)
      · have s47 := s5.trans (s6.trans s7)
        have hK3 := Paired.mapP hK4 fun _ _ z => z.same s47
        have hP3 := Paired.mapP hP4 fun _ _ z => z.same s47
        have st := flt_take2 (p := keyB (tabR rs) TT) hc _ rfl
        cases q : keyB (tabR rs) TT ((a : Int), (b : Int)) with
        | false =>
          rw [q] at st
          have st : ((strL TT).take (m + 1)).filter (keyB (tabR rs) TT) = ((strL TT).take m).filter (keyB (tabR rs) TT) := st.trans (List.append_nil _)
          refine ⟨_, _, _, _, ys, rfl, e4.trans s47, s47 _ _ d4, s47 _ _ hl4, hP3, s47 _ _ hD4, ?_⟩
          rw [st]
          exact hK3
        | true =>
          rw [q] at st
          have st : ((strL TT).take (m + 1)).filter (keyB (tabR rs) TT) = ((strL TT).take m).filter (keyB (tabR rs) TT) ++ [((a : Int), (b : Int))] := st
          refine ⟨_, rfl, .inl ⟨rfl, _, SqL.of (s47 _ _ hD4)⟩, _, rfl, _, rfl, (by show 2 ≤ sizeLine; decide), fun t ht => ?_⟩
          obtain ⟨s8, g8⟩ := new2 (.tup [.int (a : Int), .int (b : Int)]) ht
          have hD8 := s8 _ _ (s47 _ _ hD4)
          have hyl : ys.length ≤ 576 := by
            rw [Paired.length hK4]
            have := List.length_filter_le (keyB (tabR rs) TT) ((strL TT).take m)
            have := strL_len TT hT
            have : ((strL TT).take m).length ≤ (strL TT).length := by rw [List.length_take]; omega
            omega
          refine ⟨D, ys, _, rfl, rfl, hD8, line_lt (by omega), ?_⟩
          refine ⟨_, _, _, _, ys ++ [.ref t], rfl, same_mut ((e4.trans s47).trans s8) hD0, ?_, ?_, ?_, upd_same, ?_⟩
          · rw [upd_ne ntD]
            exact s8 _ _ (s47 _ _ d4)
          · rw [upd_ne nlD]
            exact s8 _ _ (s47 _ _ hl4)
          · exact Paired.mapP hP3 fun _ _ z => (z.same s8).mut hD8
          · rw [st]
            exact Paired.snoc (Paired.mapP hK3 fun _ _ z => (z.same s8).mut hD8) ((show PairT _ (.ref t) ((a : Int), (b : Int)) from ⟨t, rfl, g8⟩).mut hD8)
    · rintro σ H4 ⟨v4, v5, v6, v7, ys, rfl, e4, d4, hl4, hP4, hD4, hK4⟩
      rw [Paired.length hP, List.take_length] at hK4
      exact ⟨_, rfl, k hone D ys H4 hD0 e4 hD4 hK4⟩
end
end K85
end
section
set_option maxRecDepth 100000
set_option maxHeartbeats 4000000
namespace K85
open PySem PySem.Spec PyProof.Rows L2
def rsum : List (Int × Int) → Int
  | [] => 0
  | c :: r => c.2 + rsum r
def wsum : List (List (Int × Int)) → Int
  | [] => 0
  | c :: r => rsum c + wsum r
theorem rsum_app {l m : List (Int × Int)} : rsum (l ++ m) = rsum l + rsum m := by
  induction l with
  | nil => show _ = 0 + _; rw [Int.zero_add]; rfl
  | cons c l ih =>
    show c.2 + rsum (l ++ m) = (c.2 + rsum l) + rsum m
    rw [ih, Int.add_assoc]
theorem wsum_app {l m : List (List (Int × Int))} : wsum (l ++ m) = wsum l + wsum m := by
  induction l with
  | nil => show _ = 0 + _; rw [Int.zero_add]; rfl
  | cons c l ih =>
    show rsum c + wsum (l ++ m) = (rsum c + wsum l) + wsum m
    rw [ih, Int.add_assoc]
theorem rsum_take {l : List (Int × Int)} {i : Nat} {c : Int × Int} (h : l[i]? = some c) : rsum (l.take (i + 1)) = rsum (l.take i) + c.2 := by
  obtain ⟨lt, e⟩ := List.getElem?_eq_some_iff.mp h
  rw [← List.take_append_getElem lt, rsum_app, e]
  show _ + (c.2 + 0) = _
  rw [Int.add_zero]
theorem wsum_take {l : List (List (Int × Int))} {i : Nat} {c : List (Int × Int)} (h : l[i]? = some c) : wsum (l.take (i + 1)) = wsum (l.take i) + rsum c := by
  obtain ⟨lt, e⟩ := List.getElem?_eq_some_iff.mp h
  rw [← List.take_append_getElem lt, wsum_app, e]
  show _ + (rsum c + 0) = _
  rw [Int.add_zero]
/-- what has fallen by each day -/
def fellBy (W : List (List (Int × Int))) (k : Nat) : Int := wsum (W.take k)
theorem firstBad_nn (rs : List Q4) : ∀ (W : List (List (Int × Int))) {k : Int} {g : List Int}, 0 ≤ k → 0 ≤ firstBad rs k g W
  | [], _, _, _ => Int.le_refl _
  | rep :: W, k, g, h => by
    show 0 ≤ (match dayStep rs k g rep with
      | none => k
      | some g' => firstBad rs (k + 1) g' W)
    split
    · exact h
    · exact firstBad_nn rs W (by omega)
section
variable {P : Program} {w : World} {K : PySem.W.Frag} {mg : Str → Option Value} {base : Heap}
def spFallC : Sp := fun vs H Q _ => ∃ (a : Addr) (W : List (List (Int × Int))), vs = [.ref a] ∧ WeaT H a W ∧ W.length ≤ 100 ∧ ∀ l H', H l = none → Same H H' → H' l = some (.lst (rowV (W.length + 1) (fellBy W))) → Q (.ref l) H'
theorem ok_fall_counts (T : Txt w K mg) : Ok P w K mg base CX0 1 "fall_counts" ["weather"] spFallC := by
  refine Ok.def0 (f_fall_counts T) (fun _ _ _ _ _ _ us hl => match us, hl with | [_], _ => rfl) sc_fall_counts (fun vs H Q E h => ?_) (fun f cdv A outer s H vs Q E hr h => ?_)
  · obtain ⟨a, W, rfl, _⟩ := h
    rfl
  · obtain ⟨a, W, rfl, ⟨ys, w1, w2⟩, hW, k⟩ := h
    refine ⟨_, (pss_cons (ps_set (i := 1) sc_fall_counts.nd rfl (by first | exact Or.inl rfl | exact Or.inr rfl) pe_int)
      (pss_cons (ps_set (i := 2) sc_fall_counts.nd rfl (by first | exact Or.inl rfl | exact Or.inr rfl) (pe_lst (pa_cons pe_int pa_nil)))
      (pss_cons (ps_for PassesOwn.never rfl (pi_listK (K := K) rfl (pv 0)) (pg_name (i := 3) sc_fall_counts.nd rfl (by first | exact Or.inl rfl | exact Or.inr rfl))
        (pss_cons (ps_for PassesOwn.never rfl (pi_listK (K := K) rfl (pv 3)) (pg_name (i := 4) sc_fall_counts.nd rfl (by first | exact Or.inl rfl | exact Or.inr rfl))
        (pss_one (ps_aug (i := 1) sc_fall_counts.nd rfl (by first | exact Or.inl rfl | exact Or.inr rfl) (pe_ix (ix_seqK (K := K) rfl) (pv 4) pe_int (fun _ _ => rfl)) ip_add)))
      (pss_one (ps_expr (pe_bm PySem.F.plainAttrs_list PySem.F.slot_list_append PySem.F.type_list_append mt_append (pv 2) (pa_cons (pv 1) pa_nil))))))
      (pss_one (ps_ret (pv 2)))))), ?_⟩
    refine ⟨(by show 1 ≤ sizeLine; decide), fun fl hfl => ?_⟩
    obtain ⟨s1, g1⟩ := new2 (.lst [V.int 0]) hfl
    have hyl : ys.length = W.length := Paired.length w2
    refine ⟨_, rfl, a, rfl, ⟨_, SqL.of (s1 _ _ w1)⟩, for_list (K := K) (a := a) (xs := ys) (fun i σ H' => ∃ v3 v4, σ = [some (.ref a), some (.int (fellBy W i)), some (.ref fl), v3, v4] ∧ Same H H' ∧ H' fl = some (.lst (rowV (i + 1) (fellBy W)))) ⟨_, _, rfl, s1, g1⟩ (fun _ _ _ _ ⟨_, _, _, z, _⟩ => SqL.of (z _ _ w1)) ?_ ?_⟩
    · rintro i x σ H1 hx ⟨v3, v4, rfl, e1, f1⟩
      obtain ⟨rep, hrep, l2, zs, rfl, r1, r2⟩ := paired_get w2 hx
      have hi : i < W.length := (List.getElem?_eq_some_iff.mp hrep).1
      have r1 := e1 _ _ r1
      refine gnE ?_
      refine ⟨_, rfl, l2, rfl, ⟨_, SqL.of r1⟩, for_list (K := K) (a := l2) (xs := zs) (fun j σ H' => ∃ v4, σ = [some (.ref a), some (.int (fellBy W i + rsum (rep.take j))), some (.ref fl), some (.ref l2), v4] ∧ Same H1 H') ⟨v4, ?_, Same.refl H1⟩ (fun _ _ _ _ ⟨_, _, z⟩ => SqL.of (z _ _ r1)) ?_ ?_⟩
      · show _ = [_, some (V.int (fellBy W i + 0)), _, _, _]
        rw [Int.add_zero]
        rfl
      · rintro j x σ H3 hx3 ⟨v4, rfl, e3⟩
        obtain ⟨c, hc, hr⟩ := paired_get r2 hx3
        refine gnE ?_
        refine ⟨_, rfl, _, rfl, ((hr.same e1).same e3).i1 ⟨_, _, rfl, rfl, some x, ?_, e3⟩⟩
        rw [rsum_take hc, ← Int.add_assoc]
        rfl
      · rintro σ H3 ⟨v4, rfl, e3⟩
        rw [Paired.length r2, List.take_length]
        have f3 := e3 _ _ f1
        refine ⟨_, rfl, .inl ⟨rfl, _, SqL.of f3⟩, _, rfl, fl, _, _, rfl, rfl, f3, line_lt (by rw [rowV_len]; omega), ?_⟩
        refine ⟨some (.ref l2), v4, ?_, same_mut (e1.trans e3) hfl, ?_⟩
        · unfold fellBy
          rw [wsum_take hrep]
        · rw [upd_same]
          unfold rowV
          rw [List.range_succ (n := i + 1), List.map_append]
          show _ = some (HO.lst (_ ++ [V.int (fellBy W (i + 1))]))
          unfold fellBy
          rw [wsum_take hrep]
    · rintro σ H1 ⟨v3, v4, rfl, e1, f1⟩
      rw [hyl] at f1
      exact ⟨_, rfl, k fl H1 hfl e1 f1⟩
def spCheckW (K : PySem.W.Frag) : Sp := fun vs H Q E => ∃ (T : Nat) (p a : Addr) (rs : List Q4) (W : List (List (Int × Int))), vs = [.ref p, .ref a] ∧ AlmAt K H p T rs ∧ WeaT H a W ∧ T ≤ 24 ∧ W.length ≤ 100 ∧ rs.length ≤ 40 ∧ (∀ r ∈ rs, GoodR r) ∧ total W ≤ 2000 ∧ (wrongOf rs T W = -1 → ∀ H', Same H H' → Q .non H') ∧ (wrongOf rs T W ≠ -1 → Rz E H (cWe K) "day" (.int (wrongOf rs T W)))
theorem ok_check_weather (T : Txt w K mg) : Ok P w K mg base (L2.CX P w) 6 "check_weather" ["almanac", "weather"] (spCheckW K) := by
  refine Ok.defX (f_check_weather T) (fun _ _ _ _ _ _ us hl => match us, hl with | [_, _], _ => rfl) sc_check_weather (fun vs H Q E h => ?_) (fun f cdv A outer s H vs Q E hr h tk => ?_)
  · obtain ⟨TT, p, a, rs, W, rfl, _⟩ := h
    rfl
  · obtain ⟨TT, p, a, rs, W, rfl, hA, hWt, hT, hW, hl, hg, htot, k, kb⟩ := h
    refine ⟨_, (pss_cons (ps_if (pt_cmpR op_ne (pe_callB (len_seqK (K := K) rfl) rfl (n_len T) (by decide +kernel) (pa_cons (pv 1) pa_nil)) (pe_okM0 (okm_Almanac_days T) (cl_Almanac T) (pv 0) (hr.mono (by first | decide | omega)) pass0) (nomark _)) (pss_one (ps_raise rfl tk (pmk_x (x_BadWeather T) (hr.mono (by first | decide | omega)) rfl (pa_cons pe_int pa_nil)))) pss_nil)
      (pss_cons (ps_set (i := 2) sc_check_weather.nd rfl (by first | exact Or.inl rfl | exact Or.inr rfl) (pe_okM (okm_Almanac_begins T) (cl_Almanac T) (pv 0) (hr.mono (by first | decide | omega)) pass0 (pa_cons (pv 1) pa_nil)))
      (pss_one (ps_if (pt_cmpR op_ne (pv 2) pe_int (nomark _)) (pss_one (ps_raise rfl tk (pmk_x (x_BadWeather T) (hr.mono (by first | decide | omega)) rfl (pa_cons (pv 2) pa_nil)))) pss_nil)))), ?_⟩
    obtain ⟨dx, l0, xs0, h1, h2, h3⟩ := id hA
    obtain ⟨ys, w1, w2⟩ := id hWt
    have hyl : ys.length = W.length := Paired.length w2
    refine ⟨_, rfl, _, _, rfl, .inl (SqL.of w1), _, rfl, p, dx, _, rfl, h1, af_no (by decide +kernel) (by decide +kernel), p, TT, rs, rfl, hA, rfl, _, rfl, ?_⟩
    rw [hyl]
    have ecast : (!decide (V.int (W.length : Int) = V.int (TT : Int))) = !decide (W.length = TT) := by
      congr 1
      rw [decide_eq_decide]
      exact ⟨fun z => by have := V.int.inj z; omega, fun z => by rw [z]⟩
    rw [ecast]
    cases hlen : decide (W.length = TT) with
    | false =>
      have hlen := of_decide_eq_false hlen
      have wr : wrongOf rs TT W = 0 := by unfold wrongOf; rw [if_neg hlen]
      have kb := kb (by rw [wr]; decide)
      rw [wr] at kb
      exact mko (kb.at (Same.refl H))
    | true =>
      have hlen := of_decide_eq_true hlen
      refine ⟨_, rfl, p, dx, _, rfl, h1, af_no (by decide +kernel) (by decide +kernel), _, rfl, p, TT, rs, a, W, rfl, hA, hl, hg, hWt, by omega, htot, fun H1 s1 => ?_⟩
      refine ⟨_, rfl, rfl, _, rfl, ?_⟩
      have ec : (!decide (V.int (firstBad rs 1 [] W) = V.int 0)) = !decide (firstBad rs 1 [] W = 0) := by
        congr 1
        rw [decide_eq_decide]
        exact ⟨fun z => V.int.inj z, fun z => by rw [z]⟩
      rw [ec]
      have wr : wrongOf rs TT W = if firstBad rs 1 [] W = 0 then -1 else firstBad rs 1 [] W := by unfold wrongOf; rw [if_pos hlen]
      cases q : decide (firstBad rs 1 [] W = 0) with
      | true =>
        have q := of_decide_eq_true q
        rw [if_pos q] at wr
        exact k wr H1 s1
      | false =>
        have q := of_decide_eq_false q
        rw [if_neg q] at wr
        have nn := firstBad_nn rs W (k := 1) (g := []) (by omega)
        have kb := kb (by rw [wr]; omega)
        rw [wr] at kb
        exact ⟨_, rfl, mko (kb.at s1)⟩
end
end K85
end
section
set_option maxRecDepth 100000
set_option maxHeartbeats 4000000
namespace K85
open PySem PySem.Spec PyProof.Rows L2
def tgB (M : Nat → Nat → Int) (F : Nat → Int) (c : Int × Int) : Bool := decide (F c.2.toNat - F c.1.toNat = M c.1.toNat c.2.toNat)
def tightL (M : Nat → Nat → Int) (F : Nat → Int) (T : Nat) : List (Int × Int) := (strL T).filter (tgB M F)
theorem ev_ixl {K : PySem.W.Frag} {σ : L2.St} {H0 : Hp} {l : Addr} {xs : List V} {i j n : Nat} {z : Int} {v : V} (hi : σ[i]? = some (some (.ref l))) (hj : σ[j]? = some (some (.int z))) (hz : z = (n : Int)) (hl : H0 l = some (.lst xs)) (hx : xs[n]? = some v) :
    Ev σ H0 (tOp (rIxL K) (tVar i) (tVar j)) v := fun H' R s q =>
  ⟨_, hi, _, hj, l, xs, _, v, rfl, rfl, SqL.of (s _ _ hl), at_of hz hx, q H' (Same.refl _)⟩
section
variable {P : Program} {w : World} {K : PySem.W.Frag} {mg : Str → Option Value} {base : Heap}
def spTightA : Sp := fun vs H Q _ => ∃ (T : Nat) (a tb l : Addr) (xs : List V) (W : List (List (Int × Int))) (M : Nat → Nat → Int) (L : List (Int × Int)), vs = [.ref a, .ref tb, .ref l] ∧ WeaT H a W ∧ W.length = T ∧ T ≤ 24 ∧ H tb = some (.dT (tabM M T)) ∧ H l = some (.lst xs) ∧ Paired (PairT H) xs L ∧ L.length ≤ 600 ∧ (∀ c ∈ L, ∃ a b : Nat, a < b ∧ b ≤ T ∧ c = ((a : Int), (b : Int))) ∧ ∀ p ys H', H p = none → Same H H' → H' p = some (.lst ys) → Paired (PairT H') ys (L.filter (tgB M (fellBy W))) → Q (.ref p) H'
theorem ok_tight_among (T : Txt w K mg) : Ok P w K mg base CX0 2 "tight_among" ["weather", "counts", "stretches"] spTightA := by
  refine Ok.def0 (f_tight_among T) (fun _ _ _ _ _ _ us hl => match us, hl with | [_, _, _], _ => rfl) sc_tight_among (fun vs H Q E h => ?_) (fun f cdv A outer s H vs Q E hr h => ?_)
  · obtain ⟨TT, a, tb, l, xs, W, M, L, rfl, _⟩ := h
    rfl
  · obtain ⟨TT, a, tb, l, xs, W, M, L, rfl, hWt, hW, hT, hd, hl, hP, hLl, hLm, k⟩ := h
    refine ⟨_, (pss_cons (ps_set (i := 3) sc_tight_among.nd rfl (by first | exact Or.inl rfl | exact Or.inr rfl) (pe_ok (ok_fall_counts T) (hr.mono (by first | decide | omega)) rfl pass0 (pa_cons (pv 0) pa_nil)))
      (pss_one (ps_ret (pe_lc (own := [("a", 4), ("b", 5)]) rfl sc_tight_among.nd (pi_listK (K := K) rfl (pv 2)) (blkOk_by (N := ["weather", "counts", "stretches", "fallen", "a", "b"]) (sc := defScope s_tight_among) (by decide +kernel)) (fun _ _ _ _ _ => (pg_tupK (K := K) (n := 2) rfl rfl (pgs_cons (pg_name (i := 4) sc_tight_among.nd rfl (by first | exact Or.inl rfl | exact Or.inr rfl)) (pgs_cons (pg_name (i := 5) sc_tight_among.nd rfl (by first | exact Or.inl rfl | exact Or.inr rfl)) pgs_nil)))) (fun _ _ _ _ _ => pts_one (pt_cmpR op_eq (pe_op op_sub (pe_ix (ix_listK (K := K) rfl) (pv 3) (pv 5) (fun _ _ => rfl)) (pe_ix (ix_listK (K := K) rfl) (pv 3) (pv 4) (fun _ _ => rfl))) (pe_dget (du hr.units) (pv 1) (pe_tup (pa_cons (pv 4) (pa_cons (pv 5) pa_nil))) (fun _ _ => rfl)) (nomark _))) (fun _ _ _ _ _ => (pe_tup (pa_cons (pv 4) (pa_cons (pv 5) pa_nil)))))))), ?_⟩
    have hxl : xs.length ≤ 600 := by
      rw [Paired.length hP]
      exact hLl
    refine ⟨_, rfl, a, W, rfl, hWt, by omega, fun fl H1 hfl s1 f1 => ?_⟩
    rw [hW] at f1
    refine ⟨_, rfl, l, rfl, ⟨_, SqL.of (s1 _ _ hl)⟩, fun D hD => lc_acc (K := K) (a := l) (xs := xs) hD (SqL.of (s1 _ _ hl)) (by omega) (fun j acc H' => Paired (PairT H') acc ((L.take j).filter (tgB M (fellBy W)))) (fun _ _ => .nil) ?_ ?_⟩
    · rintro j x acc H2 N N0 hx s2 hacc hI hN hN0
      obtain ⟨c, hc, hr⟩ := paired_get hP hx
      have hr := hr.same (s1.trans s2)
      obtain ⟨a', b', h1, h2', rfl⟩ := hLm _ (List.mem_of_getElem? hc)
      refine hr.un rfl ⟨rfl, ?_⟩
      have st := flt_take2 (p := tgB M (fellBy W)) hc _ rfl
      have f2 := s2 _ _ f1
      have d2 := s2 _ _ (s1 _ _ hd)
      refine EvT.run (b := tgB M (fellBy W) ((a' : Int), (b' : Int))) (EvT.test (Ev.eq (Ev.i2 (ev_ixl (n := b') rfl rfl rfl f2 (rowV_get (by omega))) (ev_ixl (n := a') rfl rfl rfl f2 (rowV_get (by omega)))) (Ev.dget (a := a') (b := b') (T := TT) d2 rfl (Ev.var rfl) (Ev.var rfl) rfl rfl (by omega) h2'))) fun H3 s3 => ?_
      cases q : tgB M (fellBy W) ((a' : Int), (b' : Int)) with
      | false =>
        rw [q] at st
        have st : (L.take (j + 1)).filter (tgB M (fellBy W)) = (L.take j).filter (tgB M (fellBy W)) := st.trans (List.append_nil _)
        refine hN0 _ s3 ?_
        rw [st]
        exact Paired.mapP hI fun _ _ z => z.same s3
      | true =>
        rw [q] at st
        have st : (L.take (j + 1)).filter (tgB M (fellBy W)) = (L.take j).filter (tgB M (fellBy W)) ++ [((a' : Int), (b' : Int))] := st
        refine ⟨_, rfl, _, rfl, (by show 2 ≤ sizeLine; decide), fun t ht => ?_⟩
        obtain ⟨s4, g4⟩ := new2 (.tup [.int (a' : Int), .int (b' : Int)]) ht
        have hacc4 := s4 _ _ (s3 _ _ hacc)
        refine hN _ _ (s3.trans s4) fun H5 b5 _ => ?_
        rw [st]
        exact Paired.snoc (Paired.mapP hI fun _ _ z => ((z.same s3).same s4).but hacc4 b5) ((show PairT _ (.ref t) ((a' : Int), (b' : Int)) from ⟨t, rfl, g4⟩).but hacc4 b5)
    · rintro acc H2 s2 hacc _ hI
      rw [Paired.length hP, List.take_length] at hI
      exact k D acc H2 (none_of s1 hD) (s1.trans s2) hacc hI
end
end K85
end
section
set_option maxRecDepth 100000
set_option maxHeartbeats 4000000
namespace K85
open PySem PySem.Spec PyProof.Rows L2
def canR (c : Int × Int) : Q4 := (c.1, c.2, 1, 1)
def inT (ws : List (Int × Int)) (a b : Int) (c : Int × Int) : Bool := !(decide ((ws.getD (c.1 - 1).toNat (0, 0)).1 ≤ a) || decide (b < (ws.getD (c.1 - 1).toNat (0, 0)).2))
/-- every fall of these days is one of a span within -/
def isT (ws : List (Int × Int)) (W : List (List (Int × Int))) (a b : Nat) : Bool := (List.range (b - a)).all fun k => (W.getD (a + k) []).all (inT ws (a : Int) (b : Int))
section
variable {P : Program} {w : World} {K : PySem.W.Frag} {mg : Str → Option Value} {base : Heap}
def spCanR : Sp := fun vs H Q _ => ∃ (l : Addr) (xs : List V) (ws : List (Int × Int)), vs = [.ref l] ∧ H l = some (.lst xs) ∧ Paired (PairT H) xs ws ∧ ws.length ≤ 40 ∧ ∀ p ys H', H p = none → Same H H' → H' p = some (.lst ys) → Paired (QuadT H') ys (ws.map canR) → Q (.ref p) H'
theorem ok__law_can_rains (T : Txt w K mg) : Ok P w K mg base CX0 1 "_law_can_rains" ["spans"] spCanR := by
  refine Ok.def0 (f__law_can_rains T) (fun _ _ _ _ _ _ us hl => match us, hl with | [_], _ => rfl) sc__law_can_rains (fun vs H Q E h => ?_) (fun f cdv A outer s H vs Q E hr h => ?_)
  · obtain ⟨l, xs, ws, rfl, _⟩ := h
    rfl
  · obtain ⟨l, xs, ws, rfl, hl, hP, hw, k⟩ := h
    refine ⟨_, (pss_one (ps_ret (pe_lc (own := [("span", 1)]) rfl sc__law_can_rains.nd (pi_listK (K := K) rfl (pv 0)) (blkOk_by (N := ["spans", "span"]) (sc := defScope s__law_can_rains) (by decide +kernel)) (fun _ _ _ _ _ => (pg_name (i := 1) sc__law_can_rains.nd rfl (by first | exact Or.inl rfl | exact Or.inr rfl))) (fun _ _ _ _ _ => pts_nil) (fun _ _ _ _ _ => (pe_tup (pa_cons (pe_ix (ix_seqK (K := K) rfl) (pv 1) pe_int (fun _ _ => rfl)) (pa_cons (pe_ix (ix_seqK (K := K) rfl) (pv 1) pe_int (fun _ _ => rfl)) (pa_cons pe_int (pa_cons pe_int pa_nil))))))))), ?_⟩
    have hxl : xs.length ≤ 40 := by rw [Paired.length hP]; exact hw
    refine ⟨_, rfl, l, rfl, ⟨_, SqL.of hl⟩, fun D hD => lc_acc (K := K) (a := l) (xs := xs) hD (SqL.of hl) (by omega) (fun j acc H' => Paired (QuadT H') acc ((ws.take j).map canR)) (fun _ _ => .nil) ?_ ?_⟩
    · rintro j x acc H2 N N0 hx s2 hacc hI hN hN0
      obtain ⟨c, hc, hr⟩ := paired_get hP hx
      have hr := hr.same s2
      refine gnE ⟨rfl, ?_⟩
      refine ⟨_, rfl, hr.i0 ⟨_, rfl, hr.i1 ⟨(by show 4 ≤ sizeLine; decide), fun t ht => ?_⟩⟩⟩
      obtain ⟨s3, g3⟩ := new2 (.tup [.int c.1, .int c.2, .int 1, .int 1]) ht
      have hacc3 := s3 _ _ hacc
      have tD : t ≠ D := fun z => by rw [z, hacc] at ht; cases ht
      refine hN _ _ s3 fun H5 b5 _ => ?_
      rw [take_get hc, List.map_append]
      refine Paired.snoc (Paired.mapP hI fun _ _ z => ?_) ⟨t, rfl, b5 _ _ g3 tD⟩
      obtain ⟨u, rfl, h⟩ := z.same s3
      exact ⟨u, rfl, b5 _ _ h fun z => by rw [z, s3 _ _ hacc] at h; cases h⟩
    · rintro acc H2 s2 hacc _ hI
      rw [Paired.length hP, List.take_length] at hI
      exact k D acc H2 hD s2 hacc hI
def spIsT : Sp := fun vs H Q _ => ∃ (l wa : Addr) (xs : List V) (ws : List (Int × Int)) (W : List (List (Int × Int))) (a b : Nat), vs = [.ref l, .ref wa, .int a, .int b] ∧ H l = some (.lst xs) ∧ Paired (PairT H) xs ws ∧ WeaT H wa W ∧ a ≤ b ∧ b ≤ W.length ∧ W.length ≤ 24 ∧ (∀ rep ∈ W, ∀ c ∈ rep, 1 ≤ c.1 ∧ c.1 ≤ (ws.length : Int)) ∧ ∀ H', Same H H' → Q (.bl (isT ws W a b)) H'
theorem ok__law_is_tight (T : Txt w K mg) : Ok P w K mg base CX0 1 "_law_is_tight" ["spans", "weather", "a", "b"] spIsT := by
  refine Ok.def0 (f__law_is_tight T) (fun _ _ _ _ _ _ us hl => match us, hl with | [_, _, _, _], _ => rfl) sc__law_is_tight (fun vs H Q E h => ?_) (fun f cdv A outer s H vs Q E hr h => ?_)
  · obtain ⟨l, wa, xs, ws, W, a, b, rfl, _⟩ := h
    rfl
  · obtain ⟨l, wa, xs, ws, W, a, b, rfl, hl, hP, ⟨ys, w1, w2⟩, hab, hb, hW, hin, k⟩ := h
    refine ⟨_, (pss_cons (ps_for PassesOwn.never rfl (pi_range2 rfl (n_range T) (pa_cons (pv 2) (pa_cons (pv 3) pa_nil))) (pg_name (i := 4) sc__law_is_tight.nd rfl (by first | exact Or.inl rfl | exact Or.inr rfl))
        (pss_one (ps_for PassesOwn.never rfl (pi_listK (K := K) rfl (pe_ix (ix_listK (K := K) rfl) (pv 1) (pv 4) (fun _ _ => rfl))) (pg_name (i := 5) sc__law_is_tight.nd rfl (by first | exact Or.inl rfl | exact Or.inr rfl))
        (pss_cons (ps_set (i := 6) sc__law_is_tight.nd rfl (by first | exact Or.inl rfl | exact Or.inr rfl) (pe_ix (ix_listK (K := K) rfl) (pv 0) (pe_op op_sub (pe_ix (ix_seqK (K := K) rfl) (pv 5) pe_int (fun _ _ => rfl)) pe_int) (fun _ _ => rfl)))
      (pss_one (ps_if (PW.pt (pw_or (pt_cmpR op_le (pe_ix (ix_seqK (K := K) rfl) (pv 6) pe_int (fun _ _ => rfl)) (pv 2) (nomark _)) (pw_or1 (pt_cmpR op_gt (pe_ix (ix_seqK (K := K) rfl) (pv 6) pe_int (fun _ _ => rfl)) (pv 3) (nomark _))))) (pss_one (ps_ret pe_bl)) pss_nil))))))
      (pss_one (ps_ret pe_bl))), ?_⟩
    have hyl : ys.length = W.length := Paired.length w2
    have hxl : xs.length = ws.length := Paired.length hP
    refine ⟨_, rfl, _, rfl, _, _, rfl, by omega, for_upto (lo := (a : Int)) (L := b - a) (by omega) (fun i σ H' => ∃ v4 v5 v6, σ = [some (.ref l), some (.ref wa), some (.int a), some (.int b), v4, v5, v6] ∧ H' = H ∧ ∀ k, k < i → (W.getD (a + k) []).all (inT ws (a : Int) (b : Int)) = true) ⟨_, _, _, rfl, rfl, fun k h => by omega⟩ ?_ ?_⟩
    · rintro i σ H1 hi ⟨v4, v5, v6, rfl, rfl, hlt⟩
      have z1 : (a : Int) + (i : Int) = ((a + i : Nat) : Int) := by omega
      rw [z1]
      refine gnE ?_
      obtain ⟨rep, hrep⟩ : ∃ rep, W[a + i]? = some rep := ⟨W[a + i]'(by omega), List.getElem?_eq_getElem _⟩
      obtain ⟨x, hx⟩ : ∃ x, ys[a + i]? = some x := ⟨ys[a + i]'(by omega), List.getElem?_eq_getElem _⟩
      obtain ⟨rep', hrep', l2, zs, rfl, r1, r2⟩ := paired_get w2 hx
      rw [hrep] at hrep'
      cases hrep'
      have ew : W.getD (a + i) [] = rep := by rw [List.getD_eq_getElem?_getD, hrep]; rfl
      have hinr := hin rep (List.mem_of_getElem? hrep)
      refine ⟨_, rfl, _, rfl, wa, ys, _, _, rfl, rfl, SqL.of w1, at_of rfl hx, l2, rfl, ⟨_, SqL.of r1⟩, for_list (K := K) (a := l2) (xs := zs) (fun j σ H' => ∃ v5 v6, σ = [some (.ref l), some (.ref wa), some (.int a), some (.int b), some (.int ((a + i : Nat) : Int)), v5, v6] ∧ H' = H1 ∧ ∀ c ∈ rep.take j, inT ws (a : Int) (b : Int) c = true) ⟨_, _, rfl, rfl, fun c h => by simp at h⟩ (fun _ _ _ _ h => ?_) ?_ ?_⟩
      · obtain ⟨_, _, _, e, _⟩ := h
        rw [e]
        exact SqL.of r1
      · rintro j x σ H3 hx3 ⟨v5, v6, rfl, rfl, hlt3⟩
        obtain ⟨c, hc, hr⟩ := paired_get r2 hx3
        have hci := hinr c (List.mem_of_getElem? hc)
        obtain ⟨n, hn⟩ : ∃ n : Nat, c.1 = (n : Int) + 1 := ⟨(c.1 - 1).toNat, by omega⟩
        obtain ⟨r, hr4⟩ : ∃ r, ws[n]? = some r := ⟨ws[n]'(by omega), List.getElem?_eq_getElem _⟩
        obtain ⟨y, hy⟩ : ∃ y, xs[n]? = some y := ⟨xs[n]'(by omega), List.getElem?_eq_getElem _⟩
        obtain ⟨r', hr', hq⟩ := paired_get hP hy
        rw [hr4] at hr'
        cases hr'
        have eg : ws.getD (c.1 - 1).toNat (0, 0) = r := by
          have : (c.1 - 1).toNat = n := by omega
          rw [this, List.getD_eq_getElem?_getD, hr4]
          rfl
        have ei : inT ws (a : Int) (b : Int) c = !(decide (r.1 ≤ (a : Int)) || decide ((b : Int) < r.2)) := by unfold inT; rw [eg]
        have bad : inT ws (a : Int) (b : Int) c = false → Q (.bl false) H3 := fun q => by
          have : isT ws W a b = false := by
            rw [Bool.eq_false_iff]
            intro z
            have := List.all_eq_true.mp z i (List.mem_range.mpr (by omega))
            rw [ew] at this
            have := List.all_eq_true.mp this c (List.mem_of_getElem? hc)
            rw [q] at this
            cases this
          rw [this] at k
          exact k _ (Same.refl _)
        refine gnE ?_
        refine ⟨_, rfl, _, rfl, hr.i0 ⟨_, _, rfl, rfl, l, xs, _, y, rfl, rfl, SqL.of hl, at_of (by omega) hy, ?_⟩⟩
        refine ⟨_, rfl, hq.i0 ⟨_, rfl, _, _, rfl, rfl, _, rfl, ?_⟩⟩
        cases t1 : decide (r.1 ≤ (a : Int)) with
        | true => exact bad (by rw [ei, t1]; rfl)
        | false =>
          refine ⟨_, rfl, hq.i1 ⟨_, rfl, _, _, rfl, rfl, _, rfl, ?_⟩⟩
          cases t2 : decide ((b : Int) < r.2) with
          | true => exact bad (by rw [ei, t1, t2]; rfl)
          | false =>
            refine ⟨_, _, rfl, rfl, fun d hd => ?_⟩
            rw [take_get hc] at hd
            rcases List.mem_append.mp hd with hd | hd
            · exact hlt3 d hd
            · rw [List.mem_singleton.mp hd, ei, t1, t2]
              rfl
      · rintro σ H3 ⟨v5, v6, rfl, rfl, hlt3⟩
        rw [Paired.length r2, List.take_length] at hlt3
        refine ⟨_, _, _, rfl, rfl, fun q hq => ?_⟩
        by_cases eq : q = i
        · rw [eq, ew]
          exact List.all_eq_true.mpr hlt3
        · exact hlt q (by omega)
    · rintro σ H1 ⟨v4, v5, v6, rfl, rfl, hlt⟩
      have : isT ws W a b = true := List.all_eq_true.mpr fun q hq => hlt q (List.mem_range.mp hq)
      rw [this] at k
      exact k _ (Same.refl _)
end
end K85
end
section
set_option maxRecDepth 100000
set_option maxHeartbeats 4000000
namespace K85
open PySem PySem.Spec PyProof.Rows L2
/-! ### a stretch is tight if and only if each of its falls is one of a span within -/
theorem len_sub {l : List Int} : ∀ {m : List Int}, l.Nodup → (∀ x ∈ l, x ∈ m) → l.length ≤ m.length := by
  induction l with
  | nil => intro m _ _; exact Nat.zero_le _
  | cons x l ih =>
    intro m hn hs
    rw [List.nodup_cons] at hn
    have hx := hs x List.mem_cons_self
    have := ih (m := m.erase x) hn.2 fun y hy => by
      have hne : y ≠ x := fun z => hn.1 (by rw [← z]; exact hy)
      exact (List.mem_erase_of_ne hne).mpr (hs y (List.mem_cons_of_mem _ hy))
    rw [List.length_erase_of_mem hx] at this
    have : 0 < m.length := List.length_pos_of_mem hx
    rw [List.length_cons]
    omega
theorem eq_sub {l m : List Int} (hl : l.Nodup) (hm : m.Nodup) (h : ∀ x ∈ l, x ∈ m) (e : l.length = m.length) : ∀ x ∈ m, x ∈ l := fun x hx => by
  by_cases c : x ∈ l
  · exact c
  · have := len_sub (l := x :: l) (m := m) (List.nodup_cons.mpr ⟨c, hl⟩) fun y hy => by
      rcases List.mem_cons.mp hy with rfl | hy
      · exact hx
      · exact h y hy
    rw [List.length_cons] at this
    omega
def nums (W : List (List (Int × Int))) : List Int := W.flatten.map Prod.fst
theorem nums_app {a b : List (List (Int × Int))} : nums (a ++ b) = nums a ++ nums b := by unfold nums; rw [List.flatten_append, List.map_append]
theorem falls_ok {rs : List Q4} {d : Int} : ∀ {rep : List (Int × Int)} {b : Int} {g g' : List Int}, 0 ≤ b → falls rs d b g rep = some g' →
    g' = g ++ rep.map Prod.fst ∧ (g.Nodup → g'.Nodup) ∧ ∀ c ∈ rep, 1 ≤ c.1 ∧ c.1 ≤ (rs.length : Int) ∧ okR (rs.getD (c.1 - 1).toNat (0, 0, 0, 0)) d c.2 = true
  | [], b, g, g', _, h => by
    cases h
    exact ⟨by simp, fun h => h, fun c hc => by cases hc⟩
  | c :: r, b, g, g', hb, h => by
    unfold falls at h
    split at h
    · rename_i ho
      unfold okF at ho
      simp only [Bool.and_eq_true, decide_eq_true_eq, Bool.not_eq_true', decide_eq_false_iff_not] at ho
      obtain ⟨h1, h2, h3, h4⟩ := ho
      obtain ⟨e, n, k⟩ := falls_ok (by omega) h
      refine ⟨by rw [e, List.map_cons, List.append_assoc]; rfl, fun hg => n ?_, fun c' hc => ?_⟩
      · rw [List.nodup_append]
        refine ⟨hg, by simp, fun x hx y hy => ?_⟩
        rw [List.mem_singleton.mp hy]
        exact fun z => h3 (by rw [← z]; exact hx)
      · rcases List.mem_cons.mp hc with rfl | hc
        · exact ⟨by omega, h2, h4⟩
        · exact k c' hc
    · cases h
theorem first_ok {rs : List Q4} : ∀ {W : List (List (Int × Int))} {k : Int} {g : List Int}, 1 ≤ k → firstBad rs k g W = 0 → g.Nodup →
    (g ++ nums W).Nodup ∧ (∀ (i : Nat) (rep : List (Int × Int)), W[i]? = some rep → ∀ c ∈ rep, 1 ≤ c.1 ∧ c.1 ≤ (rs.length : Int) ∧ okR (rs.getD (c.1 - 1).toNat (0, 0, 0, 0)) (k + (i : Int)) c.2 = true) ∧
    ∀ i, i < W.length → ∀ q, q < rs.length → (rs.getD q (0, 0, 0, 0)).2.1 ≤ k + (i : Int) → ((q : Int) + 1) ∈ g ++ nums (W.take (i + 1))
  | [], k, g, _, _, hg => ⟨by unfold nums; simpa using hg, fun i rep h => by simp at h, fun i h => by simp at h⟩
  | rep :: W, k, g, hk, h, hg => by
    have hst : firstBad rs k g (rep :: W) = match dayStep rs k g rep with
      | none => k
      | some g' => firstBad rs (k + 1) g' W := rfl
    rw [hst] at h
    unfold dayStep at h
    cases hf : falls rs k 0 g rep with
    | none =>
      rw [hf] at h
      have h : k = 0 := h
      omega
    | some g' =>
      rw [hf] at h
      obtain ⟨e, n, kk⟩ := falls_ok (Int.le_refl 0) hf
      cases hd : dueBad rs k g' with
      | true =>
        have h : (match (if dueBad rs k g' = true then none else some g' : Option (List Int)) with
          | none => k
          | some g' => firstBad rs (k + 1) g' W) = 0 := h
        rw [if_pos hd] at h
        have h : k = 0 := h
        omega
      | false =>
        have h : (match (if dueBad rs k g' = true then none else some g' : Option (List Int)) with
          | none => k
          | some g' => firstBad rs (k + 1) g' W) = 0 := h
        rw [if_neg (by rw [hd]; decide)] at h
        have h : firstBad rs (k + 1) g' W = 0 := h
        obtain ⟨p1, p2, p3⟩ := first_ok (by omega) h (n hg)
        have en : ∀ V, g' ++ nums V = g ++ nums (rep :: V) := fun V => by
          rw [e, List.append_assoc]
          congr 1
          unfold nums
          rw [List.flatten_cons, List.map_append]
        refine ⟨by rw [← en]; exact p1, fun i rep' hi c hc => ?_, fun i hi q hq hl => ?_⟩
        · cases i with
          | zero =>
            have : rep = rep' := by simpa using hi
            rw [← this] at hc
            have := kk c hc
            rw [show k + ((0 : Nat) : Int) = k by omega]
            exact this
          | succ i =>
            have := p2 i rep' (by simpa using hi) c hc
            rw [show k + ((i + 1 : Nat) : Int) = k + 1 + (i : Int) by omega]
            exact this
        · cases i with
          | zero =>
            have hno : late rs k g' q = false := by
              unfold dueBad at hd
              rw [List.any_eq_false] at hd
              exact Bool.eq_false_iff.mpr (hd q (List.mem_range.mpr hq))
            unfold late at hno
            rw [decide_eq_true (by omega)] at hno
            have : ((q : Int) + 1) ∈ g' := by simpa using hno
            rw [List.take_succ_cons, ← en]
            exact List.mem_append_left _ this
          | succ i =>
            rw [List.take_succ_cons, ← en]
            rw [List.length_cons] at hi
            exact p3 i (by omega) q hq (by omega)
end K85
end
section
set_option maxRecDepth 100000
set_option maxHeartbeats 4000000
namespace K85
open PySem PySem.Spec PyProof.Rows L2
theorem flt_range {p : Q4 → Bool} {z : Q4} : ∀ rs : List Q4, (rs.filter p).length = ((List.range rs.length).filter fun q => p (rs.getD q z)).length
  | [] => rfl
  | r :: rs => by
    rw [List.length_cons, List.range_succ_eq_map, List.filter_cons, List.filter_cons, List.filter_map]
    have ih := flt_range (p := p) (z := z) rs
    have e : ((fun q => p ((r :: rs).getD q z)) ∘ Nat.succ) = fun q => p (rs.getD q z) := by
      funext q
      simp [Function.comp]
    have e0 : p ((r :: rs).getD 0 z) = p r := by simp
    rw [e0]
    split
    · rw [List.length_cons, List.length_cons, List.length_map, e, ih]
    · rw [List.length_map, e, ih]
theorem wsum_ones : ∀ {L : List (List (Int × Int))}, (∀ rep ∈ L, ∀ c ∈ rep, c.2 = 1) → wsum L = ((nums L).length : Int)
  | [], _ => rfl
  | rep :: L, h => by
    have ih := wsum_ones (L := L) fun r hr => h r (List.mem_cons_of_mem _ hr)
    have h0 := h rep List.mem_cons_self
    have : ∀ {rep : List (Int × Int)}, (∀ c ∈ rep, c.2 = 1) → rsum rep = (rep.length : Int) := fun {rep} => by
      induction rep with
      | nil => intro _; rfl
      | cons c r ih =>
        intro h
        show c.2 + rsum r = _
        rw [h c List.mem_cons_self, ih fun c hc => h c (List.mem_cons_of_mem _ hc), List.length_cons]
        omega
    show rsum rep + wsum L = _
    rw [this h0, ih]
    unfold nums
    rw [List.flatten_cons, List.map_append, List.length_append, List.length_map (as := rep), Int.natCast_add]
theorem canR_get {ws : List (Int × Int)} {q : Nat} (h : q < ws.length) : (ws.map canR).getD q (0, 0, 0, 0) = canR (ws.getD q (0, 0)) := by
  rw [List.getD_eq_getElem?_getD, List.getD_eq_getElem?_getD, List.getElem?_map, List.getElem?_eq_getElem h]
  rfl
def withinL (ws : List (Int × Int)) (a b : Nat) : List Int := ((List.range ws.length).filter fun q => decide ((a : Int) < ((ws.map canR).getD q (0, 0, 0, 0)).1) && decide (((ws.map canR).getD q (0, 0, 0, 0)).2.1 ≤ (b : Int))).map fun (q : Nat) => (q : Int) + 1
theorem withinL_len {ws : List (Int × Int)} {a b : Nat} : ((withinL ws a b).length : Int) = tabR (ws.map canR) a b := by
  unfold withinL tabR cN
  rw [List.length_map, flt_range (z := (0, 0, 0, 0)) (ws.map canR), List.length_map]
theorem withinL_nodup {ws : List (Int × Int)} {a b : Nat} : (withinL ws a b).Nodup := by
  unfold withinL
  refine List.pairwise_map.mpr (List.Pairwise.imp (R := fun x y => x ≠ y) (fun {x y : Nat} h (z : (x : Int) + 1 = (y : Int) + 1) => h (by omega)) ?_)
  exact List.Pairwise.filter _ List.nodup_range
theorem withinL_mem {ws : List (Int × Int)} {a b q : Nat} (hq : q < ws.length) : ((q : Int) + 1) ∈ withinL ws a b ↔ ((a : Int) < (ws.getD q (0, 0)).1 ∧ (ws.getD q (0, 0)).2 ≤ (b : Int)) := by
  unfold withinL
  rw [List.mem_map]
  constructor
  · rintro ⟨p, hp, e⟩
    have : p = q := by omega
    rw [this] at hp
    have := (List.mem_filter.mp hp).2
    rw [canR_get hq] at this
    simpa [canR] using this
  · rintro ⟨h1, h2⟩
    refine ⟨q, List.mem_filter.mpr ⟨List.mem_range.mpr hq, ?_⟩, rfl⟩
    rw [canR_get hq]
    simpa [canR] using ⟨h1, h2⟩
theorem nums_mem {W : List (List (Int × Int))} {x : Int} : x ∈ nums W ↔ ∃ (i : Nat) (rep : List (Int × Int)), W[i]? = some rep ∧ ∃ c ∈ rep, c.1 = x := by
  unfold nums
  rw [List.mem_map]
  constructor
  · rintro ⟨c, hc, rfl⟩
    obtain ⟨rep, hr, hc⟩ := List.mem_flatten.mp hc
    obtain ⟨i, hi⟩ := List.getElem?_of_mem hr
    exact ⟨i, rep, hi, c, hc, rfl⟩
  · rintro ⟨i, rep, hi, c, hc, rfl⟩
    exact ⟨c, List.mem_flatten.mpr ⟨rep, List.mem_of_getElem? hi, hc⟩, rfl⟩
theorem tight_is {ws : List (Int × Int)} {W : List (List (Int × Int))} {a b : Nat} (h : firstBad (ws.map canR) 1 [] W = 0) (hab : a ≤ b) (hb : b ≤ W.length) (hg : ∀ r ∈ ws.map canR, GoodR r) :
    decide (fellBy W b - fellBy W a = tabR (ws.map canR) a b) = isT ws W a b := by
  obtain ⟨p1, p2, p3⟩ := first_ok (by omega) h List.nodup_nil
  rw [List.nil_append] at p1
  have hn : (ws.map canR).length = ws.length := List.length_map _
  have ones : ∀ (i : Nat) (rep : List (Int × Int)), W[i]? = some rep → ∀ c ∈ rep, c.2 = 1 ∧ ∃ q : Nat, q < ws.length ∧ c.1 = (q : Int) + 1 ∧ (ws.getD q (0, 0)).1 ≤ 1 + (i : Int) ∧ 1 + (i : Int) ≤ (ws.getD q (0, 0)).2 := fun i rep hi c hc => by
    obtain ⟨h1, h2, h3⟩ := p2 i rep hi c hc
    rw [hn] at h2
    have hq : (c.1 - 1).toNat < ws.length := by omega
    rw [canR_get hq] at h3
    unfold okR canR at h3
    simp only [Bool.and_eq_true, decide_eq_true_eq] at h3
    exact ⟨by omega, (c.1 - 1).toNat, hq, by omega, h3.1, h3.2.1⟩
  have eT : W.take b = W.take a ++ (W.take b).drop a := by
    have := List.take_append_drop a (W.take b)
    rw [List.take_take, Nat.min_eq_left hab] at this
    exact this.symm
  have hL : ∀ {i : Nat} {rep : List (Int × Int)}, ((W.take b).drop a)[i]? = some rep → W[a + i]? = some rep ∧ a + i < b := fun {i rep} hi => by
    rw [List.getElem?_drop, List.getElem?_take] at hi
    split at hi
    · rename_i lt
      exact ⟨hi, lt⟩
    · cases hi
  have onesL : ∀ rep ∈ (W.take b).drop a, ∀ c ∈ rep, c.2 = 1 := fun rep hr c hc => by
    obtain ⟨i, hi⟩ := List.getElem?_of_mem hr
    exact (ones _ rep (hL hi).1 c hc).1
  have ef : fellBy W b - fellBy W a = ((nums ((W.take b).drop a)).length : Int) := by
    have e1 : fellBy W b = wsum (W.take a) + wsum ((W.take b).drop a) := by
      rw [← wsum_app, ← eT]
      rfl
    rw [e1, wsum_ones onesL]
    unfold fellBy
    omega
  have nodL : (nums ((W.take b).drop a)).Nodup := by
    rw [← List.take_append_drop b W, eT, nums_app, nums_app] at p1
    exact (List.nodup_append.mp (List.nodup_append.mp p1).1).2.1
  have subW : ∀ x ∈ withinL ws a b, x ∈ nums ((W.take b).drop a) := fun x hx => by
    obtain ⟨q, hq, rfl⟩ : ∃ q : Nat, q < ws.length ∧ x = (q : Int) + 1 := by
      unfold withinL at hx
      obtain ⟨q, hq, e⟩ := List.mem_map.mp hx
      exact ⟨q, List.mem_range.mp (List.mem_filter.mp hq).1, e.symm⟩
    obtain ⟨h1, h2⟩ := (withinL_mem hq).mp hx
    have hgq : GoodR (canR (ws.getD q (0, 0))) := by
      have : canR (ws.getD q (0, 0)) ∈ ws.map canR := by
        rw [List.getD_eq_getElem?_getD, List.getElem?_eq_getElem hq]
        exact List.mem_map.mpr ⟨ws[q], List.getElem_mem hq, rfl⟩
      exact hg _ this
    unfold GoodR canR at hgq
    have hgq1 : 1 ≤ (ws.getD q (0, 0)).1 := hgq.1
    have hgq2 : (ws.getD q (0, 0)).1 ≤ (ws.getD q (0, 0)).2 := hgq.2.1
    obtain ⟨y, hy⟩ : ∃ y : Nat, (ws.getD q (0, 0)).2 = (y : Int) + 1 := ⟨((ws.getD q (0, 0)).2 - 1).toNat, by omega⟩
    have := p3 y (by omega) q (by omega) (by rw [canR_get hq]; show (ws.getD q (0, 0)).2 ≤ _; omega)
    rw [List.nil_append] at this
    obtain ⟨i, rep, hi, c, hc, ec⟩ := nums_mem.mp this
    rw [List.getElem?_take] at hi
    split at hi
    · rename_i lt
      obtain ⟨_, q', hq', e', l1, l2⟩ := ones i rep hi c hc
      have : q' = q := by omega
      rw [this] at l1 l2
      refine nums_mem.mpr ⟨i - a, rep, ?_, c, hc, ec⟩
      rw [List.getElem?_drop, List.getElem?_take, if_pos (by omega), show a + (i - a) = i by omega]
      exact hi
    · cases hi
  rw [ef, ← withinL_len]
  have key : isT ws W a b = true ↔ ∀ x ∈ nums ((W.take b).drop a), x ∈ withinL ws a b := by
    unfold isT
    rw [List.all_eq_true]
    constructor
    · intro z x hx
      obtain ⟨i, rep, hi, c, hc, rfl⟩ := nums_mem.mp hx
      obtain ⟨hi1, hi2⟩ := hL hi
      have := z i (List.mem_range.mpr (by omega))
      rw [List.getD_eq_getElem?_getD, hi1] at this
      have := List.all_eq_true.mp this c hc
      obtain ⟨_, q, hq, e, _, _⟩ := ones _ rep hi1 c hc
      rw [e, withinL_mem hq]
      unfold inT at this
      rw [show (c.1 - 1).toNat = q by omega] at this
      simp only [Bool.not_eq_true', Bool.or_eq_false_iff, decide_eq_false_iff_not] at this
      omega
    · intro z k hk
      have hk := List.mem_range.mp hk
      obtain ⟨rep, hrep⟩ : ∃ rep, W[a + k]? = some rep := ⟨W[a + k]'(by omega), List.getElem?_eq_getElem _⟩
      rw [List.getD_eq_getElem?_getD, hrep]
      refine List.all_eq_true.mpr fun c hc => ?_
      have := z c.1 (nums_mem.mpr ⟨k, rep, by rw [List.getElem?_drop, List.getElem?_take, if_pos (by omega)]; exact hrep, c, hc, rfl⟩)
      obtain ⟨_, q, hq, e, _, _⟩ := ones _ rep hrep c hc
      rw [e, withinL_mem hq] at this
      unfold inT
      rw [show (c.1 - 1).toNat = q by omega]
      simp only [Bool.not_eq_true', Bool.or_eq_false_iff, decide_eq_false_iff_not]
      omega
  rw [Bool.eq_iff_iff, decide_eq_true_eq, key]
  constructor
  · intro e
    exact eq_sub withinL_nodup nodL subW (by omega)
  · intro s
    have h1 := len_sub nodL s
    have h2 := len_sub withinL_nodup subW
    omega
end K85
end
section
set_option maxRecDepth 100000
set_option maxHeartbeats 4000000
namespace K85
open PySem PySem.Spec PyProof.Rows L2
/-! ### deep copies -/
def SeqOf {α : Type} (b : Bool) (R : Hp → V → α → Prop) (H : Hp) (v : V) (ds : List α) : Prop := ∃ a xs, v = .ref a ∧ H a = some (if b = true then .lst xs else .tup xs) ∧ Paired (R H) xs ds ∧ ds.length ≤ 3000
def spDp {α : Type} (R : Hp → V → α → Prop) : Sp := fun vs H Q _ => ∃ v d, vs = [v] ∧ R H v d ∧ ∀ v' H', Same H H' → R H' v' d → (∀ a, v' = .ref a → H a = none) → Q v' H'
section
variable {P : Program} {w : World} {K : PySem.W.Frag} {mg : Str → Option Value} {base : Heap}
def IntR (_ : Hp) (v : V) (n : Int) : Prop := v = .int n
theorem ok_dp0 (T : Txt w K mg) : Ok P w K mg base CX0 1 "_law_deep" ["thing"] (spDp IntR) := by
  have ok__law_deep : Txt w K mg → Ok P w K mg base CX0 0 "_law_deep" ["thing"] (fun _ _ _ _ => False) := fun T => Ok.never (f__law_deep T) (fun _ _ _ _ _ _ us hl => match us, hl with | [_], _ => rfl)
  refine Ok.def0 (f__law_deep T) (fun _ _ _ _ _ _ us hl => match us, hl with | [_], _ => rfl) sc__law_deep (fun vs H Q E h => ?_) (fun f cdv A outer s H vs Q E hr h => ?_)
  · obtain ⟨v, d, rfl, _⟩ := h
    rfl
  · obtain ⟨v, d, rfl, rfl, k⟩ := h
    refine ⟨_, (pss_cons (ps_if (pt_val (pe_callB (isiK (K := K) rfl) rfl (n_isinstance T) (by decide +kernel) (pa_cons (pv 0) (pa_cons (pe_bltn (v := .ty "list") (u := .type "list") rfl (n_list T) (by decide +kernel) rfl) pa_nil)))) (pss_one (ps_ret (pe_lc (own := [("one", 1)]) rfl sc__law_deep.nd (pi_listK (K := K) rfl (pv 0)) (blkOk_by (N := ["thing", "one"]) (sc := defScope s__law_deep) (by decide +kernel)) (fun _ _ _ _ _ => (pg_name (i := 1) sc__law_deep.nd rfl (by first | exact Or.inl rfl | exact Or.inr rfl))) (fun _ _ _ _ _ => pts_nil) (fun _ _ _ _ _ => (pe_ok (ok__law_deep T) (hr.mono (by first | decide | omega)) rfl pass0 (pa_cons (pv 1) pa_nil)))))) pss_nil)
      (pss_cons (ps_if (pt_val (pe_callB (isiK (K := K) rfl) rfl (n_isinstance T) (by decide +kernel) (pa_cons (pv 0) (pa_cons (pe_bltn (v := .ty "tuple") (u := .type "tuple") rfl (n_tuple T) (by decide +kernel) rfl) pa_nil)))) (pss_one (ps_ret (pe_callTy call_tuple_of rfl (n_tuple T) (by decide +kernel) (pa_cons (pe_lc (own := [("one", 1)]) rfl sc__law_deep.nd (pi_tupK (K := K) rfl (pv 0)) (blkOk_by (N := ["thing", "one"]) (sc := defScope s__law_deep) (by decide +kernel)) (fun _ _ _ _ _ => (pg_name (i := 1) sc__law_deep.nd rfl (by first | exact Or.inl rfl | exact Or.inr rfl))) (fun _ _ _ _ _ => pts_nil) (fun _ _ _ _ _ => (pe_ok (ok__law_deep T) (hr.mono (by first | decide | omega)) rfl pass0 (pa_cons (pv 1) pa_nil)))) pa_nil)))) pss_nil)
      (pss_one (ps_ret (pv 0))))), ?_⟩
    refine ⟨_, rfl, ⟨_, _, _, _, _, rfl, .ty _, tx_int _, k_il, _, rfl, iteF ?_⟩⟩
    refine ⟨_, rfl, ⟨_, _, _, _, _, rfl, .ty _, tx_int _, k_it, _, rfl, iteF ?_⟩⟩
    exact ⟨_, rfl, k _ _ (Same.refl _) rfl fun a e => by cases e⟩
theorem dp_gen {α : Type} {R : Hp → V → α → Prop} {n : Nat} (b : Bool) (T : Txt w K mg) (ok__law_deep : Txt w K mg → Ok P w K mg base CX0 n "_law_deep" ["thing"] (spDp R)) (hS : ∀ H H' v d, Same H H' → R H v d → R H' v d)
    (hB : ∀ H H' D acc v d, H D = some (.lst acc) → (∀ a, v = .ref a → a ≠ D) → But D H H' → R H v d → R H' v d) : Ok P w K mg base CX0 (n + 1) "_law_deep" ["thing"] (spDp (SeqOf b R)) := by
  refine Ok.def0 (f__law_deep T) (fun _ _ _ _ _ _ us hl => match us, hl with | [_], _ => rfl) sc__law_deep (fun vs H Q E h => ?_) (fun f cdv A outer s H vs Q E hr h => ?_)
  · obtain ⟨v, d, rfl, _⟩ := h
    rfl
  · obtain ⟨v, d, rfl, h, k⟩ := h
    refine ⟨_, (pss_cons (ps_if (pt_val (pe_callB (isiK (K := K) rfl) rfl (n_isinstance T) (by decide +kernel) (pa_cons (pv 0) (pa_cons (pe_bltn (v := .ty "list") (u := .type "list") rfl (n_list T) (by decide +kernel) rfl) pa_nil)))) (pss_one (ps_ret (pe_lc (own := [("one", 1)]) rfl sc__law_deep.nd (pi_listK (K := K) rfl (pv 0)) (blkOk_by (N := ["thing", "one"]) (sc := defScope s__law_deep) (by decide +kernel)) (fun _ _ _ _ _ => (pg_name (i := 1) sc__law_deep.nd rfl (by first | exact Or.inl rfl | exact Or.inr rfl))) (fun _ _ _ _ _ => pts_nil) (fun _ _ _ _ _ => (pe_ok (ok__law_deep T) (hr.mono (by first | decide | omega)) rfl pass0 (pa_cons (pv 1) pa_nil)))))) pss_nil)
      (pss_cons (ps_if (pt_val (pe_callB (isiK (K := K) rfl) rfl (n_isinstance T) (by decide +kernel) (pa_cons (pv 0) (pa_cons (pe_bltn (v := .ty "tuple") (u := .type "tuple") rfl (n_tuple T) (by decide +kernel) rfl) pa_nil)))) (pss_one (ps_ret (pe_callTy call_tuple_of rfl (n_tuple T) (by decide +kernel) (pa_cons (pe_lc (own := [("one", 1)]) rfl sc__law_deep.nd (pi_tupK (K := K) rfl (pv 0)) (blkOk_by (N := ["thing", "one"]) (sc := defScope s__law_deep) (by decide +kernel)) (fun _ _ _ _ _ => (pg_name (i := 1) sc__law_deep.nd rfl (by first | exact Or.inl rfl | exact Or.inr rfl))) (fun _ _ _ _ _ => pts_nil) (fun _ _ _ _ _ => (pe_ok (ok__law_deep T) (hr.mono (by first | decide | omega)) rfl pass0 (pa_cons (pv 1) pa_nil)))) pa_nil)))) pss_nil)
      (pss_one (ps_ret (pv 0))))), ?_⟩
    obtain ⟨a, xs, rfl, ha, hP, hz⟩ := h
    cases b with
    | true =>
      have ha : H a = some (.lst xs) := ha
      have hxl := Paired.length hP
      refine ⟨_, rfl, ⟨_, _, _, _, _, rfl, .ty _, tx_lst ha, k_ll, _, rfl, iteT ?_⟩⟩
      refine ⟨_, rfl, a, rfl, ⟨_, SqL.of ha⟩, fun D hD => lc_acc (K := K) (a := a) (xs := xs) hD (SqL.of ha) (by omega) (fun j acc H' => Paired (fun v d => R H' v d ∧ ∀ a, v = .ref a → a ≠ D) acc (d.take j)) (fun _ _ => .nil) ?_ ?_⟩
      · rintro j x acc H2 N N0 hx s2 hacc hI hN hN0
        obtain ⟨e, he, hr⟩ := paired_get hP hx
        refine gnE ⟨rfl, ?_⟩
        refine ⟨_, rfl, x, e, rfl, hS _ _ _ _ s2 hr, fun v' H3 s3 h3 hf => ?_⟩
        have hacc3 := s3 _ _ hacc
        have nD : ∀ a, v' = .ref a → a ≠ D := fun a e z => by
          have := hf a e
          rw [z, hacc] at this
          cases this
        refine hN _ _ s3 fun H5 b5 _ => ?_
        rw [take_get he]
        exact Paired.snoc (Paired.mapP hI fun _ _ z => ⟨hB _ _ D acc _ _ hacc3 z.2 b5 (hS _ _ _ _ s3 z.1), z.2⟩) ⟨hB _ _ D acc _ _ hacc3 nD b5 h3, nD⟩
      · rintro acc H2 s2 hacc _ hI
        rw [hxl, List.take_length] at hI
        exact k _ H2 s2 ⟨D, acc, rfl, hacc, Paired.mapP hI fun _ _ z => z.1, hz⟩ fun a e => by cases e; exact hD
    | false =>
      have ha : H a = some (.tup xs) := ha
      have hxl := Paired.length hP
      refine ⟨_, rfl, ⟨_, _, _, _, _, rfl, .ty _, tx_tup ha, k_tl, _, rfl, iteF ?_⟩⟩
      refine ⟨_, rfl, ⟨_, _, _, _, _, rfl, .ty _, tx_tup ha, k_tt, _, rfl, iteT ?_⟩⟩
      refine ⟨_, rfl, a, rfl, ⟨_, SqT.of ha⟩, fun D hD => lc_accT (K := K) (a := a) (xs := xs) hD (SqT.of ha) (by omega) (fun j acc H' => Paired (fun v d => R H' v d ∧ ∀ a, v = .ref a → a ≠ D) acc (d.take j)) (fun _ _ => .nil) ?_ ?_⟩
      · rintro j x acc H2 N N0 hx s2 hacc hI hN hN0
        obtain ⟨e, he, hr⟩ := paired_get hP hx
        refine gnE ⟨rfl, ?_⟩
        refine ⟨_, rfl, x, e, rfl, hS _ _ _ _ s2 hr, fun v' H3 s3 h3 hf => ?_⟩
        have hacc3 := s3 _ _ hacc
        have nD : ∀ a, v' = .ref a → a ≠ D := fun a e z => by
          have := hf a e
          rw [z, hacc] at this
          cases this
        refine hN _ _ s3 fun H5 b5 _ => ?_
        rw [take_get he]
        exact Paired.snoc (Paired.mapP hI fun _ _ z => ⟨hB _ _ D acc _ _ hacc3 z.2 b5 (hS _ _ _ _ s3 z.1), z.2⟩) ⟨hB _ _ D acc _ _ hacc3 nD b5 h3, nD⟩
      · rintro acc H2 s2 hacc _ hI
        rw [hxl, List.take_length] at hI
        refine ⟨D, acc, rfl, .inl ⟨SqL.of hacc, fun l hl => ?_⟩⟩
        obtain ⟨s3, g3⟩ := new2 (.tup acc) hl
        exact k _ _ (s2.trans s3) ⟨l, acc, rfl, g3, Paired.mapP hI fun _ _ z => hS _ _ _ _ s3 z.1, hz⟩ fun a e => by cases e; exact none_of s2 hl
theorem ok_dp1 (T : Txt w K mg) : Ok P w K mg base CX0 2 "_law_deep" ["thing"] (spDp PairT) :=
  (dp_gen (n := 1) false T (fun T => ok_dp0 T) (fun _ _ _ _ _ h => h) (fun _ _ _ _ _ _ _ _ _ h => h)).imp fun vs H Q E ⟨v, c, e, ⟨t, ev, ht⟩, k⟩ => ⟨v, [c.1, c.2], e, ⟨t, [.int c.1, .int c.2], ev, ht, .cons rfl (.cons rfl .nil), by show 2 ≤ 3000; decide⟩, fun v' H' s ⟨a, xs, e', h', p', _⟩ hf => k v' H' s (by
    cases p' with
    | cons x p => cases p with
      | cons y p => cases p with
        | nil =>
          rw [show _ = V.int c.1 from x, show _ = V.int c.2 from y] at h'
          exact ⟨a, e', h'⟩) hf⟩
theorem ok_dp2 (T : Txt w K mg) : Ok P w K mg base CX0 3 "_law_deep" ["thing"] (spDp (SeqOf true PairT)) :=
  dp_gen (n := 2) true T (fun T => ok_dp1 T) (fun _ _ _ _ e h => h.same e) (fun _ _ _ _ _ _ hD _ b h => h.but hD b)
theorem ok_dp3 (T : Txt w K mg) : Ok P w K mg base CX0 4 "_law_deep" ["thing"] (spDp (SeqOf true (SeqOf true PairT))) :=
  dp_gen (n := 3) true T (fun T => ok_dp2 T) (fun _ _ _ _ e ⟨a, xs, e1, h, p, z⟩ => ⟨a, xs, e1, e _ _ h, Paired.mapP p fun _ _ q => q.same e, z⟩) (fun _ _ _ _ _ _ hD hn b ⟨a, xs, e1, h, p, z⟩ => ⟨a, xs, e1, b _ _ h (hn a e1), Paired.mapP p fun _ _ q => q.but hD b, z⟩)
end
end K85
end
section
set_option maxRecDepth 100000
set_option maxHeartbeats 4000000
namespace K85
open PySem PySem.Spec PyProof.Rows L2
/-- what a rain may do, as a value -/
def OptX (H : Hp) (z : V) : Option Int → Prop
  | none => z = .non
  | some d => ∃ t, z = .ref t ∧ H t = some (.tup [.int d, .int 1])
theorem OptX.same {H H' : Hp} (e : Same H H') {z : V} {o : Option Int} (h : OptX H z o) : OptX H' z o := by
  cases o with
  | none => exact h
  | some d =>
    obtain ⟨t, rfl, h⟩ := h
    exact ⟨t, rfl, e _ _ h⟩
theorem OptX.but {H H' : Hp} {l : Addr} {xs : List V} (hl : H l = some (.lst xs)) (e : But l H H') {z : V} {o : Option Int} (h : OptX H z o) : OptX H' z o := by
  cases o with
  | none => exact h
  | some d =>
    obtain ⟨t, rfl, h⟩ := h
    exact ⟨t, rfl, e _ _ h fun z => by rw [z, hl] at h; cases h⟩
theorem OptX.mut {H : Hp} {l : Addr} {xs : List V} {u : HO} (hl : H l = some (.lst xs)) {z : V} {o : Option Int} (h : OptX H z o) : OptX (upd H l u) z o := h.but hl (But.refl l H).upd
def dO (c : Int × Int) (i : Nat) : List (Option Int) := (List.range i).map fun (j : Nat) => some (c.1 + (j : Int))
theorem dO_succ {c : Int × Int} {i : Nat} : dO c (i + 1) = dO c i ++ [some (c.1 + (i : Int))] := by
  unfold dO
  rw [List.range_succ, List.map_append]
  rfl
theorem dO_len {c : Int × Int} {i : Nat} : (dO c i).length = i := by unfold dO; rw [List.length_map, List.length_range]
section
variable {P : Program} {w : World} {K : PySem.W.Frag} {mg : Str → Option Value} {base : Heap}
def spOptX : Sp := fun vs H Q _ => ∃ (T : Nat) (x : V) (c : Int × Int), vs = [.int T, x, .bl false] ∧ QuadT H x (canR c) ∧ T ≤ 24 ∧ 1 ≤ c.1 ∧ c.1 ≤ c.2 ∧ c.1 ≤ (T : Int) + 1 ∧ c.2 ≤ 100 ∧ ∀ l ys H', H l = none → Same H H' → H' l = some (.lst ys) → Paired (OptX H') ys (optO T c) → Q (.ref l) H'
end
end K85
end
section
set_option maxRecDepth 100000
set_option maxHeartbeats 4000000
namespace K85
open PySem PySem.Spec PyProof.Rows L2
/-- a weather that is being made: its reports are lists of its own -/
def RepA (H : Hp) (r : Addr) (rep : List (Int × Int)) : Prop := ∃ xs, H r = some (.lst xs) ∧ Paired (PairT H) xs rep
theorem RepA.same {H H' : Hp} (e : Same H H') {r : Addr} {rep : List (Int × Int)} (h : RepA H r rep) : RepA H' r rep := by
  obtain ⟨xs, h1, h2⟩ := h
  exact ⟨xs, e _ _ h1, Paired.mapP h2 fun _ _ z => z.same e⟩
theorem paired_map {α β γ : Type} {F : β → γ → Prop} {g : α → β} : ∀ {l : List α} {m : List γ}, Paired (fun a c => F (g a) c) l m → Paired F (l.map g) m
  | _, _, .nil => .nil
  | _, _, .cons a b => .cons a (paired_map b)
theorem paired_set {α β : Type} {F G : α → β → Prop} {b : β} {a : α} {l : List α} {m : List β} (hp : Paired F l m) (k : ∀ x y, x ≠ a → F x y → G x y) (g : G a b) : ∀ {i : Nat}, l.Nodup → l[i]? = some a → Paired G l (m.set i b) := by
  induction hp with
  | nil => intro i _ e; simp at e
  | cons h t ih =>
    rename_i x y l' m'
    intro i hn e
    rw [List.nodup_cons] at hn
    cases i with
    | zero =>
      have : x = a := by simpa using e
      subst this
      refine .cons g ?_
      have : ∀ {l' : List α} {m' : List β}, x ∉ l' → Paired F l' m' → Paired G l' m' := fun {l' m'} hl hp => by
        induction hp with
        | nil => exact .nil
        | cons h _ ih =>
          rw [List.mem_cons, not_or] at hl
          exact .cons (k _ _ (fun z => hl.1 z.symm) h) (ih hl.2)
      exact this hn.1 t
    | succ i =>
      have e : l'[i]? = some a := by simpa using e
      exact .cons (k _ _ (fun z => hn.1 (by rw [z]; exact List.mem_of_getElem? e)) h) (ih hn.2 e)
theorem total_rep : ∀ n, total (List.replicate n ([] : List (Int × Int))) = 0
  | 0 => rfl
  | n + 1 => by
    rw [List.replicate_succ', total_app, total_rep n]
    rfl
theorem total_cons {rep : List (Int × Int)} {W : List (List (Int × Int))} : total (rep :: W) = rep.length + total W := by
  unfold total
  rw [List.map_cons, List.sum_cons]
theorem total_get : ∀ {W : List (List (Int × Int))} {i : Nat} {rep : List (Int × Int)}, W[i]? = some rep → rep.length ≤ total W
  | [], i, rep, h => by simp at h
  | r :: W, 0, rep, h => by
    have : r = rep := by simpa using h
    rw [total_cons, this]
    omega
  | r :: W, i + 1, rep, h => by
    have := total_get (W := W) (i := i) (rep := rep) (by simpa using h)
    rw [total_cons]
    omega
theorem total_set {c : Int × Int} : ∀ {W : List (List (Int × Int))} {i : Nat} {rep : List (Int × Int)}, W[i]? = some rep → total (W.set i (rep ++ [c])) = total W + 1
  | [], i, rep, h => by simp at h
  | r :: W, 0, rep, h => by
    have : r = rep := by simpa using h
    rw [List.set_cons_zero, total_cons, total_cons, this, List.length_append]
    show rep.length + 1 + _ = _
    omega
  | r :: W, i + 1, rep, h => by
    have := total_set (c := c) (W := W) (i := i) (rep := rep) (by simpa using h)
    rw [List.set_cons_succ, total_cons, total_cons, this]
    omega
theorem paired_setv {α β : Type} {R : α → β → Prop} {x : α} {y : β} (r : R x y) : ∀ (i : Nat) {xs : List α} {ys : List β}, Paired R xs ys → Paired R (xs.set i x) (ys.set i y)
  | _, _, _, .nil => .nil
  | 0, _, _, .cons a t => .cons r t
  | i + 1, _, _, .cons a t => .cons a (paired_setv r i t)
theorem paired_erase {α β : Type} {R : α → β → Prop} : ∀ (i : Nat) {xs : List α} {ys : List β}, Paired R xs ys → Paired R (xs.eraseIdx i) (ys.eraseIdx i)
  | _, _, _, .nil => .nil
  | 0, _, _, .cons a t => t
  | i + 1, _, _, .cons a t => .cons a (paired_erase i t)
theorem total_put {rep' : List (Int × Int)} : ∀ {W : List (List (Int × Int))} {i : Nat} {rep : List (Int × Int)}, W[i]? = some rep → total (W.set i rep') + rep.length = total W + rep'.length
  | [], i, rep, h => by simp at h
  | r :: W, 0, rep, h => by
    have : r = rep := by simpa using h
    rw [List.set_cons_zero, total_cons, total_cons, this]
    omega
  | r :: W, i + 1, rep, h => by
    have := total_put (rep' := rep') (W := W) (i := i) (rep := rep) (by simpa using h)
    rw [List.set_cons_succ, total_cons, total_cons]
    omega
theorem drew {H : Hp} {sa : Addr} (a b c : Int) : But sa H (upd H sa (stk a b c)) ∧ Stk (upd H sa (stk a b c)) sa := ⟨(But.refl sa H).upd, stk_upd⟩
theorem refs_ne {H : Hp} {sa D : Addr} {rs : List Addr} (hs : Stk H sa) (h : H D = some (.lst (rs.map V.ref))) : D ≠ sa := fun z => by
  obtain ⟨a, b, c, hs⟩ := hs
  rw [z, hs] at h
  have := HO.lst.inj (Option.some.inj h)
  cases rs with
  | nil => simp at this
  | cons r rs => simp at this
theorem rep_ne {H : Hp} {sa r : Addr} {xs : List V} {rep : List (Int × Int)} (hs : Stk H sa) (h : H r = some (.lst xs)) (hp : Paired (PairT H) xs rep) : r ≠ sa := fun z => by
  obtain ⟨a, b, c, hs⟩ := hs
  rw [z, hs] at h
  have := HO.lst.inj (Option.some.inj h)
  subst this
  cases hp with
  | cons r _ =>
    obtain ⟨q, e, _⟩ := r
    cases e
/-- a weather of its own lists, by their addresses -/
def WG (H0 H : Hp) (D : Addr) (rs : List Addr) (W : List (List (Int × Int))) : Prop := H D = some (.lst (rs.map V.ref)) ∧ rs.Nodup ∧ D ∉ rs ∧ (∀ r ∈ rs, H0 r = none) ∧ Paired (RepA H) rs W
theorem WG.same {H0 H H' : Hp} (e : Same H H') {D : Addr} {rs : List Addr} {W : List (List (Int × Int))} (h : WG H0 H D rs W) : WG H0 H' D rs W := by
  obtain ⟨h1, h2, h3, h4, h5⟩ := h
  exact ⟨e _ _ h1, h2, h3, h4, Paired.mapP h5 fun _ _ z => z.same e⟩
theorem WG.but {H0 H H' : Hp} {sa : Addr} (hs : Stk H sa) (b : But sa H H') {D : Addr} {rs : List Addr} {W : List (List (Int × Int))} (h : WG H0 H D rs W) : WG H0 H' D rs W := by
  obtain ⟨h1, h2, h3, h4, h5⟩ := h
  obtain ⟨x, y, z, hsa⟩ := id hs
  exact ⟨b _ _ h1 (refs_ne hs h1), h2, h3, h4, Paired.mapP h5 fun _ _ ⟨xs, q1, q2⟩ => ⟨xs, b _ _ q1 (rep_ne hs q1 q2), Paired.mapP q2 fun _ _ z => z.but hsa b⟩⟩
theorem WG.rep {H0 H : Hp} {D : Addr} {rs : List Addr} {W : List (List (Int × Int))} (h : WG H0 H D rs W) {i : Nat} {r : Addr} {rep : List (Int × Int)} (hr : rs[i]? = some r) (hw : W[i]? = some rep) : ∃ xs, H r = some (.lst xs) ∧ Paired (PairT H) xs rep := by
  obtain ⟨h1, h2, h3, h4, h5⟩ := h
  obtain ⟨rep', hrep', xs, q1, q2⟩ := paired_get h5 hr
  rw [hw] at hrep'
  cases hrep'
  exact ⟨xs, q1, q2⟩
theorem WG.edit {H0 H : Hp} {D : Addr} {rs : List Addr} {W : List (List (Int × Int))} (h : WG H0 H D rs W) {i : Nat} {r : Addr} {xs ys : List V} {rep : List (Int × Int)} (hr : rs[i]? = some r) (hx : H r = some (.lst xs)) (hp : Paired (PairT H) ys rep) : WG H0 (upd H r (.lst ys)) D rs (W.set i rep) := by
  obtain ⟨h1, h2, h3, h4, h5⟩ := h
  refine ⟨?_, h2, h3, h4, ?_⟩
  · rw [upd_ne fun z => h3 (by rw [z]; exact List.mem_of_getElem? hr)]
    exact h1
  · refine paired_set h5 (fun y z hy ⟨zs, p1, p2⟩ => ⟨zs, ?_, Paired.mapP p2 fun _ _ t => t.mut hx⟩) ⟨ys, upd_same, Paired.mapP hp fun _ _ t => t.mut hx⟩ h2 hr
    rw [upd_ne hy]
    exact p1
theorem WG.wea {H0 H : Hp} {D : Addr} {rs : List Addr} {W : List (List (Int × Int))} (h : WG H0 H D rs W) : WeaT H D W := by
  obtain ⟨h1, h2, h3, h4, h5⟩ := h
  exact ⟨_, h1, paired_map (Paired.mapP h5 fun r _ ⟨xs, q1, q2⟩ => ⟨r, xs, rfl, q1, q2⟩)⟩
theorem Ev.lenL {K : PySem.W.Frag} {σ : L2.St} {H0 : Hp} {t : TE} {p : Addr} {ys : List V} (h : Ev σ H0 t (.ref p)) (hl : H0 p = some (.lst ys)) : Ev σ H0 (tCB (fun xs H Q => ∃ p ys, xs = [V.ref p] ∧ (SqL K H p ys ∨ SqT K H p ys) ∧ Q (.int ys.length) H) (tCons t tNil)) (.int ys.length) := fun H' R s k =>
  h H' _ s fun H1 s1 => ⟨p, ys, rfl, .inl (SqL.of ((s.trans s1) _ _ hl)), k H1 s1⟩
/-- a weather whose lists are none of these -/
def WTX (S : Addr → Prop) (H : Hp) (y : V) (W : List (List (Int × Int))) : Prop := ∃ p rs, y = .ref p ∧ (∀ D, S D → p ≠ D) ∧ (∀ D, S D → D ∉ rs) ∧ H p = some (.lst (rs.map V.ref)) ∧ Paired (RepA H) rs W
theorem WTX.same {S : Addr → Prop} {H H' : Hp} (e : Same H H') {y : V} {W : List (List (Int × Int))} (h : WTX S H y W) : WTX S H' y W := by
  obtain ⟨p, rs, h1, h2, h3, h4, h5⟩ := h
  exact ⟨p, rs, h1, h2, h3, e _ _ h4, Paired.mapP h5 fun _ _ z => z.same e⟩
theorem WTX.but {S : Addr → Prop} {D : Addr} (hS : S D) {H H' : Hp} {xs : List V} (hD : H D = some (.lst xs)) (b : But D H H') {y : V} {W : List (List (Int × Int))} (h : WTX S H y W) : WTX S H' y W := by
  obtain ⟨p, rs, h1, h2, h3, h4, h5⟩ := h
  refine ⟨p, rs, h1, h2, h3, b _ _ h4 (h2 D hS), ?_⟩
  have : ∀ {l' : List Addr} {m' : List (List (Int × Int))}, D ∉ l' → Paired (RepA H) l' m' → Paired (RepA H') l' m' := fun {l' m'} hl hp => by
    induction hp with
    | nil => exact .nil
    | cons h _ ih =>
      rw [List.mem_cons, not_or] at hl
      obtain ⟨ys, q1, q2⟩ := h
      exact .cons ⟨ys, b _ _ q1 fun z => hl.1 z.symm, Paired.mapP q2 fun _ _ z => z.but hD b⟩ (ih hl.2)
  exact this (h3 D hS) h5
theorem WTX.wea {S : Addr → Prop} {H : Hp} {y : V} {W : List (List (Int × Int))} (h : WTX S H y W) : ∃ p, y = .ref p ∧ WeaT H p W := by
  obtain ⟨p, rs, h1, h2, h3, h4, h5⟩ := h
  exact ⟨p, h1, _, h4, paired_map (Paired.mapP h5 fun r _ ⟨xs, q1, q2⟩ => ⟨r, xs, rfl, q1, q2⟩)⟩
theorem WTX.mono {S S' : Addr → Prop} {H : Hp} {y : V} {W : List (List (Int × Int))} (h : WTX S H y W) (k : ∀ D, S' D → S D) : WTX S' H y W := by
  obtain ⟨p, rs, h1, h2, h3, r⟩ := h
  exact ⟨p, rs, h1, fun D d => h2 D (k D d), fun D d => h3 D (k D d), r⟩
theorem WTX.butS {S : Addr → Prop} {H H' : Hp} {sa : Addr} (hs : Stk H sa) (e : But sa H H') {y : V} {W : List (List (Int × Int))} (h : WTX S H y W) : WTX S H' y W := by
  obtain ⟨p, rs, h1, h2, h3, h4, h5⟩ := h
  obtain ⟨x, y, z, hsa⟩ := id hs
  exact ⟨p, rs, h1, h2, h3, e _ _ h4 (refs_ne hs h4), Paired.mapP h5 fun _ _ ⟨xs, q1, q2⟩ => ⟨xs, e _ _ q1 (rep_ne hs q1 q2), Paired.mapP q2 fun _ _ z => z.but hsa e⟩⟩
theorem WG.wtx {H0 H : Hp} {p : Addr} {rs : List Addr} {W : List (List (Int × Int))} (hp : H0 p = none) (h : WG H0 H p rs W) : WTX (fun D => H0 D ≠ none) H (.ref p) W := by
  obtain ⟨h1, h2, h3, h4, h5⟩ := h
  exact ⟨p, rs, rfl, fun D d z => d (by rw [← z]; exact hp), fun D d z => d (h4 D z), h1, h5⟩
end K85
end
section
set_option maxRecDepth 100000
set_option maxHeartbeats 4000000
namespace K85
open PySem PySem.Spec PyProof.Rows L2
section
variable {P : Program} {w : World} {K : PySem.W.Frag} {mg : Str → Option Value} {base : Heap}
/-- the days' empty lists, made -/
theorem rows_acc {H : Hp} {T : Nat} {D : Addr} {H2 : Hp} {acc : List V} (hd : ∃ rs : List Addr, acc = rs.map V.ref ∧ rs.Nodup ∧ D ∉ rs ∧ (∀ r ∈ rs, H r = none) ∧ Paired (RepA H2) rs (List.replicate T [])) (hacc : H2 D = some (.lst acc)) :
    ∃ rs : List Addr, acc = rs.map V.ref ∧ ∀ os : List (Option Int), WG H H2 D rs (wayR T os 0) := by
  obtain ⟨rs, rfl, h1, h2, h3, h4⟩ := hd
  refine ⟨rs, rfl, fun os => ⟨hacc, h1, h2, h3, ?_⟩⟩
  rw [wayR_zero]
  exact h4
theorem rows_step {H H2 : Hp} {D r : Addr} {acc : List V} {j : Nat} (s2 : Same H H2) (hacc : H2 D = some (.lst acc)) (hr : H2 r = none) (h : ∃ rs : List Addr, acc = rs.map V.ref ∧ rs.Nodup ∧ D ∉ rs ∧ (∀ r ∈ rs, H r = none) ∧ Paired (RepA H2) rs (List.replicate j [])) :
    ∀ H5, But D (upd H2 r (.lst [])) H5 → ∃ rs : List Addr, acc ++ [V.ref r] = rs.map V.ref ∧ rs.Nodup ∧ D ∉ rs ∧ (∀ r ∈ rs, H r = none) ∧ Paired (RepA H5) rs (List.replicate (j + 1) []) := by
  obtain ⟨rs, rfl, hnd, hDn, hr0, hp⟩ := h
  intro H5 b5
  obtain ⟨s3, g3⟩ := new2 (.lst []) hr
  have hrD : r ≠ D := fun z => by rw [z, hacc] at hr; cases hr
  refine ⟨rs ++ [r], by rw [List.map_append]; rfl, ?_, ?_, ?_, ?_⟩
  · rw [List.nodup_append]
    refine ⟨hnd, by simp, fun x hx y hy => ?_⟩
    rw [List.mem_singleton.mp hy]
    intro z
    obtain ⟨a, ha⟩ := List.getElem?_of_mem hx
    obtain ⟨_, _, ys, q, _⟩ := paired_get hp ha
    rw [z, hr] at q
    cases q
  · intro z
    rcases List.mem_append.mp z with z | z
    · exact hDn z
    · exact hrD (List.mem_singleton.mp z).symm
  · intro q hq
    rcases List.mem_append.mp hq with z | z
    · exact hr0 q z
    · rw [List.mem_singleton.mp z]
      exact none_of s2 hr
  · rw [List.replicate_succ']
    have hacc3 := s3 _ _ hacc
    refine Paired.append ?_ (.cons ⟨[], b5 _ _ g3 hrD, .nil⟩ .nil)
    have : ∀ {l' : List Addr} {m' : List (List (Int × Int))}, D ∉ l' → Paired (RepA H2) l' m' → Paired (RepA H5) l' m' := fun {l' m'} hl hp => by
      induction hp with
      | nil => exact .nil
      | cons h _ ih =>
        rw [List.mem_cons, not_or] at hl
        obtain ⟨ys, q1, q2⟩ := h
        exact .cons ⟨ys, b5 _ _ (s3 _ _ q1) fun z => hl.1 z.symm, Paired.mapP q2 fun _ _ z => (z.same s3).but hacc3 b5⟩ (ih hl.2)
    exact this hDn hp
/-- one more fall -/
theorem WG.fall {H0 H : Hp} {D : Addr} {rs : List Addr} {T n k : Nat} {os : List (Option Int)} (h : WG H0 H D rs (wayR T os n)) (ho : os[n]? = some (some ((k : Int) + 1))) (hk : k < T) : ∃ r zs, (rs.map V.ref)[k]? = some (V.ref r) ∧ H r = some (.lst zs) ∧ zs.length ≤ n ∧ H0 r = none ∧
    ∀ (H' : Hp) (x : V), Same H H' → PairT H' x ((n : Int) + 1, 1) → WG H0 (upd H' r (.lst (zs ++ [x]))) D rs (wayR T os (n + 1)) := by
  have hl : rs.length = T := by rw [Paired.length h.2.2.2.2, wayR_len]
  obtain ⟨r, hr⟩ : ∃ r, rs[k]? = some r := ⟨rs[k]'(by omega), List.getElem?_eq_getElem _⟩
  obtain ⟨zs, q1, q2⟩ := h.rep hr (wayR_get hk)
  have hzl := Paired.length q2
  refine ⟨r, zs, by rw [List.getElem?_map, hr]; rfl, q1, by rw [hzl]; exact repN_le, h.2.2.2.1 r (List.mem_of_getElem? hr), fun H' x e hx => ?_⟩
  rw [wayR_put ho hk]
  exact (h.same e).edit hr (e _ _ q1) (Paired.snoc (Paired.mapP q2 fun _ _ z => z.same e) hx)
def spWeaX : Sp := fun vs H Q _ => ∃ (T : Nat) (l : Addr) (xs : List V) (os : List (Option Int)), vs = [.int T, .ref l] ∧ H l = some (.lst xs) ∧ T ≤ 24 ∧ xs.length ≤ 40 ∧ Paired (OptX H) xs os ∧ (∀ d, some d ∈ os → 1 ≤ d ∧ d ≤ (T : Int)) ∧ ∀ p rs H', H p = none → Same H H' → WG H H' p rs (wayR T os os.length) → Q (.ref p) H'
def spPlaced : Sp := fun vs H Q _ => ∃ (T : Nat) (l : Addr) (ps : List Int), vs = [.int T, .ref l] ∧ H l = some (.lst (ps.map V.int)) ∧ T ≤ 24 ∧ ps.length ≤ 40 ∧ (∀ d ∈ ps, 1 ≤ d) ∧ ∀ p rs H', H p = none → Same H H' → WG H H' p rs (wayR T (ps.map (optOf T)) ps.length) → Q (.ref p) H'
theorem ok_placed_weather (T : Txt w K mg) : Ok P w K mg base CX0 1 "placed_weather" ["days", "places"] spPlaced := by
  refine Ok.def0 (f_placed_weather T) (fun _ _ _ _ _ _ us hl => match us, hl with | [_, _], _ => rfl) sc_placed_weather (fun vs H Q E h => ?_) (fun f cdv A outer s H vs Q E hr h => ?_)
  · obtain ⟨TT, l, ps, rfl, _⟩ := h
    rfl
  · obtain ⟨TT, l, ps, rfl, hl, hT, hxl, hd, k⟩ := h
    refine ⟨_, (pss_cons (ps_setLc (i := 3) (own := [("day", 2)]) rfl sc_placed_weather.nd rfl rfl (sw_true rfl rfl rfl (by decide +kernel)) (pi_range1 rfl (n_range T) (pa_cons (pv 0) pa_nil)) (blkOk_by (N := ["days", "places", "day", "weather", "at"]) (sc := defScope s_placed_weather) (by decide +kernel)) (fun _ _ _ _ _ => (pg_name (i := 2) sc_placed_weather.nd rfl (by first | exact Or.inl rfl | exact Or.inr rfl))) (fun _ _ _ _ _ => pts_nil) (fun _ _ _ _ _ => (pe_lst pa_nil)))
      (pss_cons (ps_for PassesOwn.never rfl (pi_range1 rfl (n_range T) (pa_cons (pe_callB (len_seqK (K := K) rfl) rfl (n_len T) (by decide +kernel) (pa_cons (pv 1) pa_nil)) pa_nil)) (pg_name (i := 4) sc_placed_weather.nd rfl (by first | exact Or.inl rfl | exact Or.inr rfl))
        (pss_one (ps_if (pt_cmpR op_le (pe_ix (ix_listK (K := K) rfl) (pv 1) (pv 4) (fun _ _ => rfl)) (pv 0) (nomark _)) (pss_one (ps_expr (pe_bm PySem.F.plainAttrs_list PySem.F.slot_list_append PySem.F.type_list_append mt_append (pe_ix (ix_listK (K := K) rfl) (pv 3) (pe_op op_sub (pe_ix (ix_listK (K := K) rfl) (pv 1) (pv 4) (fun _ _ => rfl)) pe_int) (fun _ _ => rfl)) (pa_cons (pe_tup (pa_cons (pe_op op_add (pv 4) pe_int) (pa_cons pe_int pa_nil))) pa_nil)))) pss_nil)))
      (pss_one (ps_ret (pv 3))))), ?_⟩
    have hml : (ps.map V.int).length = ps.length := List.length_map _
    refine ⟨_, rfl, _, rfl, by omega, by omega, fun D hD => lc_upto (lo := 0) (L := TT) (by omega) hD (by omega) (fun j acc H2 => ∃ rs : List Addr, acc = rs.map V.ref ∧ rs.Nodup ∧ D ∉ rs ∧ (∀ r ∈ rs, H r = none) ∧ Paired (RepA H2) rs (List.replicate j [])) (fun _ _ => ⟨([] : List Addr), rfl, List.nodup_nil, (by simp), (fun (r : Addr) (h : r ∈ ([] : List Addr)) => (by simp at h)), Paired.nil⟩) ?_ ?_⟩
    · rintro j acc H2 N N0 hj s2 hacc hI hN hN0
      refine ⟨rfl, (by show 0 ≤ sizeLine; decide), fun r hr_ => ?_⟩
      obtain ⟨s3, g3⟩ := new2 (.lst []) hr_
      exact hN _ _ s3 fun H5 b5 _ => rows_step s2 hacc hr_ hI H5 b5
    · rintro acc H2 s2 hacc hal hI
      obtain ⟨rs, rfl, hG⟩ := rows_acc hI hacc
      refine ⟨_, rfl, _, _, rfl, .inl (SqL.of (s2 _ _ hl)), _, rfl, by omega, by omega, for_upto (lo := 0) (L := ps.length) (by omega) (fun i σ H' => ∃ v4, σ = [some (.int TT), some (.ref l), none, some (.ref D), v4] ∧ Same H H' ∧ WG H H' D rs (wayR TT (ps.map (optOf TT)) i)) ⟨_, rfl, s2, hG _⟩ ?_ ?_⟩
      · rintro i σ H3 hi ⟨v4, rfl, e3, hG3⟩
        have z1 : (0 : Int) + (i : Int) = (i : Int) := by omega
        rw [z1]
        refine gnE ?_
        obtain ⟨d, hdi⟩ : ∃ d, ps[i]? = some d := ⟨ps[i], List.getElem?_eq_getElem hi⟩
        have hl3 := SqL.of (K := K) (e3 _ _ hl)
        have d1 := hd d (List.mem_of_getElem? hdi)
        have ho : (ps.map (optOf TT))[i]? = some (optOf TT d) := by rw [List.getElem?_map, hdi]; rfl
        have at1 : ∀ {Q : VK}, Q (.int d) H3 → rIxL K (.ref l) (.int (i : Int)) H3 Q := fun q => ⟨l, _, _, _, rfl, rfl, hl3, at_of rfl (ints_at hdi), q⟩
        refine ⟨_, rfl, _, rfl, at1 ⟨_, rfl, _, _, rfl, rfl, _, rfl, ?_⟩⟩
        cases q : decide (d ≤ (TT : Int)) with
        | false =>
          refine ⟨_, rfl, e3, ?_⟩
          rw [wayR_skip fun k _ z => by
            rw [ho] at z
            unfold optOf at z
            rw [if_neg (of_decide_eq_false q)] at z
            cases z]
          exact hG3
        | true =>
          have d2 := of_decide_eq_true q
          obtain ⟨n, rfl⟩ : ∃ n : Nat, d = (n : Int) + 1 := ⟨(d - 1).toNat, by omega⟩
          have ho' : (ps.map (optOf TT))[i]? = some (some ((n : Int) + 1)) := by
            rw [ho]
            unfold optOf
            rw [if_pos d2]
          obtain ⟨r, zs, q2, q3, q4, q5, q6⟩ := hG3.fall ho' (by omega)
          refine ⟨_, rfl, _, rfl, _, rfl, at1 ⟨_, _, rfl, rfl, D, _, _, .ref r, rfl, rfl, SqL.of hG3.1, at_of (by show (n : Int) + 1 - 1 = _; omega) q2, .inl ⟨rfl, _, SqL.of q3⟩, ?_⟩⟩
          refine ⟨_, rfl, _, _, rfl, rfl, (by show 2 ≤ sizeLine; decide), fun u hu => ?_⟩
          obtain ⟨s4, g4⟩ := new2 (.tup [.int ((i : Int) + 1), .int 1]) hu
          refine ⟨r, zs, _, rfl, rfl, s4 _ _ q3, line_lt (by omega), ?_⟩
          exact ⟨_, rfl, same_mut (e3.trans s4) q5, q6 _ _ s4 ⟨u, rfl, g4⟩⟩
      · rintro σ H3 ⟨v4, rfl, e3, hG3⟩
        exact ⟨_, rfl, k D rs H3 hD e3 hG3⟩
end
end K85
end
section
set_option maxRecDepth 100000
set_option maxHeartbeats 4000000
namespace K85
open PySem PySem.Spec PyProof.Rows L2
def FlsX (H : Hp) (y : V) (os : List (Option Int)) : Prop := ∃ a zs, y = .ref a ∧ H a = some (.lst zs) ∧ Paired (OptX H) zs os
theorem FlsX.same {H H' : Hp} (e : Same H H') {y : V} {os : List (Option Int)} (h : FlsX H y os) : FlsX H' y os := by
  obtain ⟨a, zs, rfl, h1, h2⟩ := h
  exact ⟨a, zs, rfl, e _ _ h1, Paired.mapP h2 fun _ _ z => z.same e⟩
theorem FlsX.mut {H : Hp} {l : Addr} {xs : List V} {o : HO} (hl : H l = some (.lst xs)) {y : V} {os : List (Option Int)} (hy : y ≠ .ref l) (h : FlsX H y os) : FlsX (upd H l o) y os := by
  obtain ⟨a, zs, rfl, h1, h2⟩ := h
  exact ⟨a, zs, rfl, by rw [upd_ne fun z => hy (by rw [z])]; exact h1, Paired.mapP h2 fun _ _ z => z.mut hl⟩
theorem optO_le {T : Nat} {c : Int × Int} (h : 1 ≤ c.1) : (optO T c).length ≤ T + 1 := by
  have : (daysO T c).length ≤ T := by
    unfold daysO
    rw [List.length_map, List.length_range]
    omega
  unfold optO
  rw [List.length_append, List.length_map]
  split
  · show _ + 1 ≤ _
    omega
  · show _ + 0 ≤ _
    omega
theorem flatMap_le {α β : Type} {f : α → List β} {k : Nat} : ∀ {l : List α}, (∀ x ∈ l, (f x).length ≤ k) → (l.flatMap f).length ≤ k * l.length
  | [], _ => Nat.zero_le _
  | x :: t, h => by
    have h1 := h x List.mem_cons_self
    have h2 := flatMap_le (l := t) fun y hy => h y (List.mem_cons_of_mem _ hy)
    rw [List.flatMap_cons, List.length_append, List.length_cons, Nat.mul_succ]
    omega
theorem allN_le {T : Nat} {ws : List (Int × Int)} (hT : T ≤ 7) (h : ∀ c ∈ ws, 1 ≤ c.1) : ∀ n, n ≤ ws.length → (allN T ws n).length ≤ 8 ^ n
  | 0, _ => Nat.le_refl _
  | n + 1, hn => by
    unfold allN
    have ih := allN_le hT h n (by omega)
    have hc : ws[n]? = some ws[n] := List.getElem?_eq_getElem _
    have e : ws.getD n (0, 0) = ws[n] := by rw [List.getD_eq_getElem?_getD, hc]; rfl
    have := optO_le (T := T) (h ws[n] (List.getElem_mem _))
    have := flatMap_le (k := 8) (l := allN T ws n) (f := fun fs => (optO T (ws.getD n (0, 0))).map fun o => fs ++ [o]) fun x _ => by
      rw [List.length_map, e]
      omega
    rw [Nat.pow_succ]
    omega
section
variable {P : Program} {w : World} {K : PySem.W.Frag} {mg : Str → Option Value} {base : Heap}
def SpanOk (T : Nat) (c : Int × Int) : Prop := 1 ≤ c.1 ∧ c.1 ≤ c.2 ∧ c.1 ≤ (T : Int) + 1 ∧ c.2 ≤ (T : Int) + 2
def spWeathX : Sp := fun vs H Q _ => ∃ (T : Nat) (l : Addr) (xs : List V) (ws : List (Int × Int)), vs = [.int T, .ref l, .bl false] ∧ H l = some (.lst xs) ∧ Paired (QuadT H) xs (ws.map canR) ∧ T ≤ 7 ∧ ws.length ≤ 6 ∧ (∀ c ∈ ws, SpanOk T c) ∧ ∀ p ys H', H p = none → Same H H' → H' p = some (.lst ys) → Paired (WTX (fun D => H D ≠ none) H') ys ((allN T ws ws.length).map fun os => wayR T os ws.length) → Q (.ref p) H'
end
end K85
end
section
set_option maxRecDepth 100000
set_option maxHeartbeats 4000000
namespace K85
open PySem PySem.Spec PyProof.Rows L2
def outB (c s : Int × Int) : Bool := decide (c.1 ≤ s.1) || decide (s.2 < c.2)
def farB (d : Int) (s : Int × Int) : Bool := decide (d ≤ s.1) || decide (s.2 < d)
theorem okLot_flt {lot : List (Int × Int)} {c : Int × Int} {d : Int} : okLot lot c d = (lot.filter (outB c)).all (farB d) := by
  unfold okLot
  rw [List.all_filter]
  congr 1
  funext s
  unfold okDay insB outB farB
  by_cases h1 : s.1 < c.1 <;> by_cases h2 : c.2 ≤ s.2
  · simp [h1, h2, Int.not_le.mpr h1, Int.not_lt.mpr h2]
  · simp [h1, h2, Int.not_le.mp h2]
  · simp [h1, h2, Int.not_lt.mp h1]
  · simp [h1, h2, Int.not_lt.mp h1]
section
variable {P : Program} {w : World} {K : PySem.W.Frag} {mg : Str → Option Value} {base : Heap}
def spFree : Sp := fun vs H Q _ => ∃ (T : Nat) (x : V) (r : Q4) (l : Addr) (ss : List V) (lot : List (Int × Int)), vs = [x, .ref l, .int T] ∧ QuadT H x r ∧ H l = some (.lst ss) ∧ Paired (PairT H) ss lot ∧ lot.length ≤ 1000 ∧ T ≤ 24 ∧ 1 ≤ r.1 ∧ r.1 ≤ r.2.1 ∧ r.2.1 ≤ 1000 ∧ ∀ H', Same H H' → Q (.int (freeD T lot (r.1, r.2.1))) H'
theorem ok_free_day (T : Txt w K mg) : Ok P w K mg base CX0 1 "free_day" ["rain", "stretches", "days"] spFree := by
  refine Ok.def0 (f_free_day T) (fun _ _ _ _ _ _ us hl => match us, hl with | [_, _, _], _ => rfl) sc_free_day (fun vs H Q E h => ?_) (fun f cdv A outer s H vs Q E hr h => ?_)
  · obtain ⟨TT, x, r, l, ss, lot, rfl, _⟩ := h
    rfl
  · obtain ⟨TT, x, r, l, ss, lot, rfl, hq, hl, hP, hll, hT, h1, h2, h3, k⟩ := h
    refine ⟨_, (pss_cons (ps_asg (pe_tup (pa_cons (pe_ix (ix_seqK (K := K) rfl) (pv 0) pe_int (fun _ _ => rfl)) (pa_cons (pe_ix (ix_seqK (K := K) rfl) (pv 0) pe_int (fun _ _ => rfl)) pa_nil))) (pg_tupK (K := K) (n := 2) rfl rfl (pgs_cons (pg_name (i := 3) sc_free_day.nd rfl (by first | exact Or.inl rfl | exact Or.inr rfl)) (pgs_cons (pg_name (i := 4) sc_free_day.nd rfl (by first | exact Or.inl rfl | exact Or.inr rfl)) pgs_nil))))
      (pss_cons (ps_setLc (i := 7) (own := [("a", 5), ("b", 6)]) rfl sc_free_day.nd rfl rfl (sw_true rfl rfl rfl (by decide +kernel)) (pi_listK (K := K) rfl (pv 1)) (blkOk_by (N := ["rain", "stretches", "days", "first", "last", "a", "b", "others", "day"]) (sc := defScope s_free_day) (by decide +kernel)) (fun _ _ _ _ _ => (pg_tupK (K := K) (n := 2) rfl rfl (pgs_cons (pg_name (i := 5) sc_free_day.nd rfl (by first | exact Or.inl rfl | exact Or.inr rfl)) (pgs_cons (pg_name (i := 6) sc_free_day.nd rfl (by first | exact Or.inl rfl | exact Or.inr rfl)) pgs_nil)))) (fun _ _ _ _ _ => pts_one (PW.pt (pw_or (pt_cmpR op_le (pv 3) (pv 5) (nomark _)) (pw_or1 (pt_cmpR op_gt (pv 4) (pv 6) (nomark _)))))) (fun _ _ _ _ _ => (pe_tup (pa_cons (pv 5) (pa_cons (pv 6) pa_nil)))))
      (pss_cons (ps_for PassesOwn.never rfl (pi_range2 rfl (n_range T) (pa_cons (pv 3) (pa_cons (pe_op op_add (pe_callB (call_min2 rfl) rfl (n_min T) (by decide +kernel) (pa_cons (pv 4) (pa_cons (pv 2) pa_nil))) pe_int) pa_nil))) (pg_name (i := 8) sc_free_day.nd rfl (by first | exact Or.inl rfl | exact Or.inr rfl))
        (pss_one (ps_if (pt_val (pe_callB (cr_all rfl) rfl (n_all T) (by decide +kernel) (pa_cons (pe_lc (own := [("a", 5), ("b", 6)]) rfl sc_free_day.nd (pi_listK (K := K) rfl (pv 7)) (blkOk_by (N := ["rain", "stretches", "days", "first", "last", "a", "b", "others", "day"]) (sc := defScope s_free_day) (by decide +kernel)) (fun _ _ _ _ _ => (pg_tupK (K := K) (n := 2) rfl rfl (pgs_cons (pg_name (i := 5) sc_free_day.nd rfl (by first | exact Or.inl rfl | exact Or.inr rfl)) (pgs_cons (pg_name (i := 6) sc_free_day.nd rfl (by first | exact Or.inl rfl | exact Or.inr rfl)) pgs_nil)))) (fun _ _ _ _ _ => pts_nil) (fun _ _ _ _ _ => (pe_or (pe_cmpR op_le (pv 8) (pv 5) (nomark _)) (pe_one (pe_cmpR op_gt (pv 8) (pv 6) (nomark _)))))) pa_nil))) (pss_one (ps_ret (pv 8))) pss_nil)))
      (pss_one (ps_ret (pe_ifExp (pt_cmpR op_gt (pv 4) (pv 2) (nomark _)) (pe_op op_add (pv 2) pe_int) pe_int)))))), ?_⟩
    have hsl : ss.length = lot.length := Paired.length hP
    refine ⟨_, rfl, hq.ix (i := 0) rfl ⟨_, rfl, hq.ix (i := 1) rfl ⟨(by show 2 ≤ sizeLine; decide), fun t ht => ⟨t, _, rfl, SqT.of upd_same, rfl, _, _, rfl, _, _, rfl, rfl, ?_⟩⟩⟩⟩
    obtain ⟨s1, g1⟩ := new2 (.tup [.int r.1, .int r.2.1]) ht
    generalize hH1 : upd H t (.tup [.int r.1, .int r.2.1]) = H1 at s1 g1
    show (fun x => _) H1
    obtain ⟨f, hf⟩ : ∃ f, r.1 = f := ⟨_, rfl⟩
    obtain ⟨la, hla⟩ : ∃ la, r.2.1 = la := ⟨_, rfl⟩
    rw [hf] at h1 h2 k
    rw [hla] at h2 h3 k
    refine ⟨_, rfl, l, rfl, ⟨_, SqL.of (s1 _ _ hl)⟩, fun D hD => lc_acc (K := K) (a := l) (xs := ss) hD (SqL.of (s1 _ _ hl)) (by omega) (fun j acc H' => Paired (PairT H') acc ((lot.take j).filter (outB (f, la)))) (fun _ _ => .nil) ?_ ?_⟩
    · rintro j y acc H2 N N0 hy s2 hacc hI hN hN0
      obtain ⟨s, hs, hr⟩ := paired_get hP hy
      have hr := (hr.same s1).same s2
      refine hr.un rfl ⟨rfl, ?_⟩
      have st := flt_take2 (p := outB (f, la)) hs _ rfl
      refine EvT.run (b := outB (f, la) s) ?_ fun H3 s3 => ?_
      · rw [show outB (f, la) s = (decide (f ≤ s.1) || decide (s.2 < la)) from rfl]
        rw [← hf, ← hla]
        exact EvT.or (EvT.test (Ev.le (Ev.var rfl) (Ev.var rfl))) fun _ => EvT.test (Ev.gt (Ev.var rfl) (Ev.var rfl))
      cases q : outB (f, la) s with
      | false =>
        rw [q] at st
        have st := st.trans (List.append_nil _)
        refine hN0 _ s3 ?_
        rw [st]
        exact Paired.mapP hI fun _ _ z => z.same s3
      | true =>
        rw [q] at st
        refine ⟨_, rfl, _, rfl, (by show 2 ≤ sizeLine; decide), fun u hu => ?_⟩
        obtain ⟨s4, g4⟩ := new2 (.tup [.int s.1, .int s.2]) hu
        have hacc4 := s4 _ _ (s3 _ _ hacc)
        refine hN _ _ (s3.trans s4) fun H5 b5 _ => ?_
        rw [st]
        exact Paired.snoc (Paired.mapP hI fun _ _ z => ((z.same s3).same s4).but hacc4 b5) (PairT.but hacc4 b5 (⟨u, rfl, g4⟩ : PairT _ (.ref u) s))
    · rintro acc H2 s2 hacc hal hI
      rw [hsl, List.take_length] at hI
      have e2 := s1.trans s2
      have hfl : (lot.filter (outB (f, la))).length = acc.length := (Paired.length hI).symm
      have hmn : (if (TT : Int) < la then (TT : Int) else la) = min la (TT : Int) := by omega
      refine ⟨_, rfl, _, rfl, _, rfl, _, _, rfl, _, _, rfl, rfl, ?_⟩
      refine ⟨r.1, (if (TT : Int) < r.2.1 then (TT : Int) else r.2.1) + 1, rfl, ?_, ?_⟩
      · rw [hla, hf, hmn]
        show -2 ^ 62 ≤ f ∧ f < 2 ^ 62 ∧ -2 ^ 62 ≤ min la (TT : Int) + 1 ∧ min la (TT : Int) + 1 < 2 ^ 62
        omega
      rw [hla, hf, hmn]
      refine for_upto (lo := f) (L := (min la (TT : Int) + 1 - f).toNat) rfl (fun i σ H' => ∃ v8, σ = [some x, some (.ref l), some (.int TT), some (.int f), some (.int la), none, none, some (.ref D), v8] ∧ Same H2 H' ∧ ∀ j, j < i → okLot lot (f, la) (f + (j : Int)) = false) ⟨_, by rw [← hf, ← hla]; rfl, Same.refl _, fun j h => by omega⟩ ?_ ?_
      · rintro i σ H3 hi ⟨v8, rfl, s3, hno⟩
        refine gnE ?_
        refine ⟨_, rfl, D, rfl, ⟨_, SqL.of (s3 _ _ hacc)⟩, fun B hB => lc_acc (K := K) (a := D) (xs := acc) hB (SqL.of (s3 _ _ hacc)) (by omega) (fun j bs H' => bs = (((lot.filter (outB (f, la))).take j).map (farB (f + (i : Int)))).map V.bl) (fun _ _ => rfl) ?_ ?_⟩
        · rintro j y bs H4 N N0 hy s4 hbs hI4 hN hN0
          obtain ⟨s, hs, hr⟩ := paired_get hI hy
          have hr := (hr.same s3).same s4
          refine hr.un rfl ⟨rfl, ?_⟩
          refine yesE (Ev.run (v := .bl (farB (f + (i : Int)) s)) ?_ fun H5 s5 => ?_)
          · rw [show farB (f + (i : Int)) s = (decide (f + (i : Int) ≤ s.1) || decide (s.2 < f + (i : Int))) from rfl]
            exact Ev.or (Ev.le (Ev.var rfl) (Ev.var rfl)) fun _ => Ev.gt (Ev.var rfl) (Ev.var rfl)
          · refine hN _ _ s5 fun H6 b6 _ => ?_
            rw [take_get hs, List.map_append, List.map_append, hI4]
            rfl
        · rintro bs H4 s4 hbs _ hI4
          rw [← hfl, List.take_length] at hI4
          refine ⟨B, (lot.filter (outB (f, la))).map (farB (f + (i : Int))), rfl, SqL.of (by rw [hbs, hI4]), ?_⟩
          have eal : ((lot.filter (outB (f, la))).map (farB (f + (i : Int)))).all id = okLot lot (f, la) (f + (i : Int)) := by
            rw [okLot_flt, List.all_map]
            rfl
          rw [eal]
          refine ⟨_, rfl, ?_⟩
          cases q : okLot lot (f, la) (f + (i : Int)) with
          | true =>
            refine ⟨_, rfl, ?_⟩
            rw [freeD_is (c := (f, la)) hi q hno] at k
            exact k _ (e2.trans (s3.trans s4))
          | false =>
            refine ⟨_, rfl, s3.trans s4, fun j hj => ?_⟩
            by_cases e : j = i
            · rw [e]
              exact q
            · exact hno j (by omega)
      · rintro σ H3 ⟨v8, rfl, s3, hno⟩
        rw [freeD_no (c := (f, la)) hno] at k
        refine ⟨_, rfl, _, rfl, _, _, rfl, rfl, _, rfl, ite2 (fun c => ?_) (fun c => ?_)⟩
        · rw [if_pos (of_decide_eq_true c)] at k
          exact ⟨_, rfl, _, _, rfl, rfl, k _ (e2.trans s3)⟩
        · rw [if_neg (fun z => c (decide_eq_true z))] at k
          exact k _ (e2.trans s3)
def spLotP (K : PySem.W.Frag) : Sp := fun vs H Q _ => ∃ (T : Nat) (p l : Addr) (ws : List (Int × Int)) (ss : List V) (lot : List (Int × Int)), vs = [.ref p, .ref l] ∧ AlmAt K H p T (ws.map canR) ∧ H l = some (.lst ss) ∧ Paired (PairT H) ss lot ∧ lot.length ≤ 1000 ∧ T ≤ 24 ∧ ws.length ≤ 40 ∧ (∀ c ∈ ws, 1 ≤ c.1 ∧ c.1 ≤ c.2 ∧ c.2 ≤ 1000) ∧
  (∀ (n : Nat) (c : Int × Int) r m H', ws[n]? = some c → freeD T lot c = 0 → (∀ i c', i < n → ws[i]? = some c' → freeD T lot c' ≠ 0) → Same H H' → H' r = some (.tup [.int ((n : Int) + 1), .ref m]) → H' m = some (.lst []) → Q (.ref r) H') ∧
  ((∀ c ∈ ws, freeD T lot c ≠ 0) → ∀ r m H', Same H H' → H' r = some (.tup [.int 0, .ref m]) → H' m = some (.lst ((ws.map (freeD T lot)).map V.int)) → H m = none → Q (.ref r) H')
theorem ok_lot_places (T : Txt w K mg) : Ok P w K mg base CX0 2 "lot_places" ["almanac", "stretches"] (spLotP K) := by
  refine Ok.def0 (f_lot_places T) (fun _ _ _ _ _ _ us hl => match us, hl with | [_, _], _ => rfl) sc_lot_places (fun vs H Q E h => ?_) (fun f cdv A outer s H vs Q E hr h => ?_)
  · obtain ⟨TT, p, l, ws, ss, lot, rfl, _⟩ := h
    rfl
  · obtain ⟨TT, p, l, ws, ss, lot, rfl, hA, hl, hP, hll, hT, hw, hg, kb, kg⟩ := h
    refine ⟨_, (pss_cons (ps_set (i := 2) sc_lot_places.nd rfl (by first | exact Or.inl rfl | exact Or.inr rfl) (pe_lst pa_nil))
      (pss_cons (ps_set (i := 3) sc_lot_places.nd rfl (by first | exact Or.inl rfl | exact Or.inr rfl) (pe_okM0 (okm_Almanac_rains T) (cl_Almanac T) (pv 0) (hr.mono (by first | decide | omega)) pass0))
      (pss_cons (ps_for PassesOwn.never rfl (pi_range1 rfl (n_range T) (pa_cons (pe_callB (len_seqK (K := K) rfl) rfl (n_len T) (by decide +kernel) (pa_cons (pv 3) pa_nil)) pa_nil)) (pg_name (i := 4) sc_lot_places.nd rfl (by first | exact Or.inl rfl | exact Or.inr rfl))
        (pss_cons (ps_set (i := 5) sc_lot_places.nd rfl (by first | exact Or.inl rfl | exact Or.inr rfl) (pe_ok (ok_free_day T) (hr.mono (by first | decide | omega)) rfl pass0 (pa_cons (pe_ix (ix_listK (K := K) rfl) (pv 3) (pv 4) (fun _ _ => rfl)) (pa_cons (pv 1) (pa_cons (pe_okM0 (okm_Almanac_days T) (cl_Almanac T) (pv 0) (hr.mono (by first | decide | omega)) pass0) pa_nil)))))
      (pss_cons (ps_if (pt_cmpR op_eq (pv 5) pe_int (nomark _)) (pss_one (ps_ret (pe_tup (pa_cons (pe_op op_add (pv 4) pe_int) (pa_cons (pe_lst pa_nil) pa_nil))))) pss_nil)
      (pss_one (ps_expr (pe_bm PySem.F.plainAttrs_list PySem.F.slot_list_append PySem.F.type_list_append mt_append (pv 2) (pa_cons (pv 5) pa_nil)))))))
      (pss_one (ps_ret (pe_tup (pa_cons pe_int (pa_cons (pv 2) pa_nil)))))))), ?_⟩
    refine ⟨(by show 0 ≤ sizeLine; decide), fun D hD => ?_⟩
    obtain ⟨s1, g1⟩ := new2 (.lst []) hD
    generalize upd H D (.lst []) = H1 at s1 g1 ⊢
    have hA1 := hA.same s1
    obtain ⟨dx, l0, xs0, i1, i2, i3⟩ := id hA1
    refine ⟨_, rfl, p, dx, _, rfl, i1, af_no (by decide +kernel) (by decide +kernel), p, TT, ws.map canR, rfl, hA1, fun rl xs H2 hrl s2 g2 hQ => ?_⟩
    have e2 := s1.trans s2
    have hxl : xs.length = ws.length := by rw [Paired.length hQ, List.length_map]
    refine ⟨_, rfl, _, _, rfl, .inl (SqL.of g2), _, rfl, by omega, by omega, for_upto (lo := 0) (L := ws.length) (by omega) (fun i σ H' => ∃ v4 v5, σ = [some (.ref p), some (.ref l), some (.ref D), some (.ref rl), v4, v5] ∧ Same H H' ∧ H' rl = some (.lst xs) ∧ Paired (QuadT H') xs (ws.map canR) ∧ H' D = some (.lst (((ws.take i).map (freeD TT lot)).map V.int)) ∧ ∀ j c, j < i → ws[j]? = some c → freeD TT lot c ≠ 0) ⟨_, _, rfl, e2, g2, hQ, s2 _ _ g1, fun j c h => by omega⟩ ?_ ?_⟩
    · rintro i σ H3 hi ⟨v4, v5, rfl, e3, g3, hQ3, hD3, hno⟩
      have z1 : (0 : Int) + (i : Int) = (i : Int) := by omega
      rw [z1]
      refine gnE ?_
      obtain ⟨c, hc⟩ : ∃ c, ws[i]? = some c := ⟨ws[i], List.getElem?_eq_getElem hi⟩
      obtain ⟨x, hx⟩ : ∃ x, xs[i]? = some x := ⟨xs[i]'(by omega), List.getElem?_eq_getElem _⟩
      obtain ⟨q, hq', hq⟩ := paired_get hQ3 hx
      rw [List.getElem?_map, hc] at hq'
      cases hq'
      obtain ⟨c1, c2, c3⟩ := hg c (List.mem_of_getElem? hc)
      have hA3 := hA.same e3
      obtain ⟨dx3, l3, xs3, j1, j2, j3⟩ := id hA3
      refine ⟨_, rfl, _, rfl, rl, xs, _, x, rfl, rfl, SqL.of g3, at_of rfl hx, _, rfl, _, rfl, p, dx3, _, rfl, j1, af_no (by decide +kernel) (by decide +kernel), p, TT, ws.map canR, rfl, hA3, ?_⟩
      refine ⟨TT, x, canR c, l, ss, lot, rfl, hq, e3 _ _ hl, Paired.mapP hP fun _ _ z => z.same e3, hll, hT, c1, c2, c3, fun H4 s4 => ?_⟩
      have e4 := e3.trans s4
      have efr : freeD TT lot ((canR c).1, (canR c).2.1) = freeD TT lot c := rfl
      rw [efr]
      refine ⟨_, rfl, rfl, _, rfl, ite2 (fun z => ?_) (fun z => ?_)⟩
      · have z : freeD TT lot c = 0 := by
          have := of_decide_eq_true z
          exact V.int.inj this
        refine ⟨_, rfl, _, _, rfl, rfl, (by show 0 ≤ sizeLine; decide), fun m hm => ⟨(by show 2 ≤ sizeLine; decide), fun r hr => ?_⟩⟩
        obtain ⟨s5, g5⟩ := new2 (.lst []) hm
        obtain ⟨s6, g6⟩ := new2 (.tup [.int ((i : Int) + 1), .ref m]) hr
        exact kb i c r m _ hc z hno (e4.trans (s5.trans s6)) g6 (s6 _ _ g5)
      · have z : freeD TT lot c ≠ 0 := fun y => z (decide_eq_true (by rw [y]))
        have hD4 := s4 _ _ hD3
        refine ⟨_, rfl, .inl ⟨rfl, _, SqL.of hD4⟩, _, rfl, D, _, _, rfl, rfl, hD4, line_lt (by rw [List.length_map, List.length_map, List.length_take]; omega), ?_⟩
        have nD : ∀ {a o}, H1 a = some o → H2 a = some o := fun h => s2 _ _ h
        have rD : rl ≠ D := fun z => by rw [z, g1] at hrl; cases hrl
        refine ⟨_, _, rfl, same_mut e4 hD, by rw [upd_ne rD]; exact s4 _ _ g3, Paired.mapP hQ3 fun _ _ z => (z.same s4).mut hD4, ?_, fun j c' hj hc' => ?_⟩
        · rw [upd_same, take_get hc, List.map_append, List.map_append]
          rfl
        · by_cases e : j = i
          · rw [e, hc] at hc'
            cases hc'
            exact z
          · exact hno j c' (by omega) hc'
    · rintro σ H3 ⟨v4, v5, rfl, e3, g3, hQ3, hD3, hno⟩
      rw [List.take_length] at hD3
      refine ⟨_, rfl, (by show 2 ≤ sizeLine; decide), fun r hr => ?_⟩
      obtain ⟨s4, g4⟩ := new2 (.tup [.int 0, .ref D]) hr
      refine kg (fun c hc => ?_) r D _ (e3.trans s4) g4 (s4 _ _ hD3) (by first | exact hD | exact s1.free hD | exact (s1.free hD))
      obtain ⟨j, hj⟩ := List.getElem?_of_mem hc
      exact hno j c (List.getElem?_eq_some_iff.mp hj).1 hj
end
end K85
end
section
set_option maxRecDepth 100000
set_option maxHeartbeats 4000000
namespace K85
open PySem PySem.Spec PyProof.Rows L2
/-! ### weathers of chosen days: plain -/
/-- the chosen days are options of the spans -/
def Way (T : Nat) (ws : List (Int × Int)) (os : List (Option Int)) : Prop := os.length = ws.length ∧ ∀ (i : Nat) (c : Int × Int), ws[i]? = some c → ∃ o, os[i]? = some o ∧ o ∈ optO T c
theorem way_all {T : Nat} {ws : List (Int × Int)} {os : List (Option Int)} : os ∈ allN T ws ws.length ↔ Way T ws os := by
  rw [mem_allN]
  unfold Way
  constructor
  · rintro ⟨h1, h2⟩
    refine ⟨h1, fun i c hc => ?_⟩
    have hi : i < ws.length := (List.getElem?_eq_some_iff.mp hc).1
    obtain ⟨o, ho, hm⟩ := h2 i hi
    rw [List.getD_eq_getElem?_getD, hc] at hm
    exact ⟨o, ho, hm⟩
  · rintro ⟨h1, h2⟩
    refine ⟨h1, fun i hi => ?_⟩
    have hc : ws[i]? = some ws[i] := List.getElem?_eq_getElem _
    obtain ⟨o, ho, hm⟩ := h2 i _ hc
    exact ⟨o, ho, by rw [List.getD_eq_getElem?_getD, hc]; exact hm⟩
theorem Way.day {T : Nat} {ws : List (Int × Int)} {os : List (Option Int)} (h : Way T ws os) {i : Nat} {d : Int} (hi : os[i]? = some (some d)) : ∃ c, ws[i]? = some c ∧ c.1 ≤ d ∧ d ≤ c.2 ∧ d ≤ (T : Int) := by
  have hl : i < ws.length := by rw [← h.1]; exact (List.getElem?_eq_some_iff.mp hi).1
  have hc : ws[i]? = some ws[i] := List.getElem?_eq_getElem _
  obtain ⟨o, ho, hm⟩ := h.2 i _ hc
  rw [hi] at ho
  cases ho
  exact ⟨_, hc, mem_optO_some.mp hm⟩
/-- such a weather is tight in a stretch if each fall in it is one of a span within -/
theorem isT_way {T : Nat} {ws : List (Int × Int)} {os : List (Option Int)} {a b : Nat} (hb : b ≤ T) (hl : os.length = ws.length) :
    isT ws (wayR T os ws.length) a b = true ↔ ∀ (i : Nat) (c : Int × Int) (o : Option Int), ws[i]? = some c → os[i]? = some o → okO [((a : Int), (b : Int))] c o = true := by
  have one : ∀ (c : Int × Int) (d : Int), okO [((a : Int), (b : Int))] c (some d) = okDay ((a : Int), (b : Int)) c d := fun c d => by
    show ([((a : Int), (b : Int))].all fun s => okDay s c d) = _
    simp
  unfold isT
  rw [List.all_eq_true]
  constructor
  · intro h i c o hc ho
    cases o with
    | none => rfl
    | some d =>
      rw [one]
      unfold okDay
      by_cases hd : d ≤ (a : Int)
      · rw [decide_eq_true hd]; simp
      · by_cases hd2 : (b : Int) < d
        · rw [decide_eq_true hd2]; simp
        · obtain ⟨k, hk⟩ : ∃ k : Nat, d = ((a + k : Nat) : Int) + 1 := ⟨(d - 1 - a).toNat, by omega⟩
          have hi : i < ws.length := (List.getElem?_eq_some_iff.mp hc).1
          have := h k (List.mem_range.mpr (by omega))
          rw [List.getD_eq_getElem?_getD, wayR_get (by omega)] at this
          have := List.all_eq_true.mp this ((i : Int) + 1, 1) (mem_repN.mpr ⟨i, hi, by rw [ho, hk], rfl⟩)
          unfold inT at this
          have e : ws.getD (((i : Int) + 1, (1 : Int)).1 - 1).toNat (0, 0) = c := by
            show ws.getD ((i : Int) + 1 - 1).toNat (0, 0) = c
            have : ((i : Int) + 1 - 1).toNat = i := by omega
            rw [this, List.getD_eq_getElem?_getD, hc]
            rfl
          rw [e] at this
          have : insB ((a : Int), (b : Int)) c = true := by
            unfold insB
            simp only [Bool.not_eq_true', Bool.or_eq_false_iff, decide_eq_false_iff_not] at this
            simp only [Bool.and_eq_true, decide_eq_true_eq]
            omega
          rw [this]
          rfl
  · intro h k hk
    have hk := List.mem_range.mp hk
    rw [List.getD_eq_getElem?_getD, wayR_get (by omega)]
    refine List.all_eq_true.mpr fun c' hc' => ?_
    obtain ⟨i, hi, ho, rfl⟩ := mem_repN.mp hc'
    have hc : ws[i]? = some ws[i] := List.getElem?_eq_getElem _
    have := h i _ _ hc ho
    rw [one] at this
    unfold okDay at this
    have e : ws.getD (((i : Int) + 1, (1 : Int)).1 - 1).toNat (0, 0) = ws[i] := by
      show ws.getD ((i : Int) + 1 - 1).toNat (0, 0) = _
      have : ((i : Int) + 1 - 1).toNat = i := by omega
      rw [this, List.getD_eq_getElem?_getD, hc]
      rfl
    unfold inT
    rw [e]
    have h1 : ¬ (((a + k : Nat) : Int) + 1 ≤ (a : Int)) := by omega
    have h2 : ¬ ((b : Int) < ((a + k : Nat) : Int) + 1) := by omega
    rw [decide_eq_false h1, decide_eq_false h2] at this
    unfold insB at this
    simp only [Bool.or_false, Bool.and_eq_true, decide_eq_true_eq] at this
    simp only [Bool.not_eq_true', Bool.or_eq_false_iff, decide_eq_false_iff_not]
    omega
theorem okO_lot {lot : List (Int × Int)} {c : Int × Int} {o : Option Int} : okO lot c o = true ↔ ∀ s ∈ lot, okO [s] c o = true := by
  cases o with
  | none => exact ⟨fun _ _ _ => rfl, fun _ => rfl⟩
  | some d =>
    show okLot lot c d = true ↔ ∀ s ∈ lot, okLot [s] c d = true
    unfold okLot
    rw [List.all_eq_true]
    simp
/-- a right weather -/
theorem falls_run {rs : List Q4} {d : Int} : ∀ {rep : List (Int × Int)} {b : Int} {g : List Int}, (rep.map Prod.fst).Pairwise (· < ·) → (∀ c ∈ rep, b < c.1) → (∀ c ∈ rep, c.1 ≤ (rs.length : Int) ∧ c.1 ∉ g ∧ okR (rs.getD (c.1 - 1).toNat (0, 0, 0, 0)) d c.2 = true) → falls rs d b g rep = some (g ++ rep.map Prod.fst)
  | [], b, g, _, _, _ => by unfold falls; simp
  | c :: r, b, g, hp, hb, h => by
    rw [List.map_cons, List.pairwise_cons] at hp
    obtain ⟨h1, h2, h3⟩ := h c List.mem_cons_self
    have ho : okF rs d b g c = true := by
      unfold okF
      rw [decide_eq_true (hb c List.mem_cons_self), decide_eq_true h1, decide_eq_false h2, h3]
      rfl
    unfold falls
    rw [if_pos ho, falls_run hp.2 (fun e he => hp.1 e.1 (List.mem_map.mpr ⟨e, he, rfl⟩)) fun e he => ?_]
    · rw [List.map_cons, List.append_assoc]
      rfl
    · obtain ⟨q1, q2, q3⟩ := h e (List.mem_cons_of_mem _ he)
      refine ⟨q1, fun z => ?_, q3⟩
      rcases List.mem_append.mp z with z | z
      · exact q2 z
      · have := hp.1 e.1 (List.mem_map.mpr ⟨e, he, rfl⟩)
        rw [List.mem_singleton.mp z] at this
        omega
theorem repN_asc {os : List (Option Int)} {n k : Nat} : ((repN os n k).map Prod.fst).Pairwise (· < ·) := by
  unfold repN
  rw [List.map_map, List.pairwise_map]
  refine List.Pairwise.imp (fun {a b} h => ?_) ((List.pairwise_lt_range (n := n)).sublist List.filter_sublist)
  show (a : Int) + 1 < (b : Int) + 1
  omega
theorem way_right {T : Nat} {ws : List (Int × Int)} {os : List (Option Int)} (h : Way T ws os) (h1 : ∀ c ∈ ws, 1 ≤ c.1) : wrongOf (ws.map canR) T (wayR T os ws.length) = -1 := by
  have getc : ∀ (i : Nat) (c : Int × Int), ws[i]? = some c → (ws.map canR).getD i (0, 0, 0, 0) = canR c := fun i c hc => by
    rw [List.getD_eq_getElem?_getD, List.getElem?_map, hc]
    rfl
  have main : ∀ (m k : Nat), T - k = m → k ≤ T → ∀ g : List Int, (∀ i : Nat, (((i : Nat) : Int) + 1) ∈ g ↔ ∃ d, os[i]? = some (some d) ∧ d ≤ (k : Int)) → firstBad (ws.map canR) ((k : Int) + 1) g ((wayR T os ws.length).drop k) = 0 := by
    intro m
    induction m with
    | zero =>
      intro k e hk g _
      rw [List.drop_of_length_le (by rw [wayR_len]; omega)]
      rfl
    | succ m ih =>
      intro k e hk g hg
      rw [drop_get (wayR_get (by omega))]
      have hf : falls (ws.map canR) ((k : Int) + 1) 0 g (repN os ws.length k) = some (g ++ (repN os ws.length k).map Prod.fst) := by
        refine falls_run repN_asc (fun c hc => ?_) fun c hc => ?_
        · obtain ⟨i, _, _, rfl⟩ := mem_repN.mp hc
          show (0 : Int) < (i : Int) + 1
          omega
        · obtain ⟨i, hi, ho, rfl⟩ := mem_repN.mp hc
          obtain ⟨c, hc, q1, q2, q3⟩ := h.day ho
          refine ⟨by rw [List.length_map]; show (i : Int) + 1 ≤ _; omega, fun z => ?_, ?_⟩
          · obtain ⟨d, hd, hd2⟩ := (hg i).mp z
            rw [ho] at hd
            cases hd
            omega
          · show okR ((ws.map canR).getD ((i : Int) + 1 - 1).toNat (0, 0, 0, 0)) ((k : Int) + 1) 1 = true
            have : ((i : Int) + 1 - 1).toNat = i := by omega
            rw [this, getc i c hc]
            unfold okR canR
            show (decide (c.1 ≤ (k : Int) + 1) && (decide ((k : Int) + 1 ≤ c.2) && (decide ((1 : Int) ≤ 1) && decide ((1 : Int) ≤ 1)))) = true
            rw [decide_eq_true q1, decide_eq_true q2]
            rfl
      have hgone : ∀ i : Nat, (((i : Nat) : Int) + 1) ∈ g ++ (repN os ws.length k).map Prod.fst ↔ ∃ d, os[i]? = some (some d) ∧ d ≤ ((k + 1 : Nat) : Int) := by
        intro i
        rw [List.mem_append, hg i, List.mem_map]
        constructor
        · rintro (⟨d, hd, hd2⟩ | ⟨c, hc, e⟩)
          · exact ⟨d, hd, by omega⟩
          · obtain ⟨j, hj, ho, rfl⟩ := mem_repN.mp hc
            have : j = i := by
              have e : (j : Int) + 1 = (i : Int) + 1 := e
              omega
            rw [this] at ho
            exact ⟨_, ho, by omega⟩
        · rintro ⟨d, hd, hd2⟩
          by_cases q : d ≤ (k : Int)
          · exact .inl ⟨d, hd, q⟩
          · have hi : i < ws.length := by rw [← h.1]; exact (List.getElem?_eq_some_iff.mp hd).1
            refine .inr ⟨((i : Int) + 1, 1), mem_repN.mpr ⟨i, hi, ?_, rfl⟩, rfl⟩
            rw [hd]
            have : d = (k : Int) + 1 := by omega
            rw [this]
      have hno : dueBad (ws.map canR) ((k : Int) + 1) (g ++ (repN os ws.length k).map Prod.fst) = false := by
        unfold dueBad
        rw [List.any_eq_false]
        intro i hi
        have hi := List.mem_range.mp hi
        rw [List.length_map] at hi
        have hc : ws[i]? = some ws[i] := List.getElem?_eq_getElem _
        unfold late
        rw [getc i _ hc]
        intro z
        simp only [Bool.and_eq_true, decide_eq_true_eq, Bool.not_eq_true', decide_eq_false_iff_not] at z
        obtain ⟨z1, z2⟩ := z
        have z1 : ws[i].2 ≤ (k : Int) + 1 := z1
        refine z2 ((hgone i).mpr ?_)
        obtain ⟨o, ho, hm⟩ := h.2 i _ hc
        cases o with
        | none =>
          have := mem_optO_none.mp hm
          omega
        | some d =>
          have := mem_optO_some.mp hm
          exact ⟨d, ho, by omega⟩
      have hds : dayStep (ws.map canR) ((k : Int) + 1) g (repN os ws.length k) = some (g ++ (repN os ws.length k).map Prod.fst) := by
        unfold dayStep
        rw [hf]
        show (if dueBad _ _ _ = true then none else some _) = _
        rw [hno]
        rfl
      unfold firstBad
      rw [hds]
      show firstBad (ws.map canR) ((k : Int) + 1 + 1) _ _ = 0
      have := ih (k + 1) (by omega) (by omega) _ hgone
      rw [show ((k + 1 : Nat) : Int) + 1 = (k : Int) + 1 + 1 by omega] at this
      exact this
  unfold wrongOf
  rw [if_pos wayR_len]
  have := main T 0 (by omega) (by omega) [] fun i => by
    constructor
    · intro z; cases z
    · rintro ⟨d, hd, hd2⟩
      obtain ⟨c, hc, q1, _⟩ := h.day hd
      have := h1 c (List.mem_of_getElem? hc)
      omega
  rw [List.drop_zero] at this
  have this : firstBad (ws.map canR) 1 [] (wayR T os ws.length) = 0 := this
  rw [if_pos this]
/-- the weather that is placed -/
theorem placed_way {T : Nat} {ws lot : List (Int × Int)} (h1 : ∀ c ∈ ws, 1 ≤ c.1) (h : ∀ c ∈ ws, freeD T lot c ≠ 0) : Way T ws ((ws.map (freeD T lot)).map (optOf T)) ∧ ∀ (i : Nat) (c : Int × Int) (o : Option Int), ws[i]? = some c → ((ws.map (freeD T lot)).map (optOf T))[i]? = some o → okO lot c o = true := by
  have get : ∀ (i : Nat) (c : Int × Int), ws[i]? = some c → ((ws.map (freeD T lot)).map (optOf T))[i]? = some (optOf T (freeD T lot c)) := fun i c hc => by
    rw [List.getElem?_map, List.getElem?_map, hc]
    rfl
  refine ⟨⟨by rw [List.length_map, List.length_map], fun i c hc => ⟨_, get i c hc, ?_⟩⟩, fun i c o hc ho => ?_⟩
  · rcases freeD_cases (T := T) (lot := lot) (h1 c (List.mem_of_getElem? hc)) with ⟨z, _⟩ | ⟨_, _, z, _⟩
    · exact absurd z (h c (List.mem_of_getElem? hc))
    · exact z
  · rw [get i c hc] at ho
    cases ho
    rcases freeD_cases (T := T) (lot := lot) (h1 c (List.mem_of_getElem? hc)) with ⟨z, _⟩ | ⟨_, _, _, z⟩
    · exact absurd z (h c (List.mem_of_getElem? hc))
    · exact z
/-- some weather is tight in all of a lot if and only if no span is covered -/
theorem lot_iff {T : Nat} {ws lot : List (Int × Int)} (h1 : ∀ c ∈ ws, 1 ≤ c.1) (hl : ∀ s ∈ lot, ∃ a b : Nat, a < b ∧ b ≤ T ∧ s = ((a : Int), (b : Int))) :
    (∃ os ∈ allN T ws ws.length, ∀ s ∈ lot, isT ws (wayR T os ws.length) s.1.toNat s.2.toNat = true) ↔ ∀ c ∈ ws, freeD T lot c ≠ 0 := by
  constructor
  · rintro ⟨os, ho, h⟩ c hc z
    have hw := way_all.mp ho
    obtain ⟨i, hi⟩ := List.getElem?_of_mem hc
    obtain ⟨o, ho', hm⟩ := hw.2 i c hi
    have e1 := (freeD_zero (h1 c hc)).mp z o hm
    have e2 : okO lot c o = true := okO_lot.mpr fun s hs => by
      obtain ⟨a, b, _, hb, rfl⟩ := hl s hs
      exact (isT_way hb hw.1).mp (h _ hs) i c o hi ho'
    rw [e1] at e2
    cases e2
  · intro h
    obtain ⟨q1, q2⟩ := placed_way h1 h
    refine ⟨_, way_all.mpr q1, fun s hs => ?_⟩
    obtain ⟨a, b, _, hb, rfl⟩ := hl s hs
    exact (isT_way hb q1.1).mpr fun i c o hc ho => okO_lot.mp (q2 i c o hc ho) _ hs
/-- each stretch is tight in some weather -/
theorem one_way {T : Nat} {ws : List (Int × Int)} (h1 : ∀ c ∈ ws, 1 ≤ c.1 ∧ c.1 ≤ c.2) {a b : Nat} (hab : a < b) (hb : b ≤ T) : ∃ os ∈ allN T ws ws.length, isT ws (wayR T os ws.length) a b = true := by
  obtain ⟨os, ho, h⟩ := choose_all (T := T) (ws := ws) (p := fun c o => okO [((a : Int), (b : Int))] c o = true) fun c hc => by
    obtain ⟨o, q1, q2⟩ := one_ok (T := T) (s := ((a : Int), (b : Int))) (c := c) (by show (0 : Int) ≤ a; omega) (by show (a : Int) < b; omega) (by show (b : Int) ≤ T; omega) (h1 c hc).1 (h1 c hc).2
    exact ⟨o, q1, q2⟩
  exact ⟨os, ho, (isT_way hb (way_all.mp ho).1).mpr h⟩
end K85
end
section
set_option maxRecDepth 100000
set_option maxHeartbeats 4000000
namespace K85
open PySem PySem.Spec PyProof.Rows L2
section
variable {P : Program} {w : World} {K : PySem.W.Frag} {mg : Str → Option Value} {base : Heap}
def spWithin (K : PySem.W.Frag) : Sp := fun vs H Q E => ∃ (z : Str) (n m : Int), vs = [.str z, .int n, .int m] ∧ (n ≤ m → Q .non H) ∧ (m < n → Rz E H (cTM K) "what" (.str z))
theorem ok_check_within (T : Txt w K mg) : Ok P w K mg base (L2.CX P w) 4 "check_within" ["what", "number", "bound"] (spWithin K) := by
  refine Ok.defX (f_check_within T) (fun _ _ _ _ _ _ us hl => match us, hl with | [_, _, _], _ => rfl) sc_check_within (fun vs H Q E h => ?_) (fun f cdv A outer s H vs Q E hr h tk => ?_)
  · obtain ⟨z, n, m, rfl, _⟩ := h
    rfl
  · obtain ⟨z, n, m, rfl, k1, k2⟩ := h
    refine ⟨_, (pss_one (ps_if (pt_cmpR op_gt (pv 1) (pv 2) (nomark _)) (pss_one (ps_raise rfl tk (pmk_x (x_TooMany T) (hr.mono (by first | decide | omega)) rfl (pa_cons (pv 0) pa_nil)))) pss_nil)), ?_⟩
    refine ⟨_, rfl, _, rfl, _, _, rfl, rfl, _, rfl, ?_⟩
    refine ite2 (fun c => ?_) (fun c => ?_)
    · exact ⟨_, rfl, mko ((k2 (of_decide_eq_true c)).at (Same.refl H))⟩
    · exact k1 (by simpa using c)
/-- a stretch of these days -/
def StrOk (T : Int) (c : Int × Int) : Prop := 0 ≤ c.1 ∧ c.2 ≤ T ∧ c.1 < c.2
instance (T : Int) (c : Int × Int) : Decidable (StrOk T c) := by unfold StrOk; infer_instance
def spCStr (K : PySem.W.Frag) : Sp := fun vs H Q E => ∃ (x : V) (c : Int × Int) (d : Int), vs = [x, .int d] ∧ PairT H x c ∧ (StrOk d c → ∀ H', Same H H' → Q .non H') ∧ (¬ StrOk d c → Rz2 E H (cBT K) "first" "last" (.int c.1) (.int c.2))
theorem ok_check_stretch (T : Txt w K mg) : Ok P w K mg base (L2.CX P w) 4 "check_stretch" ["stretch", "days"] (spCStr K) := by
  refine Ok.defX (f_check_stretch T) (fun _ _ _ _ _ _ us hl => match us, hl with | [_, _], _ => rfl) sc_check_stretch (fun vs H Q E h => ?_) (fun f cdv A outer s H vs Q E hr h tk => ?_)
  · obtain ⟨x, c, d, rfl, _⟩ := h
    rfl
  · obtain ⟨x, c, d, rfl, hx, k1, k2⟩ := h
    refine ⟨_, (pss_cons (ps_asg (pv 0) (pg_tupK (K := K) (n := 2) rfl rfl (pgs_cons (pg_name (i := 2) sc_check_stretch.nd rfl (by first | exact Or.inl rfl | exact Or.inr rfl)) (pgs_cons (pg_name (i := 3) sc_check_stretch.nd rfl (by first | exact Or.inl rfl | exact Or.inr rfl)) pgs_nil))))
      (pss_one (ps_if (PW.pt (pw_or (pt_cmpR op_lt (pv 2) pe_int (nomark _)) (pw_or (pt_cmpR op_gt (pv 3) (pv 1) (nomark _)) (pw_or1 (pt_cmpR op_ge (pv 2) (pv 3) (nomark _)))))) (pss_one (ps_raise rfl tk (pmk_x (x_BadTable T) (hr.mono (by first | decide | omega)) rfl (pa_cons (pv 2) (pa_cons (pv 3) pa_nil))))) pss_nil))), ?_⟩
    refine ⟨_, rfl, hx.un rfl ?_⟩
    refine nxE (EvT.ifs (b := decide (c.1 < 0) || (decide (d < c.2) || decide (c.2 ≤ c.1))) ?_ fun H2 s2 => ?_)
    · exact EvT.or (EvT.test (Ev.lt (Ev.var rfl) Ev.c)) fun _ => EvT.or (EvT.test (Ev.gt (Ev.var rfl) (Ev.var rfl))) fun _ => EvT.test (Ev.ge (Ev.var rfl) (Ev.var rfl))
    refine ite2 (fun z => ?_) (fun z => ?_)
    · refine ⟨_, rfl, _, rfl, mko2 ((k2 fun h => ?_).at s2)⟩
      unfold StrOk at h
      simp only [Bool.or_eq_true, decide_eq_true_eq] at z
      omega
    · refine k1 ?_ H2 s2
      unfold StrOk
      simp only [Bool.or_eq_true, decide_eq_true_eq] at z
      omega
end
end K85
end
section
set_option maxRecDepth 100000
set_option maxHeartbeats 4000000
namespace K85
open PySem PySem.Spec PyProof.Rows L2
/-- whether one weather has all stretches of the lot tight -/
def togB (T : Nat) (ws lot : List (Int × Int)) : Bool := ws.all fun c => !decide (freeD T lot c = 0)
theorem togB_iff {T : Nat} {ws lot : List (Int × Int)} : togB T ws lot = true ↔ ∀ c ∈ ws, freeD T lot c ≠ 0 := by
  unfold togB
  rw [List.all_eq_true]
  exact ⟨fun h c hc => by have := h c hc; simpa using this, fun h c hc => by have := h c hc; simpa using this⟩
section
variable {P : Program} {w : World} {K : PySem.W.Frag} {mg : Str → Option Value} {base : Heap}
def spTog (K : PySem.W.Frag) : Sp := fun vs H Q _ => ∃ (T : Nat) (p l : Addr) (ws : List (Int × Int)) (ss : List V) (lot : List (Int × Int)), vs = [.ref p, .ref l] ∧ AlmAt K H p T (ws.map canR) ∧ H l = some (.lst ss) ∧ Paired (PairT H) ss lot ∧ lot.length ≤ 1000 ∧ T ≤ 24 ∧ ws.length ≤ 40 ∧ (∀ c ∈ ws, 1 ≤ c.1 ∧ c.1 ≤ c.2 ∧ c.2 ≤ 1000) ∧ ∀ H', Same H H' → Q (.bl (togB T ws lot)) H'
end
end K85
end
section
set_option maxRecDepth 100000
set_option maxHeartbeats 4000000
namespace K85
/-! ### lots filled key by key: the plain law -/
section
variable {α : Type} (tog : List α → Bool)
/-- the program's search: each key into the first lot with which the rest can be placed too, else a new lot -/
def tryL (f : List (List α) → List (List α)) (lots : List (List α)) (k : α) (i : Nat) : Option (List (List α)) :=
  if tog (lots.getD i [] ++ [k]) = true then (match f (lots.set i (lots.getD i [] ++ [k])) with
    | [] => none
    | a :: as => some (a :: as)) else none
def fillL (many : Nat) : List α → List (List α) → List (List α)
  | [], lots => lots
  | k :: r, lots => match (List.range lots.length).findSome? (tryL tog (fillL many r) lots k) with
    | some ls => ls
    | none => if lots.length < many then fillL many r (lots ++ [[k]]) else []
theorem fillL_sound {many : Nat} : ∀ {r : List α} {lots : List (List α)}, (∀ l ∈ lots, tog l = true) → (∀ k ∈ r, tog [k] = true) → lots.length ≤ many → fillL tog many r lots ≠ [] →
    (∀ l ∈ fillL tog many r lots, tog l = true) ∧ (fillL tog many r lots).length ≤ many ∧ (∀ k, (k ∈ r ∨ ∃ l ∈ lots, k ∈ l) ↔ ∃ l ∈ fillL tog many r lots, k ∈ l)
  | [], lots, ht, _, hl, _ => ⟨ht, hl, fun k => ⟨fun h => h.elim (fun z => by cases z) id, .inr⟩⟩
  | k :: r, lots, ht, h1, hl, hne => by
    have h1' : ∀ k ∈ r, tog [k] = true := fun x hx => h1 x (List.mem_cons_of_mem _ hx)
    rw [fillL] at hne ⊢
    split at hne
    · rename_i ls e
      obtain ⟨i, hi, e2⟩ := List.exists_of_findSome?_eq_some e
      have hi := List.mem_range.mp hi
      unfold tryL at e2
      split at e2
      · rename_i htg
        have hset : ∀ l ∈ lots.set i (lots.getD i [] ++ [k]), tog l = true := fun l hl' => by
          rcases List.mem_or_eq_of_mem_set hl' with z | rfl
          · exact ht l z
          · exact htg
        cases e3 : fillL tog many r (lots.set i (lots.getD i [] ++ [k])) with
        | nil => rw [e3] at e2; cases e2
        | cons f fs =>
          rw [e3] at e2
          cases e2
          obtain ⟨q1, q2, q3⟩ := fillL_sound (r := r) hset h1' (by rw [List.length_set]; exact hl) (by rw [e3]; exact fun z => by cases z)
          rw [e3] at q1 q2 q3
          refine ⟨q1, q2, fun x => Iff.trans ?_ (q3 x)⟩
          have gd : lots.getD i [] = lots[i] := by rw [List.getD_eq_getElem?_getD, List.getElem?_eq_getElem hi]; rfl
          constructor
          · rintro (hx | ⟨l, hl1, hx⟩)
            · rcases List.mem_cons.mp hx with rfl | hx
              · exact .inr ⟨_, List.mem_iff_getElem?.mpr ⟨i, List.getElem?_set_self hi⟩, List.mem_append_right _ List.mem_cons_self⟩
              · exact .inl hx
            · obtain ⟨j, hj⟩ := List.getElem?_of_mem hl1
              by_cases z : j = i
              · subst z
                refine .inr ⟨_, List.mem_iff_getElem?.mpr ⟨j, List.getElem?_set_self hi⟩, List.mem_append_left _ ?_⟩
                rw [gd]
                rw [List.getElem?_eq_getElem hi] at hj
                cases hj
                exact hx
              · exact .inr ⟨l, List.mem_iff_getElem?.mpr ⟨j, by rw [List.getElem?_set_ne (Ne.symm z)]; exact hj⟩, hx⟩
          · rintro (hx | ⟨l, hl1, hx⟩)
            · exact .inl (List.mem_cons_of_mem _ hx)
            · rcases List.mem_or_eq_of_mem_set hl1 with z | rfl
              · exact .inr ⟨l, z, hx⟩
              · rcases List.mem_append.mp hx with hx | hx
                · rw [gd] at hx
                  exact .inr ⟨_, List.getElem_mem hi, hx⟩
                · rw [List.mem_singleton.mp hx]
                  exact .inl List.mem_cons_self
      · cases e2
    · rename_i e
      split at hne
      · rename_i hlt
        rw [if_pos hlt]
        obtain ⟨q1, q2, q3⟩ := fillL_sound (r := r) (lots := lots ++ [[k]]) (fun l hl' => by
          rcases List.mem_append.mp hl' with z | z
          · exact ht l z
          · rw [List.mem_singleton.mp z]
            exact h1 k List.mem_cons_self) h1' (by rw [List.length_append]; show _ + 1 ≤ _; omega) hne
        refine ⟨q1, q2, fun x => Iff.trans ?_ (q3 x)⟩
        constructor
        · rintro (hx | ⟨l, hl1, hx⟩)
          · rcases List.mem_cons.mp hx with rfl | hx
            · exact .inr ⟨[x], List.mem_append_right _ List.mem_cons_self, List.mem_cons_self⟩
            · exact .inl hx
          · exact .inr ⟨l, List.mem_append_left _ hl1, hx⟩
        · rintro (hx | ⟨l, hl1, hx⟩)
          · exact .inl (List.mem_cons_of_mem _ hx)
          · rcases List.mem_append.mp hl1 with z | z
            · exact .inr ⟨l, z, hx⟩
            · rw [List.mem_singleton.mp z] at hx
              rw [List.mem_singleton.mp hx]
              exact .inl List.mem_cons_self
      · exact absurd rfl hne
/-- the classes of keys are each within one lot that is together -/
theorem fillL_complete {many : Nat} (hsub : ∀ l m : List α, (∀ x ∈ l, x ∈ m) → tog m = true → tog l = true) {all : List α} : ∀ {r : List α} {lots : List (List α)} (g : α → Nat),
    (∀ k ∈ r, k ∈ all) → (∀ l ∈ lots, ∀ k ∈ l, k ∈ all) → (∀ k ∈ all, g k < many) → (∀ (i : Nat) l, lots[i]? = some l → ∀ k ∈ l, g k = i) → (∀ (j : Nat) l, (∀ k ∈ l, k ∈ all ∧ g k = j) → tog l = true) → lots.length ≤ many → (lots ≠ [] ∨ r ≠ []) → fillL tog many r lots ≠ []
  | [], lots, g, _, _, _, _, _, _, hne => by
    rcases hne with h | h
    · exact h
    · exact absurd rfl h
  | k :: r, lots, g, hr, hl, hg, hi, ht, hm, _ => by
    have hr' : ∀ x ∈ r, x ∈ all := fun x hx => hr x (List.mem_cons_of_mem _ hx)
    have hk := hr k List.mem_cons_self
    rw [fillL]
    split
    · rename_i ls e
      obtain ⟨i, _, e2⟩ := List.exists_of_findSome?_eq_some e
      unfold tryL at e2
      split at e2
      · split at e2
        · cases e2
        · cases e2
          exact fun z => by cases z
      · cases e2
    · rename_i e
      rw [List.findSome?_eq_none_iff] at e
      by_cases c : g k < lots.length
      · exfalso
        have e3 := e (g k) (List.mem_range.mpr c)
        unfold tryL at e3
        have gd : lots.getD (g k) [] = lots[g k] := by rw [List.getD_eq_getElem?_getD, List.getElem?_eq_getElem c]; rfl
        have hcl : ∀ x ∈ lots.getD (g k) [] ++ [k], x ∈ all ∧ g x = g k := fun x hx => by
          rcases List.mem_append.mp hx with hx | hx
          · rw [gd] at hx
            exact ⟨hl _ (List.getElem_mem c) x hx, hi _ _ (List.getElem?_eq_getElem c) x hx⟩
          · rw [List.mem_singleton.mp hx]
            exact ⟨hk, rfl⟩
        have htg := ht (g k) _ hcl
        rw [if_pos htg] at e3
        have := fillL_complete hsub (all := all) (r := r) (lots := lots.set (g k) (lots.getD (g k) [] ++ [k])) g hr' (fun l hl' x hx => by
          rcases List.mem_or_eq_of_mem_set hl' with z | rfl
          · exact hl l z x hx
          · exact (hcl x hx).1) hg (fun i l hil x hx => by
            by_cases z : g k = i
            · subst z
              rw [List.getElem?_set_self c] at hil
              cases hil
              exact (hcl x hx).2
            · rw [List.getElem?_set_ne z] at hil
              exact hi i l hil x hx) ht (by rw [List.length_set]; exact hm) (.inl fun z => by
            have := congrArg List.length z
            rw [List.length_set] at this
            have : lots.length = 0 := this
            omega)
        split at e3
        · rename_i e4
          exact this e4
        · cases e3
      · have hgm := hg k hk
        rw [if_pos (by omega)]
        -- exchange the classes g k and lots.length
        refine fillL_complete hsub (all := all) (r := r) (lots := lots ++ [[k]]) (fun x => if g x = g k then lots.length else if g x = lots.length then g k else g x) hr' (fun l hl' x hx => ?_) (fun x hx => ?_) (fun i l hil x hx => ?_) (fun j l hj => ?_) (by rw [List.length_append]; show _ + 1 ≤ _; omega) (.inl fun z => by
            have := congrArg List.length z
            rw [List.length_append] at this
            have : lots.length + 1 = 0 := this
            omega)
        · rcases List.mem_append.mp hl' with z | z
          · exact hl l z x hx
          · rw [List.mem_singleton.mp z] at hx
            rw [List.mem_singleton.mp hx]
            exact hk
        · have := hg x hx
          show (if g x = g k then lots.length else if g x = lots.length then g k else g x) < many
          split
          · omega
          · split <;> omega
        · show (if g x = g k then lots.length else if g x = lots.length then g k else g x) = i
          by_cases z : i < lots.length
          · rw [List.getElem?_append_left z] at hil
            have := hi i l hil x hx
            rw [if_neg (by omega), if_neg (by omega)]
            exact this
          · rw [List.getElem?_append_right (by omega)] at hil
            have : i = lots.length := by
              cases q : i - lots.length with
              | zero => omega
              | succ n => rw [q] at hil; cases hil
            subst this
            rw [Nat.sub_self] at hil
            cases hil
            rw [List.mem_singleton.mp hx, if_pos rfl]
        · refine ht (if j = lots.length then g k else if j = g k then lots.length else j) l fun x hx => ?_
          obtain ⟨h1, h2⟩ := hj x hx
          have h2 : (if g x = g k then lots.length else if g x = lots.length then g k else g x) = j := h2
          refine ⟨h1, ?_⟩
          split at h2
          · rename_i q
            rw [if_pos h2.symm]
            exact q
          · rename_i q
            split at h2
            · rename_i q2
              by_cases q3 : j = lots.length
              · rw [if_pos q3]
                omega
              · rw [if_neg q3, if_pos h2.symm]
                exact q2
            · rename_i q2
              rw [if_neg (by omega), if_neg (by omega)]
              exact h2
end
end K85
end
section
set_option maxRecDepth 100000
set_option maxHeartbeats 4000000
namespace K85
/-! ### the law's own search: a cover by few rows -/
section
variable {β : Type} [DecidableEq β]
def enoughB (rows : List (List β)) : Nat → List β → Bool
  | _, [] => true
  | 0, _ :: _ => false
  | n + 1, x :: l => rows.any fun row => decide (x ∈ row) && enoughB rows n ((x :: l).filter fun y => !decide (y ∈ row))
theorem enough_iff {rows : List (List β)} : ∀ {n : Nat} {left : List β}, enoughB rows n left = true ↔ ∃ cov : List (List β), cov.length ≤ n ∧ (∀ r ∈ cov, r ∈ rows) ∧ ∀ x ∈ left, ∃ r ∈ cov, x ∈ r
  | n, [] => by
    cases n <;> exact ⟨fun _ => ⟨[], Nat.zero_le _, (fun _ z => by cases z), (fun _ z => by cases z)⟩, fun _ => by unfold enoughB; rfl⟩
  | 0, x :: l => by
    refine ⟨(fun h => by unfold enoughB at h; cases h), fun ⟨cov, h1, _, h3⟩ => ?_⟩
    obtain ⟨r, hr, _⟩ := h3 x List.mem_cons_self
    cases cov with
    | nil => cases hr
    | cons _ _ => exact absurd h1 (by show ¬ _ + 1 ≤ 0; omega)
  | n + 1, x :: l => by
    unfold enoughB
    rw [List.any_eq_true]
    constructor
    · rintro ⟨row, hrow, h⟩
      rw [Bool.and_eq_true] at h
      obtain ⟨cov, h1, h2, h3⟩ := enough_iff.mp h.2
      refine ⟨row :: cov, by show _ + 1 ≤ _ + 1; omega, fun r hr => ?_, fun y hy => ?_⟩
      · rcases List.mem_cons.mp hr with rfl | hr
        · exact hrow
        · exact h2 r hr
      · by_cases c : y ∈ row
        · exact ⟨row, List.mem_cons_self, c⟩
        · obtain ⟨r, hr, hyr⟩ := h3 y (List.mem_filter.mpr ⟨hy, by simp [c]⟩)
          exact ⟨r, List.mem_cons_of_mem _ hr, hyr⟩
    · rintro ⟨cov, h1, h2, h3⟩
      obtain ⟨row, hr, hx⟩ := h3 x List.mem_cons_self
      refine ⟨row, h2 row hr, ?_⟩
      rw [Bool.and_eq_true]
      refine ⟨decide_eq_true hx, enough_iff.mpr ⟨cov.erase row, ?_, fun r q => h2 r (List.mem_of_mem_erase q), fun y hy => ?_⟩⟩
      · rw [List.length_erase_of_mem hr]
        omega
      · obtain ⟨hy, hyr⟩ := List.mem_filter.mp hy
        have hyr : y ∉ row := by simpa using hyr
        obtain ⟨r, q, hyr'⟩ := h3 y hy
        exact ⟨r, (List.mem_erase_of_ne (fun z => hyr (by rw [← z]; exact hyr'))).mpr q, hyr'⟩
/-- the rows that no longer row holds -/
def keptB (rows : List (List β)) : List (List β) := rows.filter fun row => (rows.filter fun other => decide (row.length < other.length) && ((row.filter fun x => !decide (x ∈ other)).length == 0)).length == 0
theorem kept_mem {rows : List (List β)} {r : List β} (h : r ∈ keptB rows) : r ∈ rows := (List.mem_filter.mp h).1
theorem kept_over {rows : List (List β)} {M : Nat} (hM : ∀ r ∈ rows, r.length ≤ M) : ∀ (n : Nat) {r : List β}, r ∈ rows → M - r.length ≤ n → ∃ o ∈ keptB rows, ∀ x ∈ r, x ∈ o
  | n, r, hr, hn => by
    by_cases c : r ∈ keptB rows
    · exact ⟨r, c, fun _ h => h⟩
    · have : ∃ o ∈ rows, r.length < o.length ∧ ∀ x ∈ r, x ∈ o := by
        apply Classical.byContradiction
        intro z
        apply c
        refine List.mem_filter.mpr ⟨hr, ?_⟩
        rw [beq_iff_eq, List.length_eq_zero_iff, List.filter_eq_nil_iff]
        intro o ho h
        rw [Bool.and_eq_true, beq_iff_eq, List.length_eq_zero_iff, List.filter_eq_nil_iff] at h
        exact z ⟨o, ho, of_decide_eq_true h.1, fun x hx => by
          have := h.2 x hx
          simpa using this⟩
      obtain ⟨o, ho, hlt, hsub⟩ := this
      have h1 := hM o ho
      cases n with
      | zero => omega
      | succ n =>
        obtain ⟨o2, h2, h3⟩ := kept_over hM n ho (by omega)
        exact ⟨o2, h2, fun x hx => h3 x (hsub x hx)⟩
end
end K85
end
section
set_option maxRecDepth 100000
set_option maxHeartbeats 4000000
namespace K85
open L2
/-! ### as many lots as weathers -/
theorem free_pos {T : Nat} {lot : List (Int × Int)} {c : Int × Int} (h1 : 1 ≤ c.1) : freeD T lot c ≠ 0 ↔ ∃ o ∈ optO T c, ∀ s ∈ lot, okO [s] c o = true := by
  rw [Ne, freeD_zero h1]
  constructor
  · intro h
    apply Classical.byContradiction
    intro z
    apply h
    intro o ho
    cases q : okO lot c o with
    | false => rfl
    | true => exact absurd ⟨o, ho, okO_lot.mp q⟩ z
  · rintro ⟨o, ho, h⟩ z
    have := z o ho
    rw [okO_lot.mpr h] at this
    cases this
theorem tog_sub {T : Nat} {ws : List (Int × Int)} (h1 : ∀ c ∈ ws, 1 ≤ c.1) (l m : List (Int × Int)) (h : ∀ x ∈ l, x ∈ m) (ht : togB T ws m = true) : togB T ws l = true := by
  rw [togB_iff] at ht ⊢
  intro c hc
  obtain ⟨o, ho, hs⟩ := (free_pos (h1 c hc)).mp (ht c hc)
  exact (free_pos (h1 c hc)).mpr ⟨o, ho, fun s hs' => hs s (h s hs')⟩
theorem choose_map {α β : Type} {R : α → β → Prop} : ∀ {xs : List α}, (∀ x ∈ xs, ∃ y, R x y) → ∃ ys : List β, ys.length = xs.length ∧ (∀ y ∈ ys, ∃ x ∈ xs, R x y) ∧ ∀ x ∈ xs, ∃ y ∈ ys, R x y
  | [], _ => ⟨[], rfl, (fun _ z => by cases z), (fun _ z => by cases z)⟩
  | x :: t, h => by
    obtain ⟨y, hy⟩ := h x List.mem_cons_self
    obtain ⟨ys, h1, h2, h3⟩ := choose_map (xs := t) fun z hz => h z (List.mem_cons_of_mem _ hz)
    refine ⟨y :: ys, by rw [List.length_cons, List.length_cons, h1], fun z hz => ?_, fun z hz => ?_⟩
    · rcases List.mem_cons.mp hz with rfl | hz
      · exact ⟨x, List.mem_cons_self, hy⟩
      · obtain ⟨a, ha, hr⟩ := h2 z hz
        exact ⟨a, List.mem_cons_of_mem _ ha, hr⟩
    · rcases List.mem_cons.mp hz with rfl | hz
      · exact ⟨y, List.mem_cons_self, hy⟩
      · obtain ⟨a, ha, hr⟩ := h3 z hz
        exact ⟨a, List.mem_cons_of_mem _ ha, hr⟩
/-- the keys that a way of the rains has tight, by their places -/
def maskR (T : Nat) (ws KS : List (Int × Int)) (os : List (Option Int)) : List Nat := (List.range KS.length).filter fun i => isT ws (wayR T os ws.length) (KS.getD i (0, 0)).1.toNat (KS.getD i (0, 0)).2.toNat
theorem mask_len {T : Nat} {ws KS : List (Int × Int)} {os : List (Option Int)} : (maskR T ws KS os).length ≤ KS.length := by
  have := List.length_filter_le (fun i => isT ws (wayR T os ws.length) (KS.getD i (0, 0)).1.toNat (KS.getD i (0, 0)).2.toNat) (List.range KS.length)
  rw [List.length_range] at this
  exact this
theorem getD_some {KS : List (Int × Int)} {i : Nat} {c : Int × Int} (h : KS[i]? = some c) : KS.getD i (0, 0) = c := by rw [List.getD_eq_getElem?_getD, h]; rfl
theorem mask_mem {T : Nat} {ws KS : List (Int × Int)} {os : List (Option Int)} {i : Nat} {c : Int × Int} (h : KS[i]? = some c) : i ∈ maskR T ws KS os ↔ isT ws (wayR T os ws.length) c.1.toNat c.2.toNat = true := by
  unfold maskR
  rw [List.mem_filter, getD_some h, List.mem_range]
  exact ⟨fun z => z.2, fun z => ⟨(List.getElem?_eq_some_iff.mp h).1, z⟩⟩
theorem few_iff {T : Nat} {ws KS ks : List (Int × Int)} (h1 : ∀ c ∈ ws, 1 ≤ c.1 ∧ c.1 ≤ c.2) (hK : ∀ s ∈ KS, ∃ a b : Nat, a < b ∧ b ≤ T ∧ s = ((a : Int), (b : Int))) (hm : ∀ c, c ∈ ks ↔ c ∈ KS) (hne : ks ≠ []) {rows : List (List Nat)}
    (hrows : ∀ row, row ∈ rows ↔ ∃ os ∈ allN T ws ws.length, row = maskR T ws KS os) (m : Nat) : fillL (togB T ws) m ks [] ≠ [] ↔ enoughB (keptB rows) m (List.range KS.length) = true := by
  have h1' : ∀ c ∈ ws, 1 ≤ c.1 := fun c hc => (h1 c hc).1
  have hone : ∀ k ∈ ks, togB T ws [k] = true := fun k hk => by
    obtain ⟨a, b, hab, hb, rfl⟩ := hK k ((hm k).mp hk)
    rw [togB_iff]
    refine (lot_iff h1' fun s hs => ⟨a, b, hab, hb, List.mem_singleton.mp hs⟩).mp ?_
    obtain ⟨os, ho, h⟩ := one_way (T := T) (ws := ws) h1 hab hb
    refine ⟨os, ho, fun s hs => ?_⟩
    rw [List.mem_singleton.mp hs]
    exact h
  rw [enough_iff]
  constructor
  · intro hf
    obtain ⟨q1, q2, q3⟩ := fillL_sound (togB T ws) (many := m) (r := ks) (lots := []) (fun l z => by cases z) hone (Nat.zero_le _) hf
    have : ∀ l ∈ fillL (togB T ws) m ks [], ∃ row : List Nat, row ∈ keptB rows ∧ ∀ (i : Nat) c, KS[i]? = some c → c ∈ l → i ∈ row := fun l hl => by
      have hlK : ∀ s ∈ l, ∃ a b : Nat, a < b ∧ b ≤ T ∧ s = ((a : Int), (b : Int)) := fun s hs => by
        rcases (q3 s).mpr ⟨l, hl, hs⟩ with z | ⟨_, z, _⟩
        · exact hK s ((hm s).mp z)
        · cases z
      obtain ⟨os, ho, h⟩ := (lot_iff h1' hlK).mpr (togB_iff.mp (q1 l hl))
      obtain ⟨o, ho1, ho2⟩ := kept_over (rows := rows) (M := KS.length) (fun r hr => by
        obtain ⟨os, _, rfl⟩ := (hrows r).mp hr
        exact mask_len) KS.length ((hrows _).mpr ⟨os, ho, rfl⟩) (by omega)
      exact ⟨o, ho1, fun i c hi hc => ho2 i ((mask_mem hi).mpr (h c hc))⟩
    obtain ⟨cov, c1, c2, c3⟩ := choose_map this
    refine ⟨cov, by omega, fun r hr => ?_, fun i hi => ?_⟩
    · obtain ⟨l, _, h, _⟩ := c2 r hr
      exact h
    · have hi := List.mem_range.mp hi
      have hg : KS[i]? = some KS[i] := List.getElem?_eq_getElem hi
      obtain ⟨l, hl, hc⟩ := (q3 KS[i]).mp (.inl ((hm _).mpr (List.getElem_mem hi)))
      obtain ⟨row, hr, h⟩ := c3 l hl
      exact ⟨row, hr, h.2 i _ hg hc⟩
  · rintro ⟨cov, c1, c2, c3⟩
    classical
    have hcl : ∀ c ∈ KS, cov.findIdx (fun row => decide (∃ i, KS[i]? = some c ∧ i ∈ row)) < cov.length := fun c hc => by
      obtain ⟨i, hi⟩ := List.getElem?_of_mem hc
      obtain ⟨row, hr, h⟩ := c3 i (List.mem_range.mpr (List.getElem?_eq_some_iff.mp hi).1)
      exact List.findIdx_lt_length_of_exists ⟨row, hr, decide_eq_true ⟨i, hi, h⟩⟩
    refine fillL_complete (togB T ws) (tog_sub h1') (all := KS) (r := ks) (lots := []) (fun c => cov.findIdx fun row => decide (∃ i, KS[i]? = some c ∧ i ∈ row)) (fun k hk => (hm k).mp hk) (fun l z => by cases z) (fun k hk => Nat.lt_of_lt_of_le (hcl k hk) c1) (fun i l z => by cases z) (fun j l hl => ?_) (Nat.zero_le _) (.inr hne)
    cases l with
    | nil =>
      obtain ⟨k, hk⟩ := List.exists_mem_of_ne_nil ks hne
      exact tog_sub h1' [] [k] (fun _ z => by cases z) (hone k hk)
    | cons x r =>
      have hj : j < cov.length := by
        rw [← (hl x List.mem_cons_self).2]
        exact hcl x (hl x List.mem_cons_self).1
      obtain ⟨os, ho, hrow⟩ := (hrows _).mp (kept_mem (c2 _ (List.getElem_mem hj)))
      rw [togB_iff]
      refine (lot_iff h1' fun s hs => hK s (hl s hs).1).mp ⟨os, ho, fun s hs => ?_⟩
      have h2 := (hl s hs).2
      have h3 : (fun row => decide (∃ i, KS[i]? = some s ∧ i ∈ row)) cov[j] = true := by
        have := List.findIdx_getElem (p := fun row => decide (∃ i, KS[i]? = some s ∧ i ∈ row)) (xs := cov) (w := by rw [h2]; exact hj)
        simp only [h2] at this
        exact this
      obtain ⟨i, hi, hir⟩ := of_decide_eq_true h3
      rw [hrow] at hir
      exact (mask_mem hi).mp hir
end K85
end
section
set_option maxRecDepth 100000
set_option maxHeartbeats 4000000
namespace K85
open PySem PySem.Spec PyProof.Rows L2
theorem paired_perm {α β : Type} {R : α → β → Prop} {xs ys : List α} (h : ys.Perm xs) : ∀ {ks : List β}, Paired R xs ks → ∃ ms, Paired R ys ms ∧ ms.Perm ks := by
  induction h with
  | nil =>
    intro ks p
    cases p
    exact ⟨[], .nil, .nil⟩
  | cons x _ ih =>
    intro ks p
    cases p with
    | cons a r =>
      obtain ⟨ms, h1, h2⟩ := ih r
      exact ⟨_ :: ms, .cons a h1, .cons _ h2⟩
  | swap x y l =>
    intro ks p
    cases p with
    | cons a r =>
      cases r with
      | cons b r => exact ⟨_ :: _ :: _, .cons b (.cons a r), .swap _ _ _⟩
  | trans _ _ ih1 ih2 =>
    intro ks p
    obtain ⟨m1, h1, h2⟩ := ih2 p
    obtain ⟨m2, h3, h4⟩ := ih1 h1
    exact ⟨m2, h3, h4.trans h2⟩
/-- the key of one stretch -/
def keyD (n : Int) (c : Int × Int) : PyData := .tuple [.int n, .tuple [.int c.1, .int c.2]]
theorem keyD_alike {n m : Int} {c d : Int × Int} : PySem.W.alike (keyD n c) (keyD m d) = true := by
  unfold keyD
  simp [PySem.W.alike, PySem.W.alikeAll]
theorem all_alike {f : Int × Int → Int} {ks : List (Int × Int)} : PySem.W.AllAlike (ks.map fun c => keyD (f c) c) := fun d hd d' hd' => by
  obtain ⟨c, _, rfl⟩ := List.mem_map.mp hd
  obtain ⟨c', _, rfl⟩ := List.mem_map.mp hd'
  exact keyD_alike
theorem all_sortable {f : Int × Int → Int} {ks : List (Int × Int)} : PySem.W.Sortable (ks.map fun c => keyD (f c) c) := .inl fun d hd => by
  obtain ⟨c, _, rfl⟩ := List.mem_map.mp hd
  exact ⟨_, _, rfl⟩
theorem keyD_depth {f : Int × Int → Int} {ks : List (Int × Int)} : ∀ d ∈ ks.map (fun c => keyD (f c) c), d.depth ≤ 64 := fun d hd => by
  obtain ⟨c, _, rfl⟩ := List.mem_map.mp hd
  unfold keyD
  simp [PyData.depth, PyData.depthAll]
theorem no_bad {ws : List (Int × Int)} {n : Nat} (h : BadCan (ws.map canR) n) : False := by
  obtain ⟨r, h1, h2, h3⟩ := h
  obtain ⟨c, hc, rfl⟩ := List.mem_map.mp (List.mem_of_getElem? h1)
  exact h3 ⟨rfl, rfl⟩
theorem can_one {ws : List (Int × Int)} : OneCan (ws.map canR) := fun r hr => by
  obtain ⟨c, hc, rfl⟩ := List.mem_map.mp hr
  exact ⟨rfl, rfl⟩
theorem same_but {H H' H1 H5 : Hp} {p : Addr} (e : Same H H') (n : H' p = none) (s : Same H' H1) (b : But p H1 H5) : Same H H5 := fun c o h => b c o (s _ _ (e _ _ h)) fun z => by rw [← z, e _ _ h] at n; cases n
theorem PairT.ext {H H' : Hp} (e : LamX.ExtN H H') {x : V} {c : Int × Int} (h : PairT H x c) : PairT H' x c := by
  obtain ⟨t, rfl, h⟩ := h
  exact ⟨t, rfl, e _ _ h fun _ z => by cases z⟩
section
variable {P : Program} {w : World} {K : PySem.W.Frag} {mg : Str → Option Value} {base : Heap}
def spOrd (K : PySem.W.Frag) : Sp := fun vs H Q _ => ∃ (T : Nat) (p : Addr) (ws : List (Int × Int)), vs = [.ref p] ∧ AlmAt K H p T (ws.map canR) ∧ T ≤ 24 ∧ ws.length ≤ 40 ∧ (∀ c ∈ ws, 1 ≤ c.1 ∧ c.1 ≤ c.2 ∧ c.2 ≤ 1000) ∧ (∀ r ∈ ws.map canR, GoodR r) ∧ LamX.Tabs (Tl K) H ∧
  ∀ (l : Addr) ys ks H', LamX.ExtN H H' → LamX.Tabs (Tl K) H' → H' l = some (.lst ys) → Paired (PairT H') ys ks → ks.Perm (keysL (tabR (ws.map canR)) T) → Q (.ref l) H'
end
end K85
end
section
set_option maxRecDepth 100000
set_option maxHeartbeats 4000000
namespace K85
open PySem PySem.Spec PyProof.Rows L2
/-! ### lists of lots as data -/
def dR (rep : List (Int × Int)) : PyData := .list (rep.map dP)
def dW (W : List (List (Int × Int))) : PyData := .list (W.map dR)
theorem dp_reps {K : PySem.W.Frag} {H : Hp} {xs : List V} {W : List (List (Int × Int))} (h : Paired (RepT H) xs W) : DpAll K H xs (W.map dR) := by
  induction h with
  | nil => exact .nil
  | cons a _ ih =>
    obtain ⟨l, ys, rfl, h1, h2⟩ := a
    exact .cons (dp_pairs h1 h2) ih
theorem lay_reps : ∀ W : List (List (Int × Int)), PyData.canLayAll0 (W.map dR) = true
  | [] => by rw [List.map_nil]; unfold PyData.canLayAll0; rfl
  | rep :: r => by
    rw [List.map_cons]
    unfold PyData.canLayAll0
    rw [lay_reps r]
    have : (dR rep).canLay0 = true := lay_pairs rep
    rw [this]
    rfl
theorem dep_reps : ∀ W : List (List (Int × Int)), PyData.depthAll (W.map dR) ≤ 3
  | [] => by rw [List.map_nil]; unfold PyData.depthAll; exact Nat.zero_le _
  | rep :: r => by
    rw [List.map_cons]
    unfold PyData.depthAll
    have h := dep_reps r
    have e : (dR rep).depth ≤ 3 := by
      have := dep_pairall rep
      unfold dR PyData.depth
      omega
    omega
theorem dp_lots {K : PySem.W.Frag} {H : Hp} {p : Addr} {W : List (List (Int × Int))} (h : WeaT H p W) : Dp K H (.ref p) (.list (W.map dR)) := by
  obtain ⟨xs, h1, h2⟩ := h
  exact .lst (SqL.of h1) (dp_reps h2)
theorem shaped_lots (W : List (List (Int × Int))) : SeqAt.shaped (PyData.list (W.map dR)) = true := by
  unfold SeqAt.shaped
  have h := dep_reps W
  have e : (PyData.list (W.map dR)).depth ≤ 64 := by
    unfold PyData.depth
    omega
  have f : (PyData.list (W.map dR)).canLay0 = true := by
    unfold PyData.canLay0
    exact lay_reps W
  rw [f, decide_eq_true e]
  rfl
theorem ne_nil {K : PySem.W.Frag} {H : Hp} {a b : Addr} {W : List (List (Int × Int))} {Q : VK} (h : WeaT H a W) (hb : H b = some (.lst [])) (q : Q (.bl (!W.isEmpty)) H) : rNeD K (.ref a) (.ref b) H Q := by
  refine ⟨_, .list [], dp_lots h, .lst (SqL.of hb) .nil, shaped_lots W, shaped_lots [], ?_⟩
  cases W with
  | nil =>
    have e : (PyData.list (([] : List (List (Int × Int))).map dR)).eqv (.list []) = true := eqv_self (shaped_lots [])
    rw [e]
    exact q
  | cons r W =>
    have e : PyData.eqv (PyData.list ((r :: W).map dR)) (.list []) = false := by
      rw [List.map_cons]
      simp [PyData.eqv, PyData.eqvAll]
    rw [e]
    exact q
theorem some_first {β : Type} {G : Nat → Option β} : ∀ {n i : Nat} {x : β}, i < n → (∀ j, j < i → G j = none) → G i = some x → (List.range n).findSome? G = some x := fun {n i x} hi h0 h1 => by
  rw [List.findSome?_eq_some_iff]
  refine ⟨List.range i, i, (List.range' (i + 1) (n - (i + 1))), ?_, h1, fun j hj => h0 j (List.mem_range.mp hj)⟩
  rw [List.range_eq_range', List.range_eq_range', show n = i + ((n - (i + 1)) + 1) by omega, ← List.range'_append_1, List.range'_succ]
  congr 3 <;> omega
theorem none_all {β : Type} {G : Nat → Option β} {n : Nat} (h : ∀ j, j < n → G j = none) : (List.range n).findSome? G = none := by
  rw [List.findSome?_eq_none_iff]
  exact fun j hj => h j (List.mem_range.mp hj)
section
variable {P : Program} {w : World} {K : PySem.W.Frag} {mg : Str → Option Value} {base : Heap}
def spFill (K : PySem.W.Frag) (n : Nat) : Sp := fun vs H Q _ => ∃ (T many at_ : Nat) (p kl lo : Addr) (ws KS : List (Int × Int)) (ksv : List V) (LS : List (List (Int × Int))), vs = [.ref p, .ref kl, .int at_, .ref lo, .int many] ∧ AlmAt K H p T (ws.map canR) ∧ H kl = some (.lst ksv) ∧ Paired (PairT H) ksv KS ∧ WeaT H lo LS ∧ at_ + n = KS.length ∧ KS.length ≤ 600 ∧ LS.length + n ≤ 700 ∧ (∀ l ∈ LS, l.length + n ≤ 700) ∧ T ≤ 24 ∧ ws.length ≤ 40 ∧ (∀ c ∈ ws, 1 ≤ c.1 ∧ c.1 ≤ c.2 ∧ c.2 ≤ 1000) ∧
  ∀ v H', Same H H' → WeaT H' v (fillL (togB T ws) many (KS.drop at_) LS) → Q (.ref v) H'
def spFillU (K : PySem.W.Frag) (m : Nat) : Sp := fun vs H Q E => ∃ n, n ≤ m ∧ spFill K n vs H Q E
end
end K85
end
section
set_option maxRecDepth 100000
set_option maxHeartbeats 4000000
namespace K85
open PySem PySem.Spec PyProof.Rows L2
theorem AlmAt.ext {K : PySem.W.Frag} {H H' : Hp} {p : Addr} {d : Int} {rs : List Q4} (e : LamX.ExtN H H') (h : AlmAt K H p d rs) : AlmAt K H' p d rs := by
  obtain ⟨dx, l, xs, h1, h2, h3⟩ := h
  exact ⟨dx, l, xs, e _ _ h1 (fun _ z => by cases z), e _ _ h2 (fun _ z => by cases z), Paired.mapP h3 fun _ _ ⟨t, e1, h⟩ => ⟨t, e1, e _ _ h fun _ z => by cases z⟩⟩
/-- the weather that a lot tells -/
def lotW (T : Nat) (ws lot : List (Int × Int)) : List (List (Int × Int)) := wayR T ((ws.map (freeD T lot)).map (optOf T)) ws.length
/-- the fewest trials of these keys -/
def FewL (T : Nat) (ws ks : List (Int × Int)) (Ws : List (List (List (Int × Int)))) : Prop :=
  (∃ m, 1 ≤ m ∧ m ≤ ks.length ∧ fillL (togB T ws) m ks [] ≠ [] ∧ (∀ j, 1 ≤ j → j < m → fillL (togB T ws) j ks [] = []) ∧ Ws = (fillL (togB T ws) m ks []).map (lotW T ws)) ∨ ((∀ j, 1 ≤ j → j ≤ ks.length → fillL (togB T ws) j ks [] = []) ∧ Ws = [])
theorem fillL_len {α : Type} {tog : List α → Bool} {many B : Nat} : ∀ {r : List α} {lots : List (List α)}, (∀ l ∈ lots, l.length + r.length ≤ B) → r.length ≤ B → ∀ l ∈ fillL tog many r lots, l.length ≤ B
  | [], lots, h, _, l, hl => by
    have := h l hl
    exact Nat.le_trans (Nat.le_add_right _ _) this
  | k :: r, lots, h, hr, l, hl => by
    rw [List.length_cons] at hr
    have h' : ∀ l ∈ lots, l.length + r.length ≤ B := fun l hl => by
      have := h l hl
      rw [List.length_cons] at this
      omega
    rw [fillL] at hl
    split at hl
    · rename_i ls e
      obtain ⟨i, hi, e2⟩ := List.exists_of_findSome?_eq_some e
      have hi := List.mem_range.mp hi
      unfold tryL at e2
      split at e2
      · split at e2
        · cases e2
        · rename_i e3
          cases e2
          rw [← e3] at hl
          refine fillL_len (fun l hl => ?_) (by omega) l hl
          rcases List.mem_or_eq_of_mem_set hl with z | rfl
          · exact h' l z
          · have gd : lots.getD i [] = lots[i] := by rw [List.getD_eq_getElem?_getD, List.getElem?_eq_getElem hi]; rfl
            have := h _ (List.getElem_mem hi)
            rw [List.length_cons] at this
            rw [gd, List.length_append]
            show lots[i].length + 1 + r.length ≤ B
            omega
      · cases e2
    · split at hl
      · refine fillL_len (fun l hl => ?_) (by omega) l hl
        rcases List.mem_append.mp hl with z | z
        · exact h' l z
        · rw [List.mem_singleton.mp z]
          show 1 + r.length ≤ B
          omega
      · cases hl
theorem one_tog {T : Nat} {ws : List (Int × Int)} {k : Int × Int} (hcb : ∀ c ∈ ws, 1 ≤ c.1 ∧ c.1 ≤ c.2 ∧ c.2 ≤ 1000) (hk : ∃ a b : Nat, a < b ∧ b ≤ T ∧ k = ((a : Int), (b : Int))) : togB T ws [k] = true := by
  obtain ⟨a, b, hab, hb, rfl⟩ := hk
  rw [togB_iff]
  refine (lot_iff (fun c hc => (hcb c hc).1) fun s hs => ⟨a, b, hab, hb, List.mem_singleton.mp hs⟩).mp ?_
  obtain ⟨os, ho, h⟩ := one_way (T := T) (ws := ws) (fun c hc => ⟨(hcb c hc).1, (hcb c hc).2.1⟩) hab hb
  refine ⟨os, ho, fun s hs => ?_⟩
  rw [List.mem_singleton.mp hs]
  exact h
theorem keysL_mem {M : Nat → Nat → Int} {T : Nat} {c : Int × Int} (h : c ∈ keysL M T) : ∃ a b : Nat, a < b ∧ b ≤ T ∧ c = ((a : Int), (b : Int)) := strL_mem (List.mem_filter.mp h).1
section
variable {P : Program} {w : World} {K : PySem.W.Frag} {mg : Str → Option Value} {base : Heap}
def spTri (K : PySem.W.Frag) : Sp := fun vs H Q E => ∃ (T : Nat) (p : Addr) (rs : List Q4), vs = [.ref p] ∧ AlmAt K H p T rs ∧ T ≤ 24 ∧ rs.length ≤ 40 ∧ (∀ r ∈ rs, GoodR r) ∧ LamX.Tabs (Tl K) H ∧ (6 < T → Rz E H (cTM K) "what" (.str "trials")) ∧ (T ≤ 6 → 6 < rs.length → Rz E H (cTM K) "what" (.str "trials")) ∧
  (T ≤ 6 → rs.length ≤ 6 → ∀ n, BadCan rs n → Rz E H (cSk K) "row" (.int ((n : Int) + 1))) ∧
  (T ≤ 6 → rs.length ≤ 6 → ∀ ws, rs = ws.map canR → (∀ c ∈ ws, 1 ≤ c.1 ∧ c.1 ≤ c.2 ∧ c.2 ≤ 1000) ∧ ∀ (l : Addr) ys ks Ws H', LamX.ExtN H H' → LamX.Tabs (Tl K) H' → ks.Perm (keysL (tabR rs) T) → (∀ xs, H l ≠ some (.lst xs)) → H' l = some (.lst ys) → Paired (fun x W => ∃ a, x = .ref a ∧ WeaT H' a W) ys Ws → FewL T ws ks Ws → Q (.ref l) H')
end
end K85
end
section
set_option maxRecDepth 100000
set_option maxHeartbeats 4000000
namespace K85
open PySem PySem.Spec PyProof.Rows L2
section
variable {P : Program} {w : World} {K : PySem.W.Frag} {mg : Str → Option Value} {base : Heap}
theorem mn_gen {k : Nat} {sp0 : Sp} {R : Hp → V → V → Prop} (T : Txt w K mg) (ok__law_matches : Txt w K mg → Ok P w K mg base CX0 k "_law_matches" ["answer", "due"] sp0) (hR : ∀ H v u Q, R H v u → (∀ H', Same H H' → Q (.bl true) H') → sp0 [v, u] H Q E0)
    (hS : ∀ H H' v u, Same H H' → R H v u → R H' v u) : Ok P w K mg base CX0 (k + 1) "_law_matches" ["answer", "due"] (spMt fun H v u => LeafN v u ∨ Comp R H v u) := by
  refine Ok.def0 (f__law_matches T) (fun _ _ _ _ _ _ us hl => match us, hl with | [_, _], _ => rfl) sc__law_matches (fun vs H Q E h => ?_) (fun f cdv A outer s H vs Q E hr h => ?_)
  · obtain ⟨v, u, rfl, _⟩ := h
    rfl
  · obtain ⟨v, u, rfl, h, q⟩ := h
    refine ⟨_, (pss_cons (ps_if (PW.pt (pw_or (pt_cmpR op_isN (pv 1) pe_non (nomark _)) (pw_or1 (pt_cmpR op_isN (pv 0) pe_non (nomark _))))) (pss_one (ps_ret (pe_and (pe_cmpR op_isN (pv 1) pe_non (nomark _)) (pe_one (pe_cmpR op_isN (pv 0) pe_non (nomark _)))))) pss_nil)
      (pss_cons (ps_if (PW.pt (pw_or (pt_val (pe_callB (isiK (K := K) rfl) rfl (n_isinstance T) (by decide +kernel) (pa_cons (pv 1) (pa_cons (pe_bltn (v := .ty "bool") (u := .type "bool") rfl (n_bool T) (by decide +kernel) rfl) pa_nil)))) (pw_or1 (pt_val (pe_callB (isiK (K := K) rfl) rfl (n_isinstance T) (by decide +kernel) (pa_cons (pv 0) (pa_cons (pe_bltn (v := .ty "bool") (u := .type "bool") rfl (n_bool T) (by decide +kernel) rfl) pa_nil))))))) (pss_one (ps_ret (pe_and (pe_callB (isiK (K := K) rfl) rfl (n_isinstance T) (by decide +kernel) (pa_cons (pv 1) (pa_cons (pe_bltn (v := .ty "bool") (u := .type "bool") rfl (n_bool T) (by decide +kernel) rfl) pa_nil))) (pe_and (pe_callB (isiK (K := K) rfl) rfl (n_isinstance T) (by decide +kernel) (pa_cons (pv 0) (pa_cons (pe_bltn (v := .ty "bool") (u := .type "bool") rfl (n_bool T) (by decide +kernel) rfl) pa_nil))) (pe_one (pe_cmpR op_eq (pv 0) (pv 1) (nomark _))))))) pss_nil)
      (pss_cons (ps_if (pt_val (pe_callB (isiK (K := K) rfl) rfl (n_isinstance T) (by decide +kernel) (pa_cons (pv 1) (pa_cons (pe_bltn (v := .ty "int") (u := .type "int") rfl (n_int T) (by decide +kernel) rfl) pa_nil)))) (pss_one (ps_ret (pe_and (pe_callB (isiK (K := K) rfl) rfl (n_isinstance T) (by decide +kernel) (pa_cons (pv 0) (pa_cons (pe_bltn (v := .ty "int") (u := .type "int") rfl (n_int T) (by decide +kernel) rfl) pa_nil))) (pe_one (pe_cmpR op_eq (pv 0) (pv 1) (nomark _)))))) pss_nil)
      (pss_cons (ps_if (pt_val (pe_callB (isiK (K := K) rfl) rfl (n_isinstance T) (by decide +kernel) (pa_cons (pv 1) (pa_cons (pe_bltn (v := .ty "str") (u := .type "str") rfl (n_str T) (by decide +kernel) rfl) pa_nil)))) (pss_one (ps_ret (pe_and (pe_callB (isiK (K := K) rfl) rfl (n_isinstance T) (by decide +kernel) (pa_cons (pv 0) (pa_cons (pe_bltn (v := .ty "str") (u := .type "str") rfl (n_str T) (by decide +kernel) rfl) pa_nil))) (pe_one (pe_cmpR op_eq (pv 0) (pv 1) (nomark _)))))) pss_nil)
      (pss_cons (ps_if (pt_val (pe_callB (isiK (K := K) rfl) rfl (n_isinstance T) (by decide +kernel) (pa_cons (pv 1) (pa_cons (pe_bltn (v := .ty "dict") (u := .type "dict") rfl (n_dict T) (by decide +kernel) rfl) pa_nil)))) (pss_cons (ps_if (PW.pt (pw_or (pt_not (pt_val (pe_callB (isiK (K := K) rfl) rfl (n_isinstance T) (by decide +kernel) (pa_cons (pv 0) (pa_cons (pe_bltn (v := .ty "dict") (u := .type "dict") rfl (n_dict T) (by decide +kernel) rfl) pa_nil))))) (pw_or1 (pt_cmpR op_ne (pe_callB (len_seqK (K := K) rfl) rfl (n_len T) (by decide +kernel) (pa_cons (pv 0) pa_nil)) (pe_callB (len_seqK (K := K) rfl) rfl (n_len T) (by decide +kernel) (pa_cons (pv 1) pa_nil)) (nomark _))))) (pss_one (ps_ret pe_bl)) pss_nil)
      (pss_cons (ps_for PassesOwn.never rfl (pi_listK (K := K) rfl (pe_callTy (list_ofK (K := K) rfl) rfl (n_list T) (by decide +kernel) (pa_cons (pv 1) pa_nil))) (pg_name (i := 2) sc__law_matches.nd rfl (by first | exact Or.inl rfl | exact Or.inr rfl))
        (pss_one (ps_if (PW.pt (pw_or (pt_cmpR (notInK (K := K) rfl) (pv 2) (pv 0) (by with_unfolding_all rfl)) (pw_or1 (pt_not (pt_val (pe_ok (ok__law_matches T) (hr.mono (by first | decide | omega)) rfl pass0 (pa_cons (pe_ix (ix_seqK (K := K) rfl) (pv 0) (pv 2) (fun _ _ => rfl)) (pa_cons (pe_ix (ix_seqK (K := K) rfl) (pv 1) (pv 2) (fun _ _ => rfl)) pa_nil)))))))) (pss_one (ps_ret pe_bl)) pss_nil)))
      (pss_one (ps_ret pe_bl)))) pss_nil)
      (pss_cons (ps_if (PW.pt (pw_and (pt_val (pe_callB (isiK (K := K) rfl) rfl (n_isinstance T) (by decide +kernel) (pa_cons (pv 1) (pa_cons (pe_bltn (v := .ty "tuple") (u := .type "tuple") rfl (n_tuple T) (by decide +kernel) rfl) pa_nil)))) (pw_and1 (pt_not (pt_val (pe_callB (isiK (K := K) rfl) rfl (n_isinstance T) (by decide +kernel) (pa_cons (pv 0) (pa_cons (pe_bltn (v := .ty "tuple") (u := .type "tuple") rfl (n_tuple T) (by decide +kernel) rfl) pa_nil)))))))) (pss_one (ps_ret pe_bl)) pss_nil)
      (pss_cons (ps_if (PW.pt (pw_and (pt_val (pe_callB (isiK (K := K) rfl) rfl (n_isinstance T) (by decide +kernel) (pa_cons (pv 1) (pa_cons (pe_bltn (v := .ty "list") (u := .type "list") rfl (n_list T) (by decide +kernel) rfl) pa_nil)))) (pw_and1 (pt_not (pt_val (pe_callB (isiK (K := K) rfl) rfl (n_isinstance T) (by decide +kernel) (pa_cons (pv 0) (pa_cons (pe_bltn (v := .ty "list") (u := .type "list") rfl (n_list T) (by decide +kernel) rfl) pa_nil)))))))) (pss_one (ps_ret pe_bl)) pss_nil)
      (pss_cons (ps_if (pt_cmpR op_ne (pe_callB (len_seqK (K := K) rfl) rfl (n_len T) (by decide +kernel) (pa_cons (pv 0) pa_nil)) (pe_callB (len_seqK (K := K) rfl) rfl (n_len T) (by decide +kernel) (pa_cons (pv 1) pa_nil)) (nomark _)) (pss_one (ps_ret pe_bl)) pss_nil)
      (pss_cons (ps_for PassesOwn.never rfl (pi_range1 rfl (n_range T) (pa_cons (pe_callB (len_seqK (K := K) rfl) rfl (n_len T) (by decide +kernel) (pa_cons (pv 1) pa_nil)) pa_nil)) (pg_name (i := 3) sc__law_matches.nd rfl (by first | exact Or.inl rfl | exact Or.inr rfl))
        (pss_one (ps_if (pt_not (pt_val (pe_ok (ok__law_matches T) (hr.mono (by first | decide | omega)) rfl pass0 (pa_cons (pe_ix (ix_seqK (K := K) rfl) (pv 0) (pv 3) (fun _ _ => rfl)) (pa_cons (pe_ix (ix_seqK (K := K) rfl) (pv 1) (pv 3) (fun _ _ => rfl)) pa_nil))))) (pss_one (ps_ret pe_bl)) pss_nil)))
      (pss_one (ps_ret pe_bl))))))))))), ?_⟩
    rcases h with h | h
    · rcases h with ⟨rfl, rfl⟩ | ⟨n, rfl, rfl⟩ | ⟨z, rfl, rfl⟩
      · refine ⟨_, rfl, rfl, _, rfl, iteT ⟨_, rfl, rfl, _, rfl, iteT ⟨_, rfl, rfl, ?_⟩⟩⟩
        rw [decide_eq_true rfl]
        exact q _ (Same.refl _)
      · refine ⟨_, rfl, rfl, _, rfl, iteF ⟨_, rfl, rfl, _, rfl, iteF ?_⟩⟩
        refine ⟨_, rfl, ⟨_, _, _, _, _, rfl, .ty _, tx_int _, k_ib, _, rfl, iteF ⟨_, rfl, ⟨_, _, _, _, _, rfl, .ty _, tx_int _, k_ib, _, rfl, iteF ?_⟩⟩⟩⟩
        refine ⟨_, rfl, ⟨_, _, _, _, _, rfl, .ty _, tx_int _, k_ii, _, rfl, iteT ⟨_, rfl, ⟨_, _, _, _, _, rfl, .ty _, tx_int _, k_ii, _, rfl, iteT ⟨_, rfl, _, rfl, rfl, ?_⟩⟩⟩⟩⟩
        rw [decide_eq_true rfl]
        exact q _ (Same.refl _)
      · refine ⟨_, rfl, rfl, _, rfl, iteF ⟨_, rfl, rfl, _, rfl, iteF ?_⟩⟩
        refine ⟨_, rfl, ⟨_, _, _, _, _, rfl, .ty _, tx_str _, k_sb, _, rfl, iteF ⟨_, rfl, ⟨_, _, _, _, _, rfl, .ty _, tx_str _, k_sb, _, rfl, iteF ?_⟩⟩⟩⟩
        refine ⟨_, rfl, ⟨_, _, _, _, _, rfl, .ty _, tx_str _, k_si, _, rfl, iteF ?_⟩⟩
        refine ⟨_, rfl, ⟨_, _, _, _, _, rfl, .ty _, tx_str _, k_ss, _, rfl, iteT ⟨_, rfl, ⟨_, _, _, _, _, rfl, .ty _, tx_str _, k_ss, _, rfl, iteT ⟨_, rfl, _, rfl, rfl, ?_⟩⟩⟩⟩⟩
        rw [decide_eq_true rfl]
        exact q _ (Same.refl _)
    · obtain ⟨a, b, xs, ys, rfl, rfl, h, hl, hz, hr⟩ := h
      refine ⟨_, rfl, rfl, _, rfl, iteF ⟨_, rfl, rfl, _, rfl, iteF ?_⟩⟩
      rcases h with ⟨ha, hb⟩ | ⟨ha, hb⟩
      · refine ⟨_, rfl, ⟨_, _, _, _, _, rfl, .ty _, tx_lst hb, k_lb, _, rfl, iteF ⟨_, rfl, ⟨_, _, _, _, _, rfl, .ty _, tx_lst ha, k_lb, _, rfl, iteF ?_⟩⟩⟩⟩
        refine ⟨_, rfl, ⟨_, _, _, _, _, rfl, .ty _, tx_lst hb, k_li, _, rfl, iteF ?_⟩⟩
        refine ⟨_, rfl, ⟨_, _, _, _, _, rfl, .ty _, tx_lst hb, k_ls, _, rfl, iteF ?_⟩⟩
        refine ⟨_, rfl, ⟨_, _, _, _, _, rfl, .ty _, tx_lst hb, k_ld, _, rfl, iteF ?_⟩⟩
        refine ⟨_, rfl, ⟨_, _, _, _, _, rfl, .ty _, tx_lst hb, k_lt, _, rfl, iteF ?_⟩⟩
        refine ⟨_, rfl, ⟨_, _, _, _, _, rfl, .ty _, tx_lst hb, k_ll, _, rfl, iteT ⟨_, rfl, ⟨_, _, _, _, _, rfl, .ty _, tx_lst ha, k_ll, _, rfl, iteF ?_⟩⟩⟩⟩
        refine ⟨_, rfl, _, _, rfl, .inl (SqL.of ha), _, rfl, _, _, rfl, .inl (SqL.of hb), rfl, _, rfl, ?_⟩
        rw [hl, decide_eq_true rfl]
        refine iteF ⟨_, rfl, _, _, rfl, .inl (SqL.of hb), _, rfl, by omega, by omega, for_upto (lo := 0) (L := ys.length) (by omega) (fun i σ H' => ∃ v3, σ = [some (.ref a), some (.ref b), none, v3] ∧ Same H H') ⟨none, rfl, Same.refl H⟩ ?_ ?_⟩
        · rintro i σ H' hi ⟨v3, rfl, e⟩
          obtain ⟨x, hx⟩ : ∃ x, xs[i]? = some x := ⟨xs[i]'(by omega), List.getElem?_eq_getElem _⟩
          obtain ⟨y, hy⟩ : ∃ y, ys[i]? = some y := ⟨ys[i], List.getElem?_eq_getElem _⟩
          refine ⟨_, rfl, _, rfl, .inl ⟨a, _, _, _, rfl, rfl, e.seq (SqL.of ha), at_of (by omega) hx, _, rfl, _, rfl, .inl ⟨b, _, _, _, rfl, rfl, e.seq (SqL.of hb), at_of (by omega) hy, ?_⟩⟩⟩
          exact hR _ _ _ _ (hS _ _ _ _ e (hr i x y hx hy)) fun H2 s2 => ⟨_, rfl, _, rfl, e.trans s2⟩
        · rintro σ H' ⟨v3, rfl, e⟩
          exact q _ e
      · refine ⟨_, rfl, ⟨_, _, _, _, _, rfl, .ty _, tx_tup hb, k_tb, _, rfl, iteF ⟨_, rfl, ⟨_, _, _, _, _, rfl, .ty _, tx_tup ha, k_tb, _, rfl, iteF ?_⟩⟩⟩⟩
        refine ⟨_, rfl, ⟨_, _, _, _, _, rfl, .ty _, tx_tup hb, k_ti, _, rfl, iteF ?_⟩⟩
        refine ⟨_, rfl, ⟨_, _, _, _, _, rfl, .ty _, tx_tup hb, k_ts, _, rfl, iteF ?_⟩⟩
        refine ⟨_, rfl, ⟨_, _, _, _, _, rfl, .ty _, tx_tup hb, k_td, _, rfl, iteF ?_⟩⟩
        refine ⟨_, rfl, ⟨_, _, _, _, _, rfl, .ty _, tx_tup hb, k_tt, _, rfl, iteT ⟨_, rfl, ⟨_, _, _, _, _, rfl, .ty _, tx_tup ha, k_tt, _, rfl, iteF ?_⟩⟩⟩⟩
        refine ⟨_, rfl, ⟨_, _, _, _, _, rfl, .ty _, tx_tup hb, k_tl, _, rfl, iteF ?_⟩⟩
        refine ⟨_, rfl, _, _, rfl, .inr (SqT.of ha), _, rfl, _, _, rfl, .inr (SqT.of hb), rfl, _, rfl, ?_⟩
        rw [hl, decide_eq_true rfl]
        refine iteF ⟨_, rfl, _, _, rfl, .inr (SqT.of hb), _, rfl, by omega, by omega, for_upto (lo := 0) (L := ys.length) (by omega) (fun i σ H' => ∃ v3, σ = [some (.ref a), some (.ref b), none, v3] ∧ Same H H') ⟨none, rfl, Same.refl H⟩ ?_ ?_⟩
        · rintro i σ H' hi ⟨v3, rfl, e⟩
          obtain ⟨x, hx⟩ : ∃ x, xs[i]? = some x := ⟨xs[i]'(by omega), List.getElem?_eq_getElem _⟩
          obtain ⟨y, hy⟩ : ∃ y, ys[i]? = some y := ⟨ys[i], List.getElem?_eq_getElem _⟩
          refine ⟨_, rfl, _, rfl, .inr (.inl ⟨a, _, _, _, rfl, rfl, e.tup (SqT.of ha), at_of (by omega) hx, _, rfl, _, rfl, .inr (.inl ⟨b, _, _, _, rfl, rfl, e.tup (SqT.of hb), at_of (by omega) hy, ?_⟩)⟩)⟩
          exact hR _ _ _ _ (hS _ _ _ _ e (hr i x y hx hy)) fun H2 s2 => ⟨_, rfl, _, rfl, e.trans s2⟩
        · rintro σ H' ⟨v3, rfl, e⟩
          exact q _ e
theorem ok_mn0 (T : Txt w K mg) : Ok P w K mg base CX0 1 "_law_matches" ["answer", "due"] (spMt (MtN 0)) :=
  (mn_gen (k := 0) (sp0 := fun _ _ _ _ => False) (R := fun _ _ _ => False) T (fun T => Ok.never (f__law_matches T) (fun _ _ _ _ _ _ us hl => match us, hl with | [_, _], _ => rfl)) (fun _ _ _ _ h _ => h.elim) (fun _ _ _ _ _ h => h)).imp fun vs H Q E ⟨v, u, e, h, q⟩ => ⟨v, u, e, .inl h, q⟩
theorem ok_mn1 (T : Txt w K mg) : Ok P w K mg base CX0 2 "_law_matches" ["answer", "due"] (spMt (MtN 1)) :=
  mn_gen (k := 1) T (fun T => ok_mn0 T) (fun _ v u _ h q => ⟨v, u, rfl, h, q⟩) (fun _ _ _ _ e h => MtN.same (k := 0) e h)
theorem ok_mn2 (T : Txt w K mg) : Ok P w K mg base CX0 3 "_law_matches" ["answer", "due"] (spMt (MtN 2)) :=
  mn_gen (k := 2) T (fun T => ok_mn1 T) (fun _ v u _ h q => ⟨v, u, rfl, h, q⟩) (fun _ _ _ _ e h => MtN.same (k := 1) e h)
theorem ok_mn3 (T : Txt w K mg) : Ok P w K mg base CX0 4 "_law_matches" ["answer", "due"] (spMt (MtN 3)) :=
  mn_gen (k := 3) T (fun T => ok_mn2 T) (fun _ v u _ h q => ⟨v, u, rfl, h, q⟩) (fun _ _ _ _ e h => MtN.same (k := 2) e h)
end
end K85
end
section
set_option maxRecDepth 100000
set_option maxHeartbeats 4000000
namespace K85
open PySem PySem.Spec PyProof.Rows L2
def WeaV (H : Hp) (y : V) (W : List (List (Int × Int))) : Prop := ∃ a, y = .ref a ∧ WeaT H a W
theorem WeaV.same {H H' : Hp} (e : Same H H') {y : V} {W : List (List (Int × Int))} (h : WeaV H y W) : WeaV H' y W := by
  obtain ⟨a, rfl, h⟩ := h
  exact ⟨a, rfl, h.same e⟩
theorem wrong_or {rs : List Q4} {T : Nat} {W : List (List (Int × Int))} : wrongOf rs T W = -1 ∨ 0 ≤ wrongOf rs T W := by
  have := firstBad_nn rs W (k := 1) (g := []) (by omega)
  unfold wrongOf
  split
  · split
    · exact .inl rfl
    · exact .inr this
  · exact .inr (by omega)
theorem right_len {rs : List Q4} {T : Nat} {W : List (List (Int × Int))} (h : wrongOf rs T W = -1) : W.length = T ∧ firstBad rs 1 [] W = 0 := by
  have := firstBad_nn rs W (k := 1) (g := []) (by omega)
  unfold wrongOf at h
  split at h
  · split at h
    · exact ⟨by assumption, by assumption⟩
    · omega
  · omega
def undS (ws : List (Int × Int)) (ks : List (Int × Int)) (Ws : List (List (List (Int × Int)))) : List (Int × Int) := ks.filter fun c => Ws.all fun W => !isT ws W c.1.toNat c.2.toNat
section
variable {P : Program} {w : World} {K : PySem.W.Frag} {mg : Str → Option Value} {base : Heap}
def spUndS : Sp := fun vs H Q _ => ∃ (T : Nat) (sl kl wl : Addr) (xs ksv ys : List V) (ws ks : List (Int × Int)) (Ws : List (List (List (Int × Int)))), vs = [.ref sl, .ref kl, .ref wl] ∧ H sl = some (.lst xs) ∧ Paired (PairT H) xs ws ∧ H kl = some (.lst ksv) ∧ Paired (PairT H) ksv ks ∧ H wl = some (.lst ys) ∧ Paired (WeaV H) ys Ws ∧ Ws.length ≤ 90000 ∧ T ≤ 24 ∧
  (∀ c ∈ ks, ∃ a b : Nat, a < b ∧ b ≤ T ∧ c = ((a : Int), (b : Int))) ∧ (∀ W ∈ Ws, wrongOf (ws.map canR) T W = -1) ∧ (undS ws ks Ws = [] → ∀ H', Same H H' → Q .non H') ∧ ∀ c r x H', undS ws ks Ws = c :: r → Same H H' → PairT H' x c → Q x H'
theorem ok__law_undecided (T : Txt w K mg) : Ok P w K mg base CX0 2 "_law_undecided" ["spans", "keys", "weathers"] spUndS := by
  refine Ok.def0 (f__law_undecided T) (fun _ _ _ _ _ _ us hl => match us, hl with | [_, _, _], _ => rfl) sc__law_undecided (fun vs H Q E h => ?_) (fun f cdv A outer s H vs Q E hr h => ?_)
  · obtain ⟨TT, sl, kl, wl, xs, ksv, ys, ws, ks, Ws, rfl, _⟩ := h
    rfl
  · obtain ⟨TT, sl, kl, wl, xs, ksv, ys, ws, ks, Ws, rfl, hsl, hX, hkl, hK, hwl, hY, hz, hT, hks, hWs, k0, k1⟩ := h
    refine ⟨_, (pss_cons (ps_for PassesOwn.never rfl (pi_listK (K := K) rfl (pv 1)) (pg_tupK (K := K) (n := 2) rfl rfl (pgs_cons (pg_name (i := 3) sc__law_undecided.nd rfl (by first | exact Or.inl rfl | exact Or.inr rfl)) (pgs_cons (pg_name (i := 4) sc__law_undecided.nd rfl (by first | exact Or.inl rfl | exact Or.inr rfl)) pgs_nil)))
        (pss_one (ps_if (pt_cmpR op_eq (pe_callB (len_seqK (K := K) rfl) rfl (n_len T) (by decide +kernel) (pa_cons (pe_lc (own := [("weather", 5)]) rfl sc__law_undecided.nd (pi_listK (K := K) rfl (pv 2)) (blkOk_by (N := ["spans", "keys", "weathers", "a", "b", "weather"]) (sc := defScope s__law_undecided) (by decide +kernel)) (fun _ _ _ _ _ => (pg_name (i := 5) sc__law_undecided.nd rfl (by first | exact Or.inl rfl | exact Or.inr rfl))) (fun _ _ _ _ _ => pts_one (pt_val (pe_ok (ok__law_is_tight T) (hr.mono (by first | decide | omega)) rfl pass0 (pa_cons (pv 0) (pa_cons (pv 5) (pa_cons (pv 3) (pa_cons (pv 4) pa_nil))))))) (fun _ _ _ _ _ => (pv 5))) pa_nil)) pe_int (nomark _)) (pss_one (ps_ret (pe_tup (pa_cons (pv 3) (pa_cons (pv 4) pa_nil))))) pss_nil)))
      (pss_one (ps_ret pe_non))), ?_⟩
    have hyl : ys.length = Ws.length := Paired.length hY
    refine ⟨_, rfl, kl, rfl, ⟨_, SqL.of hkl⟩, for_list (K := K) (a := kl) (xs := ksv) (fun i σ H' => ∃ v3 v4, σ = [some (.ref sl), some (.ref kl), some (.ref wl), v3, v4, none] ∧ Same H H' ∧ undS ws (ks.take i) Ws = []) ⟨_, _, rfl, Same.refl _, rfl⟩ (fun _ _ _ _ ⟨_, _, _, e, _⟩ => SqL.of (e _ _ hkl)) ?_ ?_⟩
    · rintro i x σ H2 hx ⟨v3, v4, rfl, e2, hno⟩
      obtain ⟨c, hc, hr⟩ := paired_get hK hx
      have hr := hr.same e2
      obtain ⟨a, b, hab, hb, rfl⟩ := hks c (List.mem_of_getElem? hc)
      refine hr.un rfl ?_
      refine ⟨_, rfl, wl, rfl, ⟨_, SqL.of (e2 _ _ hwl)⟩, fun B hB => lc_count (K := K) (a := wl) (xs := ys) (R := WeaV) (ds := Ws) (p := fun W => isT ws W a b) hB (e2 _ _ hwl) (Paired.mapP hY fun _ _ z => z.same e2) (by omega) ?_ ?_⟩
      · intro j y W H4 N N0 hy hW hwy s4 hN hN0
        obtain ⟨aw, rfl, hWt⟩ := hwy
        have e4 := e2.trans s4
        obtain ⟨hWl, hfb⟩ := right_len (hWs W (List.mem_of_getElem? hW))
        refine gnE ⟨rfl, ?_⟩
        refine ⟨_, rfl, _, rfl, _, rfl, _, rfl, sl, aw, xs, ws, W, a, b, rfl, e4 _ _ hsl, Paired.mapP hX fun _ _ z => z.same e4, hWt.same s4, by omega, by omega, by omega, fun rep hrep c' hc' => ?_, fun H5 s5 => ⟨_, rfl, ?_⟩⟩
        · obtain ⟨q, hq⟩ := List.getElem?_of_mem hrep
          have := (first_ok (Int.le_refl 1) hfb List.nodup_nil).2.1 q rep hq c' hc'
          rw [List.length_map] at this
          exact ⟨this.1, this.2.1⟩
        · cases q : isT ws W a b with
          | false => exact hN0 _ s5 q
          | true => exact ⟨_, rfl, hN _ s5 q⟩
      · intro bs H4 s4 hbs hbl _
        have ein : (Ws.filter fun W => isT ws W a b).length = 0 ↔ (Ws.all fun W => !isT ws W a b) = true := filter_len0
        refine ⟨_, _, rfl, .inl (SqL.of hbs), rfl, _, rfl, ite2 (fun q => ?_) (fun q => ?_)⟩
        · have q := V.int.inj (of_decide_eq_true q)
          have q : bs.length = 0 := by omega
          rw [hbl] at q
          have hall := ein.mp q
          have hU : undS ws ks Ws = ((a : Int), (b : Int)) :: undS ws (ks.drop (i + 1)) Ws := by
            have e1 : ks = ks.take i ++ ks.drop i := (List.take_append_drop i ks).symm
            unfold undS at hno ⊢
            rw [e1, List.filter_append, hno, drop_get hc, List.filter_cons]
            show (if (Ws.all fun W => !isT ws W a b) = true then _ else _) = _
            rw [if_pos hall]
            have : (List.take i ks ++ ((a : Int), (b : Int)) :: List.drop (i + 1) ks).drop (i + 1) = ks.drop (i + 1) := by
              rw [← drop_get hc, ← e1]
            rw [this]
          refine ⟨_, rfl, _, rfl, (by show 2 ≤ sizeLine; decide), fun t ht => ?_⟩
          obtain ⟨s5, g5⟩ := new2 (.tup [.int (a : Int), .int (b : Int)]) ht
          exact k1 _ _ (.ref t) _ hU (e2.trans (s4.trans s5)) ⟨t, rfl, g5⟩
        · have q : ¬ bs.length = 0 := fun y => q (decide_eq_true (by rw [y]; rfl))
          rw [hbl] at q
          refine ⟨_, _, rfl, e2.trans s4, ?_⟩
          unfold undS at hno ⊢
          rw [take_get hc, List.filter_append, hno, List.filter_cons]
          show [] ++ (if (Ws.all fun W => !isT ws W a b) = true then _ else _) = _
          rw [if_neg (fun y => q (ein.mpr y))]
          rfl
    · rintro σ H2 ⟨v3, v4, rfl, e2, hno⟩
      rw [Paired.length hK, List.take_length] at hno
      exact k0 hno H2 e2
def spWhole : Sp := fun vs H Q _ => ∃ n, vs = [.int n] ∧ Q (.bl true) H
theorem ok__law_whole (T : Txt w K mg) : Ok P w K mg base CX0 1 "_law_whole" ["thing"] spWhole := by
  refine Ok.def0 (f__law_whole T) (fun _ _ _ _ _ _ us hl => match us, hl with | [_], _ => rfl) sc__law_whole (fun vs H Q E h => ?_) (fun f cdv A outer s H vs Q E hr h => ?_)
  · obtain ⟨n, rfl, _⟩ := h
    rfl
  · obtain ⟨n, rfl, k⟩ := h
    refine ⟨_, (pss_one (ps_ret (pe_and (pe_callB (isiK (K := K) rfl) rfl (n_isinstance T) (by decide +kernel) (pa_cons (pv 0) (pa_cons (pe_bltn (v := .ty "int") (u := .type "int") rfl (n_int T) (by decide +kernel) rfl) pa_nil))) (pe_one (pe_not (pe_callB (isiK (K := K) rfl) rfl (n_isinstance T) (by decide +kernel) (pa_cons (pv 0) (pa_cons (pe_bltn (v := .ty "bool") (u := .type "bool") rfl (n_bool T) (by decide +kernel) rfl) pa_nil)))))))), ?_⟩
    exact ⟨_, rfl, ⟨_, _, _, _, _, rfl, .ty _, tx_int _, k_ii, _, rfl, iteT ⟨_, rfl, ⟨_, _, _, _, _, rfl, .ty _, tx_int _, k_ib, _, rfl, k⟩⟩⟩⟩
def spAreW : Sp := fun vs H Q _ => ∃ (T : Nat) (rl wl : Addr) (xs ys : List V) (rs : List Q4) (Ws : List (List (List (Int × Int)))), vs = [.int T, .ref rl, .ref wl] ∧ H rl = some (.lst xs) ∧ Paired (QuadT H) xs rs ∧ H wl = some (.lst ys) ∧ Paired (WeaV H) ys Ws ∧ T ≤ 24 ∧ rs.length ≤ 40 ∧ (∀ r ∈ rs, GoodR r) ∧ (∀ W ∈ Ws, W.length ≤ 100 ∧ total W ≤ 2000 ∧ wrongOf rs T W = -1) ∧ ∀ H', Same H H' → Q (.bl true) H'
theorem ok__law_are_weathers (T : Txt w K mg) : Ok P w K mg base CX0 2 "_law_are_weathers" ["days", "rains", "weathers"] spAreW := by
  refine Ok.def0 (f__law_are_weathers T) (fun _ _ _ _ _ _ us hl => match us, hl with | [_, _, _], _ => rfl) sc__law_are_weathers (fun vs H Q E h => ?_) (fun f cdv A outer s H vs Q E hr h => ?_)
  · obtain ⟨TT, rl, wl, xs, ys, rs, Ws, rfl, _⟩ := h
    rfl
  · obtain ⟨TT, rl, wl, xs, ys, rs, Ws, rfl, hrl, hX, hwl, hY, hT, hrs, hg, hWs, k⟩ := h
    refine ⟨_, (pss_cons (ps_if (pt_not (pt_val (pe_callB (isiK (K := K) rfl) rfl (n_isinstance T) (by decide +kernel) (pa_cons (pv 2) (pa_cons (pe_bltn (v := .ty "list") (u := .type "list") rfl (n_list T) (by decide +kernel) rfl) pa_nil))))) (pss_one (ps_ret pe_bl)) pss_nil)
      (pss_cons (ps_for PassesOwn.never rfl (pi_listK (K := K) rfl (pv 2)) (pg_name (i := 3) sc__law_are_weathers.nd rfl (by first | exact Or.inl rfl | exact Or.inr rfl))
        (pss_cons (ps_if (pt_not (pt_val (pe_callB (isiK (K := K) rfl) rfl (n_isinstance T) (by decide +kernel) (pa_cons (pv 3) (pa_cons (pe_bltn (v := .ty "list") (u := .type "list") rfl (n_list T) (by decide +kernel) rfl) pa_nil))))) (pss_one (ps_ret pe_bl)) pss_nil)
      (pss_cons (ps_for PassesOwn.never rfl (pi_listK (K := K) rfl (pv 3)) (pg_name (i := 4) sc__law_are_weathers.nd rfl (by first | exact Or.inl rfl | exact Or.inr rfl))
        (pss_cons (ps_if (pt_not (pt_val (pe_callB (isiK (K := K) rfl) rfl (n_isinstance T) (by decide +kernel) (pa_cons (pv 4) (pa_cons (pe_bltn (v := .ty "list") (u := .type "list") rfl (n_list T) (by decide +kernel) rfl) pa_nil))))) (pss_one (ps_ret pe_bl)) pss_nil)
      (pss_one (ps_for PassesOwn.never rfl (pi_listK (K := K) rfl (pv 4)) (pg_name (i := 5) sc__law_are_weathers.nd rfl (by first | exact Or.inl rfl | exact Or.inr rfl))
        (pss_cons (ps_if (PW.pt (pw_or (pt_not (pt_val (pe_callB (isiK (K := K) rfl) rfl (n_isinstance T) (by decide +kernel) (pa_cons (pv 5) (pa_cons (pe_bltn (v := .ty "tuple") (u := .type "tuple") rfl (n_tuple T) (by decide +kernel) rfl) pa_nil))))) (pw_or (pt_cmpR op_ne (pe_callB (len_seqK (K := K) rfl) rfl (n_len T) (by decide +kernel) (pa_cons (pv 5) pa_nil)) pe_int (nomark _)) (pw_or (pt_not (pt_val (pe_ok (ok__law_whole T) (hr.mono (by first | decide | omega)) rfl pass0 (pa_cons (pe_ix (ix_seqK (K := K) rfl) (pv 5) pe_int (fun _ _ => rfl)) pa_nil)))) (pw_or1 (pt_not (pt_val (pe_ok (ok__law_whole T) (hr.mono (by first | decide | omega)) rfl pass0 (pa_cons (pe_ix (ix_seqK (K := K) rfl) (pv 5) pe_int (fun _ _ => rfl)) pa_nil))))))))) (pss_one (ps_ret pe_bl)) pss_nil)
      (pss_one (ps_if (pt_cmpR op_lt (pe_ix (ix_seqK (K := K) rfl) (pv 5) pe_int (fun _ _ => rfl)) pe_int (nomark _)) (pss_one (ps_ret pe_bl)) pss_nil)))))))
      (pss_one (ps_if (pt_cmpR op_ne (pe_ok (ok__law_first_wrong T) (hr.mono (by first | decide | omega)) rfl pass0 (pa_cons (pv 0) (pa_cons (pv 1) (pa_cons (pv 3) pa_nil)))) (pe_un un_neg pe_int) (nomark _)) (pss_one (ps_ret pe_bl)) pss_nil)))))
      (pss_one (ps_ret pe_bl)))), ?_⟩
    refine ⟨_, rfl, ⟨_, _, _, _, _, rfl, .ty _, tx_lst hwl, k_ll, _, rfl, ?_⟩⟩
    refine ⟨_, rfl, wl, rfl, ⟨_, SqL.of hwl⟩, for_list (K := K) (a := wl) (xs := ys) (fun i σ H' => ∃ v3 v4 v5, σ = [some (.int TT), some (.ref rl), some (.ref wl), v3, v4, v5] ∧ Same H H') ⟨_, _, _, rfl, Same.refl _⟩ (fun _ _ _ _ ⟨_, _, _, _, e⟩ => SqL.of (e _ _ hwl)) ?_ ?_⟩
    · rintro i x σ H2 hx ⟨v3, v4, v5, rfl, e2⟩
      obtain ⟨W, hW, a, rfl, hWt⟩ := paired_get hY hx
      obtain ⟨w1, w2, w3⟩ := hWs W (List.mem_of_getElem? hW)
      obtain ⟨zs, z1, z2⟩ := hWt.same e2
      obtain ⟨_, hfb⟩ := right_len w3
      refine gnE ?_
      refine ⟨_, rfl, ⟨_, _, _, _, _, rfl, .ty _, tx_lst z1, k_ll, _, rfl, ?_⟩⟩
      refine ⟨_, rfl, a, rfl, ⟨_, SqL.of z1⟩, for_list (K := K) (a := a) (xs := zs) (fun j σ H' => ∃ v4 v5, σ = [some (.int TT), some (.ref rl), some (.ref wl), some (.ref a), v4, v5] ∧ Same H2 H') ⟨_, _, rfl, Same.refl _⟩ (fun _ _ _ _ ⟨_, _, _, e⟩ => SqL.of (e _ _ z1)) ?_ ?_⟩
      · rintro j y σ H3 hy ⟨v4, v5, rfl, e3⟩
        obtain ⟨rep, hrep, l, us, rfl, u1, u2⟩ := paired_get z2 hy
        have u1 := e3 _ _ u1
        refine gnE ?_
        refine ⟨_, rfl, ⟨_, _, _, _, _, rfl, .ty _, tx_lst u1, k_ll, _, rfl, ?_⟩⟩
        refine ⟨_, rfl, l, rfl, ⟨_, SqL.of u1⟩, for_list (K := K) (a := l) (xs := us) (fun m σ H' => ∃ v5, σ = [some (.int TT), some (.ref rl), some (.ref wl), some (.ref a), some (.ref l), v5] ∧ Same H3 H') ⟨_, rfl, Same.refl _⟩ (fun _ _ _ _ ⟨_, _, e⟩ => SqL.of (e _ _ u1)) ?_ ?_⟩
        · rintro m q σ H4 hq ⟨v5, rfl, e4⟩
          obtain ⟨c, hc, hr⟩ := paired_get u2 hq
          have hr := (hr.same e3).same e4
          have hc1 := (first_ok (Int.le_refl 1) hfb List.nodup_nil).2.1 j rep hrep c (List.mem_of_getElem? hc)
          obtain ⟨t, rfl, ht⟩ := id hr
          refine gnE ?_
          refine ⟨_, rfl, ⟨_, _, _, _, _, rfl, .ty _, tx_tup ht, k_tt, _, rfl, ?_⟩⟩
          refine ⟨_, rfl, _, _, rfl, .inr (SqT.of ht), rfl, _, rfl, iteF ?_⟩
          refine ⟨_, rfl, hr.i0 ⟨_, rfl, _, rfl, ?_⟩⟩
          refine ⟨_, rfl, hr.i1 ⟨_, rfl, _, rfl, ?_⟩⟩
          refine ⟨_, rfl, hr.i0 ⟨_, _, rfl, rfl, _, rfl, ?_⟩⟩
          rw [decide_eq_false (by omega)]
          exact ⟨_, rfl, e4⟩
        · rintro σ H4 ⟨v5, rfl, e4⟩
          exact ⟨_, _, rfl, e3.trans e4⟩
      · rintro σ H3 ⟨v4, v5, rfl, e3⟩
        have e23 := e2.trans e3
        refine ⟨_, rfl, _, rfl, _, rfl, TT, rl, a, xs, rs, W, rfl, e23 _ _ hrl, Paired.mapP hX fun _ _ z => z.same e23, hWt.same e23, hT, w1, hrs, hg, w2, fun H4 s4 => ?_⟩
        rw [w3]
        exact ⟨_, rfl, rfl, _, rfl, iteF ⟨_, _, _, rfl, e23.trans s4⟩⟩
    · rintro σ H2 ⟨v3, v4, v5, rfl, e2⟩
      exact k H2 e2
end
end K85
end
section
set_option maxRecDepth 100000
set_option maxHeartbeats 4000000
namespace K85
open PySem PySem.Spec PyProof.Rows L2
/-- in how many ways one span may fall -/
def wyO (T : Nat) (c : Int × Int) : Int := max 0 (min c.2 (T : Int) - c.1 + 1) + (if (T : Int) < c.2 then 1 else 0)
theorem wyO_len {T : Nat} {c : Int × Int} : ((optO T c).length : Int) = wyO T c := by
  unfold optO daysO wyO
  rw [List.length_append, List.length_map, List.length_map, List.length_range]
  split
  · show (((_ : Nat) + 1 : Nat) : Int) = _
    omega
  · show (((_ : Nat) + 0 : Nat) : Int) = _
    omega
theorem wyO_one {T : Nat} {f : Int} (h : f ≤ (T : Int) + 1) : wyO T (f, f) = 1 := by
  unfold wyO
  show max 0 (min f (T : Int) - f + 1) + (if (T : Int) < f then 1 else 0) = 1
  split <;> omega
theorem flatMap_eq {α β : Type} {f : α → List β} {k : Nat} : ∀ {l : List α}, (∀ x ∈ l, (f x).length = k) → (l.flatMap f).length = l.length * k
  | [], _ => by rw [List.length_nil, Nat.zero_mul]; rfl
  | x :: t, h => by
    have h1 := h x List.mem_cons_self
    have h2 := flatMap_eq (l := t) fun y hy => h y (List.mem_cons_of_mem _ hy)
    rw [List.flatMap_cons, List.length_append, List.length_cons, Nat.succ_mul]
    omega
theorem allN_app {T : Nat} {ws l : List (Int × Int)} : ∀ {n : Nat}, n ≤ ws.length → allN T (ws ++ l) n = allN T ws n
  | 0, _ => rfl
  | n + 1, h => by
    unfold allN
    rw [allN_app (n := n) (by omega), show (ws ++ l).getD n (0, 0) = ws.getD n (0, 0) by rw [List.getD_eq_getElem?_getD, List.getD_eq_getElem?_getD, List.getElem?_append_left (by omega)]]
/-- the number of ways of all the spans together -/
def prO (T : Nat) (ws : List (Int × Int)) : Int := (((allN T ws ws.length).length : Nat) : Int)
theorem prO_snoc {T : Nat} {ws : List (Int × Int)} {c : Int × Int} : prO T (ws ++ [c]) = prO T ws * wyO T c := by
  unfold prO
  rw [List.length_append]
  show ((((allN T (ws ++ [c]) ws.length).flatMap fun fs => (optO T ((ws ++ [c]).getD ws.length (0, 0))).map fun o => fs ++ [o]).length : Nat) : Int) = _
  rw [flatMap_eq (k := (optO T c).length) fun x _ => by
    rw [List.length_map, List.getD_eq_getElem?_getD, List.getElem?_concat_length]
    rfl, allN_app (Nat.le_refl _), Int.natCast_mul, wyO_len]
section
variable {P : Program} {w : World} {K : PySem.W.Frag} {mg : Str → Option Value} {base : Heap}
def spDrawSpans : Sp := fun vs H Q _ => ∃ (T n : Nat) (sa : Addr) (lim : Int), vs = [.ref sa, .int T, .int n, .int lim] ∧ Stk H sa ∧ 1 ≤ T ∧ T ≤ 24 ∧ n ≤ 40 ∧ 1 ≤ lim ∧ lim ≤ 10 ^ 60 ∧ ∀ l xs ws H', H l = none → But sa H H' → Stk H' sa → H' l = some (.lst xs) → Paired (PairT H') xs ws → ws.length = n → (∀ c ∈ ws, SpanOk T c) → prO T ws ≤ lim → Q (.ref l) H'
end
end K85
end
section
set_option maxRecDepth 100000
set_option maxHeartbeats 4000000
namespace K85
open PySem PySem.Spec PyProof.Rows L2
/-- a list of places -/
def NatsT (H : Hp) (x : V) (ns : List Nat) : Prop := ∃ a, x = .ref a ∧ H a = some (.lst (ns.map fun (n : Nat) => V.int (n : Int)))
theorem NatsT.same {H H' : Hp} (e : Same H H') {x : V} {ns : List Nat} (h : NatsT H x ns) : NatsT H' x ns := by
  obtain ⟨a, rfl, h⟩ := h
  exact ⟨a, rfl, e _ _ h⟩
theorem in_nats (i : Nat) : ∀ ns : List Nat, inV (V.int (i : Int)) (ns.map fun (n : Nat) => V.int (n : Int)) = decide (i ∈ ns)
  | [] => rfl
  | n :: r => by
    have ih := in_nats i r
    unfold inV at ih ⊢
    rw [List.map_cons, List.any_cons, ih, Bool.eq_iff_iff, Bool.or_eq_true, decide_eq_true_eq, decide_eq_true_eq, List.mem_cons]
    have : eqV (V.int (n : Int)) (V.int (i : Int)) = true ↔ i = n := by
      show (decide _ = true) ↔ _
      rw [decide_eq_true_eq]
      constructor
      · intro h
        first
          | exact Int.ofNat.inj (V.int.inj h.symm)
          | omega
      · intro h
        rw [h]
    rw [this]
theorem flat_nats : ∀ ns : List Nat, (ns.map fun (n : Nat) => V.int (n : Int)).all flatV = true
  | [] => rfl
  | n :: r => by rw [List.map_cons, List.all_cons, flat_nats r]; rfl
section
variable {P : Program} {w : World} {K : PySem.W.Frag} {mg : Str → Option Value} {base : Heap}
def spEn (n : Nat) : Sp := fun vs H Q _ => ∃ (m : Nat) (rl ll : Addr) (xs : List V) (rows : List (List Nat)) (left : List Nat), m ≤ n ∧ vs = [.ref rl, .ref ll, .int m] ∧ H rl = some (.lst xs) ∧ Paired (NatsT H) xs rows ∧ rows.length ≤ 90000 ∧ H ll = some (.lst (left.map fun (n : Nat) => V.int (n : Int))) ∧ left.length ≤ 1000 ∧ ∀ H', Same H H' → Q (.bl (enoughB rows m left)) H'
end
end K85
end
section
set_option maxRecDepth 100000
set_option maxHeartbeats 4000000
namespace K85
open PySem PySem.Spec PyProof.Rows L2
theorem NatsT.ints {H : Hp} {x : V} {ns : List Nat} (h : NatsT H x ns) : IntsT H x (ns.map fun (n : Nat) => (n : Int)) := by
  obtain ⟨a, rfl, h⟩ := h
  refine ⟨a, rfl, ?_⟩
  rw [List.map_map]
  exact h
theorem nats_inj : ∀ {a b : List Nat}, a.map (fun (n : Nat) => (n : Int)) = b.map (fun (n : Nat) => (n : Int)) → a = b
  | [], [], _ => rfl
  | [], _ :: _, h => by cases h
  | _ :: _, [], h => by cases h
  | x :: a, y :: b, h => by
    rw [List.map_cons, List.map_cons, List.cons.injEq] at h
    rw [nats_inj h.2, Int.ofNat.inj h.1]
theorem notin_nats {K : PySem.W.Frag} {H : Hp} {x : V} {a : Addr} {xs : List V} {r : List Nat} {W : List (List Nat)} {Q : VK} (hx : NatsT H x r) (ha : H a = some (.lst xs)) (h : Paired (NatsT H) xs W) (q : Q (.bl (!decide (r ∈ W))) H) : rNotInD K x (.ref a) H Q := by
  have hP : Paired (IntsT H) xs (W.map fun r => r.map fun (n : Nat) => (n : Int)) := by
    clear q hx ha
    induction h with
    | nil => exact .nil
    | cons a _ ih => exact .cons a.ints ih
  refine notin_rows hx.ints ha hP ?_
  have e : decide ((r.map fun (n : Nat) => (n : Int)) ∈ W.map fun r => r.map fun (n : Nat) => (n : Int)) = decide (r ∈ W) := by
    rw [decide_eq_decide, List.mem_map]
    exact ⟨fun ⟨s, hs, e⟩ => by rw [← nats_inj e]; exact hs, fun h => ⟨r, h, rfl⟩⟩
  rw [e]
  exact q
theorem rgV_nat (n : Nat) : rgV 0 (n : Int) = (List.range n).map fun (n : Nat) => V.int (n : Int) := by
  unfold rgV
  rw [show ((n : Int) - 0).toNat = n by omega]
  exact List.map_congr_left fun i _ => by rw [show (0 : Int) + ((i : Nat) : Int) = (i : Int) by omega]
theorem paired_mapL {α β : Type} {f : α → β} : ∀ l : List α, Paired (fun y x => y = f x) (l.map f) l
  | [] => .nil
  | x :: l => .cons rfl (paired_mapL l)
/-- the keys that are tight in a weather, by their places -/
def maskW (ws KS : List (Int × Int)) (W : List (List (Int × Int))) : List Nat := (List.range KS.length).filter fun i => isT ws W (KS.getD i (0, 0)).1.toNat (KS.getD i (0, 0)).2.toNat
theorem maskW_len {ws KS : List (Int × Int)} {W : List (List (Int × Int))} : (maskW ws KS W).length ≤ KS.length := by
  have := List.length_filter_le (fun i => isT ws W (KS.getD i (0, 0)).1.toNat (KS.getD i (0, 0)).2.toNat) (List.range KS.length)
  rw [List.length_range] at this
  exact this
section
variable {P : Program} {w : World} {K : PySem.W.Frag} {mg : Str → Option Value} {base : Heap}
def spMasks : Sp := fun vs H Q _ => ∃ (T : Nat) (sl kl wl : Addr) (xs ksv ys : List V) (ws ks : List (Int × Int)) (Ws : List (List (List (Int × Int)))), vs = [.ref sl, .ref kl, .ref wl] ∧ H sl = some (.lst xs) ∧ Paired (PairT H) xs ws ∧ H kl = some (.lst ksv) ∧ Paired (PairT H) ksv ks ∧ H wl = some (.lst ys) ∧ Paired (WeaV H) ys Ws ∧ Ws.length ≤ 90000 ∧ T ≤ 24 ∧ ks.length ≤ 600 ∧
  (∀ c ∈ ks, ∃ a b : Nat, a < b ∧ b ≤ T ∧ c = ((a : Int), (b : Int))) ∧ (∀ W ∈ Ws, wrongOf (ws.map canR) T W = -1) ∧ ∀ (l : Addr) zs H' (R : List (List Nat)), Same H H' → (∀ row, row ∈ R ↔ ∃ W ∈ Ws, row = maskW ws ks W) → R.length ≤ Ws.length → H' l = some (.lst zs) → Paired (NatsT H') zs (keptB R) → Q (.ref l) H'
def spFewest : Sp := fun vs H Q _ => ∃ (T : Nat) (sl kl wl : Addr) (xs ksv ys : List V) (ws ks : List (Int × Int)) (Ws : List (List (List (Int × Int)))), vs = [.ref sl, .ref kl, .ref wl] ∧ H sl = some (.lst xs) ∧ Paired (PairT H) xs ws ∧ H kl = some (.lst ksv) ∧ Paired (PairT H) ksv ks ∧ H wl = some (.lst ys) ∧ Paired (WeaV H) ys Ws ∧ Ws.length ≤ 90000 ∧ T ≤ 24 ∧ ks.length ≤ 30 ∧
  (∀ c ∈ ks, ∃ a b : Nat, a < b ∧ b ≤ T ∧ c = ((a : Int), (b : Int))) ∧ (∀ W ∈ Ws, wrongOf (ws.map canR) T W = -1) ∧ ∀ (R : List (List Nat)) (n : Nat) H', Same H H' → (∀ row, row ∈ R ↔ ∃ W ∈ Ws, row = maskW ws ks W) → (n = 0 ∧ (∀ m, 1 ≤ m → m ≤ ks.length → enoughB (keptB R) m (List.range ks.length) = false) ∨ 1 ≤ n ∧ n ≤ ks.length ∧ enoughB (keptB R) n (List.range ks.length) = true ∧ ∀ m, 1 ≤ m → m < n → enoughB (keptB R) m (List.range ks.length) = false) → Q (.int n) H'
end
end K85
end
section
set_option maxRecDepth 100000
set_option maxHeartbeats 4000000
namespace K85
open PySem PySem.Spec PyProof.Rows L2
theorem total_way {T n : Nat} {os : List (Option Int)} : total (wayR T os n) ≤ T * n := by
  unfold wayR total
  rw [List.map_map]
  have : ∀ l : List Nat, (l.map (List.length ∘ repN os n)).sum ≤ l.length * n := fun l => by
    induction l with
    | nil => exact Nat.zero_le _
    | cons x t ih =>
      rw [List.map_cons, List.sum_cons, List.length_cons, Nat.succ_mul]
      have : (List.length ∘ repN os n) x ≤ n := repN_le
      omega
  have := this (List.range T)
  rw [List.length_range] at this
  exact this
section
variable {T : Nat} {ws KS ks : List (Int × Int)} {rows : List (List Nat)}
theorem lot_keys {m : Nat} (h1 : ∀ c ∈ ws, 1 ≤ c.1 ∧ c.1 ≤ c.2) (hK : ∀ s ∈ KS, ∃ a b : Nat, a < b ∧ b ≤ T ∧ s = ((a : Int), (b : Int))) (hm : ∀ c, c ∈ ks ↔ c ∈ KS) (hf : fillL (togB T ws) m ks [] ≠ []) :
    (∀ l ∈ fillL (togB T ws) m ks [], (∀ c ∈ ws, freeD T l c ≠ 0) ∧ ∀ s ∈ l, ∃ a b : Nat, a < b ∧ b ≤ T ∧ s = ((a : Int), (b : Int))) ∧ (fillL (togB T ws) m ks []).length ≤ m ∧ ∀ k ∈ ks, ∃ l ∈ fillL (togB T ws) m ks [], k ∈ l := by
  have h1' : ∀ c ∈ ws, 1 ≤ c.1 := fun c hc => (h1 c hc).1
  have hone : ∀ k ∈ ks, togB T ws [k] = true := fun k hk => by
    obtain ⟨a, b, hab, hb, rfl⟩ := hK k ((hm k).mp hk)
    rw [togB_iff]
    refine (lot_iff h1' fun s hs => ⟨a, b, hab, hb, List.mem_singleton.mp hs⟩).mp ?_
    obtain ⟨os, ho, h⟩ := one_way (T := T) (ws := ws) h1 hab hb
    refine ⟨os, ho, fun s hs => ?_⟩
    rw [List.mem_singleton.mp hs]
    exact h
  obtain ⟨q1, q2, q3⟩ := fillL_sound (togB T ws) (many := m) (r := ks) (lots := []) (fun l z => by cases z) hone (Nat.zero_le _) hf
  refine ⟨fun l hl => ⟨togB_iff.mp (q1 l hl), fun s hs => ?_⟩, q2, fun k hk => (q3 k).mp (.inl hk)⟩
  rcases (q3 s).mpr ⟨l, hl, hs⟩ with z | ⟨_, z, _⟩
  · exact hK s ((hm s).mp z)
  · cases z
theorem few_fwd (h1 : ∀ c ∈ ws, 1 ≤ c.1 ∧ c.1 ≤ c.2) (hK : ∀ s ∈ KS, ∃ a b : Nat, a < b ∧ b ≤ T ∧ s = ((a : Int), (b : Int))) (hm : ∀ c, c ∈ ks ↔ c ∈ KS)
    (hrows : ∀ row, row ∈ rows ↔ ∃ os ∈ allN T ws ws.length, row = maskR T ws KS os) {m : Nat} (hf : fillL (togB T ws) m ks [] ≠ []) : enoughB (keptB rows) (fillL (togB T ws) m ks []).length (List.range KS.length) = true := by
  obtain ⟨q1, q2, q3⟩ := lot_keys h1 hK hm hf
  have h1' : ∀ c ∈ ws, 1 ≤ c.1 := fun c hc => (h1 c hc).1
  rw [enough_iff]
  have : ∀ l ∈ fillL (togB T ws) m ks [], ∃ row : List Nat, row ∈ keptB rows ∧ ∀ (i : Nat) c, KS[i]? = some c → c ∈ l → i ∈ row := fun l hl => by
    obtain ⟨hfree, hlK⟩ := q1 l hl
    obtain ⟨os, ho, h⟩ := (lot_iff h1' hlK).mpr hfree
    obtain ⟨o, ho1, ho2⟩ := kept_over (rows := rows) (M := KS.length) (fun r hr => by
      obtain ⟨os, _, rfl⟩ := (hrows r).mp hr
      exact mask_len) KS.length ((hrows _).mpr ⟨os, ho, rfl⟩) (by omega)
    exact ⟨o, ho1, fun i c hi hc => ho2 i ((mask_mem hi).mpr (h c hc))⟩
  obtain ⟨cov, c1, c2, c3⟩ := choose_map this
  refine ⟨cov, by omega, fun r hr => ?_, fun i hi => ?_⟩
  · obtain ⟨l, _, h, _⟩ := c2 r hr
    exact h
  · have hi := List.mem_range.mp hi
    have hg : KS[i]? = some KS[i] := List.getElem?_eq_getElem hi
    obtain ⟨l, hl, hc⟩ := q3 KS[i] ((hm _).mpr (List.getElem_mem hi))
    obtain ⟨row, hr, h⟩ := c3 l hl
    exact ⟨row, hr, h.2 i _ hg hc⟩
theorem all_enough (h1 : ∀ c ∈ ws, 1 ≤ c.1 ∧ c.1 ≤ c.2) (hK : ∀ s ∈ KS, ∃ a b : Nat, a < b ∧ b ≤ T ∧ s = ((a : Int), (b : Int)))
    (hrows : ∀ row, row ∈ rows ↔ ∃ os ∈ allN T ws ws.length, row = maskR T ws KS os) : enoughB (keptB rows) KS.length (List.range KS.length) = true := by
  rw [enough_iff]
  have : ∀ i ∈ List.range KS.length, ∃ row : List Nat, row ∈ keptB rows ∧ i ∈ row := fun i hi => by
    have hi := List.mem_range.mp hi
    have hg : KS[i]? = some KS[i] := List.getElem?_eq_getElem hi
    obtain ⟨a, b, hab, hb, e⟩ := hK KS[i] (List.getElem_mem hi)
    obtain ⟨os, ho, h⟩ := one_way (T := T) (ws := ws) h1 hab hb
    obtain ⟨o, ho1, ho2⟩ := kept_over (rows := rows) (M := KS.length) (fun r hr => by
      obtain ⟨os, _, rfl⟩ := (hrows r).mp hr
      exact mask_len) KS.length ((hrows _).mpr ⟨os, ho, rfl⟩) (by omega)
    exact ⟨o, ho1, ho2 i ((mask_mem hg).mpr (by rw [e]; exact h))⟩
  obtain ⟨cov, c1, c2, c3⟩ := choose_map this
  refine ⟨cov, by rw [c1, List.length_range]; exact Nat.le_refl _, fun r hr => ?_, fun i hi => ?_⟩
  · obtain ⟨_, _, h, _⟩ := c2 r hr
    exact h
  · obtain ⟨row, hr, h⟩ := c3 i hi
    exact ⟨row, hr, h.2⟩
/-- what fewest_trials tells is as the law's own search says -/
theorem few_told {Ws : List (List (List (Int × Int)))} {n : Nat} (h : FewL T ws ks Ws) (hp : ks.Perm KS) (h1 : ∀ c ∈ ws, 1 ≤ c.1 ∧ c.1 ≤ c.2) (hK : ∀ s ∈ KS, ∃ a b : Nat, a < b ∧ b ≤ T ∧ s = ((a : Int), (b : Int)))
    (hrows : ∀ row, row ∈ rows ↔ ∃ os ∈ allN T ws ws.length, row = maskR T ws KS os)
    (hn : n = 0 ∧ (∀ m, 1 ≤ m → m ≤ KS.length → enoughB (keptB rows) m (List.range KS.length) = false) ∨ 1 ≤ n ∧ n ≤ KS.length ∧ enoughB (keptB rows) n (List.range KS.length) = true ∧ ∀ m, 1 ≤ m → m < n → enoughB (keptB rows) m (List.range KS.length) = false) :
    Ws.length = n ∧ (∀ W ∈ Ws, W.length = T ∧ total W ≤ T * ws.length ∧ wrongOf (ws.map canR) T W = -1) ∧ undS ws KS Ws = [] := by
  have hm : ∀ c, c ∈ ks ↔ c ∈ KS := fun c => hp.mem_iff
  have hl := hp.length_eq
  have h1' : ∀ c ∈ ws, 1 ≤ c.1 := fun c hc => (h1 c hc).1
  by_cases hne : ks = []
  · subst hne
    have e : KS = [] := hp.nil_eq.symm
    subst e
    rcases h with ⟨m, a, b, _⟩ | ⟨_, rfl⟩
    · exact absurd b (by show ¬ m ≤ 0; omega)
    · refine ⟨?_, (fun W z => by cases z), rfl⟩
      rcases hn with ⟨rfl, _⟩ | ⟨a, b, _⟩
      · rfl
      · exact absurd b (by show ¬ n ≤ 0; omega)
  · have few := few_iff (T := T) h1 hK hm hne hrows
    have all := all_enough h1 hK hrows
    have hpos : 0 < KS.length := by
      rw [← hl]
      exact List.length_pos_iff.mpr hne
    rcases h with ⟨m, m1, m2, m3, m4, rfl⟩ | ⟨h0, _⟩
    · have fwd := few_fwd h1 hK hm hrows m3
      obtain ⟨q1, q2, q3⟩ := lot_keys h1 hK hm m3
      have hL : (fillL (togB T ws) m ks []).length = m := by
        have hp1 : 0 < (fillL (togB T ws) m ks []).length := List.length_pos_iff.mpr m3
        by_cases c : (fillL (togB T ws) m ks []).length < m
        · exact absurd (m4 _ hp1 c) ((few _).mpr fwd)
        · omega
      have em := (few m).mp m3
      refine ⟨?_, fun W hW => ?_, ?_⟩
      · rw [List.length_map, hL]
        rcases hn with ⟨rfl, hno⟩ | ⟨a, b, hy, hno⟩
        · rw [hno m m1 (by omega)] at em
          cases em
        · rcases Nat.lt_trichotomy m n with c | c | c
          · rw [hno m m1 c] at em
            cases em
          · exact c
          · exact absurd (m4 n a c) ((few n).mpr hy)
      · obtain ⟨l, hl', rfl⟩ := List.mem_map.mp hW
        obtain ⟨w1, _⟩ := placed_way h1' (q1 l hl').1
        have hr := way_right w1 h1'
        exact ⟨(right_len hr).1, total_way, hr⟩
      · unfold undS
        rw [List.filter_eq_nil_iff]
        intro c hc
        rw [List.all_eq_true]
        intro hall
        obtain ⟨l, hl', hcl⟩ := q3 c ((hm c).mpr hc)
        have hW := hall _ (List.mem_map.mpr ⟨l, hl', rfl⟩)
        obtain ⟨w1, w2⟩ := placed_way h1' (q1 l hl').1
        obtain ⟨a, b, _, hb, rfl⟩ := hK c hc
        have : isT ws (lotW T ws l) a b = true := (isT_way hb w1.1).mpr fun i c' o hc' ho => okO_lot.mp (w2 i c' o hc' ho) _ hcl
        have hW : (!isT ws (lotW T ws l) a b) = true := hW
        rw [this] at hW
        cases hW
    · have := (few KS.length).mpr all
      exact absurd (h0 KS.length hpos (by omega)) this
end
end K85
end
section
set_option maxRecDepth 100000
set_option maxHeartbeats 4000000
namespace K85
open PySem PySem.Spec PyProof.Rows L2
/-! ### the numbers of the families -/
/-- the least m whose power of two has n + 2 -/
def IsLg (n r : Nat) : Prop := n + 2 ≤ 2 ^ r ∧ ∀ m, m < r → 2 ^ m < n + 2
theorem IsLg.uniq {n r r' : Nat} (h : IsLg n r) (h' : IsLg n r') : r = r' := by
  rcases Nat.lt_trichotomy r r' with z | z | z
  · have := h'.2 r z
    have := h.1
    omega
  · exact z
  · have := h.2 r' z
    have := h'.1
    omega
def kindsT : List Str := ["apart", "row", "nested", "all"]
/-- the number of trials of a family -/
def TrN (z : Str) (n r : Nat) : Prop := (z = "row" ∧ r = n + 1) ∨ (z = "nested" ∧ r = 2) ∨ (z = "all" ∧ n = 1 ∧ r = 1) ∨ (z = "all" ∧ n ≠ 1 ∧ r = (n + 1) / 2 + 1) ∨ (z = "apart" ∧ IsLg n r)
theorem trn_apart {n r : Nat} : TrN "apart" n r ↔ IsLg n r := by
  constructor
  · rintro (⟨h, _⟩ | ⟨h, _⟩ | ⟨h, _⟩ | ⟨h, _⟩ | ⟨_, h⟩)
    · exact absurd h (by decide +kernel)
    · exact absurd h (by decide +kernel)
    · exact absurd h (by decide +kernel)
    · exact absurd h (by decide +kernel)
    · exact h
  · exact fun h => .inr (.inr (.inr (.inr ⟨rfl, h⟩)))
theorem kindsT_mem {z : Str} (h : z ∈ kindsT) : z = "apart" ∨ z = "row" ∨ z = "nested" ∨ z = "all" := by
  rcases List.mem_cons.mp h with h | h
  · exact .inl h
  rcases List.mem_cons.mp h with h | h
  · exact .inr (.inl h)
  rcases List.mem_cons.mp h with h | h
  · exact .inr (.inr (.inl h))
  · exact .inr (.inr (.inr (List.mem_singleton.mp h)))
theorem flat_strs : ∀ zs : List Str, (zs.map V.str).all flatV = true
  | [] => rfl
  | _ :: r => by rw [List.map_cons, List.all_cons, flat_strs r]; rfl
theorem inV_strs (z : Str) : ∀ zs : List Str, inV (V.str z) (zs.map V.str) = decide (z ∈ zs)
  | [] => rfl
  | n :: r => by
    have ih := inV_strs z r
    unfold inV at ih ⊢
    rw [List.map_cons, List.any_cons, ih, Bool.eq_iff_iff, Bool.or_eq_true, decide_eq_true_eq, decide_eq_true_eq, List.mem_cons]
    have : eqV (V.str n) (V.str z) = true ↔ z = n := by
      show (decide _ = true) ↔ _
      rw [decide_eq_true_eq]
      constructor
      · intro h
        first
          | exact h.symm
          | exact (V.str.inj h).symm
      · intro h
        rw [h]
    rw [this]
theorem not_str {a b : Str} (h : a ≠ b) : ¬ (decide (V.str a = V.str b) = true) := fun c => h (V.str.inj (of_decide_eq_true c))
section
variable {P : Program} {w : World} {K : PySem.W.Frag} {mg : Str → Option Value} {base : Heap}
def spKind (K : PySem.W.Frag) : Sp := fun vs H Q E => ∃ (z : Str) (n : Int) (p : Addr) (zs : List Str), vs = [.str z, .int n, .ref p] ∧ SqT K H p (zs.map V.str) ∧ (z ∉ zs → Rz E H (cSe K) "what" (.str "kind")) ∧ (z ∈ zs → n < 1 → Rz E H (cSe K) "what" (.str "number")) ∧ (z ∈ zs → 1 ≤ n → Q .non H)
theorem ok_check_kind (T : Txt w K mg) : Ok P w K mg base (L2.CX P w) 4 "check_kind" ["kind", "n", "kinds"] (spKind K) := by
  refine Ok.defX (f_check_kind T) (fun _ _ _ _ _ _ us hl => match us, hl with | [_, _, _], _ => rfl) sc_check_kind (fun vs H Q E h => ?_) (fun f cdv A outer s H vs Q E hr h tk => ?_)
  · obtain ⟨z, n, p, zs, rfl, _⟩ := h
    rfl
  · obtain ⟨z, n, p, zs, rfl, hp, k1, k2, k3⟩ := h
    refine ⟨_, (pss_cons (ps_if (pt_cmpR (notInK (K := K) rfl) (pv 0) (pv 2) (by with_unfolding_all rfl)) (pss_one (ps_raise rfl tk (pmk_x (x_BadSetting T) (hr.mono (by first | decide | omega)) rfl (pa_cons pe_str pa_nil)))) pss_nil)
      (pss_one (ps_if (pt_cmpR op_lt (pv 1) pe_int (nomark _)) (pss_one (ps_raise rfl tk (pmk_x (x_BadSetting T) (hr.mono (by first | decide | omega)) rfl (pa_cons pe_str pa_nil)))) pss_nil))), ?_⟩
    refine ⟨_, rfl, _, rfl, p, _, rfl, .inr hp, rfl, flat_strs zs, _, rfl, ?_⟩
    rw [if_pos rfl, inV_strs]
    cases q : decide (z ∈ zs) with
    | false => exact iteT (mko ((k1 (of_decide_eq_false q)).at (Same.refl H)))
    | true =>
      have q := of_decide_eq_true q
      refine iteF ⟨_, rfl, _, _, rfl, rfl, _, rfl, ite2 (fun c => ?_) (fun c => ?_)⟩
      · exact mko ((k2 q (of_decide_eq_true c)).at (Same.refl H))
      · exact k3 q (Int.not_lt.mp fun z => c (decide_eq_true z))
def spTrialN (K : PySem.W.Frag) : Sp := fun vs H Q E => ∃ (z : Str) (n : Int), vs = [.str z, .int n] ∧ (1000000 < n → Rz E H (cTM K) "what" (.str "family")) ∧ (n ≤ 1000000 → z ∉ kindsT → Rz E H (cSe K) "what" (.str "kind")) ∧ (n ≤ 1000000 → z ∈ kindsT → n < 1 → Rz E H (cSe K) "what" (.str "number")) ∧
  (z ∈ kindsT → ∀ m : Nat, n = (m : Int) → 1 ≤ m → m ≤ 1000000 → ∀ r, TrN z m r → Q (.int r) H)
theorem lg_step {n m : Nat} (h : ∀ k, k < m → 2 ^ k < n + 2) (c : 2 ^ m < n + 2) : ∀ k, k < m + 1 → 2 ^ k < n + 2 := fun k hk => by
  by_cases z : k = m
  · rw [z]
    exact c
  · exact h k (by omega)
theorem lg_all {n r : Nat} (h : ∀ m, m < r → 2 ^ m < n + 2) (c : ¬ 2 ^ r < n + 2) : IsLg n r := ⟨by omega, h⟩
theorem ok_trial_number (T : Txt w K mg) : Ok P w K mg base (L2.CX P w) 5 "trial_number" ["kind", "n"] (spTrialN K) := by
  refine Ok.defX (f_trial_number T) (fun _ _ _ _ _ _ us hl => match us, hl with | [_, _], _ => rfl) sc_trial_number (fun vs H Q E h => ?_) (fun f cdv A outer s H vs Q E hr h tk => ?_)
  · obtain ⟨z, n, rfl, _⟩ := h
    rfl
  · obtain ⟨z, n, rfl, k1, k2, k3, k⟩ := h
    refine ⟨_, (pss_cons (ps_expr (pe_okS (ok_check_within T) (hr.mono (by first | decide | omega)) rfl (fun σ => passAt tk σ) (pa_cons pe_str (pa_cons (pv 1) (pa_cons (pe_glob (v := .int 1000000) rfl (gi_GREATEST T).choose_spec ⟨_, rfl⟩) pa_nil)))))
      (pss_cons (ps_expr (pe_okS (ok_check_kind T) (hr.mono (by first | decide | omega)) rfl (fun σ => passAt tk σ) (pa_cons (pv 0) (pa_cons (pv 1) (pa_cons (pe_glob (v := .ref _) rfl (g_KINDS T) rfl) pa_nil)))))
      (pss_cons (ps_if (pt_cmpR op_eq (pv 0) pe_str (nomark _)) (pss_one (ps_ret (pe_op op_add (pv 1) pe_int))) pss_nil)
      (pss_cons (ps_if (pt_cmpR op_eq (pv 0) pe_str (nomark _)) (pss_one (ps_ret pe_int)) pss_nil)
      (pss_cons (ps_if (pt_cmpR op_eq (pv 0) pe_str (nomark _)) (pss_one (ps_ret (pe_ifExp (pt_cmpR op_eq (pv 1) pe_int (nomark _)) pe_int (pe_op op_add (pe_op op_fdivN (pe_op op_add (pv 1) pe_int) pe_int) pe_int)))) pss_nil)
      (pss_cons (ps_set (i := 2) sc_trial_number.nd rfl (by first | exact Or.inl rfl | exact Or.inr rfl) pe_int)
      (pss_cons (ps_set (i := 3) sc_trial_number.nd rfl (by first | exact Or.inl rfl | exact Or.inr rfl) pe_int)
      (pss_cons (ps_while (passes_of rfl) (pt_cmpR op_lt (pv 3) (pe_op op_add (pv 1) pe_int) (nomark _))
        (pss_cons (ps_aug (i := 2) sc_trial_number.nd rfl (by first | exact Or.inl rfl | exact Or.inr rfl) pe_int ip_add)
      (pss_one (ps_aug (i := 3) sc_trial_number.nd rfl (by first | exact Or.inl rfl | exact Or.inr rfl) (pv 3) ip_add))))
      (pss_one (ps_ret (pv 2))))))))))), ?_⟩
    refine ⟨_, rfl, _, n, 1000000, rfl, fun hn => ?_, k1⟩
    refine ⟨_, rfl, _, rfl, z, n, _, kindsT, rfl, t_KINDS T H, k2 hn, k3 hn, fun hz h1 => ?_⟩
    obtain ⟨m, rfl⟩ : ∃ m : Nat, n = (m : Int) := ⟨n.toNat, by omega⟩
    have k := k hz m rfl (by omega) (by omega)
    rcases kindsT_mem hz with rfl | rfl | rfl | rfl
    · refine ⟨_, rfl, rfl, _, rfl, ite2 (fun c => absurd c (not_str (by decide +kernel))) fun _ => ?_⟩
      refine ⟨_, rfl, rfl, _, rfl, ite2 (fun c => absurd c (not_str (by decide +kernel))) fun _ => ?_⟩
      refine ⟨_, rfl, rfl, _, rfl, ite2 (fun c => absurd c (not_str (by decide +kernel))) fun _ => ?_⟩
      refine while_by (fun σ H' => H' = H ∧ ∃ r : Nat, σ = [some (.str "apart"), some (.int (m : Int)), some (.int (r : Int)), some (.int ((2 ^ r : Nat) : Int))] ∧ ∀ q, q < r → 2 ^ q < m + 2) (fun σ _ => match σ with
        | [_, _, _, some (.int x)] => (m + 2 - x.toNat : Nat)
        | _ => 0) ⟨rfl, 1, rfl, fun q hq => ?_⟩ ?_ ?_
      · obtain rfl : q = 0 := by omega
        show 1 < m + 2
        omega
      · rintro σ H' ⟨rfl, r, rfl, hr0⟩
        refine ⟨_, rfl, _, rfl, _, _, rfl, rfl, _, _, rfl, rfl, _, rfl, ite2 (fun c => ?_) (fun c => ?_)⟩
        · have c : (((2 ^ r : Nat) : Int)) < (m : Int) + 2 := of_decide_eq_true c
          have c' : 2 ^ r < m + 2 := by omega
          have e2 : ((2 ^ r : Nat) : Int) + ((2 ^ r : Nat) : Int) = ((2 ^ (r + 1) : Nat) : Int) := by
            rw [Nat.pow_succ]
            omega
          refine ⟨_, rfl, _, _, rfl, rfl, _, rfl, _, rfl, _, _, rfl, rfl, ⟨rfl, r + 1, ?_, lg_step hr0 c'⟩, ?_⟩
          · dsimp only
            rw [e2]
            rfl
          · show (m + 2 - (((2 ^ r : Nat) : Int) + ((2 ^ r : Nat) : Int)).toNat : Nat) < (m + 2 - (((2 ^ r : Nat) : Int)).toNat : Nat)
            have : 0 < 2 ^ r := Nat.pos_of_ne_zero (by simp)
            omega
        · have c : ¬ (((2 ^ r : Nat) : Int)) < (m : Int) + 2 := fun z => c (decide_eq_true z)
          exact ⟨_, rfl, k r (trn_apart.mpr (lg_all hr0 (by omega)))⟩
      · rintro σ H' Q1 Q2 hq ⟨a, b, c, d, e, f, g, h, i, j, l, o, x, y, z⟩
        exact ⟨a, b, c, d, e, f, g, h, i, j, l, o, x, y, hq _ _ z⟩
    · refine ⟨_, rfl, rfl, _, rfl, ite2 (fun _ => ?_) fun c => absurd (decide_eq_true rfl) c⟩
      exact ⟨_, rfl, _, _, rfl, rfl, k (m + 1) (.inl ⟨rfl, rfl⟩)⟩
    · refine ⟨_, rfl, rfl, _, rfl, ite2 (fun c => absurd c (not_str (by decide +kernel))) fun _ => ?_⟩
      refine ⟨_, rfl, rfl, _, rfl, ite2 (fun _ => ?_) fun c => absurd (decide_eq_true rfl) c⟩
      exact k 2 (.inr (.inl ⟨rfl, rfl⟩))
    · refine ⟨_, rfl, rfl, _, rfl, ite2 (fun c => absurd c (not_str (by decide +kernel))) fun _ => ?_⟩
      refine ⟨_, rfl, rfl, _, rfl, ite2 (fun c => absurd c (not_str (by decide +kernel))) fun _ => ?_⟩
      refine ⟨_, rfl, rfl, _, rfl, ite2 (fun _ => ?_) fun c => absurd (decide_eq_true rfl) c⟩
      refine ⟨_, rfl, rfl, _, rfl, ite2 (fun c => ?_) (fun c => ?_)⟩
      · have c := V.int.inj (of_decide_eq_true c)
        exact k 1 (.inr (.inr (.inl ⟨rfl, by omega, rfl⟩)))
      · have c : m ≠ 1 := fun z => c (decide_eq_true (by rw [z]; rfl))
        refine ⟨_, rfl, _, _, rfl, rfl, _, _, rfl, rfl, ⟨by decide, by decide⟩, _, _, rfl, rfl, ?_⟩
        have e : ((m : Int) + 1).fdiv 2 + 1 = (((m + 1) / 2 + 1 : Nat) : Int) := by
          rw [Int.fdiv_eq_ediv_of_nonneg _ (by decide)]
          omega
        show Q (.int (((m : Int) + 1).fdiv 2 + 1)) H
        rw [e]
        exact k _ (.inr (.inr (.inr (.inl ⟨rfl, c, rfl⟩))))
def spLNum : Sp := fun vs H Q _ => ∃ (z : Str) (m : Nat), vs = [.str z, .int m] ∧ z ∈ kindsT ∧ 1 ≤ m ∧ m ≤ 1000000 ∧ ∀ r, TrN z m r → Q (.int r) H
end
end K85
end
section
set_option maxRecDepth 100000
set_option maxHeartbeats 4000000
namespace K85
open PySem PySem.Spec PyProof.Rows L2
def undL (rs : List Q4) (T : Nat) (Ws : List (List (List (Int × Int)))) : List (Int × Int) := (keysL (tabR rs) T).filter fun c => Ws.all fun W => !tgB (tabR rs) (fellBy W) c
theorem undL_step {rs : List Q4} {T i : Nat} {Ws : List (List (List (Int × Int)))} {W : List (List (Int × Int))} (h : Ws[i]? = some W) : (undL rs T (Ws.take i)).filter (fun c => !tgB (tabR rs) (fellBy W) c) = undL rs T (Ws.take (i + 1)) := by
  unfold undL
  rw [List.filter_filter, take_get h]
  congr 1
  funext c
  rw [List.all_append, Bool.and_comm]
  simp
theorem eqv_nil {L : List (Int × Int)} : PyData.eqv (.list (L.map dP)) (.list []) = decide (L = []) := by
  cases L with
  | nil => rfl
  | cons c r => rfl
section
variable {P : Program} {w : World} {K : PySem.W.Frag} {mg : Str → Option Value} {base : Heap}
def spUndec (K : PySem.W.Frag) : Sp := fun vs H Q E => ∃ (T : Nat) (p wl : Addr) (rs : List Q4) (ys : List V) (Ws : List (List (List (Int × Int)))), vs = [.ref p, .ref wl] ∧ AlmAt K H p T rs ∧ H wl = some (.lst ys) ∧ Paired (WeaV H) ys Ws ∧ T ≤ 24 ∧ rs.length ≤ 40 ∧ (∀ r ∈ rs, GoodR r) ∧ (∀ W ∈ Ws, W.length ≤ 100 ∧ total W ≤ 2000) ∧
  (2000 < Ws.length → Rz E H (cTM K) "what" (.str "weathers")) ∧ (Ws.length ≤ 2000 → ∀ n, BadCan rs n → Rz E H (cSk K) "row" (.int ((n : Int) + 1))) ∧
  (Ws.length ≤ 2000 → OneCan rs → ∀ (n : Nat) W, Ws[n]? = some W → wrongOf rs T W ≠ -1 → (∀ (m : Nat) W', m < n → Ws[m]? = some W' → wrongOf rs T W' = -1) → Rz E H (cWe K) "day" (.int (wrongOf rs T W))) ∧
  (Ws.length ≤ 2000 → OneCan rs → (∀ W ∈ Ws, wrongOf rs T W = -1) → ∀ H', Same H H' → (undL rs T Ws = [] → Q .non H') ∧ ∀ x c r, undL rs T Ws = c :: r → PairT H' x c → Q x H')
theorem ok_first_undecided (T : Txt w K mg) : Ok P w K mg base (L2.CX P w) 8 "first_undecided" ["almanac", "weathers"] (spUndec K) := by
  refine Ok.defX (f_first_undecided T) (fun _ _ _ _ _ _ us hl => match us, hl with | [_, _], _ => rfl) sc_first_undecided (fun vs H Q E h => ?_) (fun f cdv A outer s H vs Q E hr h tk => ?_)
  · obtain ⟨TT, p, wl, rs, ys, Ws, rfl, _⟩ := h
    rfl
  · obtain ⟨TT, p, wl, rs, ys, Ws, rfl, hA, hwl, hP, hT, hrl, hg, hWs, kt, ks, kw, k⟩ := h
    obtain ⟨tl, htl⟩ := gi_LISTED_lots T
    refine ⟨_, (pss_cons (ps_expr (pe_okS (ok_check_within T) (hr.mono (by first | decide | omega)) rfl (fun σ => passAt tk σ) (pa_cons pe_str (pa_cons (pe_callB (len_seqK (K := K) rfl) rfl (n_len T) (by decide +kernel) (pa_cons (pv 1) pa_nil)) (pa_cons (pe_glob (v := .int 2000) rfl htl ⟨_, rfl⟩) pa_nil)))))
      (pss_cons (ps_expr (pe_okS (ok_check_one_can T) (hr.mono (by first | decide | omega)) rfl (fun σ => passAt tk σ) (pa_cons (pv 0) pa_nil)))
      (pss_cons (ps_for (passes_of rfl) rfl (pi_listK (K := K) rfl (pv 1)) (pg_name (i := 2) sc_first_undecided.nd rfl (by first | exact Or.inl rfl | exact Or.inr rfl))
        (pss_one (ps_expr (pe_okS (ok_check_weather T) (hr.mono (by first | decide | omega)) rfl (fun σ => passAt tk σ) (pa_cons (pv 0) (pa_cons (pv 2) pa_nil))))))
      (pss_cons (ps_set (i := 3) sc_first_undecided.nd rfl (by first | exact Or.inl rfl | exact Or.inr rfl) (pe_ok (ok_span_counts T) (hr.mono (by first | decide | omega)) rfl pass0 (pa_cons (pv 0) pa_nil)))
      (pss_cons (ps_set (i := 4) sc_first_undecided.nd rfl (by first | exact Or.inl rfl | exact Or.inr rfl) (pe_okS (ok_key_stretches T) (hr.mono (by first | decide | omega)) rfl (fun σ => passAt tk σ) (pa_cons (pv 0) pa_nil)))
      (pss_cons (ps_for (passes_of rfl) rfl (pi_listK (K := K) rfl (pv 1)) (pg_name (i := 2) sc_first_undecided.nd rfl (by first | exact Or.inl rfl | exact Or.inr rfl))
        (pss_cons (ps_set (i := 6) sc_first_undecided.nd rfl (by first | exact Or.inl rfl | exact Or.inr rfl) (pe_dc1 (own := [("stretch", 5)]) rfl hr.units0 sc_first_undecided.nd (pi_listK (K := K) rfl (pe_ok (ok_tight_among T) (hr.mono (by first | decide | omega)) rfl pass0 (pa_cons (pv 2) (pa_cons (pv 3) (pa_cons (pv 4) pa_nil))))) (blkOk_by (N := ["almanac", "weathers", "weather", "counts", "left", "stretch", "tight"]) (sc := defScope s_first_undecided) (by decide +kernel)) (fun _ _ _ _ _ => (pg_name (i := 5) sc_first_undecided.nd rfl (by first | exact Or.inl rfl | exact Or.inr rfl))) (fun _ _ _ _ _ => pts_nil) (fun _ _ _ _ _ => (pv 5)) (fun _ _ _ _ _ => pe_bl)))
      (pss_one (ps_setLc (i := 4) (own := [("stretch", 5)]) rfl sc_first_undecided.nd rfl rfl (sw_true rfl rfl rfl (by decide +kernel)) (pi_listK (K := K) rfl (pv 4)) (blkOk_by (N := ["almanac", "weathers", "weather", "counts", "left", "stretch", "tight"]) (sc := defScope s_first_undecided) (by decide +kernel)) (fun _ _ _ _ _ => (pg_name (i := 5) sc_first_undecided.nd rfl (by first | exact Or.inl rfl | exact Or.inr rfl))) (fun _ _ _ _ _ => pts_one (pt_cmp (pc_dnotin (du hr.units) (pv 5) (pv 6)))) (fun _ _ _ _ _ => (pv 5))))))
      (pss_one (ps_ret (pe_ifExp (pt_cmpR (eqDK (K := K) rfl hr.units) (pv 4) (pe_lst pa_nil) (nomark _)) pe_non (pe_ix (ix_listK (K := K) rfl) (pv 4) pe_int (fun _ _ => rfl))))))))))), ?_⟩
    have hyl : ys.length = Ws.length := Paired.length hP
    refine ⟨_, rfl, _, _, rfl, .inl (SqL.of hwl), "weathers", _, 2000, rfl, fun c1 => ?_, fun c1 => kt (by omega)⟩
    have c1 : Ws.length ≤ 2000 := by omega
    refine ⟨_, rfl, p, TT, rs, rfl, hA, hrl, fun hone H1 s1 => ?_, fun n r h1 h2 h3 => ks c1 n ⟨r, h1, h2, h3⟩⟩
    refine ⟨_, rfl, wl, rfl, ⟨_, SqL.of (s1 _ _ hwl)⟩, for_list (K := K) (a := wl) (xs := ys) (fun i σ H' => ∃ v2, σ = [some (.ref p), some (.ref wl), v2, none, none, none, none] ∧ Same H H' ∧ ∀ (m : Nat) W, m < i → Ws[m]? = some W → wrongOf rs TT W = -1) ⟨_, rfl, s1, fun m s h => by omega⟩ (fun _ _ _ _ ⟨_, _, e, _⟩ => SqL.of (e _ _ hwl)) ?_ ?_⟩
    · rintro i x σ H2 hx ⟨v2, rfl, e2, hok⟩
      obtain ⟨W, hW, a, rfl, hWt⟩ := paired_get hP hx
      obtain ⟨w1, w2⟩ := hWs W (List.mem_of_getElem? hW)
      refine gnE ?_
      refine ⟨_, rfl, _, rfl, TT, p, a, rs, W, rfl, hA.same e2, hWt.same e2, hT, w1, hrl, hg, w2, fun ho H3 s3 => ⟨_, rfl, e2.trans s3, fun m W' hm hW' => ?_⟩, fun ho => (kw c1 hone i W hW ho fun m W' hm hW' => hok m W' hm hW').mono e2⟩
      by_cases e : m = i
      · rw [e, hW] at hW'
        cases hW'
        exact ho
      · exact hok m W' (by omega) hW'
    · rintro σ H2 ⟨v2, rfl, e2, hok⟩
      have hall : ∀ W ∈ Ws, wrongOf rs TT W = -1 := fun W hW => by
        obtain ⟨m, hm⟩ := List.getElem?_of_mem hW
        exact hok m W (by rw [hyl]; exact (List.getElem?_eq_some_iff.mp hm).1) hm
      have hA2 := hA.same e2
      refine ⟨_, rfl, TT, p, rs, rfl, hA2, hrl, hT, hg, fun tb H3 htb s3 d3 => ?_⟩
      refine ⟨_, rfl, TT, p, rs, rfl, hA2.same s3, hrl, hT, hg, fun _ q zs H4 hq s4 g4 hK4 => ?_, fun n hb => ?_⟩
      rotate_left
      · obtain ⟨r, h1, h2, h3⟩ := hb
        exact absurd (hone r (List.mem_of_getElem? h1)) h3
      have d4 := s4 _ _ d3
      have e4 := e2.trans (s3.trans s4)
      refine ⟨_, rfl, wl, rfl, ⟨_, SqL.of (e4 _ _ hwl)⟩, for_list (K := K) (a := wl) (xs := ys) (fun i σ H' => ∃ v2 v6 lf ls, σ = [some (.ref p), some (.ref wl), v2, some (.ref tb), some (.ref lf), none, v6] ∧ Same H4 H' ∧ H' lf = some (.lst ls) ∧ Paired (PairT H') ls (undL rs TT (Ws.take i))) ⟨_, _, q, zs, rfl, Same.refl _, g4, by
        unfold undL
        have e0 : (keysL (tabR rs) TT).filter (fun c => (Ws.take 0).all fun W => !tgB (tabR rs) (fellBy W) c) = keysL (tabR rs) TT := List.filter_eq_self.mpr fun _ _ => rfl
        rw [e0]
        exact hK4⟩ (fun _ _ _ _ ⟨_, _, _, _, _, e, _⟩ => SqL.of ((e4.trans e) _ _ hwl)) ?_ ?_⟩
      · rintro i x σ H5 hx ⟨v2, v6, lf, ls, rfl, e5, g5, hL5⟩
        obtain ⟨W, hW, a, rfl, hWt⟩ := paired_get hP hx
        have hwW := hall W (List.mem_of_getElem? hW)
        obtain ⟨hWl, hfb⟩ := right_len hwW
        generalize hL : undL rs TT (Ws.take i) = L at hL5
        have hLle : L.length ≤ 600 := by
          rw [← hL]
          unfold undL
          have := List.length_filter_le (fun c => (Ws.take i).all fun W => !tgB (tabR rs) (fellBy W) c) (keysL (tabR rs) TT)
          have := keysL_le (M := tabR rs) hT
          omega
        have hLm : ∀ c ∈ L, ∃ a b : Nat, a < b ∧ b ≤ TT ∧ c = ((a : Int), (b : Int)) := fun c hc => by
          rw [← hL] at hc
          exact keysL_mem (List.mem_filter.mp hc).1
        have hls : ls.length = L.length := Paired.length hL5
        refine gnE ?_
        refine ⟨_, rfl, _, rfl, _, rfl, TT, a, tb, lf, ls, W, tabR rs, L, rfl, hWt.same (e4.trans e5), hWl, hT, e5 _ _ d4, g5, hL5, hLle, hLm, fun t ts H6 ht s6 g6 hT6 => ⟨t, rfl, ⟨_, SqL.of g6⟩, fun D hD => dc1_set (K := K) (i0 := 5) (by show 5 < 7; decide) hD g6 hT6 ?_ fun H7 s7 hS7 => ?_⟩⟩
        · rw [Paired.length hT6]
          have := List.length_filter_le (tgB (tabR rs) (fellBy W)) L
          omega
        have s57 := s6.trans s7
        have g7 := s57 _ _ g5
        have hL7 := Paired.mapP hL5 fun _ _ z => z.same s57
        refine ⟨_, rfl, lf, rfl, ⟨_, SqL.of g7⟩, fun N2 hN2 => lc_acc (K := K) (a := lf) (xs := ls) hN2 (SqL.of g7) (by omega) (fun j acc H' => Paired (PairT H') acc ((L.take j).filter fun c => !tgB (tabR rs) (fellBy W) c)) (fun _ _ => .nil) ?_ ?_⟩
        · rintro j y acc H8 N N0 hy s8 hacc hI hN hN0
          obtain ⟨c, hc, hr⟩ := paired_get hL7 hy
          have hr := hr.same s8
          have hS8 := hS7.same s8
          have hcL := List.mem_of_getElem? hc
          have ep : decide (c ∈ L.filter (tgB (tabR rs) (fellBy W))) = tgB (tabR rs) (fellBy W) c := by
            rw [Bool.eq_iff_iff, decide_eq_true_eq, List.mem_filter]
            exact ⟨fun z => z.2, fun z => ⟨hcL, z⟩⟩
          have hG := hS8.get hr
          rw [ep] at hG
          have st := flt_take2 (p := fun c => !tgB (tabR rs) (fellBy W) c) hc _ rfl
          refine gnE ⟨rfl, ?_⟩
          refine ⟨_, rfl, _, rfl, D, _, rfl, hG, _, rfl, ?_⟩
          cases qb : tgB (tabR rs) (fellBy W) c with
          | true =>
            rw [qb] at st
            have st := st.trans (List.append_nil _)
            refine hN0 _ (Same.refl _) ?_
            rw [st]
            exact hI
          | false =>
            rw [qb] at st
            refine ⟨_, rfl, hN _ _ (Same.refl _) fun H9 b9 _ => ?_⟩
            rw [st]
            exact Paired.snoc (Paired.mapP hI fun _ _ z => z.but hacc b9) (hr.but hacc b9)
        · rintro acc H8 s8 hacc _ hI
          rw [hls, List.take_length] at hI
          rw [← hL, undL_step hW] at hI
          exact ⟨_, _, N2, acc, rfl, e5.trans (s57.trans s8), hacc, hI⟩
      · rintro σ H5 ⟨v2, v6, lf, ls, rfl, e5, g5, hL5⟩
        rw [hyl, List.take_length] at hL5
        have e45 := e4.trans e5
        have hls := Paired.length hL5
        refine ⟨_, rfl, (by show 0 ≤ sizeLine; decide), fun e he => ?_⟩
        obtain ⟨s6, g6⟩ := new2 (.lst []) he
        refine ⟨_, _, dp_pairs (s6 _ _ g5) (Paired.mapP hL5 fun _ _ z => z.same s6), .lst (SqL.of g6) .nil, shaped_pairs _, shaped_pairs [], _, rfl, ?_⟩
        rw [eqv_nil]
        obtain ⟨k1, k2⟩ := k c1 hone hall _ (e45.trans s6)
        cases hU : undL rs TT Ws with
        | nil =>
          rw [decide_eq_true rfl]
          exact k1 hU
        | cons c r =>
          rw [decide_eq_false (fun z => by cases z)]
          rw [hU] at hL5
          cases hL5 with
          | cons hx ht =>
            rename_i x t
            exact ⟨_, rfl, lf, _, _, x, rfl, rfl, SqL.of (s6 _ _ g5), at_of (j := 0) rfl rfl, k2 x c r hU (hx.same s6)⟩
end
end K85
end
section
set_option maxRecDepth 100000
set_option maxHeartbeats 4000000
namespace K85
open PySem PySem.Spec PyProof.Rows L2
theorem one_can_ws {rs : List Q4} (h : OneCan rs) : rs = (rs.map fun r => (r.1, r.2.1)).map canR := by
  rw [List.map_map]
  have : ∀ l : List Q4, (∀ r ∈ l, r.2.2.1 = 1 ∧ r.2.2.2 = 1) → l = l.map (canR ∘ fun r => (r.1, r.2.1)) := fun l => by
    induction l with
    | nil => exact fun _ => rfl
    | cons r t ih =>
      intro h
      obtain ⟨h1, h2⟩ := h r List.mem_cons_self
      rw [List.map_cons, ← ih fun x hx => h x (List.mem_cons_of_mem _ hx)]
      obtain ⟨a, b, c, d⟩ := r
      obtain rfl : c = 1 := h1
      obtain rfl : d = 1 := h2
      rfl
  exact this rs h
theorem canR_inj {ws ws' : List (Int × Int)} (h : ws.map canR = ws'.map canR) : ws = ws' := by
  have e : (ws.map canR).map (fun r => (r.1, r.2.1)) = (ws'.map canR).map (fun r => (r.1, r.2.1)) := by rw [h]
  rw [List.map_map, List.map_map] at e
  have id1 : (fun (r : Q4) => (r.1, r.2.1)) ∘ canR = id := rfl
  rw [id1, List.map_id, List.map_id] at e
  exact e
section
variable {P : Program} {w : World} {K : PySem.W.Frag} {mg : Str → Option Value} {base : Heap}
def spLotT (K : PySem.W.Frag) : Sp := fun vs H Q E => ∃ (T : Nat) (p l : Addr) (rs : List Q4) (ss : List V) (lot : List (Int × Int)), vs = [.ref p, .ref l] ∧ AlmAt K H p T rs ∧ H l = some (.lst ss) ∧ Paired (PairT H) ss lot ∧ lot.length ≤ 1000 ∧ T ≤ 24 ∧ rs.length ≤ 40 ∧ (∀ r ∈ rs, GoodR r ∧ r.2.1 ≤ 1000) ∧
  (14 < lot.length → Rz E H (cTM K) "what" (.str "lot")) ∧ (lot.length ≤ 14 → ∀ n, BadCan rs n → Rz E H (cSk K) "row" (.int ((n : Int) + 1))) ∧
  (lot.length ≤ 14 → OneCan rs → ∀ (n : Nat) s, lot[n]? = some s → ¬ StrOk T s → (∀ (m : Nat) s', m < n → lot[m]? = some s' → StrOk T s') → Rz2 E H (cBT K) "first" "last" (.int s.1) (.int s.2)) ∧
  (lot.length ≤ 14 → (∀ s ∈ lot, StrOk T s) → ∀ ws : List (Int × Int), rs = ws.map canR →
    (∀ (n : Nat) (c : Int × Int) r H', ws[n]? = some c → freeD T lot c = 0 → (∀ i c', i < n → ws[i]? = some c' → freeD T lot c' ≠ 0) → Same H H' → H' r = some (.tup [.str "rain", .int ((n : Int) + 1)]) → Q (.ref r) H') ∧
    ((∀ c ∈ ws, freeD T lot c ≠ 0) → ∀ r m H', Same H H' → H' r = some (.tup [.str "weather", .ref m]) → WeaT H' m (wayR T ((ws.map (freeD T lot)).map (optOf T)) ws.length) → Q (.ref r) H'))
theorem ok_lot_together (T : Txt w K mg) : Ok P w K mg base (L2.CX P w) 7 "lot_together" ["almanac", "stretches"] (spLotT K) := by
  refine Ok.defX (f_lot_together T) (fun _ _ _ _ _ _ us hl => match us, hl with | [_, _], _ => rfl) sc_lot_together (fun vs H Q E h => ?_) (fun f cdv A outer s H vs Q E hr h tk => ?_)
  · obtain ⟨TT, p, l, rs, ss, lot, rfl, _⟩ := h
    rfl
  · obtain ⟨TT, p, l, rs, ss, lot, rfl, hA, hl, hP, hll, hT, hrl, hg, kt, ks, kb, k⟩ := h
    refine ⟨_, (pss_cons (ps_expr (pe_okS (ok_check T) (hr.mono (by first | decide | omega)) rfl (fun σ => passAt tk σ) (pa_cons pe_str (pa_cons (pe_callB (len_seqK (K := K) rfl) rfl (n_len T) (by decide +kernel) (pa_cons (pv 1) pa_nil)) pa_nil))))
      (pss_cons (ps_expr (pe_okS (ok_check_one_can T) (hr.mono (by first | decide | omega)) rfl (fun σ => passAt tk σ) (pa_cons (pv 0) pa_nil)))
      (pss_cons (ps_for (passes_of rfl) rfl (pi_listK (K := K) rfl (pv 1)) (pg_name (i := 2) sc_lot_together.nd rfl (by first | exact Or.inl rfl | exact Or.inr rfl))
        (pss_one (ps_expr (pe_okS (ok_check_stretch T) (hr.mono (by first | decide | omega)) rfl (fun σ => passAt tk σ) (pa_cons (pv 2) (pa_cons (pe_okM0 (okm_Almanac_days T) (cl_Almanac T) (pv 0) (hr.mono (by first | decide | omega)) pass0) pa_nil))))))
      (pss_cons (ps_asg (pe_ok (ok_lot_places T) (hr.mono (by first | decide | omega)) rfl pass0 (pa_cons (pv 0) (pa_cons (pv 1) pa_nil))) (pg_tupK (K := K) (n := 2) rfl rfl (pgs_cons (pg_name (i := 3) sc_lot_together.nd rfl (by first | exact Or.inl rfl | exact Or.inr rfl)) (pgs_cons (pg_name (i := 4) sc_lot_together.nd rfl (by first | exact Or.inl rfl | exact Or.inr rfl)) pgs_nil))))
      (pss_cons (ps_if (pt_cmpR op_gt (pv 3) pe_int (nomark _)) (pss_one (ps_ret (pe_tup (pa_cons pe_str (pa_cons (pv 3) pa_nil))))) pss_nil)
      (pss_one (ps_ret (pe_tup (pa_cons pe_str (pa_cons (pe_ok (ok_placed_weather T) (hr.mono (by first | decide | omega)) rfl pass0 (pa_cons (pe_okM0 (okm_Almanac_days T) (cl_Almanac T) (pv 0) (hr.mono (by first | decide | omega)) pass0) (pa_cons (pv 4) pa_nil))) pa_nil)))))))))), ?_⟩
    have hsl : ss.length = lot.length := Paired.length hP
    refine ⟨_, rfl, _, _, rfl, .inl (SqL.of hl), "lot", _, 14, rfl, lim_lot, fun c1 => ?_, fun c1 => kt (by omega)⟩
    have c1 : lot.length ≤ 14 := by omega
    refine ⟨_, rfl, p, TT, rs, rfl, hA, hrl, fun hone H1 s1 => ?_, fun n r h1 h2 h3 => ks c1 n ⟨r, h1, h2, h3⟩⟩
    refine ⟨_, rfl, l, rfl, ⟨_, SqL.of (s1 _ _ hl)⟩, for_list (K := K) (a := l) (xs := ss) (fun i σ H' => ∃ v2, σ = [some (.ref p), some (.ref l), v2, none, none] ∧ Same H H' ∧ ∀ (m : Nat) s, m < i → lot[m]? = some s → StrOk TT s) ⟨_, rfl, s1, fun m s h => by omega⟩ (fun _ _ _ _ ⟨_, _, e, _⟩ => SqL.of (e _ _ hl)) ?_ ?_⟩
    · rintro i x σ H2 hx ⟨v2, rfl, e2, hok⟩
      obtain ⟨s, hs, hr⟩ := paired_get hP hx
      have hr := hr.same e2
      have hA2 := hA.same e2
      obtain ⟨dx, l0, xs0, i1, i2, i3⟩ := id hA2
      refine gnE ?_
      refine ⟨_, rfl, _, rfl, p, dx, _, rfl, i1, af_no (by decide +kernel) (by decide +kernel), p, TT, rs, rfl, hA2, ?_⟩
      refine ⟨x, s, TT, rfl, hr, fun ho H3 s3 => ⟨_, rfl, e2.trans s3, fun m s' hm hs' => ?_⟩, fun ho => (kb c1 hone i s hs ho fun m s' hm hs' => hok m s' hm hs').mono e2⟩
      by_cases e : m = i
      · rw [e, hs] at hs'
        cases hs'
        exact ho
      · exact hok m s' (by omega) hs'
    · rintro σ H2 ⟨v2, rfl, e2, hok⟩
      have hws := one_can_ws hone
      generalize rs.map (fun r => (r.1, r.2.1)) = ws at hws
      subst hws
      obtain ⟨k1, k2⟩ := k c1 (fun s hs => by
        obtain ⟨m, hm⟩ := List.getElem?_of_mem hs
        exact hok m s (by rw [hsl]; exact (List.getElem?_eq_some_iff.mp hm).1) hm) ws rfl
      have hA2 := hA.same e2
      have hwl : ws.length ≤ 40 := by rw [List.length_map] at hrl; exact hrl
      have hgw : ∀ c ∈ ws, 1 ≤ c.1 ∧ c.1 ≤ c.2 ∧ c.2 ≤ 1000 := fun c hc => by
        obtain ⟨⟨q1, q2, _⟩, q3⟩ := hg (canR c) (List.mem_map.mpr ⟨c, hc, rfl⟩)
        exact ⟨q1, q2, q3⟩
      refine ⟨_, rfl, _, rfl, TT, p, l, ws, ss, lot, rfl, hA2, e2 _ _ hl, Paired.mapP hP fun _ _ z => z.same e2, hll, hT, hwl, hgw, fun n c r m H3 hc hz hno s3 g3 g3' => ?_, fun hall r m H3 s3 g3 g3' _ => ?_⟩
      · refine ⟨r, _, rfl, SqT.of g3, rfl, _, _, rfl, _, _, rfl, rfl, ?_⟩
        refine ⟨_, rfl, _, _, rfl, rfl, _, rfl, ?_⟩
        rw [decide_eq_true (by omega)]
        refine ⟨_, rfl, (by show 2 ≤ sizeLine; decide), fun t ht => ?_⟩
        obtain ⟨s4, g4⟩ := new2 (.tup [.str "rain", .int ((n : Int) + 1)]) ht
        exact k1 n c t _ hc hz hno (e2.trans (s3.trans s4)) g4
      · refine ⟨r, _, rfl, SqT.of g3, rfl, _, _, rfl, _, _, rfl, rfl, ?_⟩
        refine ⟨_, rfl, _, _, rfl, rfl, _, rfl, ?_⟩
        have e3 := e2.trans s3
        have hA3 := hA.same e3
        obtain ⟨dx, l0, xs0, i1, i2, i3⟩ := id hA3
        refine ⟨_, rfl, p, dx, _, rfl, i1, af_no (by decide +kernel) (by decide +kernel), p, TT, ws.map canR, rfl, hA3, ?_⟩
        refine ⟨_, rfl, TT, m, ws.map (freeD TT lot), rfl, g3', hT, by rw [List.length_map]; exact hwl, fun d hd => ?_, fun pw rw' H4 hpw s4 hG => ⟨(by show 2 ≤ sizeLine; decide), fun t ht => ?_⟩⟩
        · obtain ⟨c, hc, rfl⟩ := List.mem_map.mp hd
          rcases freeD_cases (T := TT) (lot := lot) (hgw c hc).1 with ⟨z, _⟩ | ⟨z, _⟩
          · exact absurd z (hall c hc)
          · exact z
        · obtain ⟨s5, g5⟩ := new2 (.tup [.str "weather", .ref pw]) ht
          rw [List.length_map] at hG
          exact k2 hall t pw _ (e3.trans (s4.trans s5)) g5 ((hG.same s5).wea)
end
end K85
end
section
set_option maxRecDepth 100000
set_option maxHeartbeats 4000000
namespace K85
open PySem PySem.Spec PyProof.Rows L2
def nearB (d : Int) (s : Int × Int) : Bool := decide (s.1 < d) && decide (d ≤ s.2)
theorem near_far {d : Int} {s : Int × Int} : (!nearB d s) = farB d s := by
  unfold nearB farB
  by_cases h1 : s.1 < d <;> by_cases h2 : d ≤ s.2
  · simp [h1, h2, Int.not_le.mpr h1, Int.not_lt.mpr h2]
  · simp [h1, h2, Int.not_le.mp h2]
  · simp [h1, h2, Int.not_lt.mp h1]
  · simp [h1, h2, Int.not_lt.mp h1]
section
variable {P : Program} {w : World} {K : PySem.W.Frag} {mg : Str → Option Value} {base : Heap}
def spCovered : Sp := fun vs H Q _ => ∃ (T : Nat) (x : V) (c : Int × Int) (l : Addr) (ss : List V) (lot : List (Int × Int)), vs = [.int T, x, .ref l] ∧ PairT H x c ∧ H l = some (.lst ss) ∧ Paired (PairT H) ss lot ∧ lot.length ≤ 1000 ∧ T ≤ 24 ∧ 1 ≤ c.1 ∧ c.1 ≤ c.2 ∧ c.2 ≤ 1000 ∧ ∀ H', Same H H' → Q (.bl (decide (freeD T lot c = 0))) H'
theorem ok__law_covered (T : Txt w K mg) : Ok P w K mg base CX0 1 "_law_covered" ["days", "span", "lot"] spCovered := by
  refine Ok.def0 (f__law_covered T) (fun _ _ _ _ _ _ us hl => match us, hl with | [_, _, _], _ => rfl) sc__law_covered (fun vs H Q E h => ?_) (fun f cdv A outer s H vs Q E hr h => ?_)
  · obtain ⟨TT, x, c, l, ss, lot, rfl, _⟩ := h
    rfl
  · obtain ⟨TT, x, c, l, ss, lot, rfl, hx, hl, hP, hll, hT, h1, h2, h3, k⟩ := h
    refine ⟨_, (pss_cons (ps_if (pt_cmpR op_gt (pe_ix (ix_seqK (K := K) rfl) (pv 1) pe_int (fun _ _ => rfl)) (pv 0) (nomark _)) (pss_one (ps_ret pe_bl)) pss_nil)
      (pss_cons (ps_setLc (i := 4) (own := [("stretch", 3)]) rfl sc__law_covered.nd rfl rfl (sw_true rfl rfl rfl (by decide +kernel)) (pi_listK (K := K) rfl (pv 2)) (blkOk_by (N := ["days", "span", "lot", "stretch", "others", "day"]) (sc := defScope s__law_covered) (by decide +kernel)) (fun _ _ _ _ _ => (pg_name (i := 3) sc__law_covered.nd rfl (by first | exact Or.inl rfl | exact Or.inr rfl))) (fun _ _ _ _ _ => pts_one (PW.pt (pw_or (pt_cmpR op_le (pe_ix (ix_seqK (K := K) rfl) (pv 1) pe_int (fun _ _ => rfl)) (pe_ix (ix_seqK (K := K) rfl) (pv 3) pe_int (fun _ _ => rfl)) (nomark _)) (pw_or1 (pt_cmpR op_gt (pe_ix (ix_seqK (K := K) rfl) (pv 1) pe_int (fun _ _ => rfl)) (pe_ix (ix_seqK (K := K) rfl) (pv 3) pe_int (fun _ _ => rfl)) (nomark _)))))) (fun _ _ _ _ _ => (pv 3)))
      (pss_cons (ps_for PassesOwn.never rfl (pi_range2 rfl (n_range T) (pa_cons (pe_ix (ix_seqK (K := K) rfl) (pv 1) pe_int (fun _ _ => rfl)) (pa_cons (pe_op op_add (pe_ix (ix_seqK (K := K) rfl) (pv 1) pe_int (fun _ _ => rfl)) pe_int) pa_nil))) (pg_name (i := 5) sc__law_covered.nd rfl (by first | exact Or.inl rfl | exact Or.inr rfl))
        (pss_one (ps_if (pt_cmpR op_eq (pe_callB (len_seqK (K := K) rfl) rfl (n_len T) (by decide +kernel) (pa_cons (pe_lc (own := [("stretch", 3)]) rfl sc__law_covered.nd (pi_listK (K := K) rfl (pv 4)) (blkOk_by (N := ["days", "span", "lot", "stretch", "others", "day"]) (sc := defScope s__law_covered) (by decide +kernel)) (fun _ _ _ _ _ => (pg_name (i := 3) sc__law_covered.nd rfl (by first | exact Or.inl rfl | exact Or.inr rfl))) (fun _ _ _ _ _ => pts_one (pt_chain op_lt op_le (pe_ix (ix_seqK (K := K) rfl) (pv 3) pe_int (fun _ _ => rfl)) (pv 5) (pe_ix (ix_seqK (K := K) rfl) (pv 3) pe_int (fun _ _ => rfl)))) (fun _ _ _ _ _ => (pv 3))) pa_nil)) pe_int (nomark _)) (pss_one (ps_ret pe_bl)) pss_nil)))
      (pss_one (ps_ret pe_bl))))), ?_⟩
    have hsl : ss.length = lot.length := Paired.length hP
    refine ⟨_, rfl, hx.i1 ⟨_, rfl, _, _, rfl, rfl, _, rfl, ite2 (fun z => ?_) (fun z => ?_)⟩⟩
    · have z := of_decide_eq_true z
      have : freeD TT lot c ≠ 0 := fun y => by
        have := (freeD_zero (T := TT) (lot := lot) h1).mp y none (mem_optO_none.mpr z)
        cases this
      rw [decide_eq_false this] at k
      exact k _ (Same.refl _)
    have z : c.2 ≤ (TT : Int) := Int.not_lt.mp fun y => z (decide_eq_true y)
    refine ⟨_, rfl, l, rfl, ⟨_, SqL.of hl⟩, fun D hD => lc_acc (K := K) (a := l) (xs := ss) hD (SqL.of hl) (by omega) (fun j acc H' => Paired (PairT H') acc ((lot.take j).filter (outB c))) (fun _ _ => .nil) ?_ ?_⟩
    · rintro j y acc H2 N N0 hy s2 hacc hI hN hN0
      obtain ⟨s, hs, hr⟩ := paired_get hP hy
      have hr := hr.same s2
      have hx2 := hx.same s2
      refine gnE ⟨rfl, ?_⟩
      have st := flt_take2 (p := outB c) hs _ rfl
      refine EvT.run (b := outB c s) ?_ fun H3 s3 => ?_
      · rw [show outB c s = (decide (c.1 ≤ s.1) || decide (s.2 < c.2)) from rfl]
        exact EvT.or (EvT.test (Ev.le (Ev.p0 (Ev.var rfl) hx2) (Ev.p0 (Ev.var rfl) hr))) fun _ => EvT.test (Ev.gt (Ev.p1 (Ev.var rfl) hx2) (Ev.p1 (Ev.var rfl) hr))
      cases q : outB c s with
      | false =>
        rw [q] at st
        have st := st.trans (List.append_nil _)
        refine hN0 _ s3 ?_
        rw [st]
        exact Paired.mapP hI fun _ _ z => z.same s3
      | true =>
        rw [q] at st
        refine ⟨_, rfl, hN _ _ s3 fun H5 b5 _ => ?_⟩
        rw [st]
        have hacc3 := s3 _ _ hacc
        exact Paired.snoc (Paired.mapP hI fun _ _ z => (z.same s3).but hacc3 b5) ((hr.same s3).but hacc3 b5)
    · rintro acc H2 s2 hacc hal hI
      rw [hsl, List.take_length] at hI
      have hx2 := hx.same s2
      have hfl : (lot.filter (outB c)).length = acc.length := (Paired.length hI).symm
      refine ⟨_, rfl, hx2.i0 ⟨_, rfl, hx2.i1 ⟨_, _, rfl, rfl, c.1, c.2 + 1, rfl, ?_, ?_⟩⟩⟩
      · omega
      refine for_upto (lo := c.1) (L := (c.2 + 1 - c.1).toNat) rfl (fun i σ H' => ∃ v5, σ = [some (.int TT), some x, some (.ref l), none, some (.ref D), v5] ∧ Same H2 H' ∧ ∀ j, j < i → okLot lot c (c.1 + (j : Int)) = false) ⟨_, rfl, Same.refl _, fun j h => by omega⟩ ?_ ?_
      · rintro i σ H3 hi ⟨v5, rfl, s3, hno⟩
        refine gnE ?_
        refine ⟨_, rfl, D, rfl, ⟨_, SqL.of (s3 _ _ hacc)⟩, fun B hB => lc_count (K := K) (a := D) (xs := acc) (R := PairT) (ds := lot.filter (outB c)) (p := nearB (c.1 + (i : Int))) hB (s3 _ _ hacc) (Paired.mapP hI fun _ _ z => z.same s3) (by omega) ?_ ?_⟩
        · intro j y s H4 N N0 hy hs hr s4 hN hN0
          have hr := hr.same s4
          refine gnE ⟨rfl, ?_⟩
          refine EvT.run (b := nearB (c.1 + (i : Int)) s) ?_ fun H5 s5 => ?_
          · rw [show nearB (c.1 + (i : Int)) s = (decide (s.1 < c.1 + (i : Int)) && decide (c.1 + (i : Int) ≤ s.2)) from rfl]
            exact EvT.test (Ev.ltle (Ev.p0 (Ev.var rfl) hr) (Ev.var rfl) (Ev.p1 (Ev.var rfl) hr))
          cases q : nearB (c.1 + (i : Int)) s with
          | false => exact hN0 _ s5 q
          | true => exact ⟨_, rfl, hN _ s5 q⟩
        · intro bs H4 s4 hbs hbl _
          have eok : ((lot.filter (outB c)).filter (nearB (c.1 + (i : Int)))).length = 0 ↔ okLot lot c (c.1 + (i : Int)) = true := by
            rw [filter_len0, okLot_flt]
            have : (fun x => !nearB (c.1 + (i : Int)) x) = farB (c.1 + (i : Int)) := funext fun s => near_far
            rw [this]
          refine ⟨_, _, rfl, .inl (SqL.of hbs), rfl, _, rfl, ite2 (fun q => ?_) (fun q => ?_)⟩
          · have q := of_decide_eq_true q
            have q : bs.length = 0 := by
              have := V.int.inj q
              omega
            rw [hbl] at q
            have ho := eok.mp q
            have hf : freeD TT lot c = c.1 + (i : Int) := freeD_is (by omega) ho hno
            rw [decide_eq_false (by rw [hf]; omega)] at k
            exact k _ (s2.trans (s3.trans s4))
          · have q : bs.length ≠ 0 := fun y => q (decide_eq_true (by rw [y]; rfl))
            refine ⟨_, rfl, s3.trans s4, fun j hj => ?_⟩
            by_cases e : j = i
            · rw [e]
              rw [hbl] at q
              cases qq : okLot lot c (c.1 + (i : Int)) with
              | false => rfl
              | true => exact absurd (eok.mpr qq) q
            · exact hno j (by omega)
      · rintro σ H3 ⟨v5, rfl, s3, hno⟩
        have : freeD TT lot c = 0 := by
          rw [freeD_no (T := TT) (lot := lot) (c := c) fun j hj => hno j (by omega), if_neg (by omega)]
        rw [decide_eq_true this] at k
        exact k _ (s2.trans s3)
def spFirstCov : Sp := fun vs H Q _ => ∃ (T : Nat) (sl l : Addr) (xs : List V) (ws : List (Int × Int)) (ss : List V) (lot : List (Int × Int)), vs = [.int T, .ref sl, .ref l] ∧ H sl = some (.lst xs) ∧ Paired (PairT H) xs ws ∧ H l = some (.lst ss) ∧ Paired (PairT H) ss lot ∧ lot.length ≤ 1000 ∧ T ≤ 24 ∧ ws.length ≤ 40 ∧ (∀ c ∈ ws, 1 ≤ c.1 ∧ c.1 ≤ c.2 ∧ c.2 ≤ 1000) ∧
  (∀ (n : Nat) (c : Int × Int) H', ws[n]? = some c → freeD T lot c = 0 → (∀ i c', i < n → ws[i]? = some c' → freeD T lot c' ≠ 0) → Same H H' → Q (.int ((n : Int) + 1)) H') ∧ ((∀ c ∈ ws, freeD T lot c ≠ 0) → ∀ H', Same H H' → Q (.int 0) H')
theorem ok__law_first_covered (T : Txt w K mg) : Ok P w K mg base CX0 2 "_law_first_covered" ["days", "spans", "lot"] spFirstCov := by
  refine Ok.def0 (f__law_first_covered T) (fun _ _ _ _ _ _ us hl => match us, hl with | [_, _, _], _ => rfl) sc__law_first_covered (fun vs H Q E h => ?_) (fun f cdv A outer s H vs Q E hr h => ?_)
  · obtain ⟨TT, sl, l, xs, ws, ss, lot, rfl, _⟩ := h
    rfl
  · obtain ⟨TT, sl, l, xs, ws, ss, lot, rfl, hsl, hW, hl, hP, hll, hT, hw, hg, kb, kg⟩ := h
    refine ⟨_, (pss_cons (ps_for PassesOwn.never rfl (pi_range1 rfl (n_range T) (pa_cons (pe_callB (len_seqK (K := K) rfl) rfl (n_len T) (by decide +kernel) (pa_cons (pv 1) pa_nil)) pa_nil)) (pg_name (i := 3) sc__law_first_covered.nd rfl (by first | exact Or.inl rfl | exact Or.inr rfl))
        (pss_one (ps_if (pt_val (pe_ok (ok__law_covered T) (hr.mono (by first | decide | omega)) rfl pass0 (pa_cons (pv 0) (pa_cons (pe_ix (ix_listK (K := K) rfl) (pv 1) (pv 3) (fun _ _ => rfl)) (pa_cons (pv 2) pa_nil))))) (pss_one (ps_ret (pe_op op_add (pv 3) pe_int))) pss_nil)))
      (pss_one (ps_ret pe_int))), ?_⟩
    have hxl : xs.length = ws.length := Paired.length hW
    refine ⟨_, rfl, _, _, rfl, .inl (SqL.of hsl), _, rfl, by omega, by omega, for_upto (lo := 0) (L := ws.length) (by omega) (fun i σ H' => ∃ v3, σ = [some (.int TT), some (.ref sl), some (.ref l), v3] ∧ Same H H' ∧ ∀ j c, j < i → ws[j]? = some c → freeD TT lot c ≠ 0) ⟨_, rfl, Same.refl _, fun j c h => by omega⟩ ?_ ?_⟩
    · rintro i σ H3 hi ⟨v3, rfl, e3, hno⟩
      have z1 : (0 : Int) + (i : Int) = (i : Int) := by omega
      rw [z1]
      refine gnE ?_
      obtain ⟨x, hx⟩ : ∃ x, xs[i]? = some x := ⟨xs[i]'(by omega), List.getElem?_eq_getElem _⟩
      obtain ⟨c, hc, hr⟩ := paired_get hW hx
      obtain ⟨c1, c2, c3⟩ := hg c (List.mem_of_getElem? hc)
      refine ⟨_, rfl, _, rfl, _, rfl, sl, xs, _, x, rfl, rfl, SqL.of (e3 _ _ hsl), at_of rfl hx, _, rfl, TT, x, c, l, ss, lot, rfl, hr.same e3, e3 _ _ hl, Paired.mapP hP fun _ _ z => z.same e3, hll, hT, c1, c2, c3, fun H4 s4 => ⟨_, rfl, ite2 (fun z => ?_) (fun z => ?_)⟩⟩
      · exact ⟨_, rfl, _, _, rfl, rfl, kb i c H4 hc (of_decide_eq_true z) hno (e3.trans s4)⟩
      · have z : freeD TT lot c ≠ 0 := fun y => z (decide_eq_true y)
        refine ⟨_, rfl, e3.trans s4, fun j c' hj hc' => ?_⟩
        by_cases e : j = i
        · rw [e, hc] at hc'
          cases hc'
          exact z
        · exact hno j c' (by omega) hc'
    · rintro σ H3 ⟨v3, rfl, e3, hno⟩
      exact kg (fun c hc => by
        obtain ⟨j, hj⟩ := List.getElem?_of_mem hc
        exact hno j c (List.getElem?_eq_some_iff.mp hj).1 hj) H3 e3
end
end K85
end
section
set_option maxRecDepth 100000
set_option maxHeartbeats 4000000
namespace K85
open PySem PySem.Spec PyProof.Rows L2
section
variable {P : Program} {w : World} {K : PySem.W.Frag} {mg : Str → Option Value} {base : Heap}
def spMix (K : PySem.W.Frag) : Sp := fun vs H Q _ => ∃ (sa a : Addr) (xs : List V), vs = [.ref sa, .ref a] ∧ SqL K H a xs ∧ xs.length ≤ 90000 ∧ a ≠ sa ∧ Stk H sa ∧ ∀ (l : Addr) H' (ys : List V), H l = none → But sa H H' → Stk H' sa → H' l = some (.lst ys) → ys.Perm xs → Q (.ref l) H'
end
end K85
end
section
set_option maxRecDepth 100000
set_option maxHeartbeats 4000000
namespace K85
open PySem PySem.Spec PyProof.Rows L2
/-- the stretches in which such a weather is tight -/
def tiB (T : Nat) (ws : List (Int × Int)) (os : List (Option Int)) (c : Int × Int) : Bool := isT ws (wayR T os ws.length) c.1.toNat c.2.toNat
def RowD (T : Nat) (ws : List (Int × Int)) (H : Hp) (y : V) (os : List (Option Int)) : Prop := ∃ d n, y = .ref d ∧ SetP H d n (fun c => decide (c ∈ strL T) && tiB T ws os c)
theorem RowD.same {T : Nat} {ws : List (Int × Int)} {H H' : Hp} (e : Same H H') {y : V} {os : List (Option Int)} (h : RowD T ws H y os) : RowD T ws H' y os := by
  obtain ⟨d, n, rfl, h⟩ := h
  exact ⟨d, n, rfl, h.same e⟩
theorem strL_ok {T : Nat} {s : Int × Int} (h : s ∈ strL T) : StrOk T s := by
  obtain ⟨a, b, h1, h2, rfl⟩ := strL_mem h
  unfold StrOk
  show (0 : Int) ≤ a ∧ (b : Int) ≤ T ∧ (a : Int) < b
  omega
theorem SpanOk.good {T : Nat} {ws : List (Int × Int)} (hT : T ≤ 24) (h : ∀ c ∈ ws, SpanOk T c) : ∀ r ∈ ws.map canR, GoodR r ∧ r.2.1 ≤ 1000 := fun r hr => by
  obtain ⟨c, hc, rfl⟩ := List.mem_map.mp hr
  have := h c hc
  unfold SpanOk at this
  unfold GoodR canR
  refine ⟨⟨this.1, this.2.1, by show (0 : Int) ≤ 1; decide, by show (1 : Int) ≤ 1; decide, by show (1 : Int) ≤ 10 ^ 12; decide⟩, ?_⟩
  show c.2 ≤ 1000
  omega
theorem count_pos {α : Type} {p : α → Bool} {l : List α} : 0 < (l.filter p).length ↔ ∃ x ∈ l, p x = true := by
  rw [List.length_pos_iff_exists_mem]
  constructor
  · rintro ⟨x, hx⟩
    exact ⟨x, (List.mem_filter.mp hx).1, (List.mem_filter.mp hx).2⟩
  · rintro ⟨x, h1, h2⟩
    exact ⟨x, List.mem_filter.mpr ⟨h1, h2⟩⟩
section
variable {P : Program} {w : World} {K : PySem.W.Frag} {mg : Str → Option Value} {base : Heap}
def spLotR (K : PySem.W.Frag) : Sp := fun vs H Q _ => ∃ (T : Nat) (p sl rwl l : Addr) (xs dsv ss : List V) (ws lot : List (Int × Int)), vs = [.ref p, .int T, .ref sl, .ref rwl, .ref l] ∧ AlmAt K H p T (ws.map canR) ∧ H sl = some (.lst xs) ∧ Paired (PairT H) xs ws ∧ H rwl = some (.lst dsv) ∧ Paired (RowD T ws H) dsv (allN T ws ws.length) ∧ H l = some (.lst ss) ∧ Paired (PairT H) ss lot ∧
  lot.length ≤ 14 ∧ (∀ s ∈ lot, s ∈ strL T) ∧ T ≤ 24 ∧ ws.length ≤ 40 ∧ (∀ c ∈ ws, SpanOk T c) ∧ (allN T ws ws.length).length ≤ 90000 ∧ ∀ H', Same H H' → Q (.bl true) H'
end
end K85
end
section
set_option maxRecDepth 100000
set_option maxHeartbeats 4000000
namespace K85
open PySem PySem.Spec PyProof.Rows L2
def LotV (T : Nat) (H : Hp) (y : V) : Prop := ∃ l ss lot, y = .ref l ∧ H l = some (.lst ss) ∧ Paired (PairT H) ss lot ∧ lot.length ≤ 14 ∧ ∀ s ∈ lot, s ∈ strL T
theorem LotV.same {T : Nat} {H H' : Hp} (e : Same H H') {y : V} (h : LotV T H y) : LotV T H' y := by
  obtain ⟨l, ss, lot, rfl, h1, h2, h3⟩ := h
  exact ⟨l, ss, lot, rfl, e _ _ h1, Paired.mapP h2 fun _ _ z => z.same e, h3⟩
theorem LotV.but {T : Nat} {H H' : Hp} {D : Addr} {xs : List V} (hD : H D = some (.lst xs)) (b : But D H H') {y : V} (hy : y ≠ .ref D) (h : LotV T H y) : LotV T H' y := by
  obtain ⟨l, ss, lot, rfl, h1, h2, h3⟩ := h
  exact ⟨l, ss, lot, rfl, b _ _ h1 fun z => hy (by rw [z]), Paired.mapP h2 fun _ _ z => z.but hD b, h3⟩
theorem LotV.butS {T : Nat} {H H' : Hp} {sa : Addr} (hs : Stk H sa) (b : But sa H H') {y : V} (h : LotV T H y) : LotV T H' y := by
  obtain ⟨l, ss, lot, rfl, h1, h2, h3⟩ := h
  obtain ⟨x, y, z, hsa⟩ := id hs
  exact ⟨l, ss, lot, rfl, b _ _ h1 (rep_ne hs h1 h2), Paired.mapP h2 fun _ _ z => z.but hsa b, h3⟩
theorem strL_sq : ∀ n, (strL n).length ≤ n * n
  | 0 => Nat.zero_le _
  | n + 1 => by
    show (strL n ++ strRow n (n + 1)).length ≤ _
    rw [List.length_append, strRow_len]
    have := strL_sq n
    have : (n + 1) * (n + 1) = n * n + n + n + 1 := by rw [Nat.add_mul, Nat.mul_add]; omega
    omega
theorem strL_pos {n : Nat} (h : 1 ≤ n) : 1 ≤ (strL n).length := by
  obtain ⟨m, rfl⟩ : ∃ m, n = m + 1 := ⟨n - 1, by omega⟩
  show 1 ≤ (strL m ++ strRow m (m + 1)).length
  rw [List.length_append, strRow_len]
  omega
section
variable {P : Program} {w : World} {K : PySem.W.Frag} {mg : Str → Option Value} {base : Heap}
def spLots : Sp := fun vs H Q _ => ∃ (T : Nat) (sa : Addr), vs = [.ref sa, .int T] ∧ Stk H sa ∧ 1 ≤ T ∧ T ≤ 6 ∧ ∀ p ls H', But sa H H' → Stk H' sa → H' p = some (.lst ls) → p ≠ sa → ls.length ≤ 90000 → (∀ y ∈ ls, LotV T H' y) → Q (.ref p) H'
end
end K85
end
section
set_option maxRecDepth 100000
set_option maxHeartbeats 4000000
namespace K85
open PySem PySem.Spec PyProof.Rows L2
section
variable {P : Program} {w : World} {K : PySem.W.Frag} {mg : Str → Option Value} {base : Heap}
def spBadLot : Sp := fun vs H Q _ => ∃ (T : Nat) (sa l : Addr) (ss : List V) (lot : List (Int × Int)), vs = [.ref sa, .int T, .ref l] ∧ Stk H sa ∧ H l = some (.lst ss) ∧ Paired (PairT H) ss lot ∧ lot.length ≤ 13 ∧ 1 ≤ T ∧ T ≤ 24 ∧ (∀ s ∈ lot, StrOk T s) ∧
  ∀ t b x bs lt (n : Nat) s H', But sa H H' → Stk H' sa → H' t = some (.tup [.ref b, x]) → H' b = some (.lst bs) → Paired (PairT H') bs lt → lt.length ≤ 14 → lt[n]? = some s → PairT H' x s → ¬ StrOk T s → (∀ (m : Nat) s', m < n → lt[m]? = some s' → StrOk T s') → Q (.ref t) H'
end
end K85
end
section
set_option maxRecDepth 100000
set_option maxHeartbeats 4000000
namespace K85
open PySem PySem.Spec PyProof.Rows L2
theorem via {te : TE} {σ : L2.St} {H : Hp} {K : VK} (PV : V → Hp → Prop) (h : ∀ R : VK, (∀ v H', PV v H' → R v H') → te σ H R) (q : ∀ v H', PV v H' → K v H') : te σ H K := h K q
theorem made {K : PySem.W.Frag} {E : XK} {Q : Addr → Hp → Prop} {H : Hp} {s : Addr} {ys : List V} {rs : List Q4} {d : Int} (hS : H s = some (.lst ys)) (hP : Paired (QuadT H) ys rs) (d1 : 1 ≤ d) (d2 : d ≤ 24) (hl : rs.length ≤ 40) (hg : ∀ r ∈ rs, GoodR r)
    (k : ∀ x H', H x = none → Same H H' → AlmAt K H' x d rs → Q x H') :
    ∀ x dx, H x = none → H dx = none → dx ≠ x → spAInit K (.ref x :: ([.int d, .ref s] ++ [])) (upd (upd H dx (.own x)) x (.ins (cA K) dx [])) (fun v H2 => v = .non ∧ Q x H2) E := by
  intro x dx hx hdx hne
  have s1 : Same H (upd (upd H dx (.own x)) x (.ins (cA K) dx [])) := same_mut (same_new hdx) hx
  exact ⟨x, dx, d, s, ys, rs, rfl, upd_same, s1 _ _ hS, Paired.mapP hP fun _ _ z => z.same s1, d1, d2, hl, hg, fun H' b hA => ⟨rfl, k x H' hx (fun c o hc => b c o (s1 c o hc) (ne_of_none hc hx)) hA⟩⟩
theorem quads_ne {H : Hp} {sa r : Addr} {xs : List V} {rs : List Q4} (hs : Stk H sa) (h : H r = some (.lst xs)) (hp : Paired (QuadT H) xs rs) : r ≠ sa := fun z => by
  obtain ⟨a, b, c, hs⟩ := hs
  rw [z, hs] at h
  have := HO.lst.inj (Option.some.inj h)
  subst this
  cases hp with
  | cons r _ =>
    obtain ⟨q, e, _⟩ := r
    cases e
theorem AlmAt.but {K : PySem.W.Frag} {H H' : Hp} {sa p : Addr} {d : Int} {rs : List Q4} (hs : Stk H sa) (e : But sa H H') (h : AlmAt K H p d rs) : AlmAt K H' p d rs := by
  obtain ⟨dx, l, xs, h1, h2, h3⟩ := h
  obtain ⟨x, y, z, hsa⟩ := id hs
  exact ⟨dx, l, xs, e _ _ h1 (ne_stk hs h1 fun _ z => by cases z), e _ _ h2 (quads_ne hs h2 h3), Paired.mapP h3 fun _ _ z => z.but hsa e⟩
theorem WeaT.but {H H' : Hp} {sa p : Addr} {W : List (List (Int × Int))} (hs : Stk H sa) (e : But sa H H') (h : WeaT H p W) : WeaT H' p W := by
  obtain ⟨xs, h1, h2⟩ := h
  obtain ⟨x, y, z, hsa⟩ := id hs
  refine ⟨xs, e _ _ h1 fun q => ?_, Paired.mapP h2 fun _ _ ⟨l, ys, e1, q1, q2⟩ => ⟨l, ys, e1, e _ _ q1 (rep_ne hs q1 q2), Paired.mapP q2 fun _ _ z => z.but hsa e⟩⟩
  rw [q, hsa] at h1
  have := HO.lst.inj (Option.some.inj h1)
  subst this
  cases h2 with
  | cons r _ =>
    obtain ⟨l, ys, e1, _⟩ := r
    cases e1
theorem bad_uniq {rs : List Q4} {n m : Nat} (h : BadCan rs n) (h' : BadCan rs m) : n = m := by
  obtain ⟨r, h1, h2, h3⟩ := h
  obtain ⟨r', h1', h2', h3'⟩ := h'
  rcases Nat.lt_trichotomy n m with c | c | c
  · exact absurd (h2' n c r h1) h3
  · exact c
  · exact absurd (h2 m c r' h1') h3'
section
variable {P : Program} {w : World} {K : PySem.W.Frag} {mg : Str → Option Value} {base : Heap}
def spBent : Sp := fun vs H Q _ => ∃ (sa a : Addr) (W : List (List (Int × Int))), vs = [.ref sa, .ref a] ∧ Stk H sa ∧ WeaT H a W ∧ 1 ≤ W.length ∧ W.length ≤ 24 ∧ total W ≤ 40 ∧ ∀ p W' H', But sa H H' → Stk H' sa → WeaT H' p W' → W'.length ≤ 25 → total W' ≤ 41 → Q (.ref p) H'
end
end K85
end
section
set_option maxRecDepth 100000
set_option maxHeartbeats 4000000
namespace K85
open PySem PySem.Spec PyProof.Rows L2
/-! ### lists of weathers as data -/
theorem dp_weas {K : PySem.W.Frag} {H : Hp} {xs : List V} {Ws : List (List (List (Int × Int)))} (h : Paired (WeaV H) xs Ws) : DpAll K H xs (Ws.map dW) := by
  induction h with
  | nil => exact .nil
  | cons a _ ih =>
    obtain ⟨l, rfl, ys, h1, h2⟩ := a
    exact .cons (.lst (SqL.of h1) (dp_reps h2)) ih
theorem lay_weas : ∀ Ws : List (List (List (Int × Int))), PyData.canLayAll0 (Ws.map dW) = true
  | [] => by rw [List.map_nil]; unfold PyData.canLayAll0; rfl
  | W :: r => by
    rw [List.map_cons]
    unfold PyData.canLayAll0
    rw [lay_weas r]
    have : (dW W).canLay0 = true := by
      unfold dW PyData.canLay0
      exact lay_reps W
    rw [this]
    rfl
theorem dep_weas : ∀ Ws : List (List (List (Int × Int))), PyData.depthAll (Ws.map dW) ≤ 4
  | [] => by rw [List.map_nil]; unfold PyData.depthAll; exact Nat.zero_le _
  | W :: r => by
    rw [List.map_cons]
    unfold PyData.depthAll
    have h := dep_weas r
    have e : (dW W).depth ≤ 4 := by
      have := dep_reps W
      unfold dW PyData.depth
      omega
    omega
theorem shaped_weas (Ws : List (List (List (Int × Int)))) : SeqAt.shaped (PyData.list (Ws.map dW)) = true := by
  unfold SeqAt.shaped
  have h := dep_weas Ws
  have e : (PyData.list (Ws.map dW)).depth ≤ 64 := by
    unfold PyData.depth
    omega
  have f : (PyData.list (Ws.map dW)).canLay0 = true := by
    unfold PyData.canLay0
    exact lay_weas Ws
  rw [f, decide_eq_true e]
  rfl
theorem ne_weas {K : PySem.W.Frag} {H : Hp} {a b : Addr} {xs ys : List V} {Ws : List (List (List (Int × Int)))} {Q : VK} (ha : H a = some (.lst xs)) (hb : H b = some (.lst ys)) (h1 : Paired (WeaV H) xs Ws) (h2 : Paired (WeaV H) ys Ws) (q : Q (.bl false) H) : rNeD K (.ref a) (.ref b) H Q := by
  refine ⟨_, _, .lst (SqL.of ha) (dp_weas h1), .lst (SqL.of hb) (dp_weas h2), shaped_weas Ws, shaped_weas Ws, ?_⟩
  rw [eqv_self (shaped_weas Ws)]
  exact q
/-! ### deep copies, apart from all that was -/
def SeqS {α : Type} (RS : (Addr → Prop) → Hp → V → α → Prop) (S : Addr → Prop) (H : Hp) (v : V) (ds : List α) : Prop := ∃ a xs, v = .ref a ∧ (∀ D, S D → a ≠ D) ∧ H a = some (.lst xs) ∧ Paired (RS S H) xs ds ∧ ds.length ≤ 3000
def spDpS {α : Type} (R : Hp → V → α → Prop) (RS : (Addr → Prop) → Hp → V → α → Prop) : Sp := fun vs H Q _ => ∃ v d, vs = [v] ∧ R H v d ∧ ∀ v' H', Same H H' → RS (fun D => H D ≠ none) H' v' d → Q v' H'
section
variable {P : Program} {w : World} {K : PySem.W.Frag} {mg : Str → Option Value} {base : Heap}
structure Apart {α : Type} (RS : (Addr → Prop) → Hp → V → α → Prop) : Prop where
  same : ∀ S H H' v d, Same H H' → RS S H v d → RS S H' v d
  but : ∀ (S : Addr → Prop) H H' D acc v d, S D → H D = some (.lst acc) → But D H H' → RS S H v d → RS S H' v d
  mono : ∀ (S S' : Addr → Prop) H v d, (∀ D, S' D → S D) → RS S H v d → RS S' H v d
theorem Apart.seq {α : Type} {RS : (Addr → Prop) → Hp → V → α → Prop} (h : Apart RS) : Apart (SeqS RS) where
  same := fun S H H' v d e ⟨a, xs, e1, hs, h1, p, z⟩ => ⟨a, xs, e1, hs, e _ _ h1, Paired.mapP p fun _ _ q => h.same _ _ _ _ _ e q, z⟩
  but := fun S H H' D acc v d hD hl b ⟨a, xs, e1, hs, h1, p, z⟩ => ⟨a, xs, e1, hs, b _ _ h1 (hs D hD), Paired.mapP p fun _ _ q => h.but _ _ _ _ _ _ _ hD hl b q, z⟩
  mono := fun S S' H v d k ⟨a, xs, e1, hs, h1, p, z⟩ => ⟨a, xs, e1, fun D q => hs D (k D q), h1, Paired.mapP p fun _ _ q => h.mono _ _ _ _ _ k q, z⟩
theorem apart_pair : Apart (fun (_ : Addr → Prop) => PairT) where
  same := fun _ _ _ _ _ e h => h.same e
  but := fun _ _ _ _ _ _ _ _ hl b h => h.but hl b
  mono := fun _ _ _ _ _ _ h => h
theorem dpS_gen {α : Type} {R : Hp → V → α → Prop} {RS : (Addr → Prop) → Hp → V → α → Prop} {n : Nat} (T : Txt w K mg) (ok__law_deep : Txt w K mg → Ok P w K mg base CX0 n "_law_deep" ["thing"] (spDpS R RS)) (hS : ∀ H H' v d, Same H H' → R H v d → R H' v d) (hA : Apart RS) :
    Ok P w K mg base CX0 (n + 1) "_law_deep" ["thing"] (spDpS (SeqOf true R) (SeqS RS)) := by
  refine Ok.def0 (f__law_deep T) (fun _ _ _ _ _ _ us hl => match us, hl with | [_], _ => rfl) sc__law_deep (fun vs H Q E h => ?_) (fun f cdv A outer s H vs Q E hr h => ?_)
  · obtain ⟨v, d, rfl, _⟩ := h
    rfl
  · obtain ⟨v, d, rfl, h, k⟩ := h
    refine ⟨_, (pss_cons (ps_if (pt_val (pe_callB (isiK (K := K) rfl) rfl (n_isinstance T) (by decide +kernel) (pa_cons (pv 0) (pa_cons (pe_bltn (v := .ty "list") (u := .type "list") rfl (n_list T) (by decide +kernel) rfl) pa_nil)))) (pss_one (ps_ret (pe_lc (own := [("one", 1)]) rfl sc__law_deep.nd (pi_listK (K := K) rfl (pv 0)) (blkOk_by (N := ["thing", "one"]) (sc := defScope s__law_deep) (by decide +kernel)) (fun _ _ _ _ _ => (pg_name (i := 1) sc__law_deep.nd rfl (by first | exact Or.inl rfl | exact Or.inr rfl))) (fun _ _ _ _ _ => pts_nil) (fun _ _ _ _ _ => (pe_ok (ok__law_deep T) (hr.mono (by first | decide | omega)) rfl pass0 (pa_cons (pv 1) pa_nil)))))) pss_nil)
      (pss_cons (ps_if (pt_val (pe_callB (isiK (K := K) rfl) rfl (n_isinstance T) (by decide +kernel) (pa_cons (pv 0) (pa_cons (pe_bltn (v := .ty "tuple") (u := .type "tuple") rfl (n_tuple T) (by decide +kernel) rfl) pa_nil)))) (pss_one (ps_ret (pe_callTy call_tuple_of rfl (n_tuple T) (by decide +kernel) (pa_cons (pe_lc (own := [("one", 1)]) rfl sc__law_deep.nd (pi_tupK (K := K) rfl (pv 0)) (blkOk_by (N := ["thing", "one"]) (sc := defScope s__law_deep) (by decide +kernel)) (fun _ _ _ _ _ => (pg_name (i := 1) sc__law_deep.nd rfl (by first | exact Or.inl rfl | exact Or.inr rfl))) (fun _ _ _ _ _ => pts_nil) (fun _ _ _ _ _ => (pe_ok (ok__law_deep T) (hr.mono (by first | decide | omega)) rfl pass0 (pa_cons (pv 1) pa_nil)))) pa_nil)))) pss_nil)
      (pss_one (ps_ret (pv 0))))), ?_⟩
    obtain ⟨a, xs, rfl, ha, hP, hz⟩ := h
    have ha : H a = some (.lst xs) := ha
    have hxl := Paired.length hP
    refine ⟨_, rfl, ⟨_, _, _, _, _, rfl, .ty _, tx_lst ha, k_ll, _, rfl, iteT ?_⟩⟩
    refine ⟨_, rfl, a, rfl, ⟨_, SqL.of ha⟩, fun D hD => lc_acc (K := K) (a := a) (xs := xs) hD (SqL.of ha) (by omega) (fun j acc H' => Paired (RS (fun E => E = D ∨ H E ≠ none) H') acc (d.take j)) (fun _ _ => .nil) ?_ ?_⟩
    · rintro j x acc H2 N N0 hx s2 hacc hI hN hN0
      obtain ⟨e, he, hr⟩ := paired_get hP hx
      refine gnE ⟨rfl, ?_⟩
      refine ⟨_, rfl, x, e, rfl, hS _ _ _ _ s2 hr, fun v' H3 s3 h3 => ?_⟩
      have hacc3 := s3 _ _ hacc
      have h3 := hA.mono _ (fun E => E = D ∨ H E ≠ none) _ _ _ (fun E z => by
        rcases z with rfl | z
        · rw [hacc]
          exact fun z => by cases z
        · obtain ⟨o, ho⟩ := Option.ne_none_iff_exists'.mp z
          rw [s2 _ _ ho]
          exact fun z => by cases z) h3
      refine hN _ _ s3 fun H5 b5 _ => ?_
      rw [take_get he]
      exact Paired.snoc (Paired.mapP hI fun _ _ z => hA.but _ _ _ D acc _ _ (.inl rfl) hacc3 b5 (hA.same _ _ _ _ _ s3 z)) (hA.but _ _ _ D acc _ _ (.inl rfl) hacc3 b5 h3)
    · rintro acc H2 s2 hacc _ hI
      rw [hxl, List.take_length] at hI
      exact k _ H2 s2 ⟨D, acc, rfl, fun E z q => z (by rw [← q]; exact hD), hacc, Paired.mapP hI fun _ _ z => hA.mono _ _ _ _ _ (fun E z => .inr z) z, hz⟩
theorem ok_dpS1 (T : Txt w K mg) : Ok P w K mg base CX0 2 "_law_deep" ["thing"] (spDpS PairT (fun _ => PairT)) :=
  (ok_dp1 T).imp fun vs H Q E ⟨v, c, e, h, k⟩ => ⟨v, c, e, h, fun v' H' s h' _ => k v' H' s h'⟩
theorem ok_dpS2 (T : Txt w K mg) : Ok P w K mg base CX0 3 "_law_deep" ["thing"] (spDpS (SeqOf true PairT) (SeqS fun _ => PairT)) :=
  dpS_gen (n := 2) T (fun T => ok_dpS1 T) (fun _ _ _ _ e h => h.same e) apart_pair
theorem ok_dpS3 (T : Txt w K mg) : Ok P w K mg base CX0 4 "_law_deep" ["thing"] (spDpS (SeqOf true (SeqOf true PairT)) (SeqS (SeqS fun _ => PairT))) :=
  dpS_gen (n := 3) T (fun T => ok_dpS2 T) (fun _ _ _ _ e ⟨a, xs, e1, h, p, z⟩ => ⟨a, xs, e1, e _ _ h, Paired.mapP p fun _ _ q => q.same e, z⟩) apart_pair.seq
theorem ok_dpS4 (T : Txt w K mg) : Ok P w K mg base CX0 5 "_law_deep" ["thing"] (spDpS (SeqOf true (SeqOf true (SeqOf true PairT))) (SeqS (SeqS (SeqS fun _ => PairT)))) :=
  dpS_gen (n := 4) T (fun T => ok_dpS3 T) (fun _ _ _ _ e ⟨a, xs, e1, h, p, z⟩ => ⟨a, xs, e1, e _ _ h, Paired.mapP p fun _ _ ⟨b, ys, e2, h2, p2, z2⟩ => ⟨b, ys, e2, e _ _ h2, Paired.mapP p2 fun _ _ q => q.same e, z2⟩, z⟩) apart_pair.seq.seq
end
theorem WeaV.seqOf {H : Hp} {v : V} {W : List (List (Int × Int))} (h : WeaV H v W) (hW : W.length ≤ 100) (ht : total W ≤ 2000) : SeqOf true (SeqOf true PairT) H v W := by
  obtain ⟨p, rfl, xs, h1, h2⟩ := h
  refine ⟨p, xs, rfl, h1, ?_, by omega⟩
  have : ∀ {xs : List V} {W : List (List (Int × Int))}, total W ≤ 2000 → Paired (RepT H) xs W → Paired (SeqOf true PairT H) xs W := by
    intro xs W ht h
    induction h with
    | nil => exact .nil
    | cons a _ ih =>
      rw [total_cons] at ht
      obtain ⟨l, ys, rfl, h1, h2⟩ := a
      exact .cons ⟨l, ys, rfl, h1, h2, by omega⟩ (ih (by omega))
  exact this ht h2
theorem weas_of {S : Addr → Prop} {H : Hp} {v : V} {Ws : List (List (List (Int × Int)))} (h : SeqS (SeqS (SeqS fun _ => PairT)) S H v Ws) : ∃ p xs, v = .ref p ∧ (∀ D, S D → p ≠ D) ∧ H p = some (.lst xs) ∧ Paired (WeaV H) xs Ws := by
  obtain ⟨p, xs, rfl, hs, h1, h2, _⟩ := h
  exact ⟨p, xs, rfl, hs, h1, Paired.mapP h2 fun _ _ ⟨a, ys, e1, _, g1, g2, _⟩ => ⟨a, e1, ys, g1, Paired.mapP g2 fun _ _ ⟨l, zs, e, _, q1, q2, _⟩ => ⟨l, zs, e, q1, q2⟩⟩⟩
end K85
end
section
set_option maxRecDepth 100000
set_option maxHeartbeats 4000000
namespace K85
open PySem PySem.Spec PyProof.Rows L2
theorem tabS_R {ws : List (Int × Int)} : tabS ws = tabR (ws.map canR) := by
  funext a b
  unfold tabS tabR cS cN
  rw [List.filter_map, List.length_map]
  rfl
theorem SpanOk.good2 {T : Nat} {ws : List (Int × Int)} (hT : T ≤ 24) (h : ∀ c ∈ ws, SpanOk T c) : (∀ r ∈ ws.map canR, GoodR r) ∧ ∀ c ∈ ws, 1 ≤ c.1 ∧ c.1 ≤ c.2 ∧ c.2 ≤ 1000 := by
  refine ⟨fun r hr => ?_, fun c hc => ?_⟩
  · obtain ⟨c, hc, rfl⟩ := List.mem_map.mp hr
    have := h c hc
    unfold SpanOk at this
    exact ⟨this.1, this.2.1, by show (0 : Int) ≤ 1; decide, by show (1 : Int) ≤ 1; decide, by show (1 : Int) ≤ 10 ^ 12; decide⟩
  · have := h c hc
    unfold SpanOk at this
    exact ⟨this.1, this.2.1, by omega⟩
section
variable {P : Program} {w : World} {K : PySem.W.Frag} {mg : Str → Option Value} {base : Heap}
def spTooM (K : PySem.W.Frag) : Sp := fun vs H Q _ => ∃ (T : Nat) (sa l : Addr) (xs : List V) (ws : List (Int × Int)), vs = [.ref sa, .int T, .ref l] ∧ H l = some (.lst xs) ∧ Paired (PairT H) xs ws ∧ ws.length ≤ 6 ∧ 1 ≤ T ∧ T ≤ 6 ∧ (∀ c ∈ ws, SpanOk T c) ∧ LamX.Tabs (Tl K) H ∧ ∀ H', Same H H' → Q (.bl true) H'
end
end K85
end
section
set_option maxRecDepth 100000
set_option maxHeartbeats 4000000
namespace K85
open PySem PySem.Spec PyProof.Rows L2
theorem str_badtable : PyData.strOk (Str.ofString "BadTable") = true := by decide +kernel
theorem ne_tab {K : PySem.W.Frag} {H : Hp} {a b : Addr} {x y : Int} {Q : VK} (h1 : RsdX H a [.str "BadTable", .int x, .int y]) (h2 : RsdX H b [.str "BadTable", .int x, .int y]) (q : Q (.bl false) H) : rNeD K (.ref a) (.ref b) H Q :=
  ne_rsX (ds := [.str "BadTable", .int x, .int y]) (.cons (.str _) (.cons (.int _) (.cons (.int _) .nil))) (by simp [PyData.canLayAll0, PyData.canLay0, str_badtable]) (by simp [PyData.depthAll, PyData.depth]) h1 h2 q
theorem RsdX.butS {H H' : Hp} {sa r : Addr} {tl : List V} (hs : Stk H sa) (e : But sa H H') (h : RsdX H r tl) : RsdX H' r tl := by
  obtain ⟨l, t, h1, h2, h3⟩ := h
  exact ⟨l, t, e _ _ h1 (ne_stk hs h1 fun _ z => by cases z), e _ _ h2 (refs_ne (rs := [t]) hs h2), e _ _ h3 (ne_stk hs h3 fun _ z => by cases z)⟩
theorem first_uniq {T : Int} {lt : List (Int × Int)} {n m : Nat} {s u : Int × Int} (h1 : lt[n]? = some s) (h2 : ¬ StrOk T s) (h3 : ∀ (i : Nat) s', i < n → lt[i]? = some s' → StrOk T s') (k1 : lt[m]? = some u) (k2 : ¬ StrOk T u) (k3 : ∀ (i : Nat) s', i < m → lt[i]? = some s' → StrOk T s') : s = u := by
  rcases Nat.lt_trichotomy n m with c | c | c
  · exact absurd (k3 n s c h1) h2
  · rw [c, k1] at h1
    exact (Option.some.inj h1).symm
  · exact absurd (h3 m u c k1) k2
theorem whole_ok {T : Nat} {ws : List (Int × Int)} (hs : ∀ c ∈ ws, SpanOk T c) (hT : 1 ≤ T) (n : Nat) : ∀ c ∈ ws, freeD T (List.replicate n ((0 : Int), (T : Int))) c ≠ 0 := fun c hc z => by
  obtain ⟨h1, h2, _⟩ := hs c hc
  obtain ⟨o, ho, hk⟩ := one_ok (T := T) (s := ((0 : Int), (T : Int))) (c := c) (Int.le_refl 0) (by show (0 : Int) < T; omega) (Int.le_refl _) h1 h2
  have := (freeD_zero h1).mp z o ho
  have k : okO (List.replicate n ((0 : Int), (T : Int))) c o = true := okO_lot.mpr fun s hs' => by
    rw [(List.mem_replicate.mp hs').2]
    exact hk
  rw [k] at this
  cases this
theorem und_same {T : Nat} {ws : List (Int × Int)} {Ws : List (List (List (Int × Int)))} (hg : ∀ r ∈ ws.map canR, GoodR r) (h : ∀ W ∈ Ws, wrongOf (ws.map canR) T W = -1) : undL (ws.map canR) T Ws = undS ws (keysL (tabR (ws.map canR)) T) Ws := by
  unfold undL undS
  refine List.filter_congr fun c hc => ?_
  obtain ⟨a, b, hab, hb, rfl⟩ := keysL_mem hc
  have : ∀ W ∈ Ws, (!tgB (tabR (ws.map canR)) (fellBy W) ((a : Int), (b : Int))) = !isT ws W a b := fun W hW => by
    obtain ⟨hl, hf⟩ := right_len (h W hW)
    have := tight_is (ws := ws) hf (a := a) (b := b) (by omega) (by omega) hg
    unfold tgB
    rw [← this]
    rfl
  rw [Bool.eq_iff_iff, List.all_eq_true, List.all_eq_true]
  exact ⟨fun z W hW => by rw [← z W hW]; exact (this W hW).symm, fun z W hW => by rw [← z W hW]; exact this W hW⟩
end K85
end
section
set_option maxRecDepth 100000
set_option maxHeartbeats 4000000
namespace K85
open PySem PySem.Spec PyProof.Rows L2
theorem SetP.mut {H : Hp} {l d : Addr} {xs : List V} {o : HO} {n : Nat} {p : Int × Int → Bool} (hl : H l = some (.lst xs)) (h : SetP H d n p) : SetP (upd H l o) d n p := by
  obtain ⟨kvs, h1, h2⟩ := h
  refine ⟨kvs, ?_, h2⟩
  rw [upd_ne (fun z => by rw [z, hl] at h1; cases h1)]
  exact h1
theorem RowD.mut {T : Nat} {ws : List (Int × Int)} {H : Hp} {l : Addr} {xs : List V} {o : HO} {y : V} {os : List (Option Int)} (hl : H l = some (.lst xs)) (h : RowD T ws H y os) : RowD T ws (upd H l o) y os := by
  obtain ⟨d, n, rfl, h⟩ := h
  exact ⟨d, n, rfl, SetP.mut hl h⟩
theorem RowD.butS {T : Nat} {ws : List (Int × Int)} {H H' : Hp} {sa : Addr} (hs : Stk H sa) (e : But sa H H') {y : V} {os : List (Option Int)} (h : RowD T ws H y os) : RowD T ws H' y os := by
  obtain ⟨d, n, rfl, kvs, h1, h2⟩ := h
  exact ⟨d, n, rfl, kvs, e _ _ h1 (ne_stk hs h1 fun _ z => by cases z), h2⟩
theorem WeaV.butS {H H' : Hp} {sa : Addr} (hs : Stk H sa) (e : But sa H H') {y : V} {W : List (List (Int × Int))} (h : WeaV H y W) : WeaV H' y W := by
  obtain ⟨a, rfl, h⟩ := h
  exact ⟨a, rfl, h.but hs e⟩
theorem tk_step {L : List (Int × Int)} {j : Nat} {c : Int × Int} (h : L[j]? = some c) (p : Int × Int → Bool) (e : Int × Int) : (decide (e ∈ L.take (j + 1)) && p e) = ((decide (e ∈ L.take j) && p e) || (decide (e = c) && p c)) := by
  rw [take_get h]
  by_cases q : e = c
  · subst q
    rw [Bool.eq_iff_iff]
    simp
  · rw [Bool.eq_iff_iff]
    simp [q]
theorem weas_sub {H : Hp} {xs : List V} {Ws : List (List (List (Int × Int)))} (h : Paired (WeaV H) xs Ws) : ∀ {zs : List V}, (∀ z ∈ zs, z ∈ xs) → ∃ Zs, Paired (WeaV H) zs Zs ∧ ∀ W ∈ Zs, W ∈ Ws
  | [], _ => ⟨[], .nil, fun _ z => by cases z⟩
  | z :: r, hz => by
    obtain ⟨Zs, h1, h2⟩ := weas_sub h (zs := r) fun y hy => hz y (List.mem_cons_of_mem _ hy)
    obtain ⟨i, hi⟩ := List.getElem?_of_mem (hz z List.mem_cons_self)
    obtain ⟨W, hW, hr⟩ := paired_get h hi
    exact ⟨W :: Zs, .cons hr h1, fun V hV => by
      rcases List.mem_cons.mp hV with rfl | hV
      · exact List.mem_of_getElem? hW
      · exact h2 V hV⟩
theorem und_none {T : Nat} {ws : List (Int × Int)} (h1 : ∀ c ∈ ws, 1 ≤ c.1 ∧ c.1 ≤ c.2) (ks : List (Int × Int)) (hk : ∀ c ∈ ks, ∃ a b : Nat, a < b ∧ b ≤ T ∧ c = ((a : Int), (b : Int))) : undS ws ks ((allN T ws ws.length).map fun os => wayR T os ws.length) = [] := by
  unfold undS
  refine List.filter_eq_nil_iff.mpr fun c hc => ?_
  obtain ⟨a, b, hab, hb, rfl⟩ := hk c hc
  obtain ⟨os, ho, h⟩ := one_way (T := T) (ws := ws) h1 hab hb
  intro z
  have := List.all_eq_true.mp z _ (List.mem_map.mpr ⟨os, ho, rfl⟩)
  have e : isT ws (wayR T os ws.length) ((a : Int), (b : Int)).1.toNat ((a : Int), (b : Int)).2.toNat = true := h
  rw [e] at this
  cases this
theorem ways_pos {T : Nat} {ws : List (Int × Int)} (h1 : ∀ c ∈ ws, 1 ≤ c.1 ∧ c.1 ≤ c.2) (hT : 1 ≤ T) : ∃ os r, allN T ws ws.length = os :: r := by
  obtain ⟨os, ho, _⟩ := one_way (T := T) (ws := ws) h1 (a := 0) (b := 1) (by omega) hT
  cases e : allN T ws ws.length with
  | nil => rw [e] at ho; cases ho
  | cons a r => exact ⟨a, r, rfl⟩
theorem paired_both {α β : Type} {R S : α → β → Prop} {xs : List α} {ys : List β} (h : Paired R xs ys) (k : ∀ x, ∀ y ∈ ys, R x y → S x y) : Paired S xs ys := by
  induction h with
  | nil => exact .nil
  | cons r _ ih => exact .cons (k _ _ List.mem_cons_self r) (ih fun x y hy => k x y (List.mem_cons_of_mem _ hy))
end K85
end
section
set_option maxRecDepth 100000
set_option maxHeartbeats 4000000
namespace K85
open PySem PySem.Spec PyProof.Rows L2
theorem ext_spoil {H0 H1 H2 : Hp} {q : Addr} {ts : List V} (e : LamX.ExtN H0 H1) (hq : ∀ xs, H0 q ≠ some (.lst xs)) (g : H1 q = some (.lst ts)) (b : But q H1 H2) : LamX.ExtN H0 H2 := fun c o h n => b c o (e c o h n) fun z => by
  subst z
  have := e _ _ h n
  rw [g] at this
  cases this
  exact hq _ h
theorem tabs_but1 {q : Addr} {ts : List V} {H H' : Hp} {Tb : List (Addr × Str)} (h : LamX.Tabs Tb H) (g : H q = some (.lst ts)) (e : But q H H') : LamX.Tabs Tb H' := fun p hp => by
  obtain ⟨ps, hP, ht, hc⟩ := h p hp
  have hne : p.1 ≠ q := fun z => by
    rw [z, g] at hP
    cases hP
  exact ⟨ps, e _ _ hP hne, ht, fun pos cv r => by
    obtain ⟨c, h1, h2⟩ := hc pos cv r
    have hc : c ≠ q := fun z => by
      rw [z, g] at h2
      cases h2
    exact ⟨c, h1, e _ _ h2 hc⟩⟩
theorem keysR_mem {ws : List (Int × Int)} {T : Nat} : ∀ s ∈ keysL (tabS ws) T, ∃ a b : Nat, a < b ∧ b ≤ T ∧ s = ((a : Int), (b : Int)) := fun s hs => keysL_mem hs
theorem keys_len {M : Nat → Nat → Int} {T : Nat} (hT : T ≤ 6) : (keysL M T).length ≤ 21 := by
  have h1 : (keysL M T).length ≤ (strL T).length := List.length_filter_le _ _
  have h2 : ∀ n : Fin 7, (strL n.1).length ≤ 21 := by decide
  have h3 : (strL T).length ≤ 21 := h2 ⟨T, by omega⟩
  omega
theorem pair_ext {H H' : Hp} (e : LamX.ExtN H H') {x : V} {c : Int × Int} (h : PairT H x c) : PairT H' x c := by
  obtain ⟨t, rfl, h⟩ := h
  exact ⟨t, rfl, ext_tup e h⟩
theorem quad_ext {H H' : Hp} (e : LamX.ExtN H H') {x : V} {c : Q4} (h : QuadT H x c) : QuadT H' x c := by
  obtain ⟨t, rfl, h⟩ := h
  exact ⟨t, rfl, ext_tup e h⟩
section
variable {P : Program} {w : World} {K : PySem.W.Frag} {mg : Str → Option Value} {base : Heap}
def spLaw (K : PySem.W.Frag) : Sp := fun vs H Q _ => ∃ (a : Addr) (ns : List Int), vs = [.ref a] ∧ SqL K H a (ns.map V.int) ∧ ns.length ≤ 63 ∧ LamX.Tabs (Tl K) H ∧ ∀ H', Q (.bl true) H'
end
end K85
end
section
set_option maxRecDepth 100000
set_option maxHeartbeats 4000000
namespace K85
open PySem PySem.Spec PyProof.Rows L2
/-! ### tight ways: every stretch, not the key ones alone -/
theorem strRow_mem {n : Nat} : ∀ {k a : Nat}, a < k → ((a : Int), (n : Int) + 1) ∈ strRow n k
  | 0, a, h => by omega
  | k + 1, a, h => by
    rw [strRow_succ]
    by_cases c : a = k
    · rw [c]
      exact List.mem_append_right _ (List.mem_singleton.mpr rfl)
    · exact List.mem_append_left _ (strRow_mem (by omega))
theorem mem_strL : ∀ {n a b : Nat}, a < b → b ≤ n → ((a : Int), (b : Int)) ∈ strL n
  | 0, a, b, h, h' => by omega
  | n + 1, a, b, h, h' => by
    show _ ∈ strL n ++ strRow n (n + 1)
    by_cases c : b = n + 1
    · subst c
      exact List.mem_append_right _ (strRow_mem h)
    · exact List.mem_append_left _ (mem_strL h (by omega))
theorem cS_mono {a b a' b' : Int} (ha : a' ≤ a) (hb : b ≤ b') : ∀ ws : List (Int × Int), cS a b ws ≤ cS a' b' ws
  | [] => Nat.le_refl _
  | c :: ws => by
    have ih := cS_mono ha hb ws
    unfold cS at ih ⊢
    rw [List.filter_cons, List.filter_cons]
    by_cases q : (decide (a < c.1) && decide (c.2 ≤ b)) = true
    · have q' : (decide (a' < c.1) && decide (c.2 ≤ b')) = true := by
        rw [Bool.and_eq_true, decide_eq_true_eq, decide_eq_true_eq] at q ⊢
        omega
      rw [if_pos q, if_pos q', List.length_cons, List.length_cons]
      omega
    · rw [if_neg q]
      split
      · rw [List.length_cons]
        omega
      · exact ih
/-- with as many spans within, the same spans are within -/
theorem cS_in {a b a' b' : Int} (ha : a' ≤ a) (hb : b ≤ b') : ∀ {ws : List (Int × Int)}, cS a b ws = cS a' b' ws → ∀ c ∈ ws, a' < c.1 → c.2 ≤ b' → a < c.1 ∧ c.2 ≤ b
  | [], _, c, hc, _, _ => by cases hc
  | x :: ws, h, c, hc, h1, h2 => by
    have mono := cS_mono ha hb ws
    unfold cS at h mono
    rw [List.filter_cons, List.filter_cons] at h
    by_cases q : (decide (a < x.1) && decide (x.2 ≤ b)) = true
    · have q' : (decide (a' < x.1) && decide (x.2 ≤ b')) = true := by
        rw [Bool.and_eq_true, decide_eq_true_eq, decide_eq_true_eq] at q ⊢
        omega
      rw [if_pos q, if_pos q', List.length_cons, List.length_cons] at h
      rcases List.mem_cons.mp hc with rfl | hc
      · rw [Bool.and_eq_true, decide_eq_true_eq, decide_eq_true_eq] at q
        exact q
      · exact cS_in ha hb (ws := ws) (by unfold cS; omega) c hc h1 h2
    · by_cases q' : (decide (a' < x.1) && decide (x.2 ≤ b')) = true
      · rw [if_neg q, if_pos q', List.length_cons] at h
        omega
      · rw [if_neg q, if_neg q'] at h
        rcases List.mem_cons.mp hc with rfl | hc
        · exact absurd (by rw [Bool.and_eq_true, decide_eq_true_eq, decide_eq_true_eq]; exact ⟨h1, h2⟩) q'
        · exact cS_in ha hb (ws := ws) (by unfold cS; omega) c hc h1 h2
/-- each stretch lies in a key stretch with the same spans within -/
theorem key_over {ws : List (Int × Int)} {T : Nat} : ∀ (n : Nat) {a b : Nat}, a + (T - b) ≤ n → a < b → b ≤ T → ∃ a' b' : Nat, a' ≤ a ∧ b ≤ b' ∧ b' ≤ T ∧ ((a' : Int), (b' : Int)) ∈ keysL (tabS ws) T ∧ cS (a : Int) (b : Int) ws = cS (a' : Int) (b' : Int) ws
  | n, a, b, hn, hab, hb => by
    by_cases ck : keyB (tabS ws) T ((a : Int), (b : Int)) = true
    · exact ⟨a, b, Nat.le_refl _, Nat.le_refl _, hb, List.mem_filter.mpr ⟨mem_strL hab hb, ck⟩, rfl⟩
    · rw [keyB_nat, Bool.and_eq_true, Bool.or_eq_true, Bool.or_eq_true, decide_eq_true_eq, decide_eq_true_eq, decide_eq_true_eq, decide_eq_true_eq] at ck
      by_cases c1 : ((a : Int) = 0 ∨ tabS ws a b < tabS ws (a - 1) b)
      · have c2 : ¬ ((b : Int) = (T : Int) ∨ tabS ws a b < tabS ws a (b + 1)) := fun z => ck ⟨c1, z⟩
        have hbT : b < T := by
          rcases Nat.lt_or_ge b T with z | z
          · exact z
          · exact absurd (.inl (by omega)) c2
        have e : cS (a : Int) (b : Int) ws = cS (a : Int) ((b + 1 : Nat) : Int) ws := by
          have h1 := cS_mono (a := (a : Int)) (b := (b : Int)) (a' := (a : Int)) (b' := ((b + 1 : Nat) : Int)) (Int.le_refl _) (by omega) ws
          have h2 : ¬ tabS ws a b < tabS ws a (b + 1) := fun z => c2 (.inr z)
          unfold tabS at h2
          omega
        have hn' : a + (T - (b + 1)) ≤ n - 1 ∧ n - 1 < n := by clear e; omega
        · obtain ⟨a', b', h1, h2, h3, h4, h5⟩ := key_over (n - 1) (a := a) (b := b + 1) hn'.1 (by omega) (by omega)
          exact ⟨a', b', h1, by omega, h3, h4, e.trans h5⟩
      · have ha : 0 < a := by
          rcases Nat.eq_zero_or_pos a with z | z
          · exact absurd (.inl (by omega)) c1
          · exact z
        have e : cS (a : Int) (b : Int) ws = cS ((a - 1 : Nat) : Int) (b : Int) ws := by
          have h1 := cS_mono (a := (a : Int)) (b := (b : Int)) (a' := ((a - 1 : Nat) : Int)) (b' := (b : Int)) (by omega) (Int.le_refl _) ws
          have h2 : ¬ tabS ws a b < tabS ws (a - 1) b := fun z => c1 (.inr z)
          unfold tabS at h2
          omega
        have hn' : (a - 1) + (T - b) ≤ n - 1 ∧ n - 1 < n := by clear e; omega
        · obtain ⟨a', b', h1, h2, h3, h4, h5⟩ := key_over (n - 1) (a := a - 1) (b := b) hn'.1 (by omega) (by omega)
          exact ⟨a', b', by omega, h2, h3, h4, e.trans h5⟩
termination_by n => n
decreasing_by all_goals omega
/-- a way of the rains is tight in a stretch -/
def TightO (ws : List (Int × Int)) (os : List (Option Int)) (a b : Nat) : Prop := ∀ (i : Nat) (c : Int × Int) (o : Option Int), ws[i]? = some c → os[i]? = some o → okO [((a : Int), (b : Int))] c o = true
theorem ok_one {s c : Int × Int} {d : Int} : okO [s] c (some d) = okDay s c d := by
  show ([s].all fun s => okDay s c d) = _
  simp
theorem tight_sub {ws : List (Int × Int)} {os : List (Option Int)} {a b a' b' : Nat} (ha : a' ≤ a) (hb : b ≤ b') (e : cS (a : Int) (b : Int) ws = cS (a' : Int) (b' : Int) ws) (h : TightO ws os a' b') : TightO ws os a b := fun i c o hc ho => by
  have := h i c o hc ho
  cases o with
  | none => rfl
  | some d =>
    rw [ok_one] at this ⊢
    unfold okDay insB at this ⊢
    rw [Bool.or_eq_true, Bool.or_eq_true, Bool.and_eq_true, decide_eq_true_eq, decide_eq_true_eq, decide_eq_true_eq, decide_eq_true_eq] at this ⊢
    rcases this with ⟨h1, h2⟩ | h | h
    · have h1 : (a' : Int) < c.1 := h1
      have h2 : c.2 ≤ (b' : Int) := h2
      exact .inl (cS_in (by omega) (by omega) e c (List.mem_of_getElem? hc) h1 h2)
    · have h : d ≤ (a' : Int) := h
      exact .inr (.inl (show d ≤ (a : Int) by omega))
    · have h : (b' : Int) < d := h
      exact .inr (.inr (show (b : Int) < d by omega))
/-- these ways are tight in every stretch -/
def Decide (T : Nat) (ws : List (Int × Int)) (OS : List (List (Option Int))) : Prop := ∀ a b : Nat, a < b → b ≤ T → ∃ os ∈ OS, TightO ws os a b
theorem isT_tight {T : Nat} {ws : List (Int × Int)} {os : List (Option Int)} {a b : Nat} (hb : b ≤ T) (hl : os.length = ws.length) : isT ws (wayR T os ws.length) a b = true ↔ TightO ws os a b := isT_way hb hl
theorem decide_of {T : Nat} {ws : List (Int × Int)} {OS : List (List (Option Int))} (hw : ∀ os ∈ OS, Way T ws os) (h : undS ws (keysL (tabS ws) T) (OS.map fun os => wayR T os ws.length) = []) : Decide T ws OS := fun a b hab hb => by
  obtain ⟨a', b', h1, h2, h3, h4, h5⟩ := key_over (ws := ws) (T := T) _ (Nat.le_refl _) hab hb
  unfold undS at h
  rw [List.filter_eq_nil_iff] at h
  have := h _ h4
  rw [Bool.not_eq_true, List.all_eq_false] at this
  obtain ⟨W, hW, ht⟩ := this
  obtain ⟨os, ho, rfl⟩ := List.mem_map.mp hW
  refine ⟨os, ho, tight_sub h1 h2 h5 ((isT_tight h3 (hw os ho).1).mp ?_)⟩
  have ht : ¬ (!isT ws (wayR T os ws.length) a' b') = true := ht
  cases q : isT ws (wayR T os ws.length) a' b' with
  | true => rfl
  | false => rw [q] at ht; exact absurd rfl ht
theorem und_of {T : Nat} {ws : List (Int × Int)} {OS : List (List (Option Int))} (hw : ∀ os ∈ OS, Way T ws os) (h : Decide T ws OS) (KS : List (Int × Int)) (hK : ∀ s ∈ KS, ∃ a b : Nat, a < b ∧ b ≤ T ∧ s = ((a : Int), (b : Int))) : undS ws KS (OS.map fun os => wayR T os ws.length) = [] := by
  unfold undS
  rw [List.filter_eq_nil_iff]
  intro c hc
  obtain ⟨a, b, hab, hb, rfl⟩ := hK c hc
  rw [Bool.not_eq_true, List.all_eq_false]
  obtain ⟨os, ho, ht⟩ := h a b hab hb
  refine ⟨_, List.mem_map.mpr ⟨os, ho, rfl⟩, ?_⟩
  show ¬ (!isT ws (wayR T os ws.length) a b) = true
  rw [(isT_tight hb (hw os ho).1).mpr ht]
  exact fun z => by cases z
/-! ### what fewest_trials tells, by ways -/
section
variable {T : Nat} {ws : List (Int × Int)}
/-- as few ways as can be that decide -/
def Fewest (T : Nat) (ws : List (Int × Int)) (OS : List (List (Option Int))) : Prop := (∀ os ∈ OS, Way T ws os) ∧ Decide T ws OS ∧ ∀ OS2 : List (List (Option Int)), OS2 ≠ [] → (∀ os ∈ OS2, Way T ws os) → Decide T ws OS2 → OS.length ≤ OS2.length
theorem few_ways {KS ks : List (Int × Int)} {rows : List (List Nat)} {Ws : List (List (List (Int × Int)))} {n : Nat} (eK : KS = keysL (tabS ws) T) (h : FewL T ws ks Ws) (hp : ks.Perm KS) (h1 : ∀ c ∈ ws, 1 ≤ c.1 ∧ c.1 ≤ c.2)
    (hrows : ∀ row, row ∈ rows ↔ ∃ os ∈ allN T ws ws.length, row = maskR T ws KS os)
    (hn : n = 0 ∧ (∀ m, 1 ≤ m → m ≤ KS.length → enoughB (keptB rows) m (List.range KS.length) = false) ∨ 1 ≤ n ∧ n ≤ KS.length ∧ enoughB (keptB rows) n (List.range KS.length) = true ∧ ∀ m, 1 ≤ m → m < n → enoughB (keptB rows) m (List.range KS.length) = false) :
    ∃ OS : List (List (Option Int)), Ws = (OS.map fun os => wayR T os ws.length) ∧ OS.length = n ∧ Fewest T ws OS := by
  have hK : ∀ s ∈ KS, ∃ a b : Nat, a < b ∧ b ≤ T ∧ s = ((a : Int), (b : Int)) := fun s hs => by rw [eK] at hs; exact keysL_mem hs
  have h1' : ∀ c ∈ ws, 1 ≤ c.1 := fun c hc => (h1 c hc).1
  obtain ⟨f1, f2, f3⟩ := few_told h hp h1 hK hrows hn
  have ex : ∃ OS : List (List (Option Int)), Ws = (OS.map fun os => wayR T os ws.length) ∧ ∀ os ∈ OS, Way T ws os := by
    rcases h with ⟨m, m1, m2, m3, m4, rfl⟩ | ⟨_, rfl⟩
    · obtain ⟨q1, q2, q3⟩ := lot_keys h1 hK (fun c => hp.mem_iff) m3
      refine ⟨(fillL (togB T ws) m ks []).map fun lot => (ws.map (freeD T lot)).map (optOf T), by rw [List.map_map]; rfl, fun os ho => ?_⟩
      obtain ⟨l, hl, rfl⟩ := List.mem_map.mp ho
      exact (placed_way h1' (q1 l hl).1).1
    · exact ⟨[], rfl, fun _ z => by cases z⟩
  obtain ⟨OS, rfl, hw⟩ := ex
  rw [List.length_map] at f1
  refine ⟨OS, rfl, f1, hw, decide_of hw (by rw [← eK]; exact f3), fun OS2 hne hw2 hd2 => ?_⟩
  rw [f1]
  have en : enoughB (keptB rows) OS2.length (List.range KS.length) = true := by
    rw [enough_iff]
    have : ∀ os ∈ OS2, ∃ row : List Nat, row ∈ keptB rows ∧ ∀ x ∈ maskR T ws KS os, x ∈ row := fun os ho => by
      obtain ⟨o, ho1, ho2⟩ := kept_over (rows := rows) (M := KS.length) (fun r hr => by
        obtain ⟨os, _, rfl⟩ := (hrows r).mp hr
        exact mask_len) KS.length ((hrows _).mpr ⟨os, way_all.mpr (hw2 os ho), rfl⟩) (by omega)
      exact ⟨o, ho1, ho2⟩
    obtain ⟨cov, c1, c2, c3⟩ := choose_map this
    refine ⟨cov, by omega, fun r hr => ?_, fun i hi => ?_⟩
    · obtain ⟨l, _, h, _⟩ := c2 r hr
      exact h
    · have hi := List.mem_range.mp hi
      have hg : KS[i]? = some KS[i] := List.getElem?_eq_getElem hi
      obtain ⟨a, b, hab, hb, e⟩ := hK KS[i] (List.getElem_mem hi)
      obtain ⟨os, ho, ht⟩ := hd2 a b hab hb
      obtain ⟨row, hr, h⟩ := c3 os ho
      refine ⟨row, hr, h.2 i ((mask_mem hg).mpr ?_)⟩
      rw [e]
      exact (isT_tight hb (hw2 os ho).1).mpr ht
  have hp2 : 0 < OS2.length := List.length_pos_iff.mpr hne
  rcases hn with ⟨rfl, _⟩ | ⟨a, b, _, hno⟩
  · exact Nat.zero_le _
  · rcases Nat.lt_or_ge OS2.length n with z | z
    · rw [hno _ hp2 z] at en
      cases en
    · exact z
end
end K85
end
section
set_option maxRecDepth 100000
set_option maxHeartbeats 4000000
namespace K85
open PySem PySem.Spec PyProof.Rows L2
/-! ### apart spans need many ways -/
theorem nodup_bools : ∀ (m : Nat) (l : List (List Bool)), l.Nodup → (∀ x ∈ l, x.length = m) → l.length ≤ 2 ^ m
  | 0, l, hn, h => by
    cases l with
    | nil => exact Nat.zero_le _
    | cons x r =>
      cases r with
      | nil => exact Nat.le_refl 1
      | cons y s =>
        have hx : x = [] := List.length_eq_zero_iff.mp (h x List.mem_cons_self)
        have hy : y = [] := List.length_eq_zero_iff.mp (h y (List.mem_cons_of_mem _ List.mem_cons_self))
        rw [hx, hy] at hn
        exact absurd List.mem_cons_self (List.nodup_cons.mp hn).1
  | m + 1, l, hn, h => by
    have part : ∀ b : Bool, (l.filter fun x => x.head? == some b).length ≤ 2 ^ m := fun b => by
      have hinj : ∀ x ∈ (l.filter fun x => x.head? == some b), ∃ t : List Bool, x = b :: t ∧ t.length = m := fun x hx => by
        obtain ⟨h1, h2⟩ := List.mem_filter.mp hx
        have hl := h x h1
        cases x with
        | nil => cases hl
        | cons c t =>
          have : c = b := by simpa using h2
          exact ⟨t, by rw [this], by simpa using hl⟩
      have hnd : ((l.filter fun x => x.head? == some b).map List.tail).Nodup := by
        have h0 := hn.filter (fun x => x.head? == some b)
        generalize l.filter (fun x => x.head? == some b) = r at h0 hinj
        rw [List.Nodup, List.pairwise_map]
        refine List.Pairwise.imp_of_mem (fun {x y} hx hy hne e => hne ?_) h0
        obtain ⟨t, rfl, _⟩ := hinj x hx
        obtain ⟨u, rfl, _⟩ := hinj y hy
        have e : t = u := e
        rw [e]
      have := nodup_bools m _ hnd fun x hx => by
        obtain ⟨y, hy, rfl⟩ := List.mem_map.mp hx
        obtain ⟨t, rfl, ht⟩ := hinj y hy
        exact ht
      rw [List.length_map] at this
      exact this
    have split : ∀ r : List (List Bool), (∀ x ∈ r, x.length = m + 1) → r.length = (r.filter fun x => x.head? == some true).length + (r.filter fun x => x.head? == some false).length := fun r => by
      induction r with
      | nil => intro _; rfl
      | cons x r ih =>
        intro hx
        have ih := ih fun y hy => hx y (List.mem_cons_of_mem _ hy)
        have hl := hx x List.mem_cons_self
        cases x with
        | nil => cases hl
        | cons c t =>
          rw [List.filter_cons, List.filter_cons]
          cases c
          · show r.length + 1 = (r.filter _).length + ((r.filter _).length + 1)
            omega
          · show r.length + 1 = ((r.filter _).length + 1) + (r.filter _).length
            omega
    rw [split l h, Nat.pow_succ]
    have := part true
    have := part false
    omega
section
variable {T : Nat} {ws : List (Int × Int)} {OS : List (List (Option Int))}
/-- the rain falls on the first day of its span -/
def early (ws : List (Int × Int)) (os : List (Option Int)) (c : Int × Int) : Prop := ∃ i : Nat, ws[i]? = some c ∧ os[i]? = some (some c.1)
theorem early_yes {os : List (Option Int)} {c : Int × Int} {a b : Nat} (hw : Way T ws os) (hc : c ∈ ws) (h2 : c.2 ≤ (T : Int)) (ht : TightO ws os a b) (ha : (a : Int) = c.1) (hb : c.2 ≤ (b : Int)) : early ws os c := by
  obtain ⟨i, hi⟩ := List.getElem?_of_mem hc
  obtain ⟨o, ho, hm⟩ := hw.2 i c hi
  have := ht i c o hi ho
  cases o with
  | none =>
    have := mem_optO_none.mp hm
    omega
  | some d =>
    obtain ⟨m1, m2, m3⟩ := mem_optO_some.mp hm
    rw [ok_one] at this
    unfold okDay insB at this
    rw [Bool.or_eq_true, Bool.or_eq_true, Bool.and_eq_true, decide_eq_true_eq, decide_eq_true_eq, decide_eq_true_eq, decide_eq_true_eq] at this
    have e : d = c.1 := by
      rcases this with ⟨h, _⟩ | h | h
      · have h : (a : Int) < c.1 := h
        omega
      · have h : d ≤ (a : Int) := h
        omega
      · have h : (b : Int) < d := h
        omega
    rw [e] at ho
    exact ⟨i, hi, ho⟩
theorem early_no {os : List (Option Int)} {c : Int × Int} {a b : Nat} (h1 : c.1 < c.2) (ht : TightO ws os a b) (ha : (a : Int) < c.1) (hb : (b : Int) = c.2 - 1) : ¬ early ws os c := by
  rintro ⟨i, hi, ho⟩
  have := ht i c _ hi ho
  rw [ok_one] at this
  unfold okDay insB at this
  rw [Bool.or_eq_true, Bool.or_eq_true, Bool.and_eq_true, decide_eq_true_eq, decide_eq_true_eq, decide_eq_true_eq, decide_eq_true_eq] at this
  rcases this with ⟨_, h⟩ | h | h
  · have h : c.2 ≤ (b : Int) := h
    omega
  · have h : c.1 ≤ (a : Int) := h
    omega
  · have h : (b : Int) < c.1 := h
    omega
theorem apart_bound {chain : List (Int × Int)} (hw : ∀ os ∈ OS, Way T ws os) (hd : Decide T ws OS) (hc : ∀ c ∈ chain, c ∈ ws ∧ 1 ≤ c.1 ∧ c.1 < c.2 ∧ c.2 ≤ (T : Int)) (hp : chain.Pairwise fun a b => a.2 < b.1) (hne : chain ≠ []) : chain.length + 2 ≤ 2 ^ OS.length := by
  classical
  let f : Int × Int → List Bool := fun c => OS.map fun os => decide (early ws os c)
  have yes : ∀ c ∈ chain, ∃ os ∈ OS, early ws os c := fun c h => by
    obtain ⟨q1, q2, q3, q4⟩ := hc c h
    obtain ⟨os, ho, ht⟩ := hd c.1.toNat T (by omega) (Nat.le_refl _)
    exact ⟨os, ho, early_yes (hw os ho) q1 q4 ht (by omega) q4⟩
  have no : ∀ c ∈ chain, ∃ os ∈ OS, ¬ early ws os c := fun c h => by
    obtain ⟨q1, q2, q3, q4⟩ := hc c h
    obtain ⟨os, ho, ht⟩ := hd 0 (c.2 - 1).toNat (by omega) (by omega)
    exact ⟨os, ho, early_no q3 ht (by omega) (by omega)⟩
  have two : ∀ c ∈ chain, ∀ c' ∈ chain, c.2 < c'.1 → ∃ os ∈ OS, early ws os c ∧ ¬ early ws os c' := fun c h c' h' hlt => by
    obtain ⟨q1, q2, q3, q4⟩ := hc c h
    obtain ⟨r1, r2, r3, r4⟩ := hc c' h'
    obtain ⟨os, ho, ht⟩ := hd c.1.toNat (c'.2 - 1).toNat (by omega) (by omega)
    exact ⟨os, ho, early_yes (hw os ho) q1 q4 ht (by omega) (by omega), early_no r3 ht (by omega) (by omega)⟩
  have hOS : OS ≠ [] := by
    obtain ⟨c, h⟩ := List.exists_mem_of_ne_nil chain hne
    obtain ⟨os, ho, _⟩ := yes c h
    exact List.ne_nil_of_mem ho
  have hm : 0 < OS.length := List.length_pos_iff.mpr hOS
  have hnd : (List.replicate OS.length true :: List.replicate OS.length false :: chain.map f).Nodup := by
    rw [List.nodup_cons, List.nodup_cons]
    refine ⟨fun h => ?_, fun h => ?_, ?_⟩
    · rcases List.mem_cons.mp h with e | h
      · have : true ∈ List.replicate OS.length false := by
          rw [← e]
          exact List.mem_replicate.mpr ⟨by omega, rfl⟩
        cases (List.mem_replicate.mp this).2
      · obtain ⟨c, hcc, e⟩ := List.mem_map.mp h
        obtain ⟨os, ho, hn⟩ := no c hcc
        have : decide (early ws os c) ∈ f c := List.mem_map.mpr ⟨os, ho, rfl⟩
        rw [e] at this
        exact hn (of_decide_eq_true (List.mem_replicate.mp this).2)
    · obtain ⟨c, hcc, e⟩ := List.mem_map.mp h
      obtain ⟨os, ho, hy⟩ := yes c hcc
      have : decide (early ws os c) ∈ f c := List.mem_map.mpr ⟨os, ho, rfl⟩
      rw [e] at this
      exact of_decide_eq_false (List.mem_replicate.mp this).2 hy
    · rw [List.Nodup, List.pairwise_map]
      refine List.Pairwise.imp_of_mem (fun {x y} hx hy hlt e => ?_) hp
      obtain ⟨os, ho, h1, h2⟩ := two x hx y hy hlt
      have := List.map_inj_left.mp (show OS.map (fun os => decide (early ws os x)) = OS.map (fun os => decide (early ws os y)) from e) os ho
      rw [decide_eq_decide] at this
      exact h2 (this.mp h1)
  have := nodup_bools OS.length _ hnd fun x hx => by
    rcases List.mem_cons.mp hx with rfl | hx
    · exact List.length_replicate
    rcases List.mem_cons.mp hx with rfl | hx
    · exact List.length_replicate
    · obtain ⟨c, _, rfl⟩ := List.mem_map.mp hx
      exact List.length_map _
  rw [List.length_cons, List.length_cons, List.length_map] at this
  exact this
end
/-! ### a rain left out -/
def cutR (n : Int) (rep : List (Int × Int)) : List (Int × Int) := (rep.filter fun c => !decide (c.1 = n)).map fun c => (c.1 - (if n < c.1 then 1 else 0), c.2)
def cutW (n : Int) (W : List (List (Int × Int))) : List (List (Int × Int)) := W.map (cutR n)
theorem cutR_app {n : Int} (a b : List (Int × Int)) : cutR n (a ++ b) = cutR n a ++ cutR n b := by
  unfold cutR
  rw [List.filter_append, List.map_append]
theorem cutR_low {os : List (Option Int)} {j k : Nat} : ∀ {N : Nat}, N ≤ j → cutR ((j : Int) + 1) (repN os N k) = repN (os.eraseIdx j) N k
  | 0, _ => rfl
  | N + 1, h => by
    have e : (os.eraseIdx j)[N]? = os[N]? := by rw [List.getElem?_eraseIdx, if_pos (by omega)]
    rw [repN_succ, repN_succ, cutR_app, cutR_low (N := N) (by omega), e]
    congr 1
    by_cases q : os[N]? = some (some ((k : Int) + 1))
    · rw [if_pos q]
      unfold cutR
      rw [List.filter_cons, if_pos (by simp; omega), List.filter_nil, List.map_cons, List.map_nil]
      show [((N : Int) + 1 - (if (j : Int) + 1 < (N : Int) + 1 then 1 else 0), (1 : Int))] = _
      rw [if_neg (by omega), Int.sub_zero]
    · rw [if_neg q]
      rfl
theorem cutR_high {os : List (Option Int)} {j k : Nat} : ∀ {N : Nat}, j ≤ N → cutR ((j : Int) + 1) (repN os (N + 1) k) = repN (os.eraseIdx j) N k
  | N, h => by
    rw [repN_succ, cutR_app]
    by_cases c : N = j
    · subst c
      rw [cutR_low (Nat.le_refl _)]
      have : cutR ((N : Int) + 1) (if os[N]? = some (some ((k : Int) + 1)) then [((N : Int) + 1, 1)] else []) = [] := by
        split
        · unfold cutR
          rw [List.filter_cons, if_neg (by simp), List.filter_nil, List.map_nil]
        · rfl
      rw [this, List.append_nil]
    · obtain ⟨M, rfl⟩ : ∃ M, N = M + 1 := ⟨N - 1, by omega⟩
      have e : (os.eraseIdx j)[M]? = os[M + 1]? := by rw [List.getElem?_eraseIdx, if_neg (by omega)]
      rw [cutR_high (N := M) (by omega), repN_succ, e]
      congr 1
      by_cases q : os[M + 1]? = some (some ((k : Int) + 1))
      · rw [if_pos q, if_pos q]
        unfold cutR
        rw [List.filter_cons, if_pos (by simp; omega), List.filter_nil, List.map_cons, List.map_nil]
        show [(((M + 1 : Nat) : Int) + 1 - (if (j : Int) + 1 < ((M + 1 : Nat) : Int) + 1 then 1 else 0), (1 : Int))] = _
        rw [if_pos (by omega)]
        congr 2
        omega
      · rw [if_neg q, if_neg q]
        rfl
theorem cut_way {T : Nat} {os : List (Option Int)} {j N : Nat} (h : j < N) : cutW ((j : Int) + 1) (wayR T os N) = wayR T (os.eraseIdx j) (N - 1) := by
  obtain ⟨M, rfl⟩ : ∃ M, N = M + 1 := ⟨N - 1, by omega⟩
  unfold cutW wayR
  rw [List.map_map]
  refine List.map_congr_left fun k _ => ?_
  exact cutR_high (by omega)
section
variable {T : Nat} {ws : List (Int × Int)} {os : List (Option Int)}
theorem way_erase (h : Way T ws os) (j : Nat) : Way T (ws.eraseIdx j) (os.eraseIdx j) := by
  obtain ⟨h1, h2⟩ := h
  refine ⟨by rw [List.length_eraseIdx, List.length_eraseIdx, h1], fun i c hc => ?_⟩
  rw [List.getElem?_eraseIdx] at hc ⊢
  split at hc
  · rename_i q
    rw [if_pos q]
    exact h2 i c hc
  · rename_i q
    rw [if_neg q]
    exact h2 (i + 1) c hc
theorem tight_erase {a b : Nat} (h : TightO ws os a b) (j : Nat) : TightO (ws.eraseIdx j) (os.eraseIdx j) a b := fun i c o hc ho => by
  rw [List.getElem?_eraseIdx] at hc ho
  split at hc
  · rename_i q
    rw [if_pos q] at ho
    exact h i c o hc ho
  · rename_i q
    rw [if_neg q] at ho
    exact h (i + 1) c o hc ho
theorem decide_erase {OS : List (List (Option Int))} (h : Decide T ws OS) (j : Nat) : Decide T (ws.eraseIdx j) (OS.map fun os => os.eraseIdx j) := fun a b hab hb => by
  obtain ⟨os, ho, ht⟩ := h a b hab hb
  exact ⟨_, List.mem_map.mpr ⟨os, ho, rfl⟩, tight_erase ht j⟩
theorem few_less {OS OS' : List (List (Option Int))} (j : Nat) (h : Fewest T ws OS) (h' : Fewest T (ws.eraseIdx j) OS') (hne : OS ≠ []) : OS'.length ≤ OS.length := by
  have := h'.2.2 (OS.map fun os => os.eraseIdx j) (fun z => hne (List.map_eq_nil_iff.mp z)) (fun os ho => by
    obtain ⟨os', ho', rfl⟩ := List.mem_map.mp ho
    exact way_erase (h.1 os' ho') j) (decide_erase h.2.1 j)
  rw [List.length_map] at this
  exact this
theorem few_ne {OS : List (List (Option Int))} (h : Fewest T ws OS) (hT : 1 ≤ T) : OS ≠ [] := by
  obtain ⟨os, ho, _⟩ := h.2.1 0 1 (by omega) hT
  exact List.ne_nil_of_mem ho
end
end K85
end
section
set_option maxRecDepth 100000
set_option maxHeartbeats 4000000
namespace K85
open PySem PySem.Spec PyProof.Rows L2
theorem optO_pos {T : Nat} {c : Int × Int} (h2 : c.1 ≤ c.2) : 0 < (optO T c).length := by
  by_cases q : c.1 ≤ (T : Int)
  · exact List.length_pos_of_mem (mem_optO_some.mpr ⟨Int.le_refl _, h2, q⟩)
  · exact List.length_pos_of_mem (mem_optO_none.mpr (by omega))
theorem OptX.butS {H H' : Hp} {sa : Addr} (hs : Stk H sa) (e : But sa H H') {z : V} {o : Option Int} (h : OptX H z o) : OptX H' z o := by
  obtain ⟨x, y, w, hs⟩ := hs
  exact h.but hs e
theorem paired_in {α β : Type} {R S : α → β → Prop} {xs : List α} {ys : List β} (h : Paired R xs ys) (k : ∀ x y, x ∈ xs → R x y → S x y) : Paired S xs ys := by
  induction h with
  | nil => exact .nil
  | cons a _ ih => exact .cons (k _ _ List.mem_cons_self a) (ih fun x y hx => k x y (List.mem_cons_of_mem _ hx))
theorem repx_mut {F : Addr} {H : Hp} {us : List V} {o : HO} (hF : H F = some (.lst us)) {x : V} {rep : List (Int × Int)} (h : x ≠ .ref F ∧ RepT H x rep) : x ≠ .ref F ∧ RepT (upd H F o) x rep := by
  obtain ⟨hx, l, ys, rfl, h1, h2⟩ := h
  exact ⟨hx, l, ys, rfl, by rw [upd_ne fun z => hx (by rw [z])]; exact h1, Paired.mapP h2 fun _ _ z => z.mut hF⟩
section
variable {P : Program} {w : World} {K : PySem.W.Frag} {mg : Str → Option Value} {base : Heap}
def spDrawW : Sp := fun vs H Q _ => ∃ (T : Nat) (sa l : Addr) (xs : List V) (ws : List (Int × Int)), vs = [.ref sa, .int T, .ref l] ∧ Stk H sa ∧ H l = some (.lst xs) ∧ l ≠ sa ∧ Paired (PairT H) xs ws ∧ T ≤ 24 ∧ ws.length ≤ 40 ∧ (∀ c ∈ ws, SpanOk T c) ∧ ∀ y os H', But sa H H' → Stk H' sa → Way T ws os → WeaV H' y (wayR T os ws.length) → Q y H'
def spWithout : Sp := fun vs H Q _ => ∃ (a : Addr) (n : Int) (W : List (List (Int × Int))), vs = [.ref a, .int n] ∧ WeaT H a W ∧ W.length ≤ 100 ∧ total W ≤ 2000 ∧ ∀ y H', Same H H' → WTX (fun D => H D ≠ none) H' y (cutW n W) → Q y H'
end
end K85
end
section
set_option maxRecDepth 100000
set_option maxHeartbeats 4000000
namespace K85
open PySem PySem.Spec PyProof.Rows L2
section
variable {P : Program} {w : World} {K : PySem.W.Frag} {mg : Str → Option Value} {base : Heap}
/-- spans of two days or more, one behind the other -/
def Chain (T : Nat) (ws chain : List (Int × Int)) : Prop := (∀ c ∈ chain, c ∈ ws ∧ 1 ≤ c.1 ∧ c.1 < c.2 ∧ c.2 ≤ (T : Int)) ∧ chain.Pairwise fun a b => a.2 < b.1
theorem Chain.snoc {T : Nat} {ws chain : List (Int × Int)} (h : Chain T ws chain) {c : Int × Int} (hc : c ∈ ws ∧ 1 ≤ c.1 ∧ c.1 < c.2 ∧ c.2 ≤ (T : Int)) (hb : ∀ d ∈ chain, d.2 < c.1) : Chain T ws (chain ++ [c]) := by
  refine ⟨fun d hd => ?_, ?_⟩
  · rcases List.mem_append.mp hd with h' | h'
    · exact h.1 d h'
    · rw [List.mem_singleton.mp h']
      exact hc
  · rw [List.pairwise_append]
    refine ⟨h.2, List.pairwise_singleton _ _, fun a ha b hb' => ?_⟩
    rw [List.mem_singleton.mp hb']
    exact hb a ha
def spApart : Sp := fun vs H Q _ => ∃ (T : Nat) (l : Addr) (xs : List V) (ws : List (Int × Int)), vs = [.int T, .ref l] ∧ H l = some (.lst xs) ∧ Paired (PairT H) xs ws ∧ ws.length ≤ 40 ∧ (∀ c ∈ ws, 1 ≤ c.1) ∧ ∀ chain H', Same H H' → Chain T ws chain → chain.length ≤ ws.length → Q (.int chain.length) H'
def spTR (K : PySem.W.Frag) : Sp := fun vs H Q _ => ∃ (T : Nat) (l : Addr) (xs : List V) (ws : List (Int × Int)), vs = [.int T, .ref l] ∧ H l = some (.lst xs) ∧ Paired (PairT H) xs ws ∧ 1 ≤ T ∧ T ≤ 6 ∧ ws.length ≤ 5 ∧ (∀ c ∈ ws, SpanOk T c) ∧ LamX.Tabs (Tl K) H ∧
  ∀ t q ts OS H', LamX.ExtN H H' → LamX.Tabs (Tl K) H' → H' t = some (.tup [.ref q, .int ((OS.length : Nat) : Int)]) → H' q = some (.lst ts) → Paired (WeaV H') ts (OS.map fun os => wayR T os ws.length) → Fewest T ws OS → OS.length ≤ 21 → Q (.ref t) H'
end
end K85
end
section
set_option maxRecDepth 100000
set_option maxHeartbeats 4000000
namespace K85
open PySem PySem.Spec PyProof.Rows L2
theorem Stk.ext {H H' : Hp} {sa : Addr} (e : LamX.ExtN H H') (h : Stk H sa) : Stk H' sa := by
  obtain ⟨a, b, c, h⟩ := h
  exact ⟨a, b, c, ext_lst e h⟩
theorem wea_ext {H H' : Hp} (e : LamX.ExtN H H') {y : V} {W : List (List (Int × Int))} (h : WeaV H y W) : WeaV H' y W := by
  obtain ⟨a, rfl, xs, h1, h2⟩ := h
  exact ⟨a, rfl, xs, ext_lst e h1, Paired.mapP h2 fun _ _ ⟨l, ys, e1, q1, q2⟩ => ⟨l, ys, e1, ext_lst e q1, Paired.mapP q2 fun _ _ z => pair_ext e z⟩⟩
theorem spanOk_erase {T : Nat} {ws : List (Int × Int)} (h : ∀ c ∈ ws, SpanOk T c) (i : Nat) : ∀ c ∈ ws.eraseIdx i, SpanOk T c := fun c hc => h c (List.mem_of_mem_eraseIdx hc)
theorem paired_er2 {α β : Type} {R : α → β → Prop} {xs : List α} {ys : List β} (h : Paired R xs ys) (i : Nat) : Paired R (xs.take i ++ xs.drop (i + 1)) (ys.eraseIdx i) := by
  rw [List.eraseIdx_eq_take_drop_succ]
  exact paired_app (paired_take i h) (paired_drop (i + 1) h)
theorem und_perm {ws ks : List (Int × Int)} {Ws Zs : List (List (List (Int × Int)))} (h : undS ws ks Ws = []) (hs : ∀ W ∈ Ws, W ∈ Zs) : undS ws ks Zs = [] := by
  unfold undS at h ⊢
  rw [List.filter_eq_nil_iff] at h ⊢
  intro c hc hall
  refine h c hc ?_
  rw [List.all_eq_true] at hall ⊢
  exact fun W hW => hall W (hs W hW)
theorem undL_none {T : Nat} {ws : List (Int × Int)} {OS : List (List (Option Int))} (hg : ∀ r ∈ ws.map canR, GoodR r) (h1 : ∀ c ∈ ws, 1 ≤ c.1) (hw : ∀ os ∈ OS, Way T ws os) (hd : Decide T ws OS) : undL (ws.map canR) T (OS.map fun os => wayR T os ws.length) = [] := by
  rw [und_same hg fun W hW => by
    obtain ⟨os, ho, rfl⟩ := List.mem_map.mp hW
    exact way_right (hw os ho) h1]
  exact und_of hw hd _ fun s hs => keysL_mem hs
theorem seqs_ne {H : Hp} {sa r : Addr} {xs : List V} {Ws : List (List (List (Int × Int)))} (hs : Stk H sa) (h : H r = some (.lst xs)) (hp : Paired (WeaV H) xs Ws) : r ≠ sa := fun z => by
  obtain ⟨a, b, c, hs⟩ := hs
  rw [z, hs] at h
  have := HO.lst.inj (Option.some.inj h)
  subst this
  cases hp with
  | cons r _ =>
    obtain ⟨q, e, _⟩ := r
    cases e
/-- the weathers of a mixed list -/
theorem weas_perm {H : Hp} {xs ys : List V} {Ws : List (List (List (Int × Int)))} (h : Paired (WeaV H) xs Ws) (hp : ys.Perm xs) : ∃ Zs : List (List (List (Int × Int))), Paired (WeaV H) ys Zs ∧ Zs.Perm Ws := by
  have : ∀ {xs ys : List V}, xs.Perm ys → ∀ {Ws : List (List (List (Int × Int)))}, Paired (WeaV H) xs Ws → ∃ Zs : List (List (List (Int × Int))), Paired (WeaV H) ys Zs ∧ Zs.Perm Ws := by
    intro xs ys hp
    induction hp with
    | nil => intro Ws h; exact ⟨Ws, h, List.Perm.refl _⟩
    | cons x _ ih =>
      intro Ws h
      cases h with
      | cons a r =>
        obtain ⟨Zs, h1, h2⟩ := ih r
        exact ⟨_ :: Zs, .cons a h1, h2.cons _⟩
    | swap x y l =>
      intro Ws h
      cases h with
      | cons a r =>
        cases r with
        | cons b r => exact ⟨_ :: _ :: _, .cons b (.cons a r), List.Perm.swap _ _ _⟩
    | trans _ _ ih1 ih2 =>
      intro Ws h
      obtain ⟨Zs, h1, h2⟩ := ih1 h
      obtain ⟨Ys, h3, h4⟩ := ih2 h1
      exact ⟨Ys, h3, h4.trans h2⟩
  exact this hp.symm h
section
variable {P : Program} {w : World} {K : PySem.W.Frag} {mg : Str → Option Value} {base : Heap}
def spUndF (K : PySem.W.Frag) : Sp := fun vs H Q E => ∃ (T : Nat) (p wl : Addr) (rs : List Q4) (ys : List V) (Ws : List (List (List (Int × Int)))), vs = [.ref p, .ref wl] ∧ AlmAt K H p T rs ∧ H wl = some (.lst ys) ∧ Paired (WeaV H) ys Ws ∧ T ≤ 24 ∧ rs.length ≤ 40 ∧ (∀ r ∈ rs, GoodR r) ∧ (∀ W ∈ Ws, W.length ≤ 100 ∧ total W ≤ 2000) ∧
  (2000 < Ws.length → Rz E H (cTM K) "what" (.str "weathers")) ∧ (Ws.length ≤ 2000 → ∀ n, BadCan rs n → Rz E H (cSk K) "row" (.int ((n : Int) + 1))) ∧
  (Ws.length ≤ 2000 → OneCan rs → ∀ (n : Nat) W, Ws[n]? = some W → wrongOf rs T W ≠ -1 → (∀ (m : Nat) W', m < n → Ws[m]? = some W' → wrongOf rs T W' = -1) → Rz E H (cWe K) "day" (.int (wrongOf rs T W))) ∧
  (Ws.length ≤ 2000 → OneCan rs → (∀ W ∈ Ws, wrongOf rs T W = -1) → ∀ v H', Same H H' → (undL rs T Ws = [] ∧ v = .non ∨ ∃ c r, undL rs T Ws = c :: r ∧ PairT H' v c) → Q v H')
theorem ok_undF (T : Txt w K mg) : Ok P w K mg base (L2.CX P w) 8 "first_undecided" ["almanac", "weathers"] (spUndF K) :=
  (ok_first_undecided T).imp fun vs H Q E ⟨TT, p, wl, rs, ys, Ws, h0, h1, h2, h3, h4, h5, h6, h7, k1, k2, k3, k⟩ => ⟨TT, p, wl, rs, ys, Ws, h0, h1, h2, h3, h4, h5, h6, h7, k1, k2, k3, fun a b c H' s => ⟨fun e => k a b c _ H' s (.inl ⟨e, rfl⟩), fun x d r e hx => k a b c _ H' s (.inr ⟨d, r, e, hx⟩)⟩⟩
def spUndV : Sp := fun vs H Q _ => ∃ (T : Nat) (sl kl wl : Addr) (xs ksv ys : List V) (ws ks : List (Int × Int)) (Ws : List (List (List (Int × Int)))), vs = [.ref sl, .ref kl, .ref wl] ∧ H sl = some (.lst xs) ∧ Paired (PairT H) xs ws ∧ H kl = some (.lst ksv) ∧ Paired (PairT H) ksv ks ∧ H wl = some (.lst ys) ∧ Paired (WeaV H) ys Ws ∧ Ws.length ≤ 90000 ∧ T ≤ 24 ∧
  (∀ c ∈ ks, ∃ a b : Nat, a < b ∧ b ≤ T ∧ c = ((a : Int), (b : Int))) ∧ (∀ W ∈ Ws, wrongOf (ws.map canR) T W = -1) ∧ ∀ v H', Same H H' → (undS ws ks Ws = [] ∧ v = .non ∨ ∃ c r, undS ws ks Ws = c :: r ∧ PairT H' v c) → Q v H'
theorem ok_undV (T : Txt w K mg) : Ok P w K mg base CX0 2 "_law_undecided" ["spans", "keys", "weathers"] spUndV :=
  (ok__law_undecided T).imp fun vs H Q E ⟨TT, sl, kl, wl, xs, ksv, ys, ws, ks, Ws, h0, h1, h2, h3, h4, h5, h6, h7, h8, h9, h10, k⟩ => ⟨TT, sl, kl, wl, xs, ksv, ys, ws, ks, Ws, h0, h1, h2, h3, h4, h5, h6, h7, h8, h9, h10, fun e H' s => k _ H' s (.inl ⟨e, rfl⟩), fun c r x H' e s hx => k _ H' s (.inr ⟨c, r, e, hx⟩)⟩
end
end K85
end
section

end
section
set_option maxRecDepth 100000
set_option maxHeartbeats 4000000
namespace L2
open PySem PySem.Spec PyProof.Rows
/-! ### loops by any step over a list, a tuple -/
section
variable {K : PySem.W.Frag} {a : Addr} {xs : List V} {H0 : Hp} {Qd : Hp → Prop} {B : V → (Hp → Prop) → Hp → Prop}
theorem lst_W (Pv : Nat → Hp → Prop) (h0 : Pv 0 H0) (hl : ∀ i H, Pv i H → SqL K H a xs) (hs : ∀ i x H, xs[i]? = some x → Pv i H → B x (Pv (i + 1)) H) (hd : ∀ H, Pv xs.length H → Qd H) :
    ∃ W : Nat → Nat → Hp → Prop, (∃ m, W 0 m H0) ∧ ∀ i m H, W i m H → ((Itl K a).stop i H ∧ Qd H) ∨ ((Itl K a).go i H ∧ ∃ Nx : Hp → Prop, (∀ H', Nx H' → ∃ m', m' < m ∧ W (i + 1) m' H') ∧ ∀ x H', (Itl K a).yld i H x H' → B x Nx H') := by
  refine ⟨fun i m H => m = xs.length - i ∧ i ≤ xs.length ∧ Pv i H, ⟨xs.length, by simp, Nat.zero_le _, h0⟩, ?_⟩
  rintro i m H ⟨rfl, hi, p⟩
  have q := hl i H p
  by_cases lt : i < xs.length
  · refine .inr ⟨⟨xs, xs[i], q, by simp [lt]⟩, Pv (i + 1), fun H' p' => ⟨xs.length - (i + 1), by omega, rfl, lt, p'⟩, fun x H' y => ?_⟩
    obtain ⟨e1, e2⟩ := y
    subst e1
    exact hs i x _ (e2 xs q) p
  · obtain rfl : i = xs.length := by omega
    exact .inl ⟨⟨xs, q, Nat.le_refl _⟩, hd H p⟩
theorem tup_W (Pv : Nat → Hp → Prop) (h0 : Pv 0 H0) (hl : ∀ i H, Pv i H → SqT K H a xs) (hs : ∀ i x H, xs[i]? = some x → Pv i H → B x (Pv (i + 1)) H) (hd : ∀ H, Pv xs.length H → Qd H) :
    ∃ W : Nat → Nat → Hp → Prop, (∃ m, W 0 m H0) ∧ ∀ i m H, W i m H → ((Itt K a).stop i H ∧ Qd H) ∨ ((Itt K a).go i H ∧ ∃ Nx : Hp → Prop, (∀ H', Nx H' → ∃ m', m' < m ∧ W (i + 1) m' H') ∧ ∀ x H', (Itt K a).yld i H x H' → B x Nx H') := by
  refine ⟨fun i m H => m = xs.length - i ∧ i ≤ xs.length ∧ Pv i H, ⟨xs.length, by simp, Nat.zero_le _, h0⟩, ?_⟩
  rintro i m H ⟨rfl, hi, p⟩
  have q := hl i H p
  by_cases lt : i < xs.length
  · refine .inr ⟨⟨xs, xs[i], q, by simp [lt]⟩, Pv (i + 1), fun H' p' => ⟨xs.length - (i + 1), by omega, rfl, lt, p'⟩, fun x H' y => ?_⟩
    obtain ⟨e1, e2⟩ := y
    subst e1
    exact hs i x _ (e2 xs q) p
  · obtain rfl : i = xs.length := by omega
    exact .inl ⟨⟨xs, q, Nat.le_refl _⟩, hd H p⟩
end
end L2
end
section
set_option maxRecDepth 100000
set_option maxHeartbeats 4000000
namespace K85
open PySem PySem.Spec PyProof.Rows L2
/-! ### the families -/
def limF (z : Str) : Nat := if z = "all" then 9 else 12
def daysF (z : Str) (n : Nat) : Nat := if z = "all" then n else 2 * n
def spA (n : Nat) : List (Int × Int) := (List.range n).map fun (j : Nat) => (2 * (1 + (j : Int)) - 1, 2 * (1 + (j : Int)))
def spR (n : Nat) : List (Int × Int) := (List.range n).map fun (j : Nat) => (1 + (j : Int), (n : Int) + (1 + (j : Int)))
def spN (n : Nat) : List (Int × Int) := (List.range n).map fun (j : Nat) => (1 + (j : Int), 2 * (n : Int) + 1 - (1 + (j : Int)))
def spLrow (n j k : Nat) : List (Int × Int) := (List.range k).map fun (m : Nat) => (1 + (j : Int), 1 + (j : Int) + 1 + (m : Int))
def spL (n k : Nat) : List (Int × Int) := (List.range k).flatMap fun j => spLrow n j (n - (j + 1))
def spansF (z : Str) (n : Nat) : List (Int × Int) := if z = "apart" then spA n else if z = "row" then spR n else if z = "nested" then spN n else spL n n
theorem pair_next {H : Hp} {D t : Addr} {acc : List V} {ws : List (Int × Int)} {x y : Int} (hacc : H D = some (.lst acc)) (hI : Paired (PairT H) acc ws) (ht : H t = none) :
    ∀ H5, But D (upd H t (.tup [.int x, .int y])) H5 → Paired (PairT H5) (acc ++ [.ref t]) (ws ++ [(x, y)]) := fun H5 b5 => by
  obtain ⟨s, g⟩ := new2 (.tup [.int x, .int y]) ht
  have hacc' := s _ _ hacc
  exact Paired.snoc (Paired.mapP hI fun _ _ z => (z.same s).but hacc' b5) (PairT.but hacc' b5 (⟨t, rfl, g⟩ : PairT _ (.ref t) (x, y)))
theorem range_snoc {α : Type} {f : Nat → α} {j : Nat} : (List.range (j + 1)).map f = (List.range j).map f ++ [f j] := by rw [List.range_succ, List.map_append]; rfl
theorem k_ne : ¬ (("apart" : Str) = "all") ∧ ¬ (("row" : Str) = "all") ∧ ¬ (("nested" : Str) = "all") ∧ ¬ (("row" : Str) = "apart") ∧ ¬ (("nested" : Str) = "apart") ∧ ¬ (("nested" : Str) = "row") ∧ ¬ (("all" : Str) = "apart") ∧ ¬ (("all" : Str) = "row") ∧ ¬ (("all" : Str) = "nested") ∧ ¬ (("apart" : Str) = "row") ∧ ¬ (("apart" : Str) = "nested") ∧ ¬ (("row" : Str) = "nested") := by decide +kernel
theorem daysF_le {z : Str} {n : Nat} (h : n ≤ limF z) : daysF z n ≤ 24 := by
  unfold limF at h
  unfold daysF
  split <;> rename_i c
  · rw [if_pos c] at h
    omega
  · rw [if_neg c] at h
    omega
theorem lim_le {z : Str} : limF z ≤ 12 := by
  unfold limF
  split <;> omega
/-- the steps of a test of the kind that fails -/
theorem kind_no {σ : L2.St} {H : Hp} {a b : Str} {t u : TS} {D : Ends} (h : a ≠ b) (hs : σ[0]? = some (some (.str a))) (k : u D σ H) : tIfS (tTest (tOp rEq (tVar 0) (tC (.str b)))) t u D σ H :=
  ⟨_, hs, rfl, _, rfl, ite2 (fun c => absurd c (not_str h)) fun _ => k⟩
theorem kind_yes {σ : L2.St} {H : Hp} {a : Str} {t u : TS} {D : Ends} (hs : σ[0]? = some (some (.str a))) (k : t D σ H) : tIfS (tTest (tOp rEq (tVar 0) (tC (.str a)))) t u D σ H :=
  ⟨_, hs, rfl, _, rfl, ite2 (fun _ => k) fun c => absurd (decide_eq_true rfl) c⟩
section
variable {P : Program} {w : World} {K : PySem.W.Frag} {mg : Str → Option Value} {base : Heap}
def spCheckF (K : PySem.W.Frag) : Sp := fun vs H Q E => ∃ (z : Str) (n : Int), vs = [.str z, .int n] ∧ (n ≤ (limF z : Int) → Q .non H) ∧ ((limF z : Int) < n → Rz E H (cTM K) "what" (.str "family"))
theorem ok_check_family (T : Txt w K mg) : Ok P w K mg base (L2.CX P w) 5 "check_family" ["kind", "n"] (spCheckF K) := by
  refine Ok.defX (f_check_family T) (fun _ _ _ _ _ _ us hl => match us, hl with | [_, _], _ => rfl) sc_check_family (fun vs H Q E h => ?_) (fun f cdv A outer s H vs Q E hr h tk => ?_)
  · obtain ⟨z, n, rfl, _⟩ := h
    rfl
  · obtain ⟨z, n, rfl, k1, k2⟩ := h
    refine ⟨_, (pss_one (ps_expr (pe_okS (ok_check_within T) (hr.mono (by first | decide | omega)) rfl (fun σ => passAt tk σ) (pa_cons pe_str (pa_cons (pv 1) (pa_cons (pe_ifExp (pt_cmpR op_eq (pv 0) pe_str (nomark _)) pe_int pe_int) pa_nil)))))), ?_⟩
    refine ⟨_, rfl, _, rfl, rfl, _, rfl, ite2 (fun c => ?_) (fun c => ?_)⟩
    · have e : limF z = 9 := if_pos (V.str.inj (of_decide_eq_true c))
      rw [e] at k1 k2
      exact ⟨_, n, 9, rfl, k1, k2⟩
    · have e : limF z = 12 := if_neg fun q => c (decide_eq_true (by rw [q]))
      rw [e] at k1 k2
      exact ⟨_, n, 12, rfl, k1, k2⟩
def spFamS : Sp := fun vs H Q _ => ∃ (z : Str) (n : Nat), vs = [.str z, .int n] ∧ z ∈ kindsT ∧ n ≤ 12 ∧ ∀ t l xs H', Same H H' → H' t = some (.tup [.int (daysF z n : Nat), .ref l]) → H' l = some (.lst xs) → Paired (PairT H') xs (spansF z n) → Q (.ref t) H'
theorem ok_family_spans (T : Txt w K mg) : Ok P w K mg base CX0 1 "family_spans" ["kind", "n"] spFamS := by
  refine Ok.def0 (f_family_spans T) (fun _ _ _ _ _ _ us hl => match us, hl with | [_, _], _ => rfl) sc_family_spans (fun vs H Q E h => ?_) (fun f cdv A outer s H vs Q E hr h => ?_)
  · obtain ⟨z, n, rfl, _⟩ := h
    rfl
  · obtain ⟨z, n, rfl, hz, hn, k⟩ := h
    refine ⟨_, (pss_cons (ps_if (pt_cmpR op_eq (pv 0) pe_str (nomark _)) (pss_one (ps_ret (pe_tup (pa_cons (pe_op op_mul pe_int (pv 1)) (pa_cons (pe_lc (own := [("i", 2)]) rfl sc_family_spans.nd (pi_range2 rfl (n_range T) (pa_cons pe_int (pa_cons (pe_op op_add (pv 1) pe_int) pa_nil))) (blkOk_by (N := ["kind", "n", "i", "first", "last"]) (sc := defScope s_family_spans) (by decide +kernel)) (fun _ _ _ _ _ => (pg_name (i := 2) sc_family_spans.nd rfl (by first | exact Or.inl rfl | exact Or.inr rfl))) (fun _ _ _ _ _ => pts_nil) (fun _ _ _ _ _ => (pe_tup (pa_cons (pe_op op_sub (pe_op op_mul pe_int (pv 2)) pe_int) (pa_cons (pe_op op_mul pe_int (pv 2)) pa_nil))))) pa_nil))))) pss_nil)
      (pss_cons (ps_if (pt_cmpR op_eq (pv 0) pe_str (nomark _)) (pss_one (ps_ret (pe_tup (pa_cons (pe_op op_mul pe_int (pv 1)) (pa_cons (pe_lc (own := [("i", 2)]) rfl sc_family_spans.nd (pi_range2 rfl (n_range T) (pa_cons pe_int (pa_cons (pe_op op_add (pv 1) pe_int) pa_nil))) (blkOk_by (N := ["kind", "n", "i", "first", "last"]) (sc := defScope s_family_spans) (by decide +kernel)) (fun _ _ _ _ _ => (pg_name (i := 2) sc_family_spans.nd rfl (by first | exact Or.inl rfl | exact Or.inr rfl))) (fun _ _ _ _ _ => pts_nil) (fun _ _ _ _ _ => (pe_tup (pa_cons (pv 2) (pa_cons (pe_op op_add (pv 1) (pv 2)) pa_nil))))) pa_nil))))) pss_nil)
      (pss_cons (ps_if (pt_cmpR op_eq (pv 0) pe_str (nomark _)) (pss_one (ps_ret (pe_tup (pa_cons (pe_op op_mul pe_int (pv 1)) (pa_cons (pe_lc (own := [("i", 2)]) rfl sc_family_spans.nd (pi_range2 rfl (n_range T) (pa_cons pe_int (pa_cons (pe_op op_add (pv 1) pe_int) pa_nil))) (blkOk_by (N := ["kind", "n", "i", "first", "last"]) (sc := defScope s_family_spans) (by decide +kernel)) (fun _ _ _ _ _ => (pg_name (i := 2) sc_family_spans.nd rfl (by first | exact Or.inl rfl | exact Or.inr rfl))) (fun _ _ _ _ _ => pts_nil) (fun _ _ _ _ _ => (pe_tup (pa_cons (pv 2) (pa_cons (pe_op op_sub (pe_op op_add (pe_op op_mul pe_int (pv 1)) pe_int) (pv 2)) pa_nil))))) pa_nil))))) pss_nil)
      (pss_one (ps_ret (pe_tup (pa_cons (pv 1) (pa_cons (pe_lc2 (own := [("first", 3), ("last", 4)]) (vs1 := [4]) rfl sc_family_spans.nd (pi_range2 rfl (n_range T) (pa_cons pe_int (pa_cons (pe_op op_add (pv 1) pe_int) pa_nil))) (blkOk_by (N := ["kind", "n", "i", "first", "last"]) (sc := defScope s_family_spans) (by decide +kernel)) (by decide) (fun _ _ _ _ _ => (pg_name (i := 3) sc_family_spans.nd rfl (by first | exact Or.inl rfl | exact Or.inr rfl))) (fun _ _ _ _ _ => pts_nil) (fun _ _ _ _ _ => (pi_range2 rfl (n_range T) (pa_cons (pe_op op_add (pv 3) pe_int) (pa_cons (pe_op op_add (pv 1) pe_int) pa_nil)))) (fun _ _ _ _ _ => (pg_name (i := 4) sc_family_spans.nd rfl (by first | exact Or.inl rfl | exact Or.inr rfl))) (fun _ _ _ _ _ => pts_nil) (fun _ _ _ _ _ => (pe_tup (pa_cons (pv 3) (pa_cons (pv 4) pa_nil))))) pa_nil)))))))), ?_⟩
    obtain ⟨n1, n2, n3, n4, n5, n6, n7, n8, n9, n10, n11, n12⟩ := k_ne
    have fin : ∀ (d : Int) (D : Addr) (acc : List V) H2, d = (daysF z n : Nat) → Same H H2 → H2 D = some (.lst acc) → Paired (PairT H2) acc (spansF z n) → ∀ t, H2 t = none → Q (.ref t) (upd H2 t (.tup [.int d, .ref D])) := fun d D acc H2 hd s2 hacc hP t ht => by
      obtain ⟨s3, g3⟩ := new2 (.tup [.int d, .ref D]) ht
      rw [hd] at g3 s3 ⊢
      exact k t D acc _ (s2.trans s3) g3 (s3 _ _ hacc) (Paired.mapP hP fun _ _ z => z.same s3)
    rcases kindsT_mem hz with rfl | rfl | rfl | rfl
    · refine kind_yes rfl ?_
      have e1 : daysF "apart" n = 2 * n := if_neg n1
      have e2 : spansF "apart" n = spA n := if_pos rfl
      refine ⟨_, rfl, _, _, rfl, rfl, .inl (by decide), _, rfl, _, _, rfl, rfl, _, _, rfl, by omega, fun D hD => lc_upto (lo := 1) (L := n) (by omega) hD (by omega) (fun j acc H' => Paired (PairT H') acc (spA j)) (fun _ _ => .nil) ?_ ?_⟩
      · rintro j acc H2 N N0 hj s2 hacc hI hN hN0
        refine gnE ⟨rfl, ?_⟩
        refine ⟨_, rfl, _, _, rfl, rfl, .inl (by decide), _, _, rfl, rfl, _, rfl, _, _, rfl, rfl, .inl (by decide), (by show 2 ≤ sizeLine; decide), fun t ht => hN _ _ (same_new ht) fun H5 b5 _ => ?_⟩
        unfold spA
        rw [range_snoc]
        exact pair_next hacc hI ht H5 b5
      · rintro acc H2 s2 hacc _ hI
        refine ⟨(by show 2 ≤ sizeLine; decide), fun t ht => fin _ D acc H2 (by rw [e1]; omega) s2 hacc (by rw [e2]; exact hI) t ht⟩
    · refine kind_no n4 rfl (kind_yes rfl ?_)
      have e1 : daysF "row" n = 2 * n := if_neg n2
      have e2 : spansF "row" n = spR n := by unfold spansF; rw [if_neg n4, if_pos rfl]
      refine ⟨_, rfl, _, _, rfl, rfl, .inl (by decide), _, rfl, _, _, rfl, rfl, _, _, rfl, by omega, fun D hD => lc_upto (lo := 1) (L := n) (by omega) hD (by omega) (fun j acc H' => Paired (PairT H') acc ((List.range j).map fun (j : Nat) => (1 + (j : Int), (n : Int) + (1 + (j : Int))))) (fun _ _ => .nil) ?_ ?_⟩
      · rintro j acc H2 N N0 hj s2 hacc hI hN hN0
        refine gnE ⟨rfl, ?_⟩
        refine ⟨_, rfl, _, rfl, _, rfl, _, _, rfl, rfl, (by show 2 ≤ sizeLine; decide), fun t ht => hN _ _ (same_new ht) fun H5 b5 _ => ?_⟩
        rw [range_snoc]
        exact pair_next hacc hI ht H5 b5
      · rintro acc H2 s2 hacc _ hI
        refine ⟨(by show 2 ≤ sizeLine; decide), fun t ht => fin _ D acc H2 (by rw [e1]; omega) s2 hacc (by rw [e2]; exact hI) t ht⟩
    · refine kind_no n5 rfl (kind_no n6 rfl (kind_yes rfl ?_))
      have e1 : daysF "nested" n = 2 * n := if_neg n3
      have e2 : spansF "nested" n = spN n := by unfold spansF; rw [if_neg n5, if_neg n6, if_pos rfl]
      refine ⟨_, rfl, _, _, rfl, rfl, .inl (by decide), _, rfl, _, _, rfl, rfl, _, _, rfl, by omega, fun D hD => lc_upto (lo := 1) (L := n) (by omega) hD (by omega) (fun j acc H' => Paired (PairT H') acc ((List.range j).map fun (j : Nat) => (1 + (j : Int), 2 * (n : Int) + 1 - (1 + (j : Int))))) (fun _ _ => .nil) ?_ ?_⟩
      · rintro j acc H2 N N0 hj s2 hacc hI hN hN0
        refine gnE ⟨rfl, ?_⟩
        refine ⟨_, rfl, _, rfl, _, _, rfl, rfl, .inl (by decide), _, _, rfl, rfl, _, rfl, _, _, rfl, rfl, (by show 2 ≤ sizeLine; decide), fun t ht => hN _ _ (same_new ht) fun H5 b5 _ => ?_⟩
        rw [range_snoc]
        exact pair_next hacc hI ht H5 b5
      · rintro acc H2 s2 hacc _ hI
        refine ⟨(by show 2 ≤ sizeLine; decide), fun t ht => fin _ D acc H2 (by rw [e1]; omega) s2 hacc (by rw [e2]; exact hI) t ht⟩
    · refine kind_no n7 rfl (kind_no n8 rfl (kind_no n9 rfl ?_))
      have e1 : daysF "all" n = n := if_pos rfl
      have e2 : spansF "all" n = spL n n := by unfold spansF; rw [if_neg n7, if_neg n8, if_neg n9]
      refine ⟨_, rfl, _, rfl, _, _, rfl, rfl, _, _, rfl, by omega, fun D hD => ?_⟩
      refine rng_W (lo := 1) (L := n) (by omega) (fun i H' => Same H H' ∧ ∃ acc, H' D = some (.lst acc) ∧ acc.length ≤ i * 12 ∧ Paired (PairT H') acc (spL n i)) ⟨same_new hD, [], upd_same, Nat.le_refl _, .nil⟩ ?_ ?_
      · rintro i H2 hi ⟨s2, acc, hacc, hal, hI⟩
        refine gnE ⟨rfl, ?_⟩
        refine ⟨_, rfl, _, _, rfl, rfl, _, rfl, _, _, rfl, rfl, _, _, rfl, by omega, ?_⟩
        refine rng_W (lo := 1 + (i : Int) + 1) (L := n - (i + 1)) (by omega) (fun k H' => Same H H' ∧ ∃ acc, H' D = some (.lst acc) ∧ acc.length ≤ i * 12 + k ∧ Paired (PairT H') acc (spL n i ++ spLrow n i k)) ⟨s2, acc, hacc, hal, by unfold spLrow; simpa using hI⟩ ?_ ?_
        · rintro k H3 hk ⟨s3, acc, hacc, hal, hI⟩
          refine gnE ⟨rfl, ?_⟩
          refine ⟨_, rfl, _, rfl, (by show 2 ≤ sizeLine; decide), fun t ht => ?_⟩
          have hacc4 := same_new (o := .tup [.int (1 + (i : Int)), .int (1 + (i : Int) + 1 + (k : Int))]) ht _ _ hacc
          refine ⟨acc, hacc4, line_lt (by omega), same_mut (s3.trans (same_new ht)) hD, acc ++ [.ref t], upd_same, by rw [List.length_append]; show _ + 1 ≤ _; omega, ?_⟩
          unfold spLrow
          rw [range_snoc, ← List.append_assoc]
          exact pair_next hacc hI ht _ (But.refl _ _).upd
        · rintro H3 ⟨s3, acc, hacc, hal, hI⟩
          refine ⟨s3, acc, hacc, by omega, ?_⟩
          unfold spL at hI ⊢
          rw [List.range_succ, List.flatMap_append]
          simpa using hI
      · rintro H2 ⟨s2, acc, hacc, hal, hI⟩
        refine ⟨(by show 2 ≤ sizeLine; decide), fun t ht => fin _ D acc H2 (by rw [e1]) s2 hacc (by rw [e2]; exact hI) t ht⟩
end
end K85
end
section
set_option maxRecDepth 100000
set_option maxHeartbeats 4000000
namespace K85
open PySem PySem.Spec PyProof.Rows L2
/-- sorted by a whole number of each: a permutation, in order -/
theorem keyed_ints {α : Type} {R : V → α → Prop} {xs : List V} {rows : List α} (f : α → Int) (h : Paired R xs rows) : ∃ ms : List α, Paired R (keyed xs (rows.map fun r => PyData.int (f r))) ms ∧ ms.Perm rows ∧ ms.Pairwise fun a b => f a ≤ f b := by
  let le : V × α → V × α → Bool := fun p q => decide (f p.2 ≤ f q.2)
  have ez : xs.zip (rows.map fun r => PyData.int (f r)) = (xs.zip rows).map fun p => (p.1, PyData.int (f p.2)) := by
    rw [List.zip_map_right]
    rfl
  have hle : PySem.W.dataLe false (fun p : V × α => PyData.int (f p.2)) = le := PySem.W.dataLe_int fun p : V × α => f p.2
  have em : ((xs.zip rows).mergeSort le).map (fun p => (p.1, PyData.int (f p.2))) = ((xs.zip rows).map fun p => (p.1, PyData.int (f p.2))).mergeSort (PySem.W.dataLe false Prod.snd) := by
    refine List.map_mergeSort fun a _ b _ => ?_
    have := congrFun (congrFun hle a) b
    rw [← this]
    rfl
  have ek : keyed xs (rows.map fun r => PyData.int (f r)) = ((xs.zip rows).mergeSort le).map Prod.fst := by
    unfold keyed
    rw [ez, ← em, List.map_map]
    rfl
  have hp := List.mergeSort_perm (xs.zip rows) le
  have hs := List.pairwise_mergeSort (le := le) (fun a b c h1 h2 => decide_eq_true (Int.le_trans (of_decide_eq_true h1) (of_decide_eq_true h2))) (fun a b => by
    rw [Bool.or_eq_true, decide_eq_true_eq, decide_eq_true_eq]
    exact Int.le_total _ _) (xs.zip rows)
  have hl := Paired.length h
  have hz2 : (xs.zip rows).map Prod.snd = rows := List.map_snd_zip (by omega)
  have hR : ∀ p ∈ xs.zip rows, R p.1 p.2 := fun p hpz => by
    obtain ⟨i, hi⟩ := List.getElem?_of_mem hpz
    rw [List.getElem?_zip_eq_some] at hi
    obtain ⟨r, hr, hrr⟩ := paired_get h hi.1
    rw [hi.2] at hr
    cases hr
    exact hrr
  generalize (xs.zip rows).mergeSort le = M at ek hp hs
  refine ⟨M.map Prod.snd, ?_, ?_, ?_⟩
  · rw [ek]
    have : ∀ N : List (V × α), (∀ p ∈ N, R p.1 p.2) → Paired R (N.map Prod.fst) (N.map Prod.snd) := fun N => by
      induction N with
      | nil => intro _; exact .nil
      | cons p N ih =>
        intro hN
        exact .cons (hN p List.mem_cons_self) (ih fun q hq => hN q (List.mem_cons_of_mem _ hq))
    exact this M fun p hpM => hR p (hp.mem_iff.mp hpM)
  · have := hp.map Prod.snd
    rw [hz2] at this
    exact this
  · rw [List.pairwise_map]
    exact hs.imp fun h => of_decide_eq_true h
theorem IntsT.ext {H H' : Hp} (e : LamX.ExtN H H') {x : V} {ns : List Int} (h : IntsT H x ns) : IntsT H' x ns := by
  obtain ⟨a, rfl, h⟩ := h
  exact ⟨a, rfl, ext_lst e h⟩
theorem ints_mut {H : Hp} {D : Addr} {o : HO} {x : V} {ns : List Int} (hx : x ≠ .ref D) (h : IntsT H x ns) : IntsT (upd H D o) x ns := by
  obtain ⟨a, rfl, h⟩ := h
  exact ⟨a, rfl, by rw [upd_ne fun z => hx (by rw [z])]; exact h⟩
theorem ints_but {H H' : Hp} {D : Addr} {x : V} {ns : List Int} (hx : x ≠ .ref D) (b : But D H H') (h : IntsT H x ns) : IntsT H' x ns := by
  obtain ⟨a, rfl, h⟩ := h
  exact ⟨a, rfl, b _ _ h fun z => hx (by rw [z])⟩
def dbl (r : List Int) : List (List Int) := [r ++ [0], r ++ [1]]
def bitsL : Nat → List (List Int)
  | 0 => [[]]
  | m + 1 => (bitsL m).flatMap dbl
theorem flat_len {α β : Type} {f : α → List β} {k : Nat} : ∀ {l : List α}, (∀ x ∈ l, (f x).length = k) → (l.flatMap f).length = l.length * k
  | [], _ => by rw [List.length_nil, Nat.zero_mul]; rfl
  | x :: t, h => by
    have h1 := h x List.mem_cons_self
    have h2 := flat_len (l := t) fun y hy => h y (List.mem_cons_of_mem _ hy)
    rw [List.flatMap_cons, List.length_append, List.length_cons, Nat.succ_mul]
    omega
theorem bitsL_len : ∀ m, (bitsL m).length = 2 ^ m
  | 0 => rfl
  | m + 1 => by
    show ((bitsL m).flatMap dbl).length = _
    rw [flat_len (k := 2) fun _ _ => rfl, bitsL_len m, Nat.pow_succ]
theorem bitsL_row : ∀ {m : Nat} {r : List Int}, r ∈ bitsL m → r.length = m ∧ ∀ b ∈ r, b = 0 ∨ b = 1
  | 0, r, h => by
    rw [List.mem_singleton.mp h]
    exact ⟨rfl, fun b hb => by cases hb⟩
  | m + 1, r, h => by
    obtain ⟨q, hq, hr⟩ := List.mem_flatMap.mp h
    obtain ⟨h1, h2⟩ := bitsL_row hq
    rcases List.mem_cons.mp hr with rfl | hr
    · refine ⟨by rw [List.length_append, h1]; rfl, fun b hb => ?_⟩
      rcases List.mem_append.mp hb with hb | hb
      · exact h2 b hb
      · exact .inl (List.mem_singleton.mp hb)
    · rw [List.mem_singleton.mp hr]
      refine ⟨by rw [List.length_append, h1]; rfl, fun b hb => ?_⟩
      rcases List.mem_append.mp hb with hb | hb
      · exact h2 b hb
      · exact .inr (List.mem_singleton.mp hb)
theorem bitsL_nodup : ∀ m : Fin 5, (bitsL m.1).Nodup := by decide
/-- the rows with both bits -/
def midB (m : Nat) : List (List Int) := (bitsL m).filter fun r => decide (0 < r.sum) && decide (r.sum < (m : Int))
theorem midB_len : ∀ m : Fin 5, (midB m.1).length = 2 ^ m.1 - 2 := by decide
def rowM (n : Nat) : List (List Int) := (List.range (n + 1)).map fun (t : Nat) => (List.range n).map fun (j : Nat) => if 1 + (j : Int) ≤ (t : Int) then (1 : Int) else 0
def nesM (n : Nat) : List (List Int) := [List.replicate n 0, List.replicate n 1]
/-- rows of the trials' bits for apart spans -/
def Bits (n m : Nat) (RS : List (List Int)) : Prop := RS.length = n ∧ (∀ r ∈ RS, r.length = m ∧ (∀ b ∈ r, b = 0 ∨ b = 1) ∧ 0 < r.sum ∧ r.sum < (m : Int)) ∧ RS.Nodup ∧ RS.Pairwise fun a b => b.sum ≤ a.sum
def bitM (m : Nat) (RS : List (List Int)) : List (List Int) := (List.range m).map fun (t : Nat) => RS.map fun r => r.getD t 0
def EarlyM (z : Str) (n : Nat) (M : List (List Int)) : Prop := (z = "row" ∧ M = rowM n) ∨ (z = "nested" ∧ M = nesM n) ∨ (z = "apart" ∧ ∃ m RS, IsLg n m ∧ m ≤ 4 ∧ Bits n m RS ∧ M = bitM m RS)
theorem lg_ex : ∀ n : Fin 13, 1 ≤ n.1 → ∃ m, m ≤ 4 ∧ 2 ≤ m ∧ n.1 + 2 ≤ 2 ^ m ∧ 2 ^ (m - 1) < n.1 + 2 := by decide
theorem lg_four {n m : Nat} (h : IsLg n m) (h1 : 1 ≤ n) (h2 : n ≤ 12) : m ≤ 4 ∧ n ≤ 2 ^ m - 2 := by
  obtain ⟨q, q4, q2, qa, qb⟩ := lg_ex ⟨n, by omega⟩ h1
  have hq : IsLg n q := ⟨qa, fun k hk => Nat.lt_of_le_of_lt (Nat.pow_le_pow_right (by decide) (by omega)) qb⟩
  have := h.uniq hq
  subst this
  exact ⟨q4, by show n ≤ _; have qa : n + 2 ≤ 2 ^ m := qa; omega⟩
section
variable {P : Program} {w : World} {K : PySem.W.Frag} {mg : Str → Option Value} {base : Heap}
def spBits : Sp := fun vs H Q _ => ∃ m : Nat, vs = [.int m] ∧ m ≤ 6 ∧ ∀ l xs H', Same H H' → H' l = some (.lst xs) → Paired (IntsT H') xs (bitsL m) → Q (.ref l) H'
theorem ok_bit_rows (T : Txt w K mg) : Ok P w K mg base CX0 1 "bit_rows" ["many"] spBits := by
  refine Ok.def0 (f_bit_rows T) (fun _ _ _ _ _ _ us hl => match us, hl with | [_], _ => rfl) sc_bit_rows (fun vs H Q E h => ?_) (fun f cdv A outer s H vs Q E hr h => ?_)
  · obtain ⟨m, rfl, _⟩ := h
    rfl
  · obtain ⟨m, rfl, hm, k⟩ := h
    refine ⟨_, (pss_cons (ps_set (i := 1) sc_bit_rows.nd rfl (by first | exact Or.inl rfl | exact Or.inr rfl) (pe_lst (pa_cons (pe_lst pa_nil) pa_nil)))
      (pss_cons (ps_for PassesOwn.never rfl (pi_range1 rfl (n_range T) (pa_cons (pv 0) pa_nil)) (pg_name (i := 2) sc_bit_rows.nd rfl (by first | exact Or.inl rfl | exact Or.inr rfl))
        (pss_one (ps_setLc2 (i := 1) (own := [("row", 3), ("bit", 4)]) (vs1 := [4]) rfl sc_bit_rows.nd rfl rfl (sw_true rfl rfl rfl (by decide +kernel)) (pi_listK (K := K) rfl (pv 1)) (blkOk_by (N := ["many", "rows", "turn", "row", "bit"]) (sc := defScope s_bit_rows) (by decide +kernel)) (by decide) (fun _ _ _ _ _ => (pg_name (i := 3) sc_bit_rows.nd rfl (by first | exact Or.inl rfl | exact Or.inr rfl))) (fun _ _ _ _ _ => pts_nil) (fun _ _ _ _ _ => (pi_tupK (K := K) rfl (pe_tup (pa_cons pe_int (pa_cons pe_int pa_nil))))) (fun _ _ _ _ _ => (pg_name (i := 4) sc_bit_rows.nd rfl (by first | exact Or.inl rfl | exact Or.inr rfl))) (fun _ _ _ _ _ => pts_nil) (fun _ _ _ _ _ => (pe_op op_cat (pv 3) (pe_lst (pa_cons (pv 4) pa_nil)))))))
      (pss_one (ps_ret (pv 1))))), ?_⟩
    refine ⟨(by show 0 ≤ sizeLine; decide), fun e he => ⟨(by show 1 ≤ sizeLine; decide), fun R hR => ?_⟩⟩
    obtain ⟨s1, g1⟩ := new2 (.lst []) he
    obtain ⟨s2, g2⟩ := new2 (.lst [V.ref e]) hR
    have s12 := s1.trans s2
    have hP0 : Paired (IntsT _) [V.ref e] (bitsL 0) := .cons ⟨e, rfl, s2 _ _ g1⟩ .nil
    generalize upd (upd H e (.lst [])) R (.lst [V.ref e]) = H2 at s12 g2 hP0 ⊢
    refine ⟨_, rfl, _, rfl, by omega, by omega, for_upto (lo := 0) (L := m) (by omega) (fun i σ H' => ∃ v2 R xs, σ = [some (.int (m : Int)), some (.ref R), v2, none, none] ∧ Same H H' ∧ H' R = some (.lst xs) ∧ Paired (IntsT H') xs (bitsL i)) ⟨_, R, _, rfl, s12, g2, hP0⟩ ?_ ?_⟩
    · rintro i σ H3 hi ⟨v2, R, xs, rfl, e3, gR, hP⟩
      refine gnE ?_
      have hxl : xs.length = 2 ^ i := by rw [Paired.length hP, bitsL_len]
      have hp6 : 2 ^ i ≤ 2 ^ 6 := Nat.pow_le_pow_right (by decide) (by omega)
      refine ⟨_, rfl, R, rfl, ⟨_, SqL.of gR⟩, fun D hD => ?_⟩
      have hx3 : ∀ x ∈ xs, x ≠ .ref D := fun x hx z => by
        obtain ⟨r, _, a, ha, hh⟩ := paired_mem hP hx
        rw [ha] at z
        rw [V.ref.inj z, hD] at hh
        cases hh
      refine lst_W (xs := xs) (fun j H' => Same H3 H' ∧ ∃ acc, H' D = some (.lst acc) ∧ acc.length ≤ 2 * j ∧ Paired (fun x r => x ≠ .ref D ∧ IntsT H' x r) acc (((bitsL i).take j).flatMap dbl)) ⟨same_new hD, [], upd_same, Nat.le_refl _, .nil⟩ (fun j H' ⟨z, _⟩ => SqL.of (z _ _ gR)) ?_ ?_
      · rintro j x H4 hx ⟨s4, acc, hacc, hal, hI⟩
        obtain ⟨r, hr, ra, rfl, hra⟩ := paired_get hP hx
        have hj : j < xs.length := (List.getElem?_eq_some_iff.mp hx).1
        refine gnE ⟨rfl, ?_⟩
        refine ⟨(by show 2 ≤ sizeLine; decide), fun t ht => ?_⟩
        obtain ⟨s5, g5⟩ := new2 (.tup [.int 0, .int 1]) ht
        have tD : t ≠ D := fun z => by rw [z, hacc] at ht; cases ht
        have hacc5 := s5 _ _ hacc
        have hI5 : Paired (fun x r => x ≠ .ref D ∧ IntsT _ x r) acc (((bitsL i).take j).flatMap dbl) := Paired.mapP hI fun _ _ z => ⟨z.1, z.2.same s5⟩
        have s35 := s4.trans s5
        generalize upd H4 t (.tup [.int 0, .int 1]) = H5 at s5 g5 hacc5 hI5 s35 ⊢
        refine ⟨t, rfl, ⟨_, SqT.of g5⟩, ?_⟩
        refine tup_W (xs := [V.int 0, V.int 1]) (fun k H' => Same H3 H' ∧ But D H5 H' ∧ ∃ acc, H' D = some (.lst acc) ∧ acc.length ≤ 2 * j + k ∧ Paired (fun x r => x ≠ .ref D ∧ IntsT H' x r) acc (((bitsL i).take j).flatMap dbl ++ (dbl r).take k)) ⟨s35, But.refl _ _, acc, hacc5, hal, by simpa using hI5⟩ (fun k H' ⟨_, z, _⟩ => SqT.of (z _ _ g5 tD)) ?_ ?_
        · rintro k b H6 hb ⟨s6, b6, acc, hacc, hal, hI⟩
          have hra6 := s6 _ _ hra
          obtain ⟨bi, rfl, hdb⟩ : ∃ bi : Int, b = .int bi ∧ (dbl r)[k]? = some (r ++ [bi]) := by
            match k, hb with
            | 0, hb => cases hb; exact ⟨0, rfl, rfl⟩
            | 1, hb => cases hb; exact ⟨1, rfl, rfl⟩
          have hk2 : k < 2 := by
            have := (List.getElem?_eq_some_iff.mp hdb).1
            exact this
          have hrl : r.length = i := (bitsL_row (List.mem_of_getElem? hr)).1
          refine gnE ⟨rfl, ?_⟩
          refine ⟨_, rfl, _, rfl, (by show 1 ≤ sizeLine; decide), fun q hq => ?_⟩
          obtain ⟨s7, g7⟩ := new2 (.lst [V.int bi]) hq
          refine ⟨ra, q, _, _, rfl, rfl, s7 _ _ hra6, g7, line_of (by rw [List.length_map, hrl]; show _ + 1 ≤ _; omega), fun p hp => ?_⟩
          obtain ⟨s8, g8⟩ := new2 (.lst (r.map V.int ++ [V.int bi])) hp
          have s68 := s7.trans s8
          have hacc8 := s68 _ _ hacc
          have pD : p ≠ D := fun z => by rw [z, s7 _ _ hacc] at hp; cases hp
          have nD : V.ref p ≠ .ref D := fun z => pD (V.ref.inj z)
          have hpI : IntsT (upd (upd H6 q (.lst [V.int bi])) p (.lst (r.map V.int ++ [V.int bi]))) (.ref p) (r ++ [bi]) := ⟨p, rfl, by rw [g8, List.map_append]; rfl⟩
          refine ⟨acc, hacc8, line_lt (by omega), same_mut (s6.trans s68) hD, (b6.trans (But.of s68)).upd, acc ++ [.ref p], upd_same, by rw [List.length_append]; show _ + 1 ≤ _; omega, ?_⟩
          rw [take_get hdb, ← List.append_assoc]
          exact Paired.snoc (Paired.mapP hI fun _ _ z => ⟨z.1, ints_mut z.1 (z.2.same s68)⟩) ⟨nD, ints_mut nD hpI⟩
        · rintro H6 ⟨s6, b6, acc, hacc, hal, hI⟩
          refine ⟨s6, acc, hacc, by have : acc.length ≤ 2 * j + 2 := hal; omega, ?_⟩
          rw [take_get hr, List.flatMap_append]
          simpa [dbl] using hI
      · rintro H4 ⟨s4, acc, hacc, hal, hI⟩
        rw [hxl, List.take_of_length_le (by rw [bitsL_len]; exact Nat.le_refl _)] at hI
        exact ⟨_, D, acc, rfl, e3.trans s4, hacc, Paired.mapP hI fun _ _ z => z.2⟩
    · rintro σ H3 ⟨v2, R, xs, rfl, e3, gR, hP⟩
      exact ⟨_, rfl, k R xs H3 e3 gR hP⟩
end
end K85
end
section
set_option maxRecDepth 100000
set_option maxHeartbeats 4000000
namespace K85
open PySem PySem.Spec PyProof.Rows L2
theorem sum_alike {rows : List (List Int)} : PySem.W.AllAlike (rows.map fun r => PyData.int (-r.sum)) := fun d hd d' hd' => by
  obtain ⟨c, _, rfl⟩ := List.mem_map.mp hd
  obtain ⟨c', _, rfl⟩ := List.mem_map.mp hd'
  rfl
theorem sum_sortable {rows : List (List Int)} : PySem.W.Sortable (rows.map fun r => PyData.int (-r.sum)) := .inr fun d hd => by
  obtain ⟨c, _, rfl⟩ := List.mem_map.mp hd
  exact ⟨fun z => (by cases z), fun _ z => (by cases z)⟩
theorem sum_depth {rows : List (List Int)} : ∀ d ∈ rows.map (fun r => PyData.int (-r.sum)), d.depth ≤ 64 := fun d hd => by
  obtain ⟨c, _, rfl⟩ := List.mem_map.mp hd
  unfold PyData.depth
  decide
theorem bits_of {n m : Nat} {ms : List (List Int)} (hm4 : m ≤ 4) (hn : n ≤ 2 ^ m - 2) (hp : ms.Perm (midB m)) (hs : ms.Pairwise fun a b => -a.sum ≤ -b.sum) : Bits n m (ms.take n) := by
  have hnd : ms.Nodup := hp.nodup_iff.mpr ((bitsL_nodup ⟨m, by omega⟩).filter _)
  have hl : ms.length = 2 ^ m - 2 := by rw [hp.length_eq]; exact midB_len ⟨m, by omega⟩
  refine ⟨by rw [List.length_take]; omega, fun r hr => ?_, hnd.sublist (List.take_sublist _ _), ?_⟩
  · have h1 := hp.mem_iff.mp (List.mem_of_mem_take hr)
    obtain ⟨h2, h3⟩ := List.mem_filter.mp h1
    rw [Bool.and_eq_true, decide_eq_true_eq, decide_eq_true_eq] at h3
    obtain ⟨h4, h5⟩ := bitsL_row h2
    exact ⟨h4, h5, h3⟩
  · exact (hs.imp fun h => by omega).sublist (List.take_sublist _ _)
section
variable {P : Program} {w : World} {K : PySem.W.Frag} {mg : Str → Option Value} {base : Heap}
def spEarly (K : PySem.W.Frag) : Sp := fun vs H Q _ => ∃ (z : Str) (n : Nat), vs = [.str z, .int n] ∧ (z = "row" ∨ z = "nested" ∨ z = "apart") ∧ 1 ≤ n ∧ n ≤ 12 ∧ LamX.Tabs (Tl K) H ∧ ∀ l xs M H', LamX.ExtN H H' → LamX.Tabs (Tl K) H' → (∀ xs, H l ≠ some (.lst xs)) → H' l = some (.lst xs) → Paired (IntsT H') xs M → EarlyM z n M → Q (.ref l) H'
theorem ok_early_rains (T : Txt w K mg) (TB : TabsB K base mg) : Ok P w K mg base CX0 9 "early_rains" ["kind", "n"] (spEarly K) := by
  refine Ok.defC (fl_early_rains T) (fun _ _ _ _ _ _ us hl => match us, hl with | [_, _], _ => rfl) sc_early_rains (fun vs H Q E h => ?_) (fun f A outer s H vs Q E hr h => ?_)
  · obtain ⟨z, n, rfl, _⟩ := h
    rfl
  · obtain ⟨z, n, rfl, hz, hn1, hn, hTb, k⟩ := h
    refine ⟨_, (pss_cons (ps_if (pt_cmpR op_eq (pv 0) pe_str (nomark _)) (pss_one (ps_ret (pe_lc (own := [("t", 2)]) rfl sc_early_rains.nd (pi_range1 rfl (n_range T) (pa_cons (pe_op op_add (pv 1) pe_int) pa_nil)) (blkOk_by (N := ["kind", "n", "t", "i", "many", "row", "rows", "trial"]) (sc := defScope s_early_rains) (by decide +kernel)) (fun _ _ _ _ _ => (pg_name (i := 2) sc_early_rains.nd rfl (by first | exact Or.inl rfl | exact Or.inr rfl))) (fun _ _ _ _ _ => pts_nil) (fun _ _ _ _ _ => (pe_lc (own := [("i", 3)]) rfl sc_early_rains.nd (pi_range2 rfl (n_range T) (pa_cons pe_int (pa_cons (pe_op op_add (pv 1) pe_int) pa_nil))) (by exact blkOk_by (by kernel_rfl)) (fun _ _ _ _ _ => (pg_name (i := 3) sc_early_rains.nd rfl (by first | exact Or.inl rfl | exact Or.inr rfl))) (fun _ _ _ _ _ => pts_nil) (fun _ _ _ _ _ => (pe_ifExp (pt_cmpR op_le (pv 3) (pv 2) (nomark _)) pe_int pe_int))))))) pss_nil)
      (pss_cons (ps_if (pt_cmpR op_eq (pv 0) pe_str (nomark _)) (pss_one (ps_ret (pe_lst (pa_cons (pe_op op_rep (pe_lst (pa_cons pe_int pa_nil)) (pv 1)) (pa_cons (pe_op op_rep (pe_lst (pa_cons pe_int pa_nil)) (pv 1)) pa_nil))))) pss_nil)
      (pss_cons (ps_set (i := 4) sc_early_rains.nd rfl (by first | exact Or.inl rfl | exact Or.inr rfl) (pe_ok (ok_trial_number T) (hr.mono (by first | decide | omega)) rfl passL (pa_cons pe_str (pa_cons (pv 1) pa_nil))))
      (pss_cons (ps_set (i := 6) sc_early_rains.nd rfl (by first | exact Or.inl rfl | exact Or.inr rfl) (pe_lc (own := [("row", 5)]) rfl sc_early_rains.nd (pi_listK (K := K) rfl (pe_ok (ok_bit_rows T) (hr.mono (by first | decide | omega)) rfl pass0 (pa_cons (pv 4) pa_nil))) (blkOk_by (N := ["kind", "n", "t", "i", "many", "row", "rows", "trial"]) (sc := defScope s_early_rains) (by decide +kernel)) (fun _ _ _ _ _ => (pg_name (i := 5) sc_early_rains.nd rfl (by first | exact Or.inl rfl | exact Or.inr rfl))) (fun _ _ _ _ _ => pts_one (pt_chain op_lt op_lt pe_int (pe_callB (sumK (K := K) rfl rfl) rfl (n_sum T) (by decide +kernel) (pa_cons (pv 5) pa_nil)) (pv 4))) (fun _ _ _ _ _ => (pv 5))))
      (pss_cons (ps_set (i := 6) sc_early_rains.nd rfl (by first | exact Or.inl rfl | exact Or.inr rfl) (pe_slice (sl_listK (K := K) rfl) (pe_sortLam (T := Tl K) (c := (He.cT K ("early_rains", none)).1) (P := (He.cT K ("early_rains", none)).2) (k := 0) (x0 := "row") (fr := []) (N := ["row"]) (js := []) rfl (n_sorted T) (pa_cons (pv 6) pa_nil) (TB _ (List.mem_of_getElem? (i := 0) rfl)) rfl (List.mem_of_getElem? (i := 0) rfl) (tl_one T (List.mem_of_getElem? (i := 0) rfl)) (hr.mono (by decide)) (NdefX.nscope_by (by kernel_rfl)) (NdefX.ndef_free (fr := []) (by kernel_rfl)) (NdefX.ndef_fr (sc := defScope s_early_rains) (by kernel_rfl)) rfl rfl (fun _ _ _ _ _ _ => rfl) (fun q cl c' f A outer s H hr => (pe_un un_neg (pe_callB (sumK (K := K) rfl rfl) rfl (n_sum T) (by decide +kernel) (pa_cons (pv 0) pa_nil))))) po_none (po_some (pv 1))))
      (pss_one (ps_ret (pe_lc (own := [("trial", 7)]) rfl sc_early_rains.nd (pi_range1 rfl (n_range T) (pa_cons (pv 4) pa_nil)) (blkOk_by (N := ["kind", "n", "t", "i", "many", "row", "rows", "trial"]) (sc := defScope s_early_rains) (by decide +kernel)) (fun _ _ _ _ _ => (pg_name (i := 7) sc_early_rains.nd rfl (by first | exact Or.inl rfl | exact Or.inr rfl))) (fun _ _ _ _ _ => pts_nil) (fun _ _ _ _ _ => (pe_lc (own := [("row", 5)]) rfl sc_early_rains.nd (pi_listK (K := K) rfl (pv 6)) (by exact blkOk_by (by kernel_rfl)) (fun _ _ _ _ _ => (pg_name (i := 5) sc_early_rains.nd rfl (by first | exact Or.inl rfl | exact Or.inr rfl))) (fun _ _ _ _ _ => pts_nil) (fun _ _ _ _ _ => (pe_ix (ix_listK (K := K) rfl) (pv 5) (pv 7) (fun _ _ => rfl))))))))))))), ?_⟩
    obtain ⟨n1, n2, n3, n4, n5, n6, n7, n8, n9, n10, n11, n12⟩ := k_ne
    rcases hz with rfl | rfl | rfl
    · refine kind_yes rfl ?_
      refine ⟨_, rfl, _, _, rfl, rfl, _, rfl, by omega, by omega, fun D hD => lc_upto (lo := 0) (L := n + 1) (by omega) hD (by omega) (fun i acc H' => Paired (fun x r => x ≠ .ref D ∧ IntsT H' x r) acc ((List.range i).map fun (t : Nat) => (List.range n).map fun (j : Nat) => if 1 + (j : Int) ≤ (t : Int) then (1 : Int) else 0)) (fun _ _ => .nil) ?_ ?_⟩
      · rintro i acc H2 N N0 hi s2 hacc hI hN hN0
        have z1 : (0 : Int) + (i : Int) = (i : Int) := by omega
        rw [z1]
        refine gnE ⟨rfl, ?_⟩
        refine ⟨_, rfl, _, _, rfl, rfl, _, _, rfl, by omega, fun D2 hD2 => lc_upto (lo := 1) (L := n) (by omega) hD2 (by omega) (fun j acc2 _ => acc2 = ((List.range j).map fun (j : Nat) => if 1 + (j : Int) ≤ (i : Int) then (1 : Int) else 0).map V.int) (fun _ _ => rfl) ?_ ?_⟩
        · rintro j acc2 H3 N' N0' hj s3 hacc2 hI2 hN' hN0'
          refine gnE ⟨rfl, ?_⟩
          refine ⟨_, rfl, _, rfl, _, _, rfl, rfl, _, rfl, ite2 (fun c => hN' _ _ (Same.refl _) fun _ _ _ => ?_) (fun c => hN' _ _ (Same.refl _) fun _ _ _ => ?_)⟩
          · rw [hI2, range_snoc, List.map_append, if_pos (of_decide_eq_true c)]
            rfl
          · rw [hI2, range_snoc, List.map_append, if_neg fun z => c (decide_eq_true z)]
            rfl
        · rintro acc2 H3 s3 hacc2 _ hI2
          have DD : D2 ≠ D := fun z => by rw [z, hacc] at hD2; cases hD2
          have hacc3 := s3 _ _ hacc
          refine hN _ _ s3 fun H4 b4 _ => ?_
          rw [range_snoc]
          have nD : V.ref D2 ≠ .ref D := fun z => DD (V.ref.inj z)
          exact Paired.snoc (Paired.mapP hI fun _ _ z => ⟨z.1, ints_but z.1 b4 (z.2.same s3)⟩) ⟨nD, ints_but nD b4 ⟨D2, rfl, by rw [hacc2, hI2]⟩⟩
      · rintro acc H2 s2 hacc _ hI
        refine k D acc (rowM n) H2 (ext_of s2) (hTb.ext s2) (fun _ z => by rw [hD] at z; cases z) hacc (Paired.mapP hI fun _ _ z => z.2) (.inl ⟨rfl, rfl⟩)
    · refine kind_no n6 rfl (kind_yes rfl ?_)
      refine ⟨(by show 1 ≤ sizeLine; decide), fun l1 h1 => ⟨_, rfl, l1, (n : Int), _, rfl, rfl, upd_same, by omega, by omega, line_of (by show 1 * (n : Int).toNat ≤ _; omega), fun r1 h2 => ⟨(by show 1 ≤ sizeLine; decide), fun l2 h3 => ⟨_, rfl, l2, (n : Int), _, rfl, rfl, upd_same, by omega, by omega, line_of (by show 1 * (n : Int).toNat ≤ _; omega), fun r2 h4 => ⟨(by show 2 ≤ sizeLine; decide), fun q h5 => ?_⟩⟩⟩⟩⟩
      obtain ⟨s1, g1⟩ := new2 (.lst [V.int 0]) h1
      obtain ⟨s2, g2⟩ := new2 (.lst (List.replicate (n : Int).toNat [V.int 0]).flatten) h2
      obtain ⟨s3, g3⟩ := new2 (.lst [V.int 1]) h3
      obtain ⟨s4, g4⟩ := new2 (.lst (List.replicate (n : Int).toNat [V.int 1]).flatten) h4
      obtain ⟨s5, g5⟩ := new2 (.lst [V.ref r1, V.ref r2]) h5
      have e := s1.trans (s2.trans (s3.trans (s4.trans s5)))
      have en : (n : Int).toNat = n := by omega
      refine k q _ (nesM n) _ (ext_of e) (hTb.ext e) (fun _ z => by rw [(s1.trans (s2.trans (s3.trans s4))) _ _ z] at h5; cases h5) g5 (.cons ⟨r1, rfl, ?_⟩ (.cons ⟨r2, rfl, ?_⟩ .nil)) (.inr (.inl ⟨rfl, rfl⟩))
      · rw [(s3.trans (s4.trans s5)) _ _ g2, en, rep_ints]
      · rw [s5 _ _ g4, en, rep_ints]
    · refine kind_no n10 rfl (kind_no n11 rfl ?_)
      refine ⟨_, rfl, "apart", (n : Int), rfl, fun h => absurd h (by omega), fun _ h => absurd (show ("apart" : Str) ∈ kindsT from List.mem_cons_self) h, fun _ _ h => absurd h (by omega), fun _ n' en _ _ m hm => ?_⟩
      obtain rfl : n = n' := by omega
      have hlg := trn_apart.mp hm
      obtain ⟨hm4, hnm⟩ := lg_four hlg hn1 hn
      refine ⟨_, rfl, m, rfl, by omega, fun R xs H1 s1 gR hP => ⟨R, rfl, ⟨_, SqL.of gR⟩, fun D hD => ?_⟩⟩
      have hxl : xs.length = (bitsL m).length := Paired.length hP
      have hb64 : (bitsL m).length ≤ 64 := by
        rw [bitsL_len]
        exact Nat.le_trans (Nat.pow_le_pow_right (by decide) hm4) (by decide)
      refine lc_acc (K := K) (a := R) (xs := xs) hD (SqL.of gR) (by omega) (fun j acc _ => Paired (IntsT H1) acc (((bitsL m).take j).filter fun r => decide (0 < r.sum) && decide (r.sum < (m : Int)))) (fun _ _ => .nil) ?_ ?_
      · rintro j x acc H2 N N0 hx s2 hacc hI hN hN0
        obtain ⟨r, hr, ra, rfl, hra⟩ := paired_get hP hx
        refine gnE ⟨rfl, ?_⟩
        refine ⟨_, rfl, ra, r, rfl, SqL.of (s2 _ _ hra), _, _, rfl, rfl, _, rfl, ite2 (fun c => ?_) (fun c => ?_)⟩
        · have c := of_decide_eq_true c
          refine ⟨_, rfl, _, _, rfl, rfl, _, rfl, ite2 (fun c2 => ?_) (fun c2 => ?_)⟩
          · have c2 := of_decide_eq_true c2
            refine ⟨_, rfl, hN _ _ (Same.refl _) fun _ _ _ => ?_⟩
            rw [take_get hr, List.filter_append]
            have : [r].filter (fun r => decide (0 < r.sum) && decide (r.sum < (m : Int))) = [r] := by
              rw [List.filter_cons, if_pos (by rw [decide_eq_true c, decide_eq_true c2]; rfl), List.filter_nil]
            rw [this]
            exact Paired.snoc hI ⟨ra, rfl, hra⟩
          · refine hN0 _ (Same.refl _) ?_
            rw [take_get hr, List.filter_append]
            have : [r].filter (fun r => decide (0 < r.sum) && decide (r.sum < (m : Int))) = [] := by
              rw [List.filter_cons, if_neg (by rw [decide_eq_true c, decide_eq_false fun z => c2 (decide_eq_true z)]; exact fun z => by cases z), List.filter_nil]
            rw [this, List.append_nil]
            exact hI
        · refine ⟨_, rfl, iteF (hN0 _ (Same.refl _) ?_)⟩
          rw [take_get hr, List.filter_append]
          have : [r].filter (fun r => decide (0 < r.sum) && decide (r.sum < (m : Int))) = [] := by
            rw [List.filter_cons, if_neg (by rw [decide_eq_false fun z => c (decide_eq_true z)]; exact fun z => by cases z), List.filter_nil]
          rw [this, List.append_nil]
          exact hI
      · rintro acc H2 s2 hacc hal hI
        rw [hxl, List.take_length] at hI
        have hI : Paired (IntsT H1) acc (midB m) := hI
        have s02 := s1.trans s2
        have T2 := hTb.ext s02
        refine ⟨_, rfl, D, acc, (midB m).map (fun r => PyData.int (-r.sum)), rfl, SqL.of hacc, T2, by rw [List.length_map, Paired.length hI], sum_alike, sum_sortable, sum_depth, fun H3 eN T3 => ⟨fun i x dd hx hd H4 s4 => ?_, fun q H4 s4 hq3 hq4 => ?_⟩⟩
        · obtain ⟨r, hr, ra, rfl, hra⟩ := paired_get hI hx
          rw [List.getElem?_map, hr] at hd
          cases hd
          have hra4 := s4 _ _ (eN _ _ (s2 _ _ hra) fun _ z => by cases z)
          exact ⟨_, rfl, ra, r, rfl, SqL.of hra4, _, rfl, Same.refl _, .int _⟩
        · have hI4 : Paired (IntsT H4) acc (midB m) := Paired.mapP hI fun _ _ z => (IntsT.ext eN (z.same s2)).same s4
          obtain ⟨ms, hms, hmp, hmo⟩ := keyed_ints (fun r : List Int => -r.sum) hI4
          obtain ⟨s5, g5⟩ := new2 (.lst (keyed acc ((midB m).map fun r => PyData.int (-r.sum)))) hq4
          refine ⟨_, rfl, _, rfl, q, _, rfl, SqL.of g5, fun c hc => ?_⟩
          have ec : cutV (keyed acc ((midB m).map fun r => PyData.int (-r.sum))) none (some (n : Int)) = (keyed acc ((midB m).map fun r => PyData.int (-r.sum))).take n := cut_take _ (k := n) rfl
          obtain ⟨s6, g6⟩ := new2 (.lst (cutV (keyed acc ((midB m).map fun r => PyData.int (-r.sum))) none (some (n : Int)))) hc
          have hP6 := paired_take n (Paired.mapP hms fun _ _ z => (z.same s5).same s6)
          rw [← ec] at hP6
          have hB := bits_of hm4 hnm hmp hmo
          have e06 : LamX.ExtN H (upd (upd H4 q (.lst (keyed acc ((midB m).map fun r => PyData.int (-r.sum))))) c (.lst (cutV (keyed acc ((midB m).map fun r => PyData.int (-r.sum))) none (some (n : Int))))) := fun b o hb nt => s6 _ _ (s5 _ _ (s4 _ _ (eN _ _ (s02 _ _ hb) nt)))
          have T6 := ((T3.ext s4).ext s5).ext s6
          generalize upd (upd H4 q (.lst (keyed acc ((midB m).map fun r => PyData.int (-r.sum))))) c (.lst (cutV (keyed acc ((midB m).map fun r => PyData.int (-r.sum))) none (some (n : Int)))) = H6 at g6 hP6 e06 T6 ⊢
          generalize cutV (keyed acc ((midB m).map fun r => PyData.int (-r.sum))) none (some (n : Int)) = cs at g6 hP6
          generalize ms.take n = RS at hP6 hB
          have hcl : cs.length = n := by rw [Paired.length hP6]; exact hB.1
          refine ⟨_, rfl, _, rfl, by omega, by omega, fun D2 hD2 => lc_upto (lo := 0) (L := m) (by omega) hD2 (by omega) (fun i acc H' => Paired (fun x r => x ≠ .ref D2 ∧ IntsT H' x r) acc ((List.range i).map fun (t : Nat) => RS.map fun r => r.getD t 0)) (fun _ _ => .nil) ?_ ?_⟩
          · rintro i acc H7 N N0 hi s7 hacc7 hI7 hN hN0
            have z1 : (0 : Int) + (i : Int) = (i : Int) := by omega
            rw [z1]
            refine gnE ⟨rfl, ?_⟩
            refine ⟨_, rfl, c, rfl, ⟨_, SqL.of (s7 _ _ g6)⟩, fun D3 hD3 => lc_acc (K := K) (a := c) (xs := cs) hD3 (SqL.of (s7 _ _ g6)) (by omega) (fun j acc2 _ => acc2 = ((RS.take j).map fun r => r.getD i 0).map V.int) (fun _ _ => rfl) ?_ ?_⟩
            · rintro j x acc2 H8 N' N0' hx s8 hacc8 hI8 hN' hN0'
              obtain ⟨r, hr, ra, rfl, hra⟩ := paired_get hP6 hx
              have hrl := (hB.2.1 r (List.mem_of_getElem? hr)).1
              have hri : (r.map V.int)[i]? = some (V.int (r.getD i 0)) := by
                rw [List.getElem?_map, List.getElem?_eq_getElem (by omega)]
                show some (V.int _) = _
                rw [List.getD_eq_getElem?_getD, List.getElem?_eq_getElem (by omega)]
                rfl
              refine gnE ⟨rfl, ?_⟩
              refine ⟨_, rfl, _, rfl, ra, _, _, _, rfl, rfl, SqL.of (s8 _ _ (s7 _ _ hra)), at_of rfl hri, hN' _ _ (Same.refl _) fun _ _ _ => ?_⟩
              rw [hI8, take_get hr, List.map_append, List.map_append]
              rfl
            · rintro acc2 H8 s8 hacc8 _ hI8
              rw [hcl, List.take_of_length_le (by rw [hB.1]; exact Nat.le_refl _)] at hI8
              have DD : D3 ≠ D2 := fun z => by rw [z, hacc7] at hD3; cases hD3
              have nD : V.ref D3 ≠ .ref D2 := fun z => DD (V.ref.inj z)
              refine hN _ _ s8 fun H9 b9 _ => ?_
              rw [range_snoc]
              exact Paired.snoc (Paired.mapP hI7 fun _ _ z => ⟨z.1, ints_but z.1 b9 (z.2.same s8)⟩) ⟨nD, ints_but nD b9 ⟨D3, rfl, by rw [hacc8, hI8]⟩⟩
          · rintro acc7 H7 s7 hacc7 _ hI7
            refine k D2 acc7 (bitM m RS) H7 (fun b o hb nt => s7 _ _ (e06 _ _ hb nt)) (T6.ext s7) (fun zs z => ?_) hacc7 (Paired.mapP hI7 fun _ _ z => z.2) (.inr (.inr ⟨rfl, m, RS, hlg, hm4, hB, rfl⟩))
            have := e06 _ _ z fun _ z => by cases z
            rw [hD2] at this
            cases this
end
end K85
end
section
set_option maxRecDepth 100000
set_option maxHeartbeats 4000000
namespace K85
open PySem PySem.Spec PyProof.Rows L2
/-! ### lots of the middle, barring stretches -/
def midA (i b k : Nat) : List (Int × Int) := ((List.range k).filter fun (a : Nat) => decide ((a : Int) + (b : Int) = 2 * (i : Int) - 1) || decide ((a : Int) + (b : Int) = 2 * (i : Int))).map fun (a : Nat) => ((a : Int), (b : Int))
def midRow (i k : Nat) : List (Int × Int) := (List.range k).flatMap fun b => midA i (1 + b) (1 + b)
def midL (n : Nat) : List (List (Int × Int)) := (List.range n).map fun i => midRow (1 + i) n
def allL (n : Nat) : List (List (Int × Int)) := if n = 1 then midL 1 else (List.range ((n + 1) / 2 + 1)).map fun i => (midL n).getD i [] ++ if i + 1 < n / 2 then (midL n).getD (i + ((n + 1) / 2 + 1)) [] else []
def barF (z : Str) (n : Nat) : List (Int × Int) := if z = "row" then (List.range (n + 1)).map fun (t : Nat) => ((t : Int), (n : Int) + (t : Int)) else if z = "nested" then [((0 : Int), 2 * (n : Int) - 1), (1, 2 * (n : Int))] else (List.range (n / 2 + 1)).map fun (i : Nat) => ((i : Int), (i : Int) + ((n + 1) / 2 : Nat))
theorem midA_succ {i b k : Nat} : midA i b (k + 1) = midA i b k ++ (if (k : Int) + (b : Int) = 2 * (i : Int) - 1 ∨ (k : Int) + (b : Int) = 2 * (i : Int) then [((k : Int), (b : Int))] else []) := by
  unfold midA
  rw [List.range_succ, List.filter_append, List.map_append, List.filter_cons, List.filter_nil]
  congr 1
  by_cases c : (k : Int) + (b : Int) = 2 * (i : Int) - 1 ∨ (k : Int) + (b : Int) = 2 * (i : Int)
  · rw [if_pos c, if_pos (by rw [Bool.or_eq_true, decide_eq_true_eq, decide_eq_true_eq]; exact c)]
    rfl
  · rw [if_neg c, if_neg (by rw [Bool.or_eq_true, decide_eq_true_eq, decide_eq_true_eq]; exact c)]
    rfl
theorem midRow_succ {i k : Nat} : midRow i (k + 1) = midRow i k ++ midA i (1 + k) (1 + k) := by
  unfold midRow
  rw [List.range_succ, List.flatMap_append]
  simp
theorem midA_len {i b k : Nat} : (midA i b k).length ≤ k := by
  unfold midA
  rw [List.length_map]
  have := List.length_filter_le (fun (a : Nat) => decide ((a : Int) + (b : Int) = 2 * (i : Int) - 1) || decide ((a : Int) + (b : Int) = 2 * (i : Int))) (List.range k)
  rw [List.length_range] at this
  exact this
theorem midRow_len {i : Nat} : ∀ {k : Nat}, (midRow i k).length ≤ k * k
  | 0 => Nat.le_refl _
  | k + 1 => by
    rw [midRow_succ, List.length_append]
    have h1 := midRow_len (i := i) (k := k)
    have h2 := midA_len (i := i) (b := 1 + k) (k := 1 + k)
    have : (k + 1) * (k + 1) = k * k + 2 * k + 1 := by rw [Nat.add_mul, Nat.mul_add]; omega
    omega
theorem rep_mutx {L : Addr} {H : Hp} {us : List V} {o : HO} (hL : H L = some (.lst us)) {x : V} {rep : List (Int × Int)} (hx : x ≠ .ref L) (h : RepT H x rep) : RepT (upd H L o) x rep := (repx_mut hL ⟨hx, h⟩).2
section
variable {P : Program} {w : World} {K : PySem.W.Frag} {mg : Str → Option Value} {base : Heap}
def spMid : Sp := fun vs H Q _ => ∃ n : Nat, vs = [.int n] ∧ n ≤ 12 ∧ ∀ p H', Same H H' → WeaT H' p (midL n) → Q (.ref p) H'
theorem ok_middle_lots (T : Txt w K mg) : Ok P w K mg base CX0 1 "middle_lots" ["n"] spMid := by
  refine Ok.def0 (f_middle_lots T) (fun _ _ _ _ _ _ us hl => match us, hl with | [_], _ => rfl) sc_middle_lots (fun vs H Q E h => ?_) (fun f cdv A outer s H vs Q E hr h => ?_)
  · obtain ⟨n, rfl, _⟩ := h
    rfl
  · obtain ⟨n, rfl, hn, k⟩ := h
    refine ⟨_, (pss_cons (ps_set (i := 1) sc_middle_lots.nd rfl (by first | exact Or.inl rfl | exact Or.inr rfl) (pe_lst pa_nil))
      (pss_cons (ps_for PassesOwn.never rfl (pi_range2 rfl (n_range T) (pa_cons pe_int (pa_cons (pe_op op_add (pv 0) pe_int) pa_nil))) (pg_name (i := 2) sc_middle_lots.nd rfl (by first | exact Or.inl rfl | exact Or.inr rfl))
        (pss_cons (ps_set (i := 3) sc_middle_lots.nd rfl (by first | exact Or.inl rfl | exact Or.inr rfl) (pe_lst pa_nil))
      (pss_cons (ps_for PassesOwn.never rfl (pi_range2 rfl (n_range T) (pa_cons pe_int (pa_cons (pe_op op_add (pv 0) pe_int) pa_nil))) (pg_name (i := 4) sc_middle_lots.nd rfl (by first | exact Or.inl rfl | exact Or.inr rfl))
        (pss_one (ps_for PassesOwn.never rfl (pi_range1 rfl (n_range T) (pa_cons (pv 4) pa_nil)) (pg_name (i := 5) sc_middle_lots.nd rfl (by first | exact Or.inl rfl | exact Or.inr rfl))
        (pss_one (ps_if (pt_cmpR (inK (K := K) rfl) (pe_op op_add (pv 5) (pv 4)) (pe_tup (pa_cons (pe_op op_sub (pe_op op_mul pe_int (pv 2)) pe_int) (pa_cons (pe_op op_mul pe_int (pv 2)) pa_nil))) (by with_unfolding_all rfl)) (pss_one (ps_expr (pe_bm PySem.F.plainAttrs_list PySem.F.slot_list_append PySem.F.type_list_append mt_append (pv 3) (pa_cons (pe_tup (pa_cons (pv 5) (pa_cons (pv 4) pa_nil))) pa_nil)))) pss_nil)))))
      (pss_one (ps_expr (pe_bm PySem.F.plainAttrs_list PySem.F.slot_list_append PySem.F.type_list_append mt_append (pv 1) (pa_cons (pv 3) pa_nil)))))))
      (pss_one (ps_ret (pv 1))))), ?_⟩
    refine ⟨(by show 0 ≤ sizeLine; decide), fun L hL => ?_⟩
    obtain ⟨s1, g1⟩ := new2 (.lst []) hL
    generalize upd H L (.lst []) = H1 at s1 g1 ⊢
    refine ⟨_, rfl, _, _, rfl, rfl, _, _, rfl, by omega, for_upto (lo := 1) (L := n) (by omega) (fun i σ H' => ∃ v2 v3 v4 v5 zs, σ = [some (.int (n : Int)), some (.ref L), v2, v3, v4, v5] ∧ But L H1 H' ∧ H' L = some (.lst zs) ∧ Paired (fun x rep => x ≠ .ref L ∧ RepT H' x rep) zs ((List.range i).map fun i => midRow (1 + i) n)) ⟨_, _, _, _, [], rfl, But.refl _ _, g1, .nil⟩ ?_ ?_⟩
    · rintro i σ H2 hi ⟨v2, v3, v4, v5, zs, rfl, b2, gL, hZ⟩
      have z1 : (1 : Int) + (i : Int) = ((1 + i : Nat) : Int) := by omega
      rw [z1]
      refine gnE ?_
      refine ⟨(by show 0 ≤ sizeLine; decide), fun F hF => ?_⟩
      obtain ⟨s3, g3⟩ := new2 (.lst []) hF
      have FL : F ≠ L := fun z => by rw [z, gL] at hF; cases hF
      have nF : V.ref F ≠ .ref L := fun z => FL (V.ref.inj z)
      generalize upd H2 F (.lst []) = H3 at s3 g3 ⊢
      refine ⟨_, rfl, _, _, rfl, rfl, _, _, rfl, by omega, for_upto (lo := 1) (L := n) (by omega) (fun b σ H' => ∃ v4 v5 us, σ = [some (.int (n : Int)), some (.ref L), some (.int ((1 + i : Nat) : Int)), some (.ref F), v4, v5] ∧ But F H3 H' ∧ H' F = some (.lst us) ∧ Paired (PairT H') us (midRow (1 + i) b)) ⟨_, _, [], rfl, But.refl _ _, g3, .nil⟩ ?_ ?_⟩
      · rintro b σ H4 hb ⟨v4, v5, us, rfl, b4, gF, hU⟩
        have z2 : (1 : Int) + (b : Int) = ((1 + b : Nat) : Int) := by omega
        rw [z2]
        refine gnE ?_
        refine ⟨_, rfl, _, rfl, by omega, by omega, for_upto (lo := 0) (L := 1 + b) (by omega) (fun a σ H' => ∃ v5 us, σ = [some (.int (n : Int)), some (.ref L), some (.int ((1 + i : Nat) : Int)), some (.ref F), some (.int ((1 + b : Nat) : Int)), v5] ∧ But F H3 H' ∧ H' F = some (.lst us) ∧ Paired (PairT H') us (midRow (1 + i) b ++ midA (1 + i) (1 + b) a)) ⟨_, us, rfl, b4, gF, by unfold midA; simpa using hU⟩ ?_ ?_⟩
        · rintro a σ H5 ha ⟨v5, us, rfl, b5, gF, hU⟩
          have z3 : (0 : Int) + (a : Int) = (a : Int) := by omega
          rw [z3]
          refine gnE ?_
          refine ⟨_, rfl, _, rfl, _, _, rfl, rfl, _, rfl, _, _, rfl, rfl, .inl (by decide), _, _, rfl, rfl, _, rfl, _, _, rfl, rfl, .inl (by decide), (by show 2 ≤ sizeLine; decide), fun t ht => ?_⟩
          obtain ⟨s6, g6⟩ := new2 (.tup [.int (2 * ((1 + i : Nat) : Int) - 1), .int (2 * ((1 + i : Nat) : Int))]) ht
          have gF6 := s6 _ _ gF
          have hU6 := Paired.mapP hU fun _ _ z => PairT.same s6 z
          generalize upd H5 t (.tup [.int (2 * ((1 + i : Nat) : Int) - 1), .int (2 * ((1 + i : Nat) : Int))]) = H6 at s6 g6 gF6 hU6 ⊢
          have ein : inV (V.int ((a : Int) + ((1 + b : Nat) : Int))) [V.int (2 * ((1 + i : Nat) : Int) - 1), V.int (2 * ((1 + i : Nat) : Int))] = decide ((a : Int) + ((1 + b : Nat) : Int) ∈ [2 * ((1 + i : Nat) : Int) - 1, 2 * ((1 + i : Nat) : Int)]) := inV_ints _ [_, _]
          refine ⟨t, _, rfl, .inr (SqT.of g6), rfl, rfl, decide ((a : Int) + ((1 + b : Nat) : Int) ∈ [2 * ((1 + i : Nat) : Int) - 1, 2 * ((1 + i : Nat) : Int)]), congrArg V.bl ein, ?_⟩
          have hul : us.length ≤ 1000 := by
            rw [Paired.length hU, List.length_append]
            have h1 := midRow_len (i := 1 + i) (k := b)
            have h2 := midA_len (i := 1 + i) (b := 1 + b) (k := a)
            have : b * b ≤ 12 * 12 := Nat.mul_le_mul (by omega) (by omega)
            omega
          refine ite2 (fun c => ?_) (fun c => ?_)
          · have c := of_decide_eq_true c
            have c' : (a : Int) + ((1 + b : Nat) : Int) = 2 * ((1 + i : Nat) : Int) - 1 ∨ (a : Int) + ((1 + b : Nat) : Int) = 2 * ((1 + i : Nat) : Int) := by simpa using c
            refine ⟨_, rfl, .inl ⟨rfl, _, SqL.of gF6⟩, _, rfl, _, rfl, (by show 2 ≤ sizeLine; decide), fun u hu => ?_⟩
            obtain ⟨s7, g7⟩ := new2 (.tup [.int (a : Int), .int ((1 + b : Nat) : Int)]) hu
            have gF7 := s7 _ _ gF6
            refine ⟨F, us, _, rfl, rfl, gF7, line_lt (by omega), ?_⟩
            refine ⟨_, us ++ [.ref u], rfl, (b5.trans (But.of (s6.trans s7))).upd, upd_same, ?_⟩
            rw [midA_succ, if_pos c', ← List.append_assoc]
            exact Paired.snoc (Paired.mapP hU6 fun _ _ z => (z.same s7).mut gF7) (PairT.mut gF7 ⟨u, rfl, g7⟩)
          · have c : ¬ (a : Int) + ((1 + b : Nat) : Int) ∈ [2 * ((1 + i : Nat) : Int) - 1, 2 * ((1 + i : Nat) : Int)] := fun z => c (decide_eq_true z)
            have c' : ¬ ((a : Int) + ((1 + b : Nat) : Int) = 2 * ((1 + i : Nat) : Int) - 1 ∨ (a : Int) + ((1 + b : Nat) : Int) = 2 * ((1 + i : Nat) : Int)) := fun z => c (by simpa using z)
            refine ⟨_, us, rfl, b5.trans (But.of s6), gF6, ?_⟩
            rw [midA_succ, if_neg c', List.append_nil]
            exact hU6
        · rintro σ H5 ⟨v5, us, rfl, b5, gF, hU⟩
          refine ⟨_, _, us, rfl, b5, gF, ?_⟩
          rw [midRow_succ]
          exact hU
      · rintro σ H4 ⟨v4, v5, us, rfl, b4, gF, hU⟩
        have e4 : Same H2 H4 := same_but (Same.refl H2) hF s3 b4
        have gL4 := e4 _ _ gL
        have hzl : zs.length = i := by rw [Paired.length hZ, List.length_map, List.length_range]
        refine ⟨_, rfl, .inl ⟨rfl, _, SqL.of gL4⟩, _, rfl, L, zs, _, rfl, rfl, gL4, line_lt (by omega), ?_⟩
        refine ⟨_, _, _, _, zs ++ [.ref F], rfl, (b2.trans (But.of e4)).upd, upd_same, ?_⟩
        rw [range_snoc]
        exact Paired.snoc (Paired.mapP hZ fun _ _ z => repx_mut gL4 ⟨z.1, z.2.same e4⟩) (repx_mut gL4 ⟨nF, F, us, rfl, gF, hU⟩)
    · rintro σ H2 ⟨v2, v3, v4, v5, zs, rfl, b2, gL, hZ⟩
      exact ⟨_, rfl, k L H2 (same_but (Same.refl H) hL s1 b2) ⟨zs, gL, Paired.mapP hZ fun _ _ z => z.2⟩⟩
def spAllLots : Sp := fun vs H Q _ => ∃ n : Nat, vs = [.int n] ∧ 1 ≤ n ∧ n ≤ 12 ∧ ∀ p H', Same H H' → WeaT H' p (allL n) → Q (.ref p) H'
theorem ok_all_lots (T : Txt w K mg) : Ok P w K mg base CX0 2 "all_lots" ["n"] spAllLots := by
  refine Ok.def0 (f_all_lots T) (fun _ _ _ _ _ _ us hl => match us, hl with | [_], _ => rfl) sc_all_lots (fun vs H Q E h => ?_) (fun f cdv A outer s H vs Q E hr h => ?_)
  · obtain ⟨n, rfl, _⟩ := h
    rfl
  · obtain ⟨n, rfl, hn1, hn, k⟩ := h
    refine ⟨_, (pss_cons (ps_set (i := 1) sc_all_lots.nd rfl (by first | exact Or.inl rfl | exact Or.inr rfl) (pe_ok (ok_middle_lots T) (hr.mono (by first | decide | omega)) rfl pass0 (pa_cons (pv 0) pa_nil)))
      (pss_cons (ps_if (pt_cmpR op_eq (pv 0) pe_int (nomark _)) (pss_one (ps_ret (pv 1))) pss_nil)
      (pss_cons (ps_set (i := 2) sc_all_lots.nd rfl (by first | exact Or.inl rfl | exact Or.inr rfl) (pe_op op_fdivN (pv 0) pe_int))
      (pss_cons (ps_set (i := 3) sc_all_lots.nd rfl (by first | exact Or.inl rfl | exact Or.inr rfl) (pe_op op_add (pe_op op_fdivN (pe_op op_add (pv 0) pe_int) pe_int) pe_int))
      (pss_cons (ps_set (i := 4) sc_all_lots.nd rfl (by first | exact Or.inl rfl | exact Or.inr rfl) (pe_lst pa_nil))
      (pss_cons (ps_for PassesOwn.never rfl (pi_range1 rfl (n_range T) (pa_cons (pv 3) pa_nil)) (pg_name (i := 5) sc_all_lots.nd rfl (by first | exact Or.inl rfl | exact Or.inr rfl))
        (pss_cons (ps_set (i := 6) sc_all_lots.nd rfl (by first | exact Or.inl rfl | exact Or.inr rfl) (pe_ix (ix_listK (K := K) rfl) (pv 1) (pv 5) (fun _ _ => rfl)))
      (pss_cons (ps_if (pt_cmpR op_lt (pv 5) (pe_op op_sub (pv 2) pe_int) (nomark _)) (pss_one (ps_set (i := 6) sc_all_lots.nd rfl (by first | exact Or.inl rfl | exact Or.inr rfl) (pe_op op_cat (pv 6) (pe_ix (ix_listK (K := K) rfl) (pv 1) (pe_op op_add (pv 5) (pv 3)) (fun _ _ => rfl))))) pss_nil)
      (pss_one (ps_expr (pe_bm PySem.F.plainAttrs_list PySem.F.slot_list_append PySem.F.type_list_append mt_append (pv 4) (pa_cons (pv 6) pa_nil)))))))
      (pss_one (ps_ret (pv 4))))))))), ?_⟩
    refine ⟨_, rfl, n, rfl, hn, fun M H1 s1 ⟨xs, gM, hX⟩ => ?_⟩
    have hxl : xs.length = n := by rw [Paired.length hX]; unfold midL; rw [List.length_map, List.length_range]
    have hml : (midL n).length = n := by rw [← Paired.length hX]; exact hxl
    have hrowl : ∀ rep ∈ midL n, rep.length ≤ 144 := fun rep hr => by
      obtain ⟨i, _, rfl⟩ := List.mem_map.mp hr
      exact Nat.le_trans midRow_len (Nat.mul_le_mul hn hn)
    refine ⟨_, rfl, rfl, _, rfl, ite2 (fun c => ?_) (fun c => ?_)⟩
    · have c := V.int.inj (of_decide_eq_true c)
      obtain rfl : n = 1 := by omega
      exact ⟨_, rfl, k M H1 s1 ⟨xs, gM, hX⟩⟩
    · have hne : n ≠ 1 := fun z => c (decide_eq_true (by rw [z]; rfl))
      have e1 : (n : Int).fdiv 2 = ((n / 2 : Nat) : Int) := by
        rw [Int.fdiv_eq_ediv_of_nonneg _ (by decide)]
        omega
      have e2 : ((n : Int) + 1).fdiv 2 + 1 = (((n + 1) / 2 + 1 : Nat) : Int) := by
        rw [Int.fdiv_eq_ediv_of_nonneg _ (by decide)]
        omega
      refine ⟨_, rfl, _, _, rfl, rfl, ⟨by decide, by decide⟩, ?_⟩
      dsimp only
      rw [e1]
      refine ⟨_, rfl, _, _, rfl, rfl, _, _, rfl, rfl, ⟨by decide, by decide⟩, _, _, rfl, rfl, ?_⟩
      dsimp only
      rw [e2]
      refine ⟨(by show 0 ≤ sizeLine; decide), fun L hL => ?_⟩
      obtain ⟨s2, g2⟩ := new2 (.lst []) hL
      have ML : M ≠ L := fun z => by rw [← z, gM] at hL; cases hL
      have hxL : ∀ {i : Nat} {x : V}, xs[i]? = some x → x ≠ .ref L := fun {i x} hx z => by
        obtain ⟨rep, _, l, us, e, h1, _⟩ := paired_get hX hx
        rw [e] at z
        rw [V.ref.inj z, hL] at h1
        cases h1
      generalize upd H1 L (.lst []) = H2 at s2 g2 ⊢
      let lot : Nat → List (Int × Int) := fun i => (midL n).getD i [] ++ if i + 1 < n / 2 then (midL n).getD (i + ((n + 1) / 2 + 1)) [] else []
      refine ⟨_, rfl, _, rfl, by omega, by omega, for_upto (lo := 0) (L := (n + 1) / 2 + 1) (by omega) (fun i σ H' => ∃ v5 v6 zs, σ = [some (.int (n : Int)), some (.ref M), some (.int ((n / 2 : Nat) : Int)), some (.int (((n + 1) / 2 + 1 : Nat) : Int)), some (.ref L), v5, v6] ∧ But L H2 H' ∧ H' L = some (.lst zs) ∧ Paired (fun x rep => x ≠ .ref L ∧ RepT H' x rep) zs ((List.range i).map lot)) ⟨_, _, [], rfl, But.refl _ _, g2, .nil⟩ ?_ ?_⟩
      · rintro i σ H3 hi ⟨v5, v6, zs, rfl, b3, gL, hZ⟩
        have e13 : Same H1 H3 := same_but (Same.refl H1) hL s2 b3
        have gM3 := e13 _ _ gM
        have z1 : (0 : Int) + (i : Int) = (i : Int) := by omega
        rw [z1]
        refine gnE ?_
        obtain ⟨x, hx⟩ : ∃ x, xs[i]? = some x := ⟨xs[i]'(by omega), List.getElem?_eq_getElem _⟩
        obtain ⟨rep, hrep, l, us, rfl, h1, h2⟩ := paired_get hX hx
        have hg : (midL n).getD i [] = rep := by rw [List.getD_eq_getElem?_getD, hrep]; rfl
        have hlL := hxL hx
        have hul : us.length = rep.length := Paired.length h2
        have hrl := hrowl rep (List.mem_of_getElem? hrep)
        have hzl : zs.length = i := by rw [Paired.length hZ, List.length_map, List.length_range]
        refine ⟨_, rfl, _, rfl, M, xs, _, _, rfl, rfl, SqL.of gM3, at_of rfl hx, ?_⟩
        refine nxE (seq_via (fun σ' H' => ∃ q, σ' = [some (.int (n : Int)), some (.ref M), some (.int ((n / 2 : Nat) : Int)), some (.int (((n + 1) / 2 + 1 : Nat) : Int)), some (.ref L), some (.int (i : Int)), some (.ref q)] ∧ Same H3 H' ∧ q ≠ L ∧ RepT H' (.ref q) (lot i)) (fun U hU => ?_) ?_)
        · refine ⟨_, rfl, _, rfl, _, _, rfl, rfl, _, _, rfl, rfl, _, rfl, ite2 (fun c => ?_) (fun c => ?_)⟩
          · have c : (i : Int) < ((n / 2 : Nat) : Int) - 1 := of_decide_eq_true c
            obtain ⟨y, hy⟩ : ∃ y, xs[i + ((n + 1) / 2 + 1)]? = some y := ⟨xs[i + ((n + 1) / 2 + 1)]'(by omega), List.getElem?_eq_getElem _⟩
            obtain ⟨rep2, hrep2, l2, us2, rfl, h3, h4⟩ := paired_get hX hy
            have hg2 : (midL n).getD (i + ((n + 1) / 2 + 1)) [] = rep2 := by rw [List.getD_eq_getElem?_getD, hrep2]; rfl
            have hul2 : us2.length = rep2.length := Paired.length h4
            have hrl2 := hrowl rep2 (List.mem_of_getElem? hrep2)
            refine ⟨_, rfl, _, rfl, _, rfl, _, rfl, _, _, rfl, rfl, M, xs, _, _, rfl, rfl, SqL.of gM3, at_of (by omega) hy, l, l2, us, us2, rfl, rfl, e13 _ _ h1, e13 _ _ h3, line_of (by omega), fun q hq => ?_⟩
            obtain ⟨s4, g4⟩ := new2 (.lst (us ++ us2)) hq
            refine hU _ _ ⟨q, rfl, s4, fun z => (by rw [z, gL] at hq; cases hq), q, us ++ us2, rfl, g4, ?_⟩
            show Paired _ _ ((midL n).getD i [] ++ if i + 1 < n / 2 then (midL n).getD (i + ((n + 1) / 2 + 1)) [] else [])
            rw [hg, hg2, if_pos (by omega)]
            exact paired_app (Paired.mapP h2 fun _ _ z => (z.same e13).same s4) (Paired.mapP h4 fun _ _ z => (z.same e13).same s4)
          · have c : ¬ (i : Int) < ((n / 2 : Nat) : Int) - 1 := fun z => c (decide_eq_true z)
            refine hU _ _ ⟨l, rfl, Same.refl _, fun z => hlL (by rw [z]), l, us, rfl, e13 _ _ h1, ?_⟩
            show Paired _ _ ((midL n).getD i [] ++ if i + 1 < n / 2 then (midL n).getD (i + ((n + 1) / 2 + 1)) [] else [])
            rw [hg, if_neg (by omega), List.append_nil]
            exact Paired.mapP h2 fun _ _ z => z.same e13
        · rintro σ' H4 ⟨q, rfl, s4, hqL, hq⟩
          have gL4 := s4 _ _ gL
          refine ⟨_, rfl, .inl ⟨rfl, _, SqL.of gL4⟩, _, rfl, L, zs, _, rfl, rfl, gL4, line_lt (by omega), ?_⟩
          refine ⟨_, _, zs ++ [.ref q], rfl, (b3.trans (But.of s4)).upd, upd_same, ?_⟩
          rw [range_snoc]
          have nq : V.ref q ≠ .ref L := fun z => hqL (V.ref.inj z)
          exact Paired.snoc (Paired.mapP hZ fun _ _ z => repx_mut gL4 ⟨z.1, z.2.same s4⟩) (repx_mut gL4 ⟨nq, hq⟩)
      · rintro σ H3 ⟨v5, v6, zs, rfl, b3, gL, hZ⟩
        refine ⟨_, rfl, k L H3 (s1.trans (same_but (Same.refl H1) hL s2 b3)) ⟨zs, gL, ?_⟩⟩
        unfold allL
        rw [if_neg hne]
        exact Paired.mapP hZ fun _ _ z => z.2
end
end K85
end
section
set_option maxRecDepth 100000
set_option maxHeartbeats 4000000
namespace K85
open PySem PySem.Spec PyProof.Rows L2
def barKinds : List Str := ["row", "nested", "all"]
theorem barKinds_mem {z : Str} (h : z ∈ barKinds) : z = "row" ∨ z = "nested" ∨ z = "all" := by
  rcases List.mem_cons.mp h with h | h
  · exact .inl h
  rcases List.mem_cons.mp h with h | h
  · exact .inr (.inl h)
  · exact .inr (.inr (List.mem_singleton.mp h))
theorem pow_lg : ∀ n : Fin 13, 1 ≤ n.1 → (n.1 + 2 ≤ 2 ^ (([1, 2, 4, 8] : List Nat).filter fun p => decide (p < n.1 + 2)).length ∧ ∀ m, m < (([1, 2, 4, 8] : List Nat).filter fun p => decide (p < n.1 + 2)).length → 2 ^ m < n.1 + 2) := by decide
section
variable {P : Program} {w : World} {K : PySem.W.Frag} {mg : Str → Option Value} {base : Heap}
def spLBar : Sp := fun vs H Q _ => ∃ (z : Str) (n : Nat), vs = [.str z, .int n] ∧ z ∈ barKinds ∧ 1 ≤ n ∧ n ≤ 12 ∧ ∀ l xs H', H l = none → Same H H' → H' l = some (.lst xs) → Paired (PairT H') xs (barF z n) → Q (.ref l) H'
theorem bar_row {n : Nat} : barF "row" n = (List.range (n + 1)).map fun (t : Nat) => ((t : Int), (n : Int) + (t : Int)) := if_pos rfl
theorem bar_nested {n : Nat} : barF "nested" n = [((0 : Int), 2 * (n : Int) - 1), (1, 2 * (n : Int))] := by
  obtain ⟨n1, n2, n3, n4, n5, n6, n7, n8, n9, n10, n11, n12⟩ := k_ne
  unfold barF
  rw [if_neg n6, if_pos rfl]
theorem bar_all {n : Nat} : barF "all" n = (List.range (n / 2 + 1)).map fun (i : Nat) => ((i : Int), (i : Int) + ((n + 1) / 2 : Nat)) := by
  obtain ⟨n1, n2, n3, n4, n5, n6, n7, n8, n9, n10, n11, n12⟩ := k_ne
  unfold barF
  rw [if_neg n8, if_neg n9]
theorem ok__law_barring (T : Txt w K mg) : Ok P w K mg base CX0 1 "_law_barring" ["kind", "n"] spLBar := by
  refine Ok.def0 (f__law_barring T) (fun _ _ _ _ _ _ us hl => match us, hl with | [_, _], _ => rfl) sc__law_barring (fun vs H Q E h => ?_) (fun f cdv A outer s H vs Q E hr h => ?_)
  · obtain ⟨z, n, rfl, _⟩ := h
    rfl
  · obtain ⟨z, n, rfl, hz, hn1, hn, k⟩ := h
    refine ⟨_, (pss_cons (ps_if (pt_cmpR op_eq (pv 0) pe_str (nomark _)) (pss_one (ps_ret (pe_lc (own := [("t", 2)]) rfl sc__law_barring.nd (pi_range1 rfl (n_range T) (pa_cons (pe_op op_add (pv 1) pe_int) pa_nil)) (blkOk_by (N := ["kind", "n", "t", "wide", "i"]) (sc := defScope s__law_barring) (by decide +kernel)) (fun _ _ _ _ _ => (pg_name (i := 2) sc__law_barring.nd rfl (by first | exact Or.inl rfl | exact Or.inr rfl))) (fun _ _ _ _ _ => pts_nil) (fun _ _ _ _ _ => (pe_tup (pa_cons (pv 2) (pa_cons (pe_op op_add (pv 1) (pv 2)) pa_nil))))))) pss_nil)
      (pss_cons (ps_if (pt_cmpR op_eq (pv 0) pe_str (nomark _)) (pss_one (ps_ret (pe_lst (pa_cons (pe_tup (pa_cons pe_int (pa_cons (pe_op op_sub (pe_op op_mul pe_int (pv 1)) pe_int) pa_nil))) (pa_cons (pe_tup (pa_cons pe_int (pa_cons (pe_op op_mul pe_int (pv 1)) pa_nil))) pa_nil))))) pss_nil)
      (pss_cons (ps_set (i := 3) sc__law_barring.nd rfl (by first | exact Or.inl rfl | exact Or.inr rfl) (pe_op op_sub (pv 1) (pe_op op_fdivN (pv 1) pe_int)))
      (pss_one (ps_ret (pe_lc (own := [("i", 4)]) rfl sc__law_barring.nd (pi_range1 rfl (n_range T) (pa_cons (pe_op op_add (pe_op op_sub (pv 1) (pv 3)) pe_int) pa_nil)) (blkOk_by (N := ["kind", "n", "t", "wide", "i"]) (sc := defScope s__law_barring) (by decide +kernel)) (fun _ _ _ _ _ => (pg_name (i := 4) sc__law_barring.nd rfl (by first | exact Or.inl rfl | exact Or.inr rfl))) (fun _ _ _ _ _ => pts_nil) (fun _ _ _ _ _ => (pe_tup (pa_cons (pv 4) (pa_cons (pe_op op_add (pv 4) (pv 3)) pa_nil)))))))))), ?_⟩
    obtain ⟨n1, n2, n3, n4, n5, n6, n7, n8, n9, n10, n11, n12⟩ := k_ne
    rcases barKinds_mem hz with rfl | rfl | rfl
    · refine kind_yes rfl ?_
      refine ⟨_, rfl, _, _, rfl, rfl, _, rfl, by omega, by omega, fun D hD => lc_upto (lo := 0) (L := n + 1) (by omega) hD (by omega) (fun j acc H' => Paired (PairT H') acc ((List.range j).map fun (t : Nat) => ((t : Int), (n : Int) + (t : Int)))) (fun _ _ => .nil) ?_ ?_⟩
      · rintro j acc H2 N N0 hj s2 hacc hI hN hN0
        have z1 : (0 : Int) + (j : Int) = (j : Int) := by omega
        rw [z1]
        refine gnE ⟨rfl, ?_⟩
        refine ⟨_, rfl, _, rfl, _, rfl, _, _, rfl, rfl, (by show 2 ≤ sizeLine; decide), fun t ht => hN _ _ (same_new ht) fun H5 b5 _ => ?_⟩
        rw [range_snoc]
        exact pair_next hacc hI ht H5 b5
      · rintro acc H2 s2 hacc _ hI
        exact k D acc H2 hD s2 hacc (by rw [bar_row]; exact hI)
    · refine kind_no n6 rfl (kind_yes rfl ?_)
      refine ⟨_, rfl, _, _, rfl, rfl, .inl (by decide), _, _, rfl, rfl, (by show 2 ≤ sizeLine; decide), fun t1 h1 => ⟨_, rfl, _, _, rfl, rfl, .inl (by decide), (by show 2 ≤ sizeLine; decide), fun t2 h2 => ⟨(by show 2 ≤ sizeLine; decide), fun l h3 => ?_⟩⟩⟩
      obtain ⟨s1, g1⟩ := new2 (.tup [.int 0, .int (2 * (n : Int) - 1)]) h1
      obtain ⟨s2, g2⟩ := new2 (.tup [.int 1, .int (2 * (n : Int))]) h2
      obtain ⟨s3, g3⟩ := new2 (.lst [V.ref t1, V.ref t2]) h3
      exact k l _ _ ((s1.trans s2).free h3) (s1.trans (s2.trans s3)) g3 (by rw [bar_nested]; exact .cons ⟨t1, rfl, s3 _ _ (s2 _ _ g1)⟩ (.cons ⟨t2, rfl, s3 _ _ g2⟩ .nil))
    · refine kind_no n8 rfl (kind_no n9 rfl ?_)
      have e1 : (n : Int) - (n : Int).fdiv 2 = (((n + 1) / 2 : Nat) : Int) := by
        rw [Int.fdiv_eq_ediv_of_nonneg _ (by decide)]
        omega
      refine ⟨_, rfl, _, rfl, _, _, rfl, rfl, ⟨by decide, by decide⟩, _, _, rfl, rfl, ?_⟩
      dsimp only
      rw [e1]
      refine ⟨_, rfl, _, rfl, _, _, rfl, rfl, _, _, rfl, rfl, _, rfl, by omega, by omega, fun D hD => lc_upto (lo := 0) (L := n / 2 + 1) (by omega) hD (by omega) (fun j acc H' => Paired (PairT H') acc ((List.range j).map fun (i : Nat) => ((i : Int), (i : Int) + ((n + 1) / 2 : Nat)))) (fun _ _ => .nil) ?_ ?_⟩
      · rintro j acc H2 N N0 hj s2 hacc hI hN hN0
        have z1 : (0 : Int) + (j : Int) = (j : Int) := by omega
        rw [z1]
        refine gnE ⟨rfl, ?_⟩
        refine ⟨_, rfl, _, rfl, _, rfl, _, _, rfl, rfl, (by show 2 ≤ sizeLine; decide), fun t ht => hN _ _ (same_new ht) fun H5 b5 _ => ?_⟩
        rw [range_snoc]
        exact pair_next hacc hI ht H5 b5
      · rintro acc H2 s2 hacc _ hI
        exact k D acc H2 hD s2 hacc (by rw [bar_all]; exact hI)
def spBar (K : PySem.W.Frag) : Sp := fun vs H Q E => ∃ (z : Str) (n : Int), vs = [.str z, .int n] ∧ ((limF z : Int) < n → Rz E H (cTM K) "what" (.str "family")) ∧ (n ≤ limF z → z ∉ barKinds → Rz E H (cSe K) "what" (.str "kind")) ∧ (n ≤ limF z → z ∈ barKinds → n < 1 → Rz E H (cSe K) "what" (.str "number")) ∧
  (z ∈ barKinds → ∀ m : Nat, n = (m : Int) → 1 ≤ m → m ≤ limF z → ∀ l xs H', H l = none → Same H H' → H' l = some (.lst xs) → Paired (PairT H') xs (barF z m) → Q (.ref l) H')
theorem ok_barring_stretches (T : Txt w K mg) : Ok P w K mg base (L2.CX P w) 6 "barring_stretches" ["kind", "n"] (spBar K) := by
  refine Ok.defX (f_barring_stretches T) (fun _ _ _ _ _ _ us hl => match us, hl with | [_, _], _ => rfl) sc_barring_stretches (fun vs H Q E h => ?_) (fun f cdv A outer s H vs Q E hr h tk => ?_)
  · obtain ⟨z, n, rfl, _⟩ := h
    rfl
  · obtain ⟨z, n, rfl, k1, k2, k3, k⟩ := h
    refine ⟨_, (pss_cons (ps_expr (pe_okS (ok_check_family T) (hr.mono (by first | decide | omega)) rfl (fun σ => passAt tk σ) (pa_cons (pv 0) (pa_cons (pv 1) pa_nil))))
      (pss_cons (ps_expr (pe_okS (ok_check_kind T) (hr.mono (by first | decide | omega)) rfl (fun σ => passAt tk σ) (pa_cons (pv 0) (pa_cons (pv 1) (pa_cons (pe_tup (pa_cons pe_str (pa_cons pe_str (pa_cons pe_str pa_nil)))) pa_nil)))))
      (pss_cons (ps_if (pt_cmpR op_eq (pv 0) pe_str (nomark _)) (pss_one (ps_ret (pe_lc (own := [("t", 2)]) rfl sc_barring_stretches.nd (pi_range1 rfl (n_range T) (pa_cons (pe_op op_add (pv 1) pe_int) pa_nil)) (blkOk_by (N := ["kind", "n", "t", "wide", "i"]) (sc := defScope s_barring_stretches) (by decide +kernel)) (fun _ _ _ _ _ => (pg_name (i := 2) sc_barring_stretches.nd rfl (by first | exact Or.inl rfl | exact Or.inr rfl))) (fun _ _ _ _ _ => pts_nil) (fun _ _ _ _ _ => (pe_tup (pa_cons (pv 2) (pa_cons (pe_op op_add (pv 1) (pv 2)) pa_nil))))))) pss_nil)
      (pss_cons (ps_if (pt_cmpR op_eq (pv 0) pe_str (nomark _)) (pss_one (ps_ret (pe_lst (pa_cons (pe_tup (pa_cons pe_int (pa_cons (pe_op op_sub (pe_op op_mul pe_int (pv 1)) pe_int) pa_nil))) (pa_cons (pe_tup (pa_cons pe_int (pa_cons (pe_op op_mul pe_int (pv 1)) pa_nil))) pa_nil))))) pss_nil)
      (pss_cons (ps_set (i := 3) sc_barring_stretches.nd rfl (by first | exact Or.inl rfl | exact Or.inr rfl) (pe_op op_fdivN (pe_op op_add (pv 1) pe_int) pe_int))
      (pss_one (ps_ret (pe_lc (own := [("i", 4)]) rfl sc_barring_stretches.nd (pi_range1 rfl (n_range T) (pa_cons (pe_op op_add (pe_op op_fdivN (pv 1) pe_int) pe_int) pa_nil)) (blkOk_by (N := ["kind", "n", "t", "wide", "i"]) (sc := defScope s_barring_stretches) (by decide +kernel)) (fun _ _ _ _ _ => (pg_name (i := 4) sc_barring_stretches.nd rfl (by first | exact Or.inl rfl | exact Or.inr rfl))) (fun _ _ _ _ _ => pts_nil) (fun _ _ _ _ _ => (pe_tup (pa_cons (pv 4) (pa_cons (pe_op op_add (pv 4) (pv 3)) pa_nil)))))))))))), ?_⟩
    obtain ⟨n1, n2, n3, n4, n5, n6, n7, n8, n9, n10, n11, n12⟩ := k_ne
    refine ⟨_, rfl, _, rfl, z, n, rfl, fun hn => ?_, k1⟩
    refine ⟨_, rfl, _, rfl, (by show 3 ≤ sizeLine; decide), fun t ht => ?_⟩
    obtain ⟨s0, g0⟩ := new2 (.tup [.str "row", .str "nested", .str "all"]) ht
    refine ⟨z, n, t, barKinds, rfl, SqT.of g0, fun h => (k2 hn h).mono s0, fun h h1 => (k3 hn h h1).mono s0, fun hz h1 => ?_⟩
    generalize upd H t (.tup [.str "row", .str "nested", .str "all"]) = H0 at s0 g0 ⊢
    obtain ⟨m, rfl⟩ : ∃ m : Nat, n = (m : Int) := ⟨n.toNat, by omega⟩
    have k := k hz m rfl (by omega) (by omega)
    have hm : m ≤ 12 := by have := lim_le (z := z); omega
    have k : ∀ l xs H', H0 l = none → Same H0 H' → H' l = some (.lst xs) → Paired (PairT H') xs (barF z m) → Q (.ref l) H' := fun l xs H' h0 s h1 h2 => k l xs H' (s0.free h0) (s0.trans s) h1 h2
    rcases barKinds_mem hz with rfl | rfl | rfl
    · refine kind_yes rfl ?_
      refine ⟨_, rfl, _, _, rfl, rfl, _, rfl, by omega, by omega, fun D hD => lc_upto (lo := 0) (L := m + 1) (by omega) hD (by omega) (fun j acc H' => Paired (PairT H') acc ((List.range j).map fun (t : Nat) => ((t : Int), (m : Int) + (t : Int)))) (fun _ _ => .nil) ?_ ?_⟩
      · rintro j acc H2 N N0 hj s2 hacc hI hN hN0
        have z1 : (0 : Int) + (j : Int) = (j : Int) := by omega
        rw [z1]
        refine gnE ⟨rfl, ?_⟩
        refine ⟨_, rfl, _, rfl, _, rfl, _, _, rfl, rfl, (by show 2 ≤ sizeLine; decide), fun t ht => hN _ _ (same_new ht) fun H5 b5 _ => ?_⟩
        rw [range_snoc]
        exact pair_next hacc hI ht H5 b5
      · rintro acc H2 s2 hacc _ hI
        exact k D acc H2 hD s2 hacc (by rw [bar_row]; exact hI)
    · refine kind_no n6 rfl (kind_yes rfl ?_)
      refine ⟨_, rfl, _, _, rfl, rfl, .inl (by decide), _, _, rfl, rfl, (by show 2 ≤ sizeLine; decide), fun t1 h1 => ⟨_, rfl, _, _, rfl, rfl, .inl (by decide), (by show 2 ≤ sizeLine; decide), fun t2 h2 => ⟨(by show 2 ≤ sizeLine; decide), fun l h3 => ?_⟩⟩⟩
      obtain ⟨s1, g1⟩ := new2 (.tup [.int 0, .int (2 * (m : Int) - 1)]) h1
      obtain ⟨s2, g2⟩ := new2 (.tup [.int 1, .int (2 * (m : Int))]) h2
      obtain ⟨s3, g3⟩ := new2 (.lst [V.ref t1, V.ref t2]) h3
      exact k l _ _ ((s1.trans s2).free h3) (s1.trans (s2.trans s3)) g3 (by rw [bar_nested]; exact .cons ⟨t1, rfl, s3 _ _ (s2 _ _ g1)⟩ (.cons ⟨t2, rfl, s3 _ _ g2⟩ .nil))
    · refine kind_no n8 rfl (kind_no n9 rfl ?_)
      have e1 : ((m : Int) + 1).fdiv 2 = (((m + 1) / 2 : Nat) : Int) := by
        rw [Int.fdiv_eq_ediv_of_nonneg _ (by decide)]
        omega
      have e2 : (m : Int).fdiv 2 + 1 = ((m / 2 + 1 : Nat) : Int) := by
        rw [Int.fdiv_eq_ediv_of_nonneg _ (by decide)]
        omega
      refine ⟨_, rfl, _, _, rfl, rfl, _, _, rfl, rfl, ⟨by decide, by decide⟩, ?_⟩
      dsimp only
      rw [e1]
      refine ⟨_, rfl, _, _, rfl, rfl, ⟨by decide, by decide⟩, _, _, rfl, rfl, ?_⟩
      dsimp only
      rw [e2]
      refine ⟨_, rfl, by omega, by omega, fun D hD => lc_upto (lo := 0) (L := m / 2 + 1) (by omega) hD (by omega) (fun j acc H' => Paired (PairT H') acc ((List.range j).map fun (i : Nat) => ((i : Int), (i : Int) + ((m + 1) / 2 : Nat)))) (fun _ _ => .nil) ?_ ?_⟩
      · rintro j acc H2 N N0 hj s2 hacc hI hN hN0
        have z1 : (0 : Int) + (j : Int) = (j : Int) := by omega
        rw [z1]
        refine gnE ⟨rfl, ?_⟩
        refine ⟨_, rfl, _, rfl, _, rfl, _, _, rfl, rfl, (by show 2 ≤ sizeLine; decide), fun t ht => hN _ _ (same_new ht) fun H5 b5 _ => ?_⟩
        rw [range_snoc]
        exact pair_next hacc hI ht H5 b5
      · rintro acc H2 s2 hacc _ hI
        exact k D acc H2 hD s2 hacc (by rw [bar_all]; exact hI)
def spManyT : Sp := fun vs H Q _ => ∃ (z : Str) (n : Nat), vs = [.str z, .int n] ∧ z ∈ kindsT ∧ 1 ≤ n ∧ n ≤ 12 ∧ ∀ r H', Same H H' → TrN z n r → Q (.int r) H'
theorem ok__law_many_trials (T : Txt w K mg) : Ok P w K mg base CX0 1 "_law_many_trials" ["kind", "n"] spManyT := by
  refine Ok.def0 (f__law_many_trials T) (fun _ _ _ _ _ _ us hl => match us, hl with | [_, _], _ => rfl) sc__law_many_trials (fun vs H Q E h => ?_) (fun f cdv A outer s H vs Q E hr h => ?_)
  · obtain ⟨z, n, rfl, _⟩ := h
    rfl
  · obtain ⟨z, n, rfl, hz, hn1, hn, k⟩ := h
    refine ⟨_, (pss_cons (ps_if (pt_cmpR op_eq (pv 0) pe_str (nomark _)) (pss_one (ps_ret (pe_op op_add (pv 1) pe_int))) pss_nil)
      (pss_cons (ps_if (pt_cmpR op_eq (pv 0) pe_str (nomark _)) (pss_one (ps_ret pe_int)) pss_nil)
      (pss_cons (ps_if (pt_cmpR op_eq (pv 0) pe_str (nomark _)) (pss_one (ps_ret (pe_ifExp (pt_cmpR op_eq (pv 1) pe_int (nomark _)) pe_int (pe_op op_add pe_int (pe_op op_fdivN (pe_op op_add (pv 1) pe_int) pe_int))))) pss_nil)
      (pss_one (ps_ret (pe_callB (len_seqK (K := K) rfl) rfl (n_len T) (by decide +kernel) (pa_cons (pe_lc (own := [("power", 2)]) rfl sc__law_many_trials.nd (pi_listK (K := K) rfl (pe_lst (pa_cons pe_int (pa_cons pe_int (pa_cons pe_int (pa_cons pe_int pa_nil)))))) (blkOk_by (N := ["kind", "n", "power"]) (sc := defScope s__law_many_trials) (by decide +kernel)) (fun _ _ _ _ _ => (pg_name (i := 2) sc__law_many_trials.nd rfl (by first | exact Or.inl rfl | exact Or.inr rfl))) (fun _ _ _ _ _ => pts_one (pt_cmpR op_lt (pv 2) (pe_op op_add (pv 1) pe_int) (nomark _))) (fun _ _ _ _ _ => (pv 2))) pa_nil))))))), ?_⟩
    obtain ⟨n1, n2, n3, n4, n5, n6, n7, n8, n9, n10, n11, n12⟩ := k_ne
    rcases kindsT_mem hz with rfl | rfl | rfl | rfl
    · refine kind_no n10 rfl (kind_no n11 rfl (kind_no n1 rfl ?_))
      refine ⟨(by show 4 ≤ sizeLine; decide), fun l hl => ?_⟩
      obtain ⟨s1, g1⟩ := new2 (.lst ((([1, 2, 4, 8] : List Nat).map fun (p : Nat) => V.int (p : Int)))) hl
      refine ⟨l, rfl, ⟨_, SqL.of g1⟩, fun B hB => lc_count (K := K) (a := l) (xs := (([1, 2, 4, 8] : List Nat).map fun (p : Nat) => V.int (p : Int))) (R := fun _ x (p : Nat) => x = V.int (p : Int)) (ds := [1, 2, 4, 8]) (p := fun p => decide (p < n + 2)) hB g1 (paired_mapL _) (by decide) ?_ ?_⟩
      · rintro i x p H' N N0 hx hp rfl s2 hN hN0
        refine gnE ⟨rfl, ?_⟩
        refine ⟨_, rfl, _, rfl, _, _, rfl, rfl, _, _, rfl, rfl, _, rfl, ite2 (fun c => ?_) (fun c => ?_)⟩
        · have c : (p : Int) < (n : Int) + 2 := of_decide_eq_true c
          exact ⟨_, rfl, hN _ (Same.refl _) (decide_eq_true (by omega))⟩
        · have c : ¬ (p : Int) < (n : Int) + 2 := fun z => c (decide_eq_true z)
          exact hN0 _ (Same.refl _) (decide_eq_false (by omega))
      · intro bs H2 s2 hbs hbl _
        refine ⟨_, _, rfl, .inl (SqL.of hbs), ?_⟩
        rw [hbl]
        exact k _ H2 (s1.trans s2) (trn_apart.mpr (pow_lg ⟨n, by omega⟩ hn1))
    · refine kind_yes rfl ?_
      exact ⟨_, rfl, _, _, rfl, rfl, k (n + 1) H (Same.refl H) (.inl ⟨rfl, rfl⟩)⟩
    · refine kind_no n6 rfl (kind_yes rfl ?_)
      exact k 2 H (Same.refl H) (.inr (.inl ⟨rfl, rfl⟩))
    · refine kind_no n8 rfl (kind_no n9 rfl (kind_yes rfl ?_))
      refine ⟨_, rfl, rfl, _, rfl, ite2 (fun c => ?_) (fun c => ?_)⟩
      · have c := V.int.inj (of_decide_eq_true c)
        exact k 1 H (Same.refl H) (.inr (.inr (.inl ⟨rfl, by omega, rfl⟩)))
      · have c : n ≠ 1 := fun z => c (decide_eq_true (by rw [z]; rfl))
        refine ⟨_, rfl, _, _, rfl, rfl, _, _, rfl, rfl, ⟨by decide, by decide⟩, _, _, rfl, rfl, ?_⟩
        have e : 1 + ((n : Int) + 1).fdiv 2 = (((n + 1) / 2 + 1 : Nat) : Int) := by
          rw [Int.fdiv_eq_ediv_of_nonneg _ (by decide)]
          omega
        show Q (.int (1 + ((n : Int) + 1).fdiv 2)) H
        rw [e]
        exact k _ H (Same.refl H) (.inr (.inr (.inr (.inl ⟨rfl, c, rfl⟩))))
end
end K85
end
section
set_option maxRecDepth 100000
set_option maxHeartbeats 4000000
namespace K85
open PySem PySem.Spec PyProof.Rows L2
section
variable {P : Program} {w : World} {K : PySem.W.Frag} {mg : Str → Option Value} {base : Heap}
theorem spL_len {n : Nat} : ∀ k, (spL n k).length ≤ k * n
  | 0 => Nat.zero_le _
  | k + 1 => by
    have ih := spL_len (n := n) k
    unfold spL at ih ⊢
    rw [List.range_succ, List.flatMap_append, List.length_append, Nat.succ_mul]
    have : ((([k] : List Nat).flatMap fun j => spLrow n j (n - (j + 1)))).length ≤ n := by
      simp [spLrow]
    omega
theorem ok__law_spans_of (T : Txt w K mg) : Ok P w K mg base CX0 1 "_law_spans_of" ["kind", "n"] spFamS := by
  refine Ok.def0 (f__law_spans_of T) (fun _ _ _ _ _ _ us hl => match us, hl with | [_, _], _ => rfl) sc__law_spans_of (fun vs H Q E h => ?_) (fun f cdv A outer s H vs Q E hr h => ?_)
  · obtain ⟨z, n, rfl, _⟩ := h
    rfl
  · obtain ⟨z, n, rfl, hz, hn, k⟩ := h
    refine ⟨_, (pss_cons (ps_if (pt_cmpR op_eq (pv 0) pe_str (nomark _)) (pss_one (ps_ret (pe_tup (pa_cons (pe_op op_mul pe_int (pv 1)) (pa_cons (pe_lc (own := [("i", 2)]) rfl sc__law_spans_of.nd (pi_range2 rfl (n_range T) (pa_cons pe_int (pa_cons (pe_op op_add (pv 1) pe_int) pa_nil))) (blkOk_by (N := ["kind", "n", "i", "spans", "first", "last"]) (sc := defScope s__law_spans_of) (by decide +kernel)) (fun _ _ _ _ _ => (pg_name (i := 2) sc__law_spans_of.nd rfl (by first | exact Or.inl rfl | exact Or.inr rfl))) (fun _ _ _ _ _ => pts_nil) (fun _ _ _ _ _ => (pe_tup (pa_cons (pe_op op_sub (pe_op op_add (pv 2) (pv 2)) pe_int) (pa_cons (pe_op op_add (pv 2) (pv 2)) pa_nil))))) pa_nil))))) pss_nil)
      (pss_cons (ps_if (pt_cmpR op_eq (pv 0) pe_str (nomark _)) (pss_one (ps_ret (pe_tup (pa_cons (pe_op op_mul pe_int (pv 1)) (pa_cons (pe_lc (own := [("i", 2)]) rfl sc__law_spans_of.nd (pi_range2 rfl (n_range T) (pa_cons pe_int (pa_cons (pe_op op_add (pv 1) pe_int) pa_nil))) (blkOk_by (N := ["kind", "n", "i", "spans", "first", "last"]) (sc := defScope s__law_spans_of) (by decide +kernel)) (fun _ _ _ _ _ => (pg_name (i := 2) sc__law_spans_of.nd rfl (by first | exact Or.inl rfl | exact Or.inr rfl))) (fun _ _ _ _ _ => pts_nil) (fun _ _ _ _ _ => (pe_tup (pa_cons (pv 2) (pa_cons (pe_op op_add (pv 1) (pv 2)) pa_nil))))) pa_nil))))) pss_nil)
      (pss_cons (ps_if (pt_cmpR op_eq (pv 0) pe_str (nomark _)) (pss_one (ps_ret (pe_tup (pa_cons (pe_op op_mul pe_int (pv 1)) (pa_cons (pe_lc (own := [("i", 2)]) rfl sc__law_spans_of.nd (pi_range2 rfl (n_range T) (pa_cons pe_int (pa_cons (pe_op op_add (pv 1) pe_int) pa_nil))) (blkOk_by (N := ["kind", "n", "i", "spans", "first", "last"]) (sc := defScope s__law_spans_of) (by decide +kernel)) (fun _ _ _ _ _ => (pg_name (i := 2) sc__law_spans_of.nd rfl (by first | exact Or.inl rfl | exact Or.inr rfl))) (fun _ _ _ _ _ => pts_nil) (fun _ _ _ _ _ => (pe_tup (pa_cons (pv 2) (pa_cons (pe_op op_sub (pe_op op_add (pe_op op_mul pe_int (pv 1)) pe_int) (pv 2)) pa_nil))))) pa_nil))))) pss_nil)
      (pss_cons (ps_set (i := 3) sc__law_spans_of.nd rfl (by first | exact Or.inl rfl | exact Or.inr rfl) (pe_lst pa_nil))
      (pss_cons (ps_for PassesOwn.never rfl (pi_range2 rfl (n_range T) (pa_cons pe_int (pa_cons (pe_op op_add (pv 1) pe_int) pa_nil))) (pg_name (i := 4) sc__law_spans_of.nd rfl (by first | exact Or.inl rfl | exact Or.inr rfl))
        (pss_one (ps_set (i := 3) sc__law_spans_of.nd rfl (by first | exact Or.inl rfl | exact Or.inr rfl) (pe_op op_cat (pv 3) (pe_lc (own := [("last", 5)]) rfl sc__law_spans_of.nd (pi_range2 rfl (n_range T) (pa_cons (pe_op op_add (pv 4) pe_int) (pa_cons (pe_op op_add (pv 1) pe_int) pa_nil))) (blkOk_by (N := ["kind", "n", "i", "spans", "first", "last"]) (sc := defScope s__law_spans_of) (by decide +kernel)) (fun _ _ _ _ _ => (pg_name (i := 5) sc__law_spans_of.nd rfl (by first | exact Or.inl rfl | exact Or.inr rfl))) (fun _ _ _ _ _ => pts_nil) (fun _ _ _ _ _ => (pe_tup (pa_cons (pv 4) (pa_cons (pv 5) pa_nil)))))))))
      (pss_one (ps_ret (pe_tup (pa_cons (pv 1) (pa_cons (pv 3) pa_nil)))))))))), ?_⟩
    obtain ⟨n1, n2, n3, n4, n5, n6, n7, n8, n9, n10, n11, n12⟩ := k_ne
    have fin : ∀ (d : Int) (D : Addr) (acc : List V) H2, d = (daysF z n : Nat) → Same H H2 → H2 D = some (.lst acc) → Paired (PairT H2) acc (spansF z n) → ∀ t, H2 t = none → Q (.ref t) (upd H2 t (.tup [.int d, .ref D])) := fun d D acc H2 hd s2 hacc hP t ht => by
      obtain ⟨s3, g3⟩ := new2 (.tup [.int d, .ref D]) ht
      rw [hd] at g3 s3 ⊢
      exact k t D acc _ (s2.trans s3) g3 (s3 _ _ hacc) (Paired.mapP hP fun _ _ z => z.same s3)
    rcases kindsT_mem hz with rfl | rfl | rfl | rfl
    · refine kind_yes rfl ?_
      have e1 : daysF "apart" n = 2 * n := if_neg n1
      have e2 : spansF "apart" n = spA n := if_pos rfl
      refine ⟨_, rfl, _, _, rfl, rfl, .inl (by decide), _, rfl, _, _, rfl, rfl, _, _, rfl, by omega, fun D hD => lc_upto (lo := 1) (L := n) (by omega) hD (by omega) (fun j acc H' => Paired (PairT H') acc (spA j)) (fun _ _ => .nil) ?_ ?_⟩
      · rintro j acc H2 N N0 hj s2 hacc hI hN hN0
        refine gnE ⟨rfl, ?_⟩
        refine ⟨_, rfl, _, rfl, _, _, rfl, rfl, _, _, rfl, rfl, _, rfl, _, rfl, _, _, rfl, rfl, (by show 2 ≤ sizeLine; decide), fun t ht => ?_⟩
        have q1 : (1 + (j : Int)) + (1 + (j : Int)) - 1 = 2 * (1 + (j : Int)) - 1 := by omega
        have q2 : (1 + (j : Int)) + (1 + (j : Int)) = 2 * (1 + (j : Int)) := by omega
        have eo : (HO.tup [.int ((1 + (j : Int)) + (1 + (j : Int)) - 1), .int ((1 + (j : Int)) + (1 + (j : Int)))]) = .tup [.int (2 * (1 + (j : Int)) - 1), .int (2 * (1 + (j : Int)))] := by rw [q1, q2]
        show N (.ref t) (upd H2 t (.tup [.int ((1 + (j : Int)) + (1 + (j : Int)) - 1), .int ((1 + (j : Int)) + (1 + (j : Int)))]))
        rw [eo]
        refine hN _ _ (same_new ht) fun H5 b5 _ => ?_
        unfold spA
        rw [range_snoc]
        exact pair_next hacc hI ht H5 b5
      · rintro acc H2 s2 hacc _ hI
        refine ⟨(by show 2 ≤ sizeLine; decide), fun t ht => fin _ D acc H2 (by rw [e1]; omega) s2 hacc (by rw [e2]; exact hI) t ht⟩
    · refine kind_no n4 rfl (kind_yes rfl ?_)
      have e1 : daysF "row" n = 2 * n := if_neg n2
      have e2 : spansF "row" n = spR n := by unfold spansF; rw [if_neg n4, if_pos rfl]
      refine ⟨_, rfl, _, _, rfl, rfl, .inl (by decide), _, rfl, _, _, rfl, rfl, _, _, rfl, by omega, fun D hD => lc_upto (lo := 1) (L := n) (by omega) hD (by omega) (fun j acc H' => Paired (PairT H') acc ((List.range j).map fun (j : Nat) => (1 + (j : Int), (n : Int) + (1 + (j : Int))))) (fun _ _ => .nil) ?_ ?_⟩
      · rintro j acc H2 N N0 hj s2 hacc hI hN hN0
        refine gnE ⟨rfl, ?_⟩
        refine ⟨_, rfl, _, rfl, _, rfl, _, _, rfl, rfl, (by show 2 ≤ sizeLine; decide), fun t ht => hN _ _ (same_new ht) fun H5 b5 _ => ?_⟩
        rw [range_snoc]
        exact pair_next hacc hI ht H5 b5
      · rintro acc H2 s2 hacc _ hI
        refine ⟨(by show 2 ≤ sizeLine; decide), fun t ht => fin _ D acc H2 (by rw [e1]; omega) s2 hacc (by rw [e2]; exact hI) t ht⟩
    · refine kind_no n5 rfl (kind_no n6 rfl (kind_yes rfl ?_))
      have e1 : daysF "nested" n = 2 * n := if_neg n3
      have e2 : spansF "nested" n = spN n := by unfold spansF; rw [if_neg n5, if_neg n6, if_pos rfl]
      refine ⟨_, rfl, _, _, rfl, rfl, .inl (by decide), _, rfl, _, _, rfl, rfl, _, _, rfl, by omega, fun D hD => lc_upto (lo := 1) (L := n) (by omega) hD (by omega) (fun j acc H' => Paired (PairT H') acc ((List.range j).map fun (j : Nat) => (1 + (j : Int), 2 * (n : Int) + 1 - (1 + (j : Int))))) (fun _ _ => .nil) ?_ ?_⟩
      · rintro j acc H2 N N0 hj s2 hacc hI hN hN0
        refine gnE ⟨rfl, ?_⟩
        refine ⟨_, rfl, _, rfl, _, _, rfl, rfl, .inl (by decide), _, _, rfl, rfl, _, rfl, _, _, rfl, rfl, (by show 2 ≤ sizeLine; decide), fun t ht => hN _ _ (same_new ht) fun H5 b5 _ => ?_⟩
        rw [range_snoc]
        exact pair_next hacc hI ht H5 b5
      · rintro acc H2 s2 hacc _ hI
        refine ⟨(by show 2 ≤ sizeLine; decide), fun t ht => fin _ D acc H2 (by rw [e1]; omega) s2 hacc (by rw [e2]; exact hI) t ht⟩
    · refine kind_no n7 rfl (kind_no n8 rfl (kind_no n9 rfl ?_))
      have e1 : daysF "all" n = n := if_pos rfl
      have e2 : spansF "all" n = spL n n := by unfold spansF; rw [if_neg n7, if_neg n8, if_neg n9]
      refine ⟨(by show 0 ≤ sizeLine; decide), fun F hF => ?_⟩
      obtain ⟨s1, g1⟩ := new2 (.lst []) hF
      refine ⟨_, rfl, _, _, rfl, rfl, _, _, rfl, by omega, for_upto (lo := 1) (L := n) (by omega) (fun i σ H' => ∃ R v4 v5 us, σ = [some (.str "all"), some (.int (n : Int)), none, some (.ref R), v4, v5] ∧ Same H H' ∧ H' R = some (.lst us) ∧ Paired (PairT H') us (spL n i)) ⟨F, _, _, [], rfl, s1, g1, .nil⟩ ?_ ?_⟩
      · rintro i σ H2 hi ⟨R, v4, v5, us, rfl, e2', gR, hU⟩
        refine gnE ?_
        refine ⟨_, rfl, _, rfl, _, _, rfl, rfl, _, rfl, _, _, rfl, rfl, _, _, rfl, by omega, fun D hD => lc_upto (lo := 1 + (i : Int) + 1) (L := n - (i + 1)) (by omega) hD (by omega) (fun m acc H' => Paired (PairT H') acc (spLrow n i m)) (fun _ _ => .nil) ?_ ?_⟩
        · rintro m acc H3 N N0 hm s3 hacc hI hN hN0
          refine gnE ⟨rfl, ?_⟩
          refine ⟨_, rfl, _, rfl, (by show 2 ≤ sizeLine; decide), fun t ht => hN _ _ (same_new ht) fun H5 b5 _ => ?_⟩
          unfold spLrow
          rw [range_snoc]
          exact pair_next hacc hI ht H5 b5
        · rintro acc H3 s3 hacc hal hI
          have hul : us.length ≤ 144 := by
            rw [Paired.length hU]
            have h12 : i * n ≤ 12 * 12 := Nat.mul_le_mul (by omega) hn
            exact Nat.le_trans (spL_len i) h12
          refine ⟨R, D, us, acc, rfl, rfl, s3 _ _ gR, hacc, line_of (by omega), fun q hq => ?_⟩
          obtain ⟨s4, g4⟩ := new2 (.lst (us ++ acc)) hq
          refine ⟨q, _, _, _, rfl, e2'.trans (s3.trans s4), g4, ?_⟩
          unfold spL
          rw [List.range_succ, List.flatMap_append]
          have h1 := paired_app (Paired.mapP hU fun _ _ z => PairT.same (s3.trans s4) z) (Paired.mapP hI fun _ _ z => z.same s4)
          simpa [spL] using h1
      · rintro σ H2 ⟨R, v4, v5, us, rfl, e2', gR, hU⟩
        refine ⟨_, rfl, _, rfl, (by show 2 ≤ sizeLine; decide), fun t ht => fin _ R us H2 (by rw [e1]) e2' gR (by rw [e2]; exact hU) t ht⟩
end
end K85
end
section
set_option maxRecDepth 100000
set_option maxHeartbeats 4000000
namespace K85
open PySem PySem.Spec PyProof.Rows L2
/-! ### the plain law of the families: fixed cases -/
def tightB (ws : List (Int × Int)) (os : List (Option Int)) (a b : Nat) : Bool := (ws.zip os).all fun p => okO [((a : Int), (b : Int))] p.1 p.2
theorem tightB_iff {ws : List (Int × Int)} {os : List (Option Int)} {a b : Nat} : tightB ws os a b = true ↔ TightO ws os a b := by
  unfold tightB TightO
  rw [List.all_eq_true]
  constructor
  · intro h i c o hc ho
    exact h (c, o) (List.mem_of_getElem? (i := i) (List.getElem?_zip_eq_some.mpr ⟨hc, ho⟩))
  · rintro h ⟨c, o⟩ hm
    obtain ⟨i, hi⟩ := List.getElem?_of_mem hm
    obtain ⟨h1, h2⟩ := List.getElem?_zip_eq_some.mp hi
    exact h i c o h1 h2
def decideB (T : Nat) (ws : List (Int × Int)) (OS : List (List (Option Int))) : Bool := (List.range (T + 1)).all fun b => (List.range b).all fun a => OS.any fun os => tightB ws os a b
theorem decideB_iff {T : Nat} {ws : List (Int × Int)} {OS : List (List (Option Int))} (h : decideB T ws OS = true) : Decide T ws OS := fun a b hab hb => by
  unfold decideB at h
  rw [List.all_eq_true] at h
  have := h b (List.mem_range.mpr (by omega))
  rw [List.all_eq_true] at this
  have := this a (List.mem_range.mpr hab)
  rw [List.any_eq_true] at this
  obtain ⟨os, ho, ht⟩ := this
  exact ⟨os, ho, tightB_iff.mp ht⟩
def wayB (T : Nat) (ws : List (Int × Int)) (os : List (Option Int)) : Bool := decide (os.length = ws.length) && (ws.zip os).all fun p => decide (p.2 ∈ optO T p.1)
theorem wayB_iff {T : Nat} {ws : List (Int × Int)} {os : List (Option Int)} (h : wayB T ws os = true) : Way T ws os := by
  unfold wayB at h
  rw [Bool.and_eq_true, decide_eq_true_eq, List.all_eq_true] at h
  refine ⟨h.1, fun i c hc => ?_⟩
  have hi : i < os.length := by rw [h.1]; exact (List.getElem?_eq_some_iff.mp hc).1
  refine ⟨os[i], List.getElem?_eq_getElem hi, ?_⟩
  have := h.2 (c, os[i]) (List.mem_of_getElem? (i := i) (List.getElem?_zip_eq_some.mpr ⟨hc, List.getElem?_eq_getElem hi⟩))
  exact of_decide_eq_true this
/-- the ways of a matrix of early rains -/
def matW (T : Nat) (ws : List (Int × Int)) (M : List (List Int)) : List (List (Option Int)) := M.map fun row => (ws.zip row).map fun p => optOf T (if p.2 = 1 then p.1.1 else p.1.2)
/-- the ways of lots -/
def lotsW (T : Nat) (ws : List (Int × Int)) (L : List (List (Int × Int))) : List (List (Option Int)) := L.map fun lot => (ws.map (freeD T lot)).map (optOf T)
/-- each way is needed: without it one of these stretches is tight in none -/
def leaveB (T : Nat) (ws : List (Int × Int)) (OS : List (List (Option Int))) (bars : List (Int × Int)) : Bool := (List.range OS.length).all fun o => bars.any fun s => decide (s.1.toNat < s.2.toNat ∧ s.2.toNat ≤ T) && (OS.eraseIdx o).all fun os => !tightB ws os s.1.toNat s.2.toNat
/-- the barring stretches are key, of each two a rain is covered -/
def barsB (T : Nat) (ws bars : List (Int × Int)) : Bool := (bars.all fun s => decide (0 ≤ s.1 ∧ s.1 < s.2 ∧ s.2 ≤ (T : Int)) && keyB (tabS ws) T s) && (List.range bars.length).all fun i => (List.range i).all fun j => ws.any fun c => decide (freeD T [bars.getD i (0, 0), bars.getD j (0, 0)] c = 0)
def famB (T : Nat) (ws : List (Int × Int)) (OS : List (List (Option Int))) (cs bars : List (Int × Int)) : Bool := OS.all (wayB T ws) && (decideB T ws OS && (leaveB T ws OS cs && barsB T ws bars))
theorem row_ok : ∀ n : Fin 13, 1 ≤ n.1 → famB (2 * n.1) (spR n.1) (matW (2 * n.1) (spR n.1) (rowM n.1)) (barF "row" n.1) (barF "row" n.1) = true := by decide +kernel
theorem nested_ok : ∀ n : Fin 13, 1 ≤ n.1 → famB (2 * n.1) (spN n.1) (matW (2 * n.1) (spN n.1) (nesM n.1)) (barF "nested" n.1) (barF "nested" n.1) = true := by decide +kernel
theorem all_ok : ∀ n : Fin 10, 1 ≤ n.1 → (famB n.1 (spL n.1 n.1) (lotsW n.1 (spL n.1 n.1) (allL n.1)) (strL n.1) (barF "all" n.1) && ((allL n.1).all fun lot => (spL n.1 n.1).all fun c => !decide (freeD n.1 lot c = 0))) = true := by decide +kernel
theorem many_ok : (∀ n : Fin 13, 1 ≤ n.1 → (rowM n.1).length = n.1 + 1 ∧ (nesM n.1).length = 2) ∧ ∀ n : Fin 10, 1 ≤ n.1 → (allL n.1).length = if n.1 = 1 then 1 else (n.1 + 1) / 2 + 1 := by decide +kernel
/-- what is known of the told ways of a family -/
def FamOS (T : Nat) (ws : List (Int × Int)) (OS : List (List (Option Int))) : Prop := (∀ os ∈ OS, Way T ws os) ∧ Decide T ws OS ∧ ∀ o, o < OS.length → ¬ Decide T ws (OS.eraseIdx o)
def BarOk (T : Nat) (ws bars : List (Int × Int)) : Prop := (∀ s ∈ bars, ∃ a b : Nat, a < b ∧ b ≤ T ∧ s = ((a : Int), (b : Int)) ∧ s ∈ keysL (tabS ws) T) ∧ ∀ (i j : Nat) s s', j < i → bars[i]? = some s → bars[j]? = some s' → ∃ c ∈ ws, freeD T [s, s'] c = 0
theorem famB_iff {T : Nat} {ws : List (Int × Int)} {OS : List (List (Option Int))} {cs bars : List (Int × Int)} (h : famB T ws OS cs bars = true) : FamOS T ws OS ∧ BarOk T ws bars := by
  unfold famB leaveB barsB at h
  rw [Bool.and_eq_true, Bool.and_eq_true, Bool.and_eq_true, Bool.and_eq_true, List.all_eq_true, List.all_eq_true, List.all_eq_true, List.all_eq_true] at h
  obtain ⟨h1, h2, h3, h4, h5⟩ := h
  refine ⟨⟨fun os ho => wayB_iff (h1 os ho), decideB_iff h2, fun o ho hd => ?_⟩, fun s hs => ?_, fun i j s s' hji hi hj => ?_⟩
  · have := h3 o (List.mem_range.mpr ho)
    rw [List.any_eq_true] at this
    obtain ⟨s, _, hs⟩ := this
    rw [Bool.and_eq_true, decide_eq_true_eq, List.all_eq_true] at hs
    obtain ⟨⟨q1, q2⟩, q3⟩ := hs
    obtain ⟨os, ho', ht⟩ := hd s.1.toNat s.2.toNat q1 q2
    have := q3 os ho'
    rw [tightB_iff.mpr ht] at this
    cases this
  · have := h4 s hs
    rw [Bool.and_eq_true, decide_eq_true_eq] at this
    obtain ⟨⟨q1, q2, q3⟩, q4⟩ := this
    have e : s = ((s.1.toNat : Int), (s.2.toNat : Int)) := Prod.ext (by show s.1 = _; omega) (by show s.2 = _; omega)
    refine ⟨s.1.toNat, s.2.toNat, by omega, by omega, e, ?_⟩
    refine List.mem_filter.mpr ⟨?_, q4⟩
    rw [e]
    exact mem_strL (by omega) (by omega)
  · have hil := (List.getElem?_eq_some_iff.mp hi).1
    have := h5 i (List.mem_range.mpr hil)
    rw [List.all_eq_true] at this
    have := this j (List.mem_range.mpr hji)
    rw [List.any_eq_true] at this
    obtain ⟨c, hc, hz⟩ := this
    have hz := of_decide_eq_true hz
    rw [getD_some hi, getD_some hj] at hz
    exact ⟨c, hc, hz⟩
/-! ### apart spans -/
theorem apart_len {n : Nat} : (spA n).length = n := by unfold spA; rw [List.length_map, List.length_range]
theorem apart_get {n j : Nat} (h : j < n) : (spA n)[j]? = some (2 * (1 + (j : Int)) - 1, 2 * (1 + (j : Int))) := by
  unfold spA
  rw [List.getElem?_map, List.getElem?_range h]
  rfl
theorem sum_le {a b : List Int} (hl : a.length = b.length) (h : ∀ t, t < a.length → a.getD t 0 ≤ b.getD t 0) : a.sum ≤ b.sum ∧ (a.sum = b.sum → a = b) := by
  induction a generalizing b with
  | nil =>
    cases b with
    | nil => exact ⟨Int.le_refl _, fun _ => rfl⟩
    | cons _ _ => cases hl
  | cons x a ih =>
    cases b with
    | nil => cases hl
    | cons y b =>
      obtain ⟨h1, h2⟩ := ih (b := b) (by simpa using hl) (fun t ht => by
        have := h (t + 1) (by show t + 1 < a.length + 1; omega)
        simpa using this)
      have h0 : x ≤ y := by
        have := h 0 (by show 0 < a.length + 1; omega)
        simpa using this
      rw [List.sum_cons, List.sum_cons]
      refine ⟨by omega, fun e => ?_⟩
      have : a.sum = b.sum := by omega
      rw [h2 this, show x = y by omega]
theorem sum_pos {a : List Int} (h : ∀ b ∈ a, b = 0 ∨ b = 1) (hs : 0 < a.sum) : ∃ t, t < a.length ∧ a.getD t 0 = 1 := by
  induction a with
  | nil => exact absurd hs (by decide)
  | cons x a ih =>
    rcases h x List.mem_cons_self with rfl | rfl
    · rw [List.sum_cons] at hs
      obtain ⟨t, h1, h2⟩ := ih (fun b hb => h b (List.mem_cons_of_mem _ hb)) (by omega)
      exact ⟨t + 1, by show t + 1 < a.length + 1; omega, by simpa using h2⟩
    · exact ⟨0, by show 0 < a.length + 1; omega, rfl⟩
theorem sum_less {a : List Int} (h : ∀ b ∈ a, b = 0 ∨ b = 1) (hs : a.sum < (a.length : Int)) : ∃ t, t < a.length ∧ a.getD t 0 = 0 := by
  induction a with
  | nil => exact absurd hs (by decide)
  | cons x a ih =>
    rcases h x List.mem_cons_self with rfl | rfl
    · exact ⟨0, by show 0 < a.length + 1; omega, rfl⟩
    · rw [List.sum_cons, List.length_cons] at hs
      obtain ⟨t, h1, h2⟩ := ih (fun b hb => h b (List.mem_cons_of_mem _ hb)) (by omega)
      exact ⟨t + 1, by show t + 1 < a.length + 1; omega, by simpa using h2⟩
/-- the day of a rain in a trial -/
def dayA (b : Int) (c : Int × Int) : Option Int := some (if b = 1 then c.1 else c.2)
theorem mat_get {n m : Nat} {RS : List (List Int)} (hR : RS.length = n) {t : Nat} (ht : t < m) {j : Nat} {r : List Int} (hj : RS[j]? = some r) : ∃ os, (matW (2 * n) (spA n) (bitM m RS))[t]? = some os ∧ os[j]? = some (some (if r.getD t 0 = 1 then 2 * (1 + (j : Int)) - 1 else 2 * (1 + (j : Int)))) := by
  have hjn : j < n := by
    have := (List.getElem?_eq_some_iff.mp hj).1
    omega
  unfold matW bitM
  rw [List.map_map, List.getElem?_map, List.getElem?_range ht]
  refine ⟨_, rfl, ?_⟩
  show (((spA n).zip (RS.map fun r => r.getD t 0)).map _)[j]? = _
  rw [List.getElem?_map]
  have e : ((spA n).zip (RS.map fun r => r.getD t 0))[j]? = some ((2 * (1 + (j : Int)) - 1, 2 * (1 + (j : Int))), r.getD t 0) := by
    rw [List.getElem?_zip_eq_some]
    refine ⟨apart_get hjn, ?_⟩
    rw [List.getElem?_map, hj]
    rfl
  rw [e]
  show some (optOf (2 * n) (if r.getD t 0 = 1 then 2 * (1 + (j : Int)) - 1 else 2 * (1 + (j : Int)))) = _
  congr 1
  unfold optOf
  refine if_pos ?_
  split <;> omega
theorem apart_ways {n m : Nat} {RS : List (List Int)} (h1 : 1 ≤ n) (hlg : IsLg n m) (hB : Bits n m RS) : FamOS (2 * n) (spA n) (matW (2 * n) (spA n) (bitM m RS)) ∧ (matW (2 * n) (spA n) (bitM m RS)).length = m := by
  obtain ⟨hR, hrow, hnd, hord⟩ := hB
  have hlen : (matW (2 * n) (spA n) (bitM m RS)).length = m := by unfold matW bitM; rw [List.length_map, List.length_map, List.length_range]
  have hget : ∀ j, j < n → ∃ r, RS[j]? = some r ∧ r.length = m ∧ (∀ b ∈ r, b = 0 ∨ b = 1) ∧ 0 < r.sum ∧ r.sum < (m : Int) := fun j hj => by
    obtain ⟨r, hr⟩ : ∃ r, RS[j]? = some r := ⟨RS[j]'(by omega), List.getElem?_eq_getElem _⟩
    exact ⟨r, hr, hrow r (List.mem_of_getElem? hr)⟩
  have hm0 : 0 < m := by
    obtain ⟨r, _, _, _, h3, h4⟩ := hget 0 (by omega)
    omega
  have hway : ∀ os ∈ matW (2 * n) (spA n) (bitM m RS), Way (2 * n) (spA n) os := fun os ho => by
    obtain ⟨t, ht⟩ := List.getElem?_of_mem ho
    have htm : t < m := by
      have := (List.getElem?_eq_some_iff.mp ht).1
      omega
    refine ⟨?_, fun i c hc => ?_⟩
    · unfold matW bitM at ht
      rw [List.map_map, List.getElem?_map, List.getElem?_range htm] at ht
      have ht := Option.some.inj ht
      rw [← ht]
      show (((spA n).zip (RS.map fun r => r.getD t 0)).map _).length = _
      rw [List.length_map, List.length_zip, List.length_map, apart_len, hR, Nat.min_self]
    · have hi : i < n := by
        have := (List.getElem?_eq_some_iff.mp hc).1
        rw [apart_len] at this
        exact this
      rw [apart_get hi] at hc
      cases hc
      obtain ⟨r, hr, _⟩ := hget i hi
      obtain ⟨os', ho', hd⟩ := mat_get hR htm hr
      rw [ht] at ho'
      cases ho'
      refine ⟨_, hd, mem_optO_some.mpr ?_⟩
      show 2 * (1 + (i : Int)) - 1 ≤ _ ∧ _ ≤ 2 * (1 + (i : Int)) ∧ _ ≤ ((2 * n : Nat) : Int)
      split <;> omega
  -- a trial for two cut rains
  have two : ∀ i j, i < n → j < n → i < j → ∃ t, t < m ∧ ∀ r s, RS[i]? = some r → RS[j]? = some s → r.getD t 0 = 1 ∧ s.getD t 0 = 0 := fun i j hi hj hij => by
    obtain ⟨r, hr, r1, r2, r3, r4⟩ := hget i hi
    obtain ⟨s, hs, s1, s2, s3, s4⟩ := hget j hj
    apply Classical.byContradiction
    intro hno
    have hle : ∀ t, t < r.length → r.getD t 0 ≤ s.getD t 0 := fun t ht => by
      have gr : r.getD t 0 = 0 ∨ r.getD t 0 = 1 := by
        rw [List.getD_eq_getElem?_getD, List.getElem?_eq_getElem ht]
        exact r2 _ (List.getElem_mem ht)
      have hts : t < s.length := by omega
      have gs : s.getD t 0 = 0 ∨ s.getD t 0 = 1 := by
        rw [List.getD_eq_getElem?_getD, List.getElem?_eq_getElem hts]
        exact s2 _ (List.getElem_mem hts)
      rcases gr with e | e <;> rcases gs with e' | e' <;> rw [e, e'] <;> try decide
      exfalso
      apply hno
      refine ⟨t, by omega, fun r' s' hr' hs' => ?_⟩
      rw [hr] at hr'
      rw [hs] at hs'
      cases hr'
      cases hs'
      exact ⟨e, e'⟩
    obtain ⟨q1, q2⟩ := sum_le (by omega) hle
    have hp := List.pairwise_iff_getElem.mp hord i j (by omega) (by omega) hij
    have er : RS[i]'(by omega) = r := (List.getElem?_eq_some_iff.mp hr).2
    have es : RS[j]'(by omega) = s := (List.getElem?_eq_some_iff.mp hs).2
    rw [er, es] at hp
    have := q2 (by omega)
    have hne := List.pairwise_iff_getElem.mp hnd i j (by omega) (by omega) hij
    rw [er, es] at hne
    exact hne this
  -- what makes a trial tight
  have tight : ∀ (a b t : Nat) os, (matW (2 * n) (spA n) (bitM m RS))[t]? = some os → t < m → a < b → (∀ i r, i < n → RS[i]? = some r → (a : Int) = 2 * (1 + (i : Int)) - 1 → r.getD t 0 = 1) → (∀ j s, j < n → RS[j]? = some s → (b : Int) = 2 * (1 + (j : Int)) - 1 → s.getD t 0 ≠ 1) → TightO (spA n) os a b := fun a b t os hos ht hab hA hB i c o hc ho => by
    have hi : i < n := by
      have := (List.getElem?_eq_some_iff.mp hc).1
      rw [apart_len] at this
      exact this
    rw [apart_get hi] at hc
    cases hc
    obtain ⟨r, hr, _⟩ := hget i hi
    obtain ⟨os', ho', hd⟩ := mat_get hR ht hr
    rw [hos] at ho'
    cases ho'
    rw [hd] at ho
    cases ho
    rw [ok_one]
    unfold okDay insB
    rw [Bool.or_eq_true, Bool.or_eq_true, Bool.and_eq_true, decide_eq_true_eq, decide_eq_true_eq, decide_eq_true_eq, decide_eq_true_eq]
    show ((a : Int) < 2 * (1 + (i : Int)) - 1 ∧ 2 * (1 + (i : Int)) ≤ (b : Int)) ∨ _ ≤ (a : Int) ∨ (b : Int) < _
    have hA := hA i r hi hr
    have hB := hB i r hi hr
    by_cases q : r.getD t 0 = 1
    · rw [if_pos q]
      have : (b : Int) ≠ 2 * (1 + (i : Int)) - 1 := fun z => hB z q
      omega
    · rw [if_neg q]
      have : (a : Int) ≠ 2 * (1 + (i : Int)) - 1 := fun z => q (hA z)
      omega
  have hdec : Decide (2 * n) (spA n) (matW (2 * n) (spA n) (bitM m RS)) := fun a b hab hb => by
    have pick : ∃ t, t < m ∧ (∀ i r, i < n → RS[i]? = some r → (a : Int) = 2 * (1 + (i : Int)) - 1 → r.getD t 0 = 1) ∧ (∀ j s, j < n → RS[j]? = some s → (b : Int) = 2 * (1 + (j : Int)) - 1 → s.getD t 0 ≠ 1) := by
      by_cases ca : ∃ i : Nat, i < n ∧ (a : Int) = 2 * (1 + (i : Int)) - 1
      · obtain ⟨i, hi, ea⟩ := ca
        by_cases cb : ∃ j : Nat, j < n ∧ (b : Int) = 2 * (1 + (j : Int)) - 1
        · obtain ⟨j, hj, eb⟩ := cb
          obtain ⟨t, ht, h⟩ := two i j hi hj (by omega)
          obtain ⟨r, hr, _⟩ := hget i hi
          obtain ⟨s, hs, _⟩ := hget j hj
          obtain ⟨q1, q2⟩ := h r s hr hs
          refine ⟨t, ht, fun i' r' hi' hr' e => ?_, fun j' s' hj' hs' e => ?_⟩
          · obtain rfl : i' = i := by omega
            rw [hr] at hr'
            cases hr'
            exact q1
          · obtain rfl : j' = j := by omega
            rw [hs] at hs'
            cases hs'
            rw [q2]
            decide
        · obtain ⟨r, hr, r1, r2, r3, r4⟩ := hget i hi
          obtain ⟨t, ht, q1⟩ := sum_pos r2 r3
          refine ⟨t, by omega, fun i' r' hi' hr' e => ?_, fun j' s' hj' hs' e => absurd ⟨j', hj', e⟩ cb⟩
          obtain rfl : i' = i := by omega
          rw [hr] at hr'
          cases hr'
          exact q1
      · by_cases cb : ∃ j : Nat, j < n ∧ (b : Int) = 2 * (1 + (j : Int)) - 1
        · obtain ⟨j, hj, eb⟩ := cb
          obtain ⟨s, hs, s1, s2, s3, s4⟩ := hget j hj
          obtain ⟨t, ht, q2⟩ := sum_less s2 (by omega)
          refine ⟨t, by omega, fun i' r' hi' hr' e => absurd ⟨i', hi', e⟩ ca, fun j' s' hj' hs' e => ?_⟩
          obtain rfl : j' = j := by omega
          rw [hs] at hs'
          cases hs'
          rw [q2]
          decide
        · exact ⟨0, hm0, fun i' r' hi' hr' e => absurd ⟨i', hi', e⟩ ca, fun j' s' hj' hs' e => absurd ⟨j', hj', e⟩ cb⟩
    obtain ⟨t, ht, q1, q2⟩ := pick
    obtain ⟨os, hos⟩ : ∃ os, (matW (2 * n) (spA n) (bitM m RS))[t]? = some os := ⟨(matW (2 * n) (spA n) (bitM m RS))[t]'(by omega), List.getElem?_eq_getElem _⟩
    exact ⟨os, List.mem_of_getElem? hos, tight a b t os hos ht hab q1 q2⟩
  refine ⟨⟨hway, hdec, fun o ho hd => ?_⟩, hlen⟩
  have hb := apart_bound (chain := spA n) (fun os h => hway os (List.mem_of_mem_eraseIdx h)) hd (fun c hc => ?_) ?_ (fun z => by
    have := apart_len (n := n)
    rw [z] at this
    have : 0 = n := this
    omega)
  · rw [apart_len, List.length_eraseIdx, if_pos ho, hlen] at hb
    have := hlg.2 (m - 1) (by omega)
    omega
  · obtain ⟨j, hj⟩ := List.getElem?_of_mem hc
    have hjn : j < n := by
      have := (List.getElem?_eq_some_iff.mp hj).1
      rw [apart_len] at this
      exact this
    rw [apart_get hjn] at hj
    cases hj
    refine ⟨hc, ?_, ?_, ?_⟩
    · show 1 ≤ 2 * (1 + (j : Int)) - 1
      omega
    · show 2 * (1 + (j : Int)) - 1 < 2 * (1 + (j : Int))
      omega
    · show 2 * (1 + (j : Int)) ≤ ((2 * n : Nat) : Int)
      omega
  · unfold spA
    rw [List.pairwise_map]
    refine List.pairwise_lt_range.imp fun {a b} hab => ?_
    show 2 * (1 + (a : Int)) < 2 * (1 + (b : Int)) - 1
    omega
end K85
end
section
set_option maxRecDepth 100000
set_option maxHeartbeats 4000000
namespace K85
open PySem PySem.Spec PyProof.Rows L2
def psOf (ws : List (Int × Int)) (row : List Int) : List Int := (List.range ws.length).map fun i => if row.getD i 0 = 1 then (ws.getD i (0, 0)).1 else (ws.getD i (0, 0)).2
theorem psOf_zip {ws : List (Int × Int)} {row : List Int} (h : row.length = ws.length) : psOf ws row = (ws.zip row).map fun p => if p.2 = 1 then p.1.1 else p.1.2 := by
  unfold psOf
  refine List.ext_getElem? fun i => ?_
  rw [List.getElem?_map, List.getElem?_map]
  by_cases hi : i < ws.length
  · have hz : (ws.zip row)[i]? = some (ws[i], row[i]'(by omega)) := List.getElem?_zip_eq_some.mpr ⟨List.getElem?_eq_getElem hi, List.getElem?_eq_getElem _⟩
    rw [List.getElem?_range hi, hz]
    have q1 : ws.getD i (0, 0) = ws[i] := by rw [List.getD_eq_getElem?_getD, List.getElem?_eq_getElem hi]; rfl
    have q2 : row.getD i 0 = row[i]'(by omega) := by rw [List.getD_eq_getElem?_getD, List.getElem?_eq_getElem (by omega)]; rfl
    show some (if row.getD i 0 = 1 then (ws.getD i (0, 0)).1 else (ws.getD i (0, 0)).2) = _
    rw [q1, q2]
    rfl
  · rw [List.getElem?_eq_none (by rw [List.length_range]; omega), List.getElem?_eq_none (by rw [List.length_zip]; omega)]
    rfl
theorem matW_ps {T : Nat} {ws : List (Int × Int)} {M : List (List Int)} (h : ∀ row ∈ M, row.length = ws.length) : matW T ws M = (M.map (psOf ws)).map fun ps => ps.map (optOf T) := by
  unfold matW
  rw [List.map_map]
  refine List.map_congr_left fun row hr => ?_
  show _ = (psOf ws row).map (optOf T)
  rw [psOf_zip (h row hr), List.map_map]
  rfl
theorem early_rows {z : Str} {n : Nat} {M : List (List Int)} (h : EarlyM z n M) : ∀ row ∈ M, row.length = n := by
  rcases h with ⟨_, rfl⟩ | ⟨_, rfl⟩ | ⟨_, m, RS, _, _, hB, rfl⟩
  · intro row hr
    obtain ⟨t, _, rfl⟩ := List.mem_map.mp hr
    rw [List.length_map, List.length_range]
  · intro row hr
    rcases List.mem_cons.mp hr with rfl | hr
    · exact List.length_replicate
    · rw [List.mem_singleton.mp hr]
      exact List.length_replicate
  · intro row hr
    obtain ⟨t, _, rfl⟩ := List.mem_map.mp hr
    rw [List.length_map]
    exact hB.1
theorem spans_row {n : Nat} : spansF "row" n = spR n ∧ daysF "row" n = 2 * n ∧ limF "row" = 12 := by
  obtain ⟨n1, n2, n3, n4, n5, n6, n7, n8, n9, n10, n11, n12⟩ := k_ne
  exact ⟨by unfold spansF; rw [if_neg n4, if_pos rfl], if_neg n2, if_neg n2⟩
theorem spans_nested {n : Nat} : spansF "nested" n = spN n ∧ daysF "nested" n = 2 * n ∧ limF "nested" = 12 := by
  obtain ⟨n1, n2, n3, n4, n5, n6, n7, n8, n9, n10, n11, n12⟩ := k_ne
  exact ⟨by unfold spansF; rw [if_neg n5, if_neg n6, if_pos rfl], if_neg n3, if_neg n3⟩
theorem spans_apart {n : Nat} : spansF "apart" n = spA n ∧ daysF "apart" n = 2 * n ∧ limF "apart" = 12 := by
  obtain ⟨n1, n2, n3, n4, n5, n6, n7, n8, n9, n10, n11, n12⟩ := k_ne
  exact ⟨if_pos rfl, if_neg n1, if_neg n1⟩
theorem spans_all {n : Nat} : spansF "all" n = spL n n ∧ daysF "all" n = n ∧ limF "all" = 9 := by
  obtain ⟨n1, n2, n3, n4, n5, n6, n7, n8, n9, n10, n11, n12⟩ := k_ne
  exact ⟨by unfold spansF; rw [if_neg n7, if_neg n8, if_neg n9], if_pos rfl, if_pos rfl⟩
theorem fam_early {z : Str} {n : Nat} {M : List (List Int)} (h1 : 1 ≤ n) (h2 : n ≤ 12) (h : EarlyM z n M) : FamOS (daysF z n) (spansF z n) (matW (daysF z n) (spansF z n) M) ∧ TrN z n M.length := by
  rcases h with ⟨rfl, rfl⟩ | ⟨rfl, rfl⟩ | ⟨rfl, m, RS, hlg, _, hB, rfl⟩
  · obtain ⟨e1, e2, _⟩ := spans_row (n := n)
    rw [e1, e2]
    exact ⟨(famB_iff (row_ok ⟨n, by omega⟩ h1)).1, .inl ⟨rfl, (many_ok.1 ⟨n, by omega⟩ h1).1⟩⟩
  · obtain ⟨e1, e2, _⟩ := spans_nested (n := n)
    rw [e1, e2]
    exact ⟨(famB_iff (nested_ok ⟨n, by omega⟩ h1)).1, .inr (.inl ⟨rfl, (many_ok.1 ⟨n, by omega⟩ h1).2⟩)⟩
  · obtain ⟨e1, e2, _⟩ := spans_apart (n := n)
    rw [e1, e2]
    obtain ⟨q1, q2⟩ := apart_ways h1 hlg hB
    have ql : (bitM m RS).length = m := by unfold bitM; rw [List.length_map, List.length_range]
    rw [ql]
    exact ⟨q1, trn_apart.mpr hlg⟩
theorem fam_all {n : Nat} (h1 : 1 ≤ n) (h2 : n ≤ 9) : FamOS n (spL n n) (lotsW n (spL n n) (allL n)) ∧ BarOk n (spL n n) (barF "all" n) ∧ TrN "all" n (allL n).length ∧ ∀ lot ∈ allL n, ∀ c ∈ spL n n, freeD n lot c ≠ 0 := by
  have h := all_ok ⟨n, by omega⟩ h1
  rw [Bool.and_eq_true, List.all_eq_true] at h
  obtain ⟨q1, q2⟩ := famB_iff h.1
  refine ⟨q1, q2, ?_, fun lot hl c hc z => ?_⟩
  · have := many_ok.2 ⟨n, by omega⟩ h1
    have this : (allL n).length = if n = 1 then 1 else (n + 1) / 2 + 1 := this
    by_cases c : n = 1
    · rw [if_pos c] at this
      exact .inr (.inr (.inl ⟨rfl, c, this⟩))
    · rw [if_neg c] at this
      exact .inr (.inr (.inr (.inl ⟨rfl, c, this⟩)))
  · have := h.2 lot hl
    rw [List.all_eq_true] at this
    have := this c hc
    rw [z] at this
    cases this
theorem spans_ok : (∀ n : Fin 13, ((spA n.1).all fun c => decide (1 ≤ c.1 ∧ c.1 ≤ c.2 ∧ c.2 ≤ 2 * (n.1 : Int))) = true ∧ ((spR n.1).all fun c => decide (1 ≤ c.1 ∧ c.1 ≤ c.2 ∧ c.2 ≤ 2 * (n.1 : Int))) = true ∧ ((spN n.1).all fun c => decide (1 ≤ c.1 ∧ c.1 ≤ c.2 ∧ c.2 ≤ 2 * (n.1 : Int))) = true) ∧ ∀ n : Fin 10, ((spL n.1 n.1).all fun c => decide (1 ≤ c.1 ∧ c.1 ≤ c.2 ∧ c.2 ≤ (n.1 : Int))) = true ∧ (spL n.1 n.1).length ≤ 36 := by decide +kernel
theorem spans_good {z : Str} {n : Nat} (hz : z ∈ kindsT) (hn : n ≤ limF z) : (∀ c ∈ spansF z n, 1 ≤ c.1 ∧ c.1 ≤ c.2 ∧ c.2 ≤ (daysF z n : Int)) ∧ (spansF z n).length ≤ 36 := by
  have hl := lim_le (z := z)
  rcases kindsT_mem hz with rfl | rfl | rfl | rfl
  · obtain ⟨e1, e2, _⟩ := spans_apart (n := n)
    rw [e1, e2]
    have := (spans_ok.1 ⟨n, by omega⟩).1
    rw [List.all_eq_true] at this
    exact ⟨fun c hc => by have := of_decide_eq_true (this c hc); exact ⟨this.1, this.2.1, by have h3 : c.2 ≤ 2 * (n : Int) := this.2.2; omega⟩, by rw [apart_len]; omega⟩
  · obtain ⟨e1, e2, _⟩ := spans_row (n := n)
    rw [e1, e2]
    have := (spans_ok.1 ⟨n, by omega⟩).2.1
    rw [List.all_eq_true] at this
    exact ⟨fun c hc => by have := of_decide_eq_true (this c hc); exact ⟨this.1, this.2.1, by have h3 : c.2 ≤ 2 * (n : Int) := this.2.2; omega⟩, by unfold spR; rw [List.length_map, List.length_range]; omega⟩
  · obtain ⟨e1, e2, _⟩ := spans_nested (n := n)
    rw [e1, e2]
    have := (spans_ok.1 ⟨n, by omega⟩).2.2
    rw [List.all_eq_true] at this
    exact ⟨fun c hc => by have := of_decide_eq_true (this c hc); exact ⟨this.1, this.2.1, by have h3 : c.2 ≤ 2 * (n : Int) := this.2.2; omega⟩, by unfold spN; rw [List.length_map, List.length_range]; omega⟩
  · obtain ⟨e1, e2, e3⟩ := spans_all (n := n)
    rw [e1, e2]
    rw [e3] at hn
    obtain ⟨h1, h2⟩ := spans_ok.2 ⟨n, by omega⟩
    rw [List.all_eq_true] at h1
    exact ⟨fun c hc => of_decide_eq_true (h1 c hc), h2⟩
end K85
end
section
set_option maxRecDepth 100000
set_option maxHeartbeats 4000000
namespace K85
open PySem PySem.Spec PyProof.Rows L2
theorem wtx_in {S : Addr → Prop} {H : Hp} {y : V} {W : List (List (Int × Int))} (h : WTX S H y W) : WeaV H y W := h.wea
section
variable {P : Program} {w : World} {K : PySem.W.Frag} {mg : Str → Option Value} {base : Heap}
def spFam (K : PySem.W.Frag) : Sp := fun vs H Q E => ∃ (z : Str) (n : Int), vs = [.str z, .int n] ∧ LamX.Tabs (Tl K) H ∧ ((limF z : Int) < n → Rz E H (cTM K) "what" (.str "family")) ∧ (n ≤ limF z → z ∉ kindsT → Rz E H (cSe K) "what" (.str "kind")) ∧ (n ≤ limF z → z ∈ kindsT → n < 1 → Rz E H (cSe K) "what" (.str "number")) ∧
  (z ∈ kindsT → ∀ m : Nat, n = (m : Int) → 1 ≤ m → m ≤ limF z → ∀ t p l xs OS H', LamX.ExtN H H' → LamX.Tabs (Tl K) H' → (∀ us, H l ≠ some (.lst us)) → H' t = some (.tup [.ref p, .ref l]) → AlmAt K H' p (daysF z m : Nat) ((spansF z m).map canR) → H' l = some (.lst xs) → Paired (WeaV H') xs (OS.map fun os => wayR (daysF z m) os (spansF z m).length) → FamOS (daysF z m) (spansF z m) OS → TrN z m OS.length → Q (.ref t) H')
theorem ok_trial_family (T : Txt w K mg) (TB : TabsB K base mg) : Ok P w K mg base (L2.CX P w) 10 "trial_family" ["kind", "n"] (spFam K) := by
  have ok_early_rains := fun (T : Txt w K mg) => ok_early_rains (P := P) T TB
  refine Ok.defX (f_trial_family T) (fun _ _ _ _ _ _ us hl => match us, hl with | [_, _], _ => rfl) sc_trial_family (fun vs H Q E h => ?_) (fun f cdv A outer s H vs Q E hr h tk => ?_)
  · obtain ⟨z, n, rfl, _⟩ := h
    rfl
  · obtain ⟨z, n, rfl, hTb, k1, k2, k3, k⟩ := h
    refine ⟨_, (pss_cons (ps_expr (pe_okS (ok_check_family T) (hr.mono (by first | decide | omega)) rfl (fun σ => passAt tk σ) (pa_cons (pv 0) (pa_cons (pv 1) pa_nil))))
      (pss_cons (ps_expr (pe_okS (ok_check_kind T) (hr.mono (by first | decide | omega)) rfl (fun σ => passAt tk σ) (pa_cons (pv 0) (pa_cons (pv 1) (pa_cons (pe_glob (v := .ref _) rfl (g_KINDS T) rfl) pa_nil)))))
      (pss_cons (ps_asg (pe_ok (ok_family_spans T) (hr.mono (by first | decide | omega)) rfl pass0 (pa_cons (pv 0) (pa_cons (pv 1) pa_nil))) (pg_tupK (K := K) (n := 2) rfl rfl (pgs_cons (pg_name (i := 2) sc_trial_family.nd rfl (by first | exact Or.inl rfl | exact Or.inr rfl)) (pgs_cons (pg_name (i := 3) sc_trial_family.nd rfl (by first | exact Or.inl rfl | exact Or.inr rfl)) pgs_nil))))
      (pss_cons (ps_set (i := 6) sc_trial_family.nd rfl (by first | exact Or.inl rfl | exact Or.inr rfl) (pe_okK (okk_Almanac T) (hr.mono (by first | decide | omega)) rfl (passes_call tk (fun _ _ _ _ h => h)) (pa_cons (pv 2) (pa_cons (pe_lc (own := [("first", 4), ("last", 5)]) rfl sc_trial_family.nd (pi_listK (K := K) rfl (pv 3)) (blkOk_by (N := ["kind", "n", "days", "spans", "first", "last", "almanac", "lot", "places", "row", "at"]) (sc := defScope s_trial_family) (by decide +kernel)) (fun _ _ _ _ _ => (pg_tupK (K := K) (n := 2) rfl rfl (pgs_cons (pg_name (i := 4) sc_trial_family.nd rfl (by first | exact Or.inl rfl | exact Or.inr rfl)) (pgs_cons (pg_name (i := 5) sc_trial_family.nd rfl (by first | exact Or.inl rfl | exact Or.inr rfl)) pgs_nil)))) (fun _ _ _ _ _ => pts_nil) (fun _ _ _ _ _ => (pe_tup (pa_cons (pv 4) (pa_cons (pv 5) (pa_cons pe_int (pa_cons pe_int pa_nil))))))) pa_nil))))
      (pss_cons (ps_if (pt_cmpR op_eq (pv 0) pe_str (nomark _)) (pss_one (ps_setLc (i := 8) (own := [("lot", 7)]) rfl sc_trial_family.nd rfl rfl (sw_true rfl rfl rfl (by decide +kernel)) (pi_listK (K := K) rfl (pe_ok (ok_all_lots T) (hr.mono (by first | decide | omega)) rfl pass0 (pa_cons (pv 1) pa_nil))) (blkOk_by (N := ["kind", "n", "days", "spans", "first", "last", "almanac", "lot", "places", "row", "at"]) (sc := defScope s_trial_family) (by decide +kernel)) (fun _ _ _ _ _ => (pg_name (i := 7) sc_trial_family.nd rfl (by first | exact Or.inl rfl | exact Or.inr rfl))) (fun _ _ _ _ _ => pts_nil) (fun _ _ _ _ _ => (pe_ix (ix_seqK (K := K) rfl) (pe_ok (ok_lot_places T) (hr.mono (by first | decide | omega)) rfl pass0 (pa_cons (pv 6) (pa_cons (pv 7) pa_nil))) pe_int (fun _ _ => rfl))))) (pss_cons (ps_set (i := 8) sc_trial_family.nd rfl (by first | exact Or.inl rfl | exact Or.inr rfl) (pe_lst pa_nil))
      (pss_one (ps_for (passes_of rfl) rfl (pi_listK (K := K) rfl (pe_ok (ok_early_rains T) (hr.mono (by first | decide | omega)) rfl pass0 (pa_cons (pv 0) (pa_cons (pv 1) pa_nil)))) (pg_name (i := 9) sc_trial_family.nd rfl (by first | exact Or.inl rfl | exact Or.inr rfl))
        (pss_one (ps_expr (pe_bm PySem.F.plainAttrs_list PySem.F.slot_list_append PySem.F.type_list_append mt_append (pv 8) (pa_cons (pe_lc (own := [("at", 10)]) rfl sc_trial_family.nd (pi_range1 rfl (n_range T) (pa_cons (pv 1) pa_nil)) (blkOk_by (N := ["kind", "n", "days", "spans", "first", "last", "almanac", "lot", "places", "row", "at"]) (sc := defScope s_trial_family) (by decide +kernel)) (fun _ _ _ _ _ => (pg_name (i := 10) sc_trial_family.nd rfl (by first | exact Or.inl rfl | exact Or.inr rfl))) (fun _ _ _ _ _ => pts_nil) (fun _ _ _ _ _ => (pe_ifExp (pt_cmpR op_eq (pe_ix (ix_listK (K := K) rfl) (pv 9) (pv 10) (fun _ _ => rfl)) pe_int (nomark _)) (pe_ix (ix_seqK (K := K) rfl) (pe_ix (ix_listK (K := K) rfl) (pv 3) (pv 10) (fun _ _ => rfl)) pe_int (fun _ _ => rfl)) (pe_ix (ix_seqK (K := K) rfl) (pe_ix (ix_listK (K := K) rfl) (pv 3) (pv 10) (fun _ _ => rfl)) pe_int (fun _ _ => rfl))))) pa_nil))))))))
      (pss_one (ps_ret (pe_tup (pa_cons (pv 6) (pa_cons (pe_lc (own := [("row", 9)]) rfl sc_trial_family.nd (pi_listK (K := K) rfl (pv 8)) (blkOk_by (N := ["kind", "n", "days", "spans", "first", "last", "almanac", "lot", "places", "row", "at"]) (sc := defScope s_trial_family) (by decide +kernel)) (fun _ _ _ _ _ => (pg_name (i := 9) sc_trial_family.nd rfl (by first | exact Or.inl rfl | exact Or.inr rfl))) (fun _ _ _ _ _ => pts_nil) (fun _ _ _ _ _ => (pe_ok (ok_placed_weather T) (hr.mono (by first | decide | omega)) rfl pass0 (pa_cons (pv 2) (pa_cons (pv 9) pa_nil))))) pa_nil)))))))))), ?_⟩
    obtain ⟨n1, n2, n3, n4, n5, n6, n7, n8, n9, n10, n11, n12⟩ := k_ne
    refine ⟨_, rfl, _, rfl, z, n, rfl, fun hn => ?_, k1⟩
    refine ⟨_, rfl, _, rfl, z, n, _, kindsT, rfl, t_KINDS T H, k2 hn, k3 hn, fun hz h1 => ?_⟩
    obtain ⟨m, rfl⟩ : ∃ m : Nat, n = (m : Int) := ⟨n.toNat, by omega⟩
    have hm : m ≤ limF z := by omega
    have hm1 : 1 ≤ m := by omega
    have hm12 : m ≤ 12 := by have := lim_le (z := z); omega
    have k := k hz m rfl hm1 hm
    have hT24 := daysF_le (z := z) hm
    obtain ⟨hsp, hwl⟩ := spans_good hz hm
    refine ⟨_, rfl, _, rfl, z, m, rfl, hz, hm12, fun t0 sl xs H1 s1 ht0 gS hP => ⟨t0, _, rfl, SqT.of ht0, rfl, _, _, rfl, _, _, rfl, rfl, ?_⟩⟩
    have hd1 : 1 ≤ daysF z m := by
      unfold daysF
      split <;> omega
    generalize hws : spansF z m = ws at hsp hwl hP k
    generalize hTd : daysF z m = Td at hsp hT24 hd1 k ht0
    have hxl : xs.length = ws.length := Paired.length hP
    have hg : ∀ r ∈ ws.map canR, GoodR r := fun r hr => by
      obtain ⟨c, hc, rfl⟩ := List.mem_map.mp hr
      have := hsp c hc
      exact ⟨this.1, this.2.1, by show (0 : Int) ≤ 1; decide, by show (1 : Int) ≤ 1; decide, by show (1 : Int) ≤ 10 ^ 12; decide⟩
    have hcb : ∀ c ∈ ws, 1 ≤ c.1 ∧ c.1 ≤ c.2 ∧ c.2 ≤ 1000 := fun c hc => by
      have := hsp c hc
      exact ⟨this.1, this.2.1, by omega⟩
    -- the almanac
    refine ⟨_, rfl, _, rfl, sl, rfl, ⟨_, SqL.of gS⟩, fun D hD => lc_acc (K := K) (a := sl) (xs := xs) hD (SqL.of gS) (by omega) (fun j acc H' => Paired (QuadT H') acc ((ws.take j).map canR)) (fun _ _ => .nil) ?_ ?_⟩
    · rintro j x acc H2 N N0 hx s2 hacc hI hN hN0
      obtain ⟨c, hc, hr⟩ := paired_get hP hx
      have hr := hr.same s2
      refine hr.un rfl ⟨rfl, ?_⟩
      refine ⟨_, rfl, _, rfl, (by show 4 ≤ sizeLine; decide), fun t ht => ?_⟩
      obtain ⟨s3, g3⟩ := new2 (.tup [.int c.1, .int c.2, .int 1, .int 1]) ht
      have hacc3 := s3 _ _ hacc
      refine hN _ _ s3 fun H4 b4 _ => ?_
      rw [take_get hc, List.map_append]
      exact Paired.snoc (Paired.mapP hI fun _ _ z => (z.same s3).but hacc3 b4) (QuadT.but hacc3 b4 (⟨t, rfl, g3⟩ : QuadT _ (.ref t) (canR c)))
    rintro acc H2 s2 hacc _ hI
    rw [hxl, List.take_length] at hI
    refine made hacc hI (by omega) (by omega) (by rw [List.length_map]; omega) hg fun p H3 hp s3 hA3 => ?_
    have s13 := s2.trans s3
    have e3 : LamX.ExtN H H3 := ext_of (s1.trans s13)
    have T3 := hTb.ext (s1.trans s13)
    have gS3 := s13 _ _ gS
    have hP3 := Paired.mapP hP fun _ _ z => PairT.same s13 z
    clear hI hacc hD s2 s3 s13 hp gS hP ht0
    -- the places
    refine nxE (seq_via (fun σ' H' => ∃ PL zs PS v9 v10, σ' = [some (.str z), some (.int (m : Int)), some (.int (Td : Int)), some (.ref sl), none, none, some (.ref p), none, some (.ref PL), v9, v10] ∧ LamX.ExtN H3 H' ∧ LamX.Tabs (Tl K) H' ∧ H' PL = some (.lst zs) ∧ Paired (IntsT H') zs PS ∧ PS.length ≤ 50 ∧ (∀ ps ∈ PS, ps.length = ws.length ∧ ∀ d ∈ ps, 1 ≤ d) ∧ FamOS Td ws (PS.map fun ps => ps.map (optOf Td)) ∧ TrN z m PS.length) (fun U hU => ?_) ?_)
    · by_cases ca : z = "all"
      · subst ca
        obtain ⟨q1, q2, q3⟩ := spans_all (n := m)
        rw [q3] at hm
        rw [q1] at hws
        rw [q2] at hTd
        subst hws hTd
        obtain ⟨f1, f2, f3, f4⟩ := fam_all hm1 hm
        refine kind_yes rfl ?_
        refine ⟨_, rfl, m, rfl, hm1, hm12, fun L H4 s4 ⟨zs, gL, hZ⟩ => ⟨L, rfl, ⟨_, SqL.of gL⟩, fun D hD => ?_⟩⟩
        have hzl : zs.length = (allL m).length := Paired.length hZ
        have hal10 : (allL m).length ≤ 20 := by
          have := many_ok.2 ⟨m, by omega⟩ hm1
          have this : (allL m).length = if m = 1 then 1 else (m + 1) / 2 + 1 := this
          rw [this]
          split <;> omega
        have hA4 := hA3.same s4
        refine lc_acc (K := K) (a := L) (xs := zs) hD (SqL.of gL) (by omega) (fun j acc H' => Paired (fun x r => x ≠ .ref D ∧ IntsT H' x r) acc (((allL m).take j).map fun lot => (spL m m).map (freeD m lot))) (fun _ _ => .nil) ?_ ?_
        · rintro j x acc H5 N N0 hx s5 hacc hI hN hN0
          obtain ⟨lot, hlt, la, us, rfl, hla, hU2⟩ := paired_get hZ hx
          have hlm := List.mem_of_getElem? hlt
          have hll : lot.length ≤ 1000 := by
            have : ∀ n : Fin 10, ((allL n.1).all fun l => decide (l.length ≤ 1000)) = true := by decide +kernel
            have := this ⟨m, by omega⟩
            rw [List.all_eq_true] at this
            exact of_decide_eq_true (this lot hlm)
          refine gnE ⟨rfl, ?_⟩
          refine ⟨_, rfl, _, rfl, m, p, la, spL m m, us, lot, rfl, hA4.same s5, s5 _ _ hla, Paired.mapP hU2 fun _ _ z => z.same s5, hll, by omega, by omega, hcb, fun n c r mm H6 hc hz0 _ _ _ _ => absurd hz0 (f4 lot hlm c (List.mem_of_getElem? hc)), fun hall r mm H6 s6 hr hmm hm0 => ?_⟩
          refine .inr (.inl ⟨r, _, 1, _, rfl, rfl, SqT.of hr, rfl, ?_⟩)
          have hacc6 := s6 _ _ hacc
          have nD : V.ref mm ≠ .ref D := fun z => by rw [V.ref.inj z, hacc] at hm0; cases hm0
          refine hN _ _ s6 fun H7 b7 _ => ?_
          rw [take_get hlt, List.map_append]
          exact Paired.snoc (Paired.mapP hI fun _ _ z => ⟨z.1, ints_but z.1 b7 (z.2.same s6)⟩) ⟨nD, ints_but nD b7 ⟨mm, rfl, hmm⟩⟩
        · rintro acc H5 s5 hacc _ hI
          rw [hzl, List.take_length] at hI
          refine hU _ _ ⟨D, acc, (allL m).map fun lot => (spL m m).map (freeD m lot), _, _, rfl, ext_of (s4.trans s5), T3.ext (s4.trans s5), hacc, Paired.mapP hI fun _ _ z => z.2, by rw [List.length_map]; omega, fun ps hps => ?_, ?_, by rw [List.length_map]; exact f3⟩
          · obtain ⟨lot, hl, rfl⟩ := List.mem_map.mp hps
            refine ⟨List.length_map _, fun d hd => ?_⟩
            obtain ⟨c, hc, rfl⟩ := List.mem_map.mp hd
            rcases freeD_cases (T := m) (lot := lot) (hcb c hc).1 with ⟨z, _⟩ | ⟨z, _⟩
            · exact absurd z (f4 lot hl c hc)
            · exact z
          · rw [List.map_map]
            exact f1
      · refine kind_no ca rfl ?_
        have hzk : z = "row" ∨ z = "nested" ∨ z = "apart" := by
          rcases kindsT_mem hz with e | e | e | e
          · exact .inr (.inr e)
          · exact .inl e
          · exact .inr (.inl e)
          · exact absurd e ca
        refine ⟨(by show 0 ≤ sizeLine; decide), fun PL hPL => ?_⟩
        obtain ⟨s4, g4⟩ := new2 (.lst []) hPL
        have T4 := T3.ext s4
        have gS4 := s4 _ _ gS3
        have hP4 := Paired.mapP hP3 fun _ _ z => PairT.same s4 z
        have hPS : sl ≠ PL := fun z => by rw [← z, gS3] at hPL; cases hPL
        generalize upd H3 PL (.lst []) = H4 at s4 g4 T4 gS4 hP4 ⊢
        refine ⟨_, rfl, _, rfl, z, m, rfl, hzk, hm1, hm12, T4, fun R rs M H5 e5 T5 hfr gR hR hM => ⟨R, rfl, ⟨_, SqL.of gR⟩, ?_⟩⟩
        have hrow := early_rows hM
        have hwn : ws.length = m := by
          rw [← hws]
          rcases hzk with rfl | rfl | rfl
          · rw [(spans_row (n := m)).1]; unfold spR; rw [List.length_map, List.length_range]
          · rw [(spans_nested (n := m)).1]; unfold spN; rw [List.length_map, List.length_range]
          · rw [(spans_apart (n := m)).1]; exact apart_len
        obtain ⟨fm1, fm2⟩ := fam_early hm1 hm12 hM
        rw [hws, hTd] at fm1
        have g5 := ext_lst e5 g4
        have gS5 := ext_lst e5 gS4
        have hP5 := Paired.mapP hP4 fun _ _ z => pair_ext e5 z
        have RPL : R ≠ PL := fun z => hfr _ (by rw [z]; exact g4)
        have hRx : Paired (fun x r => x ≠ .ref PL ∧ IntsT H5 x r) rs M := paired_both hR fun x row hrow' hh => ⟨fun z => by
          obtain ⟨a, e, h⟩ := hh
          rw [e] at z
          rw [V.ref.inj z, g5] at h
          have h := HO.lst.inj (Option.some.inj h)
          have := hrow row hrow'
          have hl := congrArg List.length h
          rw [List.length_map] at hl
          have hl : 0 = row.length := hl
          omega, hh⟩
        have hML : M.length ≤ 50 := by
          rcases hM with ⟨_, rfl⟩ | ⟨_, rfl⟩ | ⟨_, q, RS, _, q4, _, rfl⟩
          · unfold rowM
            rw [List.length_map, List.length_range]
            omega
          · show 2 ≤ 50
            decide
          · unfold bitM
            rw [List.length_map, List.length_range]
            omega
        refine for_list (K := K) (a := R) (xs := rs) (fun i σ H' => ∃ v9 zs, σ = [some (.str z), some (.int (m : Int)), some (.int (Td : Int)), some (.ref sl), none, none, some (.ref p), none, some (.ref PL), v9, none] ∧ But PL H5 H' ∧ H' PL = some (.lst zs) ∧ Paired (fun x r => x ≠ .ref PL ∧ IntsT H' x r) zs ((M.take i).map (psOf ws))) ⟨_, [], rfl, But.refl _ _, g5, .nil⟩ (fun _ _ _ _ ⟨_, _, _, e, _⟩ => SqL.of (e _ _ gR RPL)) ?_ ?_
        · rintro i x σ H6 hx ⟨v9, zs, rfl, b6, gP, hZ⟩
          obtain ⟨row, hrw, hx6⟩ := paired_get hRx hx
          obtain ⟨hxn, ra, rfl, hra⟩ := hx6
          have hra6 := b6 _ _ hra fun z => hxn (by rw [z])
          have hrl := hrow row (List.mem_of_getElem? hrw)
          refine gnE ?_
          refine ⟨_, rfl, .inl ⟨rfl, _, SqL.of gP⟩, _, rfl, _, rfl, by omega, by omega, fun D hD => lc_upto (lo := 0) (L := m) (by omega) hD (by omega) (fun j acc _ => acc = ((List.range j).map fun i => if row.getD i 0 = 1 then (ws.getD i (0, 0)).1 else (ws.getD i (0, 0)).2).map V.int) (fun _ _ => rfl) ?_ ?_⟩
          · rintro j acc H7 N N0 hj s7 hacc hI hN hN0
            have z1 : (0 : Int) + (j : Int) = (j : Int) := by omega
            rw [z1]
            obtain ⟨y, hy⟩ : ∃ y, xs[j]? = some y := ⟨xs[j]'(by omega), List.getElem?_eq_getElem _⟩
            obtain ⟨c, hc, hr⟩ := paired_get hP5 hy
            have hr := (hr.but g5 b6).same s7
            have hgc : ws.getD j (0, 0) = c := getD_some hc
            have hri : (row.map V.int)[j]? = some (V.int (row.getD j 0)) := by
              rw [List.getElem?_map, List.getElem?_eq_getElem (by omega)]
              show some (V.int _) = _
              rw [List.getD_eq_getElem?_getD, List.getElem?_eq_getElem (by omega)]
              rfl
            have gS7 := s7 _ _ (b6 _ _ gS5 hPS)
            refine gnE ⟨rfl, ?_⟩
            refine ⟨_, rfl, _, rfl, ra, _, _, _, rfl, rfl, SqL.of (s7 _ _ hra6), at_of rfl hri, rfl, _, rfl, ite2 (fun cq => ?_) (fun cq => ?_)⟩
            · have cq := V.int.inj (of_decide_eq_true cq)
              refine ⟨_, rfl, _, rfl, sl, xs, _, y, rfl, rfl, SqL.of gS7, at_of rfl hy, hr.i0 (hN _ _ (Same.refl _) fun _ _ _ => ?_)⟩
              rw [hI, range_snoc, List.map_append, if_pos cq, hgc]
              rfl
            · have cq : ¬ row.getD j 0 = 1 := fun z => cq (decide_eq_true (by rw [z]))
              refine ⟨_, rfl, _, rfl, sl, xs, _, y, rfl, rfl, SqL.of gS7, at_of rfl hy, hr.i1 (hN _ _ (Same.refl _) fun _ _ _ => ?_)⟩
              rw [hI, range_snoc, List.map_append, if_neg cq, hgc]
              rfl
          · rintro acc H7 s7 hacc _ hI
            have gP7 := s7 _ _ gP
            have DP : D ≠ PL := fun z => by rw [z, gP] at hD; cases hD
            have nD : V.ref D ≠ .ref PL := fun z => DP (V.ref.inj z)
            have hzl : zs.length ≤ 50 := by
              rw [Paired.length hZ, List.length_map, List.length_take]
              omega
            refine ⟨PL, zs, _, rfl, rfl, gP7, line_lt (by omega), ?_⟩
            refine ⟨_, zs ++ [.ref D], rfl, (b6.trans (But.of s7)).upd, upd_same, ?_⟩
            rw [take_get hrw, List.map_append]
            have hDI : IntsT H7 (.ref D) (psOf ws row) := ⟨D, rfl, by rw [hacc, hI]; unfold psOf; rw [hwn]⟩
            exact Paired.snoc (Paired.mapP hZ fun _ _ z => ⟨z.1, ints_mut z.1 (z.2.same s7)⟩) ⟨nD, ints_mut nD hDI⟩
        · rintro σ H6 ⟨v9, zs, rfl, b6, gP, hZ⟩
          rw [Paired.length hR, List.take_length] at hZ
          refine hU _ _ ⟨PL, zs, M.map (psOf ws), _, _, rfl, (fun b o hb nt => b6 _ _ (e5 _ _ (s4 _ _ hb) nt) fun e => (by rw [e, hPL] at hb; cases hb)), tabs_but1 T5 g5 b6, gP, Paired.mapP hZ fun _ _ z => z.2, by rw [List.length_map]; exact hML, fun ps hps => ?_, ?_, by rw [List.length_map]; exact fm2⟩
          · obtain ⟨row, hr, rfl⟩ := List.mem_map.mp hps
            refine ⟨by unfold psOf; rw [List.length_map, List.length_range], fun d hd => ?_⟩
            unfold psOf at hd
            obtain ⟨i, hi, rfl⟩ := List.mem_map.mp hd
            have hi := List.mem_range.mp hi
            have := hcb _ (List.getElem_mem hi)
            have e : ws.getD i (0, 0) = ws[i] := by rw [List.getD_eq_getElem?_getD, List.getElem?_eq_getElem hi]; rfl
            show 1 ≤ (if row.getD i 0 = 1 then (ws.getD i (0, 0)).1 else (ws.getD i (0, 0)).2)
            rw [e]
            split <;> omega
          · rw [← matW_ps fun row hr => by rw [hrow row hr, hwn]]
            exact fm1
    · rintro σ' H4 ⟨PL, zs, PS, v9, v10, rfl, e4, T4, gP, hZ, hPSl, hps, hfam, htr⟩
      have hA4 := hA3.ext e4
      have e04 : LamX.ExtN H H4 := fun b o hb nt => e4 _ _ (e3 _ _ hb nt) nt
      have hzl : zs.length = PS.length := Paired.length hZ
      refine ⟨_, rfl, _, rfl, PL, rfl, ⟨_, SqL.of gP⟩, fun D hD => lc_acc (K := K) (a := PL) (xs := zs) hD (SqL.of gP) (by omega) (fun j acc H' => Paired (WTX (fun D' => D' = D) H') acc ((PS.take j).map fun ps => wayR Td (ps.map (optOf Td)) ws.length)) (fun _ _ => .nil) ?_ ?_⟩
      · rintro j x acc H5 N N0 hx s5 hacc hI hN hN0
        obtain ⟨ps, hp, pa, rfl, hpa⟩ := paired_get hZ hx
        obtain ⟨pl, pd⟩ := hps ps (List.mem_of_getElem? hp)
        refine gnE ⟨rfl, ?_⟩
        refine ⟨_, rfl, _, rfl, Td, pa, ps, rfl, s5 _ _ hpa, hT24, by omega, pd, fun pw rs H6 hpw s6 hG => ?_⟩
        rw [pl] at hG
        have hacc6 := s6 _ _ hacc
        have hW : WTX (fun D' => D' = D) H6 (.ref pw) (wayR Td (ps.map (optOf Td)) ws.length) := (hG.wtx hpw).mono fun D' z => by rw [show D' = D from z, hacc]; exact fun z => by cases z
        refine hN _ _ s6 fun H7 b7 _ => ?_
        rw [take_get hp, List.map_append]
        exact Paired.snoc (Paired.mapP hI fun _ _ z => (z.same s6).but (S := fun D' => D' = D) rfl hacc6 b7) (hW.but (S := fun D' => D' = D) rfl hacc6 b7)
      · rintro acc H5 s5 hacc _ hI
        rw [hzl, List.take_length] at hI
        refine ⟨(by show 2 ≤ sizeLine; decide), fun t ht => ?_⟩
        obtain ⟨s6, g6⟩ := new2 (.tup [.ref p, .ref D]) ht
        have s56 := s5.trans s6
        refine k t p D acc (PS.map fun ps => ps.map (optOf Td)) _ (fun b o hb nt => s56 _ _ (e04 _ _ hb nt)) (T4.ext s56) (fun us z => ?_) g6 (hA4.same s56) (s6 _ _ hacc) ?_ hfam (by rw [List.length_map]; exact htr)
        · have := e04 _ _ z fun _ z => by cases z
          rw [hD] at this
          cases this
        · rw [List.map_map]
          exact Paired.mapP hI fun _ _ z => (z.same s6).wea
end
end K85
end
section
set_option maxRecDepth 100000
set_option maxHeartbeats 4000000
namespace K85
open PySem PySem.Spec PyProof.Rows L2
theorem app1 {H H1 : Hp} {a t : Addr} {xs : List V} (s : Same H H1) (ha : H a = none) (hF : H1 a = some (.lst [])) (hT : H1 t = some (.tup xs)) : ∃ H2, H2 = upd H1 a (.lst ([] ++ [V.ref t])) ∧ Same H H2 ∧ H2 t = some (.tup xs) ∧ H2 a = some (.lst [V.ref t]) :=
  ⟨_, rfl, same_mut s ha, by rw [upd_ne fun z => by rw [z, hF] at hT; cases hT]; exact hT, upd_same⟩
section
variable {P : Program} {w : World} {K : PySem.W.Frag} {mg : Str → Option Value} {base : Heap}
theorem body_TooMany (T : Txt w K mg) {A : Around} {outer : List Env} {s : Shared} {H : Hp} {Q : VK} {p : Addr × Obj} {d : Addr} {v0 : V} {f : Addr} {cdv : Value} (hz : Zc (.ref (cTM K)) (some d) p.2) (hf : ∃ vs, p.2.data = .fields vs)
    (hd : H d = some (.xd [("what", v0)])) (q : ∀ r l t H', Same H H' → H' t = some (.tup [.str "TooMany", v0]) → H' l = some (.lst [.ref t]) → H' r = some (.tup [.str "raised", .ref l]) → H r = none → Q (.ref r) H') :
    ∃ t, PSs (L2H.cxH CX0 P w K mg base ["raised", "found"] "_law_caught" (defScope s__law_caught) f cdv A outer s H E0 p) (defBody s__law_caught) t ∧ t { nx := fun _ H' => Q .non H', rt := Q } (L2.start ["raised", "found"] [.ref p.1]) H := by
  refine ⟨_, (pss_cons (ps_set (i := 1) sc__law_caught.nd rfl (by first | exact Or.inl rfl | exact Or.inr rfl) (pe_lst pa_nil))
      (pss_cons (ps_if (pt_val (pe_callB (call_isD (p := p) (D := cTM K) (d := d) List.mem_cons_self (xt_TooMany T).exc hz hf) rfl (n_isinstance T) (by decide +kernel) (pa_cons (pv 0) (pa_cons (pe_glob (v := .ref _) rfl (g_TooMany T) rfl) pa_nil)))) (pss_one (ps_expr (pe_bm PySem.F.plainAttrs_list PySem.F.slot_list_append PySem.F.type_list_append mt_append (pv 1) (pa_cons (pe_tup (pa_cons pe_str (pa_cons (pe_xfG (p := p) (C := cTM K) List.mem_cons_self (xt_TooMany T).xf (xn_TooMany_what T) hz hf (pv 0)) pa_nil))) pa_nil)))) pss_nil)
      (pss_cons (ps_if (pt_val (pe_callB (call_isD (p := p) (D := cTM K) (d := d) List.mem_cons_self (xt_TooMany T).exc hz hf) rfl (n_isinstance T) (by decide +kernel) (pa_cons (pv 0) (pa_cons (pe_glob (v := .ref _) rfl (g_BadSky T) rfl) pa_nil)))) (pss_one (ps_expr (pe_bm PySem.F.plainAttrs_list PySem.F.slot_list_append PySem.F.type_list_append mt_append (pv 1) (pa_cons (pe_tup (pa_cons pe_str (pa_cons pe_noway pa_nil))) pa_nil)))) pss_nil)
      (pss_cons (ps_if (pt_val (pe_callB (call_isD (p := p) (D := cTM K) (d := d) List.mem_cons_self (xt_TooMany T).exc hz hf) rfl (n_isinstance T) (by decide +kernel) (pa_cons (pv 0) (pa_cons (pe_glob (v := .ref _) rfl (g_BadWeather T) rfl) pa_nil)))) (pss_one (ps_expr (pe_bm PySem.F.plainAttrs_list PySem.F.slot_list_append PySem.F.type_list_append mt_append (pv 1) (pa_cons (pe_tup (pa_cons pe_str (pa_cons pe_noway pa_nil))) pa_nil)))) pss_nil)
      (pss_cons (ps_if (pt_val (pe_callB (call_isD (p := p) (D := cTM K) (d := d) List.mem_cons_self (xt_TooMany T).exc hz hf) rfl (n_isinstance T) (by decide +kernel) (pa_cons (pv 0) (pa_cons (pe_glob (v := .ref _) rfl (g_BadTable T) rfl) pa_nil)))) (pss_one (ps_expr (pe_bm PySem.F.plainAttrs_list PySem.F.slot_list_append PySem.F.type_list_append mt_append (pv 1) (pa_cons (pe_tup (pa_cons pe_str (pa_cons pe_noway (pa_cons pe_noway pa_nil)))) pa_nil)))) pss_nil)
      (pss_cons (ps_if (pt_val (pe_callB (call_isD (p := p) (D := cTM K) (d := d) List.mem_cons_self (xt_TooMany T).exc hz hf) rfl (n_isinstance T) (by decide +kernel) (pa_cons (pv 0) (pa_cons (pe_glob (v := .ref _) rfl (g_BadSetting T) rfl) pa_nil)))) (pss_one (ps_expr (pe_bm PySem.F.plainAttrs_list PySem.F.slot_list_append PySem.F.type_list_append mt_append (pv 1) (pa_cons (pe_tup (pa_cons pe_str (pa_cons (pe_xfG (p := p) (C := cTM K) List.mem_cons_self (xt_TooMany T).xf (xn_TooMany_what T) hz hf (pv 0)) pa_nil))) pa_nil)))) pss_nil)
      (pss_one (ps_ret (pe_tup (pa_cons pe_str (pa_cons (pv 1) pa_nil))))))))))), ?_⟩
  refine ⟨(by show 0 ≤ sizeLine; decide), fun a ha => ?_⟩
  obtain ⟨h0, hF⟩ := new2 (.lst []) ha
  refine ⟨_, rfl, _, _, true, _, rfl, (fun u e => e), h0 _ _ hd, xk_TooMany_TooMany T, _, rfl, iteT ?_⟩
  refine ⟨_, rfl, .inl ⟨rfl, _, SqL.of hF⟩, _, rfl, rfl, rfl, d, _, v0, rfl, h0 _ _ hd, rfl, (by show 2 ≤ sizeLine; decide), fun t ht => ?_⟩
  obtain ⟨hA, hT⟩ := new2 (.tup [.str "TooMany", v0]) ht
  have hF := hA _ _ hF
  have h1 := h0.trans hA
  refine ⟨a, [], _, rfl, rfl, hF, (by show 0 < sizeLine; decide), ?_⟩
  obtain ⟨H2, eH, h2, hT, hF⟩ := app1 h1 ha hF hT
  rw [← eH]
  clear hA eH
  refine ⟨_, rfl, _, _, false, _, rfl, (fun u e => e), h2 _ _ hd, xk_TooMany_BadSky T, _, rfl, iteF ?_⟩
  refine ⟨_, rfl, _, _, false, _, rfl, (fun u e => e), h2 _ _ hd, xk_TooMany_BadWeather T, _, rfl, iteF ?_⟩
  refine ⟨_, rfl, _, _, false, _, rfl, (fun u e => e), h2 _ _ hd, xk_TooMany_BadTable T, _, rfl, iteF ?_⟩
  refine ⟨_, rfl, _, _, false, _, rfl, (fun u e => e), h2 _ _ hd, xk_TooMany_BadSetting T, _, rfl, iteF ?_⟩
  refine ⟨_, rfl, (by show 2 ≤ sizeLine; decide), fun r hr_ => ?_⟩
  obtain ⟨hA, hR⟩ := new2 (.tup [.str "raised", .ref a]) hr_
  exact q _ _ _ _ (h2.trans hA) (hA _ _ hT) (hA _ _ hF) hR (none_of h2 hr_)
theorem body_BadSetting (T : Txt w K mg) {A : Around} {outer : List Env} {s : Shared} {H : Hp} {Q : VK} {p : Addr × Obj} {d : Addr} {v0 : V} {f : Addr} {cdv : Value} (hz : Zc (.ref (cSe K)) (some d) p.2) (hf : ∃ vs, p.2.data = .fields vs)
    (hd : H d = some (.xd [("what", v0)])) (q : ∀ r l t H', Same H H' → H' t = some (.tup [.str "BadSetting", v0]) → H' l = some (.lst [.ref t]) → H' r = some (.tup [.str "raised", .ref l]) → H r = none → Q (.ref r) H') :
    ∃ t, PSs (L2H.cxH CX0 P w K mg base ["raised", "found"] "_law_caught" (defScope s__law_caught) f cdv A outer s H E0 p) (defBody s__law_caught) t ∧ t { nx := fun _ H' => Q .non H', rt := Q } (L2.start ["raised", "found"] [.ref p.1]) H := by
  refine ⟨_, (pss_cons (ps_set (i := 1) sc__law_caught.nd rfl (by first | exact Or.inl rfl | exact Or.inr rfl) (pe_lst pa_nil))
      (pss_cons (ps_if (pt_val (pe_callB (call_isD (p := p) (D := cSe K) (d := d) List.mem_cons_self (xt_BadSetting T).exc hz hf) rfl (n_isinstance T) (by decide +kernel) (pa_cons (pv 0) (pa_cons (pe_glob (v := .ref _) rfl (g_TooMany T) rfl) pa_nil)))) (pss_one (ps_expr (pe_bm PySem.F.plainAttrs_list PySem.F.slot_list_append PySem.F.type_list_append mt_append (pv 1) (pa_cons (pe_tup (pa_cons pe_str (pa_cons (pe_xfG (p := p) (C := cSe K) List.mem_cons_self (xt_BadSetting T).xf (xn_BadSetting_what T) hz hf (pv 0)) pa_nil))) pa_nil)))) pss_nil)
      (pss_cons (ps_if (pt_val (pe_callB (call_isD (p := p) (D := cSe K) (d := d) List.mem_cons_self (xt_BadSetting T).exc hz hf) rfl (n_isinstance T) (by decide +kernel) (pa_cons (pv 0) (pa_cons (pe_glob (v := .ref _) rfl (g_BadSky T) rfl) pa_nil)))) (pss_one (ps_expr (pe_bm PySem.F.plainAttrs_list PySem.F.slot_list_append PySem.F.type_list_append mt_append (pv 1) (pa_cons (pe_tup (pa_cons pe_str (pa_cons pe_noway pa_nil))) pa_nil)))) pss_nil)
      (pss_cons (ps_if (pt_val (pe_callB (call_isD (p := p) (D := cSe K) (d := d) List.mem_cons_self (xt_BadSetting T).exc hz hf) rfl (n_isinstance T) (by decide +kernel) (pa_cons (pv 0) (pa_cons (pe_glob (v := .ref _) rfl (g_BadWeather T) rfl) pa_nil)))) (pss_one (ps_expr (pe_bm PySem.F.plainAttrs_list PySem.F.slot_list_append PySem.F.type_list_append mt_append (pv 1) (pa_cons (pe_tup (pa_cons pe_str (pa_cons pe_noway pa_nil))) pa_nil)))) pss_nil)
      (pss_cons (ps_if (pt_val (pe_callB (call_isD (p := p) (D := cSe K) (d := d) List.mem_cons_self (xt_BadSetting T).exc hz hf) rfl (n_isinstance T) (by decide +kernel) (pa_cons (pv 0) (pa_cons (pe_glob (v := .ref _) rfl (g_BadTable T) rfl) pa_nil)))) (pss_one (ps_expr (pe_bm PySem.F.plainAttrs_list PySem.F.slot_list_append PySem.F.type_list_append mt_append (pv 1) (pa_cons (pe_tup (pa_cons pe_str (pa_cons pe_noway (pa_cons pe_noway pa_nil)))) pa_nil)))) pss_nil)
      (pss_cons (ps_if (pt_val (pe_callB (call_isD (p := p) (D := cSe K) (d := d) List.mem_cons_self (xt_BadSetting T).exc hz hf) rfl (n_isinstance T) (by decide +kernel) (pa_cons (pv 0) (pa_cons (pe_glob (v := .ref _) rfl (g_BadSetting T) rfl) pa_nil)))) (pss_one (ps_expr (pe_bm PySem.F.plainAttrs_list PySem.F.slot_list_append PySem.F.type_list_append mt_append (pv 1) (pa_cons (pe_tup (pa_cons pe_str (pa_cons (pe_xfG (p := p) (C := cSe K) List.mem_cons_self (xt_BadSetting T).xf (xn_BadSetting_what T) hz hf (pv 0)) pa_nil))) pa_nil)))) pss_nil)
      (pss_one (ps_ret (pe_tup (pa_cons pe_str (pa_cons (pv 1) pa_nil))))))))))), ?_⟩
  refine ⟨(by show 0 ≤ sizeLine; decide), fun a ha => ?_⟩
  obtain ⟨h0, hF⟩ := new2 (.lst []) ha
  refine ⟨_, rfl, _, _, false, _, rfl, (fun u e => e), h0 _ _ hd, xk_BadSetting_TooMany T, _, rfl, iteF ?_⟩
  refine ⟨_, rfl, _, _, false, _, rfl, (fun u e => e), h0 _ _ hd, xk_BadSetting_BadSky T, _, rfl, iteF ?_⟩
  refine ⟨_, rfl, _, _, false, _, rfl, (fun u e => e), h0 _ _ hd, xk_BadSetting_BadWeather T, _, rfl, iteF ?_⟩
  refine ⟨_, rfl, _, _, false, _, rfl, (fun u e => e), h0 _ _ hd, xk_BadSetting_BadTable T, _, rfl, iteF ?_⟩
  refine ⟨_, rfl, _, _, true, _, rfl, (fun u e => e), h0 _ _ hd, xk_BadSetting_BadSetting T, _, rfl, iteT ?_⟩
  refine ⟨_, rfl, .inl ⟨rfl, _, SqL.of hF⟩, _, rfl, rfl, rfl, d, _, v0, rfl, h0 _ _ hd, rfl, (by show 2 ≤ sizeLine; decide), fun t ht => ?_⟩
  obtain ⟨hA, hT⟩ := new2 (.tup [.str "BadSetting", v0]) ht
  have hF := hA _ _ hF
  have h1 := h0.trans hA
  refine ⟨a, [], _, rfl, rfl, hF, (by show 0 < sizeLine; decide), ?_⟩
  obtain ⟨H2, eH, h2, hT, hF⟩ := app1 h1 ha hF hT
  rw [← eH]
  clear hA eH
  refine ⟨_, rfl, (by show 2 ≤ sizeLine; decide), fun r hr_ => ?_⟩
  obtain ⟨hA, hR⟩ := new2 (.tup [.str "raised", .ref a]) hr_
  exact q _ _ _ _ (h2.trans hA) (hA _ _ hT) (hA _ _ hF) hR (none_of h2 hr_)
/-- what is raised: the class, the error's own dict, what is told of it -/
def ErrX (K : PySem.W.Frag) (C : Addr) (fs : List (Str × V)) (tl : List V) : Prop := (∃ v0, C = cTM K ∧ fs = [(("what" : Str), v0)] ∧ tl = [.str "TooMany", v0]) ∨ (∃ v0, C = cSe K ∧ fs = [(("what" : Str), v0)] ∧ tl = [.str "BadSetting", v0])
def spErr (K : PySem.W.Frag) : SpE := fun a cls d vs H Q _ => ∃ (C : Addr) (fs : List (Str × V)) (tl : List V) (d' : Addr), ErrX K C fs tl ∧ vs = [.ref a] ∧ cls = .ref C ∧ d = some d' ∧ H d' = some (.xd fs) ∧ ∀ r l t H', Same H H' → H' t = some (.tup tl) → H' l = some (.lst [.ref t]) → H' r = some (.tup [.str "raised", .ref l]) → H r = none → Q (.ref r) H'
theorem fe_caught (T : Txt w K mg) : ∃ f fd, FnE P w K mg base 1 f fd ["raised"] (spErr K) ∧ mg "_law_caught" = some (.ref f) ∧ PySem.W.keepIn K (.ref f) = true ∧ Binds K fd ["raised"] [] := by
  obtain ⟨f, fd, F, g⟩ := f__law_caught T
  refine ⟨f, fd, ?_, g, F.kp, F.bindsN (fun _ _ _ _ _ _ us hl => match us, hl with | [_], _ => rfl)⟩
  obtain ⟨oc, od, dV, kV, doc, pm, an, cdv, ct, osl, rfl, lk, hcd, _, _⟩ := F.ex
  refine fnE_of (k := 0) lk hcd sc__law_caught (fun a cls d vs H Q E h => ?_) (fun A outer s H vs Q p cls d hr hz hf h => ?_)
  · obtain ⟨C, fs, tl, d', _, rfl, _⟩ := h
    rfl
  · obtain ⟨C, fs, tl, d', hC, rfl, rfl, rfl, hd, q⟩ := h
    rcases hC with ⟨v0, rfl, rfl, rfl⟩ | ⟨v0, rfl, rfl, rfl⟩
    · exact body_TooMany T hz hf hd q
    · exact body_BadSetting T hz hf hd q
theorem ErrX.seen (T : Txt w K mg) {C : Addr} {fs : List (Str × V)} {tl : List V} (h : ErrX K C fs tl) : PySem.W.exmOne K (.ref C) (.ref (He.ga K "SeenError")) = some true := by
  rcases h with ⟨_, rfl, _⟩ | ⟨_, rfl, _⟩
  · exact xs_TooMany T
  · exact xs_BadSetting T
end
end K85
end
section
set_option maxRecDepth 100000
set_option maxHeartbeats 4000000
namespace K85
open PySem PySem.Spec PyProof.Rows L2
section
variable {P : Program} {w : World} {K : PySem.W.Frag} {mg : Str → Option Value} {base : Heap}
/-- a draw of wide numbers -/
def spDrawWide : Sp := fun vs H Q _ => ∃ (sa : Addr) (m : Int), vs = [.ref sa, .int m] ∧ 0 < m ∧ m.natAbs < 2 ^ 100 ∧ Stk H sa ∧ ∀ r a b c, 0 ≤ r → r < m → Q (.int r) (upd H sa (stk a b c))
theorem ok_draw_wide (T : Txt w K mg) : Ok P w K mg base CX0 1 "_law_draw" ["stock", "many"] spDrawWide := by
  refine Ok.def0 (f__law_draw T) (fun _ _ _ _ _ _ us hl => match us, hl with | [_, _], _ => rfl) sc__law_draw (fun vs H Q E h => ?_) (fun f cdv A outer s H vs Q E hr h => ?_)
  · obtain ⟨sa, m, rfl, _⟩ := h
    rfl
  · obtain ⟨sa, m, rfl, h0, h1, ⟨a, b, c, hs⟩, k⟩ := h
    have hm : m ≠ 0 := by omega
    refine ⟨_, (pss_cons (ps_if (pt_cmpR op_gt (pe_ix (ix_listK (K := K) rfl) (pv 0) pe_int (fun _ _ => rfl)) pe_int (nomark _)) (pss_cons (ps_set (i := 2) sc__law_draw.nd rfl (by first | exact Or.inl rfl | exact Or.inr rfl) (pe_op op_modN (pe_callTy call_int1 rfl (n_int T) (by decide +kernel) (pa_cons (pe_ix (ix_listK (K := K) rfl) (pv 0) pe_int (fun _ _ => rfl)) pa_nil)) (pv 1)))
      (pss_cons (ps_asg (pe_op op_fdivW (pe_ix (ix_listK (K := K) rfl) (pv 0) pe_int (fun _ _ => rfl)) (pv 1)) (pg_sub (pv 0) pe_int set_list))
      (pss_one (ps_ret (pv 2))))) pss_nil)
      (pss_cons (ps_augS (pv 0) pe_int (get_listK (K := K) rfl) pe_int ip_add set_list)
      (pss_cons (ps_asg (pe_op op_modN (pe_callTy call_int1 rfl (n_int T) (by decide +kernel) (pa_cons (pe_op op_add (pe_op op_mul (pe_ix (ix_listK (K := K) rfl) (pv 0) pe_int (fun _ _ => rfl)) pe_int) (pe_op op_mul (pe_ix (ix_listK (K := K) rfl) (pv 0) pe_int (fun _ _ => rfl)) pe_int)) pa_nil)) pe_int) (pg_sub (pv 0) pe_int set_list))
      (pss_one (ps_ret (pe_op op_modN (pe_op op_fdivN (pe_op op_modN (pe_callTy call_int1 rfl (n_int T) (by decide +kernel) (pa_cons (pe_op op_add (pe_op op_mul (pe_ix (ix_listK (K := K) rfl) (pv 0) pe_int (fun _ _ => rfl)) pe_int) (pe_op op_mul (pe_ix (ix_listK (K := K) rfl) (pv 0) pe_int (fun _ _ => rfl)) pe_int)) pa_nil)) pe_int) pe_int) (pv 1))))))), ?_⟩
    refine ⟨_, rfl, sa, _, 0, _, rfl, rfl, SqL.of hs, rfl, _, _, rfl, rfl, _, rfl, ?_⟩
    refine ite2 (fun c1 => ?_) (fun c1 => ?_)
    · refine ⟨_, rfl, sa, _, 0, _, rfl, rfl, SqL.of hs, rfl, .inl ⟨_, rfl, _, rfl, _, _, rfl, rfl, hm, ?_⟩⟩
      refine ⟨_, rfl, sa, _, 0, _, rfl, rfl, SqL.of hs, rfl, _, rfl, _, _, rfl, rfl, wide_div h0 h1 (by decide) (by decide), _, rfl, sa, _, 0, 0, rfl, rfl, hs, rfl, ?_⟩
      refine ⟨_, rfl, k _ _ _ _ (fmod_range a h0).1 (fmod_range a h0).2⟩
    · refine ⟨_, rfl, sa, _, 2, _, rfl, rfl, SqL.of hs, rfl, _, _, rfl, rfl, sa, _, 2, 2, rfl, rfl, hs, rfl, ?_⟩
      refine ⟨_, rfl, sa, _, 1, _, rfl, rfl, SqL.of upd_same, rfl, _, _, rfl, rfl, .inr (by decide), _, rfl, sa, _, 2, _, rfl, rfl, SqL.of upd_same, rfl, _, _, rfl, rfl, .inr (by decide), _, _, rfl, rfl, .inl ⟨_, rfl, _, _, rfl, rfl, (by show (2147483647 : Int) ≠ 0; decide), _, rfl, sa, _, 1, 1, rfl, rfl, upd_same, rfl, ?_⟩⟩
      refine ⟨_, rfl, sa, _, 1, _, rfl, rfl, SqL.of upd_same, rfl, _, _, rfl, rfl, .inr (by decide), _, rfl, sa, _, 2, _, rfl, rfl, SqL.of upd_same, rfl, _, _, rfl, rfl, .inr (by decide), _, _, rfl, rfl, .inl ⟨_, rfl, _, _, rfl, rfl, (by show (2147483629 : Int) ≠ 0; decide), _, _, rfl, rfl, ⟨by decide, by decide⟩, _, rfl, _, _, rfl, rfl, hm, ?_⟩⟩
      rw [upd_upd]
      exact k _ _ _ _ (fmod_range _ h0).1 (fmod_range _ h0).2
def spSpoil : Sp := fun vs H Q _ => ∃ (l : Addr) (xs : List V), vs = [.ref l] ∧ H l = some (.lst xs) ∧ xs.length ≤ 10000 ∧ ∀ H', But l H H' → Q .non H'
theorem ok__law_spoil (T : Txt w K mg) : Ok P w K mg base CX0 1 "_law_spoil" ["told"] spSpoil := by
  refine Ok.def0 (f__law_spoil T) (fun _ _ _ _ _ _ us hl => match us, hl with | [_], _ => rfl) sc__law_spoil (fun vs H Q E h => ?_) (fun f cdv A outer s H vs Q E hr h => ?_)
  · obtain ⟨l, xs, rfl, _⟩ := h
    rfl
  · obtain ⟨l, xs, rfl, hl, hz, k⟩ := h
    refine ⟨_, (pss_one (ps_expr (pe_bm PySem.F.plainAttrs_list PySem.F.slot_list_append PySem.F.type_list_append mt_append (pv 0) (pa_cons (pe_tup (pa_cons pe_int (pa_cons pe_int pa_nil))) pa_nil)))), ?_⟩
    refine ⟨_, rfl, .inl ⟨rfl, _, SqL.of hl⟩, (by show 2 ≤ sizeLine; decide), fun t ht => ?_⟩
    obtain ⟨s1, g1⟩ := new2 (.tup [.int 0, .int 0]) ht
    exact ⟨l, xs, _, rfl, rfl, s1 _ _ hl, line_lt (by omega), k _ (But.of s1).upd⟩
/-- asked what is refused: a family -/
def spAskF (K : PySem.W.Frag) : Sp := fun vs H Q _ => ∃ (z : Str) (n : Int), vs = [.str z, .int n] ∧ LamX.Tabs (Tl K) H ∧ ((limF z : Int) < n ∨ z ∉ kindsT ∨ n < 1) ∧ ((limF z : Int) < n → ∀ r H', Same H H' → RsdX H' r [.str "TooMany", .str "family"] → Q (.ref r) H') ∧ (n ≤ limF z → z ∉ kindsT → ∀ r H', Same H H' → RsdX H' r [.str "BadSetting", .str "kind"] → Q (.ref r) H') ∧ (n ≤ limF z → z ∈ kindsT → n < 1 → ∀ r H', Same H H' → RsdX H' r [.str "BadSetting", .str "number"] → Q (.ref r) H')
theorem ok__law_ask_family (T : Txt w K mg) (TB : TabsB K base mg) : Ok P w K mg base CX0 11 "_law_ask_family" ["kind", "n"] (spAskF K) := by
  obtain ⟨fe, fde, FE, ge, ke, be⟩ := fe_caught (P := P) (base := base) T
  have ok_trial_family := fun (T : Txt w K mg) => ok_trial_family (P := P) T TB
  refine Ok.def0 (f__law_ask_family T) (fun _ _ _ _ _ _ us hl => match us, hl with | [_, _], _ => rfl) sc__law_ask_family (fun vs H Q E h => ?_) (fun f cdv A outer s H vs Q E hr h => ?_)
  · obtain ⟨z, n, rfl, _⟩ := h
    rfl
  · obtain ⟨z, n, rfl, hTb, hbad, k1, k2, k3⟩ := h
    refine ⟨_, (pss_one (L2.ps_try_as (ts := fun a cls d => tRet (tCallE (spErr K a cls d) (tCons (tVar 2) tNil))) (i := 2) (c := .ref (He.ga K "SeenError")) rfl rfl sc__law_ask_family.nd rfl rfl ⟨rfl, by decide, .inl (g_SeenError T)⟩ LamX.takes0 (fun W pn xe tk _ => pss_one (ps_ret (pe_okS (ok_trial_family T) (hr.mono (by first | decide | omega)) rfl (fun σ => passAt tk σ) (pa_cons (pv 0) (pa_cons (pv 1) pa_nil))))) (fun a oe cls d pn hz hf => pss_one (ps_ret (pe_callE (X := Cx.suite (Cx.nox (cxOf CX0 P w K mg base ["kind", "n", "raised"] "_law_ask_family" (defScope s__law_ask_family) f cdv A outer s H E)) a ((a, oe) :: pn)) (x := "_law_caught") (p := (a, oe)) FE (L2H.RoomH.mk (hr.mono (by decide : 1 ≤ 10)).dp (hr.mono (by decide : 1 ≤ 10)).un) List.mem_cons_self hz hf rfl ge ke be (pa_cons (pv 2) pa_nil)))))), ?_⟩
    refine ⟨_, rfl, _, rfl, z, n, rfl, hTb, fun h1 d H' s1 hd => ?_, fun h1 h2 d H' s1 hd => ?_, fun h1 h2 h3 d H' s1 hd => ?_, fun hz m e h1 h2 => ?_⟩
    · exact ⟨true, ErrX.seen T (.inl ⟨V.non, rfl, rfl, rfl⟩), fun _ a ha => ⟨_, rfl, _, _, _, d, .inl ⟨_, rfl, rfl, rfl⟩, rfl, rfl, rfl, hd, fun r l t H3 s3 ht hl hr hr0 => k1 h1 r H3 (s1.trans s3) ⟨l, t, hr, hl, ht⟩⟩, fun z => by cases z⟩
    · exact ⟨true, ErrX.seen T (.inr ⟨V.non, rfl, rfl, rfl⟩), fun _ a ha => ⟨_, rfl, _, _, _, d, .inr ⟨_, rfl, rfl, rfl⟩, rfl, rfl, rfl, hd, fun r l t H3 s3 ht hl hr hr0 => k2 h1 h2 r H3 (s1.trans s3) ⟨l, t, hr, hl, ht⟩⟩, fun z => by cases z⟩
    · exact ⟨true, ErrX.seen T (.inr ⟨V.non, rfl, rfl, rfl⟩), fun _ a ha => ⟨_, rfl, _, _, _, d, .inr ⟨_, rfl, rfl, rfl⟩, rfl, rfl, rfl, hd, fun r l t H3 s3 ht hl hr hr0 => k3 h1 h2 h3 r H3 (s1.trans s3) ⟨l, t, hr, hl, ht⟩⟩, fun z => by cases z⟩
    · rcases hbad with h | h | h
      · omega
      · exact absurd hz h
      · omega
def spAskB (K : PySem.W.Frag) : Sp := fun vs H Q _ => ∃ (z : Str) (n : Int), vs = [.str z, .int n] ∧ ((limF z : Int) < n ∨ z ∉ barKinds ∨ n < 1) ∧ ((limF z : Int) < n → ∀ r H', Same H H' → RsdX H' r [.str "TooMany", .str "family"] → Q (.ref r) H') ∧ (n ≤ limF z → z ∉ barKinds → ∀ r H', Same H H' → RsdX H' r [.str "BadSetting", .str "kind"] → Q (.ref r) H') ∧ (n ≤ limF z → z ∈ barKinds → n < 1 → ∀ r H', Same H H' → RsdX H' r [.str "BadSetting", .str "number"] → Q (.ref r) H')
theorem ok__law_ask_barring (T : Txt w K mg) : Ok P w K mg base CX0 7 "_law_ask_barring" ["kind", "n"] (spAskB K) := by
  obtain ⟨fe, fde, FE, ge, ke, be⟩ := fe_caught (P := P) (base := base) T
  refine Ok.def0 (f__law_ask_barring T) (fun _ _ _ _ _ _ us hl => match us, hl with | [_, _], _ => rfl) sc__law_ask_barring (fun vs H Q E h => ?_) (fun f cdv A outer s H vs Q E hr h => ?_)
  · obtain ⟨z, n, rfl, _⟩ := h
    rfl
  · obtain ⟨z, n, rfl, hbad, k1, k2, k3⟩ := h
    refine ⟨_, (pss_one (L2.ps_try_as (ts := fun a cls d => tRet (tCallE (spErr K a cls d) (tCons (tVar 2) tNil))) (i := 2) (c := .ref (He.ga K "SeenError")) rfl rfl sc__law_ask_barring.nd rfl rfl ⟨rfl, by decide, .inl (g_SeenError T)⟩ LamX.takes0 (fun W pn xe tk _ => pss_one (ps_ret (pe_tup (pa_cons pe_str (pa_cons (pe_okS (ok_barring_stretches T) (hr.mono (by first | decide | omega)) rfl (fun σ => passAt tk σ) (pa_cons (pv 0) (pa_cons (pv 1) pa_nil))) pa_nil))))) (fun a oe cls d pn hz hf => pss_one (ps_ret (pe_callE (X := Cx.suite (Cx.nox (cxOf CX0 P w K mg base ["kind", "n", "raised"] "_law_ask_barring" (defScope s__law_ask_barring) f cdv A outer s H E)) a ((a, oe) :: pn)) (x := "_law_caught") (p := (a, oe)) FE (L2H.RoomH.mk (hr.mono (by decide : 1 ≤ 6)).dp (hr.mono (by decide : 1 ≤ 6)).un) List.mem_cons_self hz hf rfl ge ke be (pa_cons (pv 2) pa_nil)))))), ?_⟩
    refine ⟨_, rfl, _, rfl, z, n, rfl, fun h1 d H' s1 hd => ?_, fun h1 h2 d H' s1 hd => ?_, fun h1 h2 h3 d H' s1 hd => ?_, fun hz m e h1 h2 => ?_⟩
    · exact ⟨true, ErrX.seen T (.inl ⟨V.non, rfl, rfl, rfl⟩), fun _ a ha => ⟨_, rfl, _, _, _, d, .inl ⟨_, rfl, rfl, rfl⟩, rfl, rfl, rfl, hd, fun r l t H3 s3 ht hl hr hr0 => k1 h1 r H3 (s1.trans s3) ⟨l, t, hr, hl, ht⟩⟩, fun z => by cases z⟩
    · exact ⟨true, ErrX.seen T (.inr ⟨V.non, rfl, rfl, rfl⟩), fun _ a ha => ⟨_, rfl, _, _, _, d, .inr ⟨_, rfl, rfl, rfl⟩, rfl, rfl, rfl, hd, fun r l t H3 s3 ht hl hr hr0 => k2 h1 h2 r H3 (s1.trans s3) ⟨l, t, hr, hl, ht⟩⟩, fun z => by cases z⟩
    · exact ⟨true, ErrX.seen T (.inr ⟨V.non, rfl, rfl, rfl⟩), fun _ a ha => ⟨_, rfl, _, _, _, d, .inr ⟨_, rfl, rfl, rfl⟩, rfl, rfl, rfl, hd, fun r l t H3 s3 ht hl hr hr0 => k3 h1 h2 h3 r H3 (s1.trans s3) ⟨l, t, hr, hl, ht⟩⟩, fun z => by cases z⟩
    · rcases hbad with h | h | h
      · omega
      · exact absurd hz h
      · omega
end
end K85
end
section
set_option maxRecDepth 100000
set_option maxHeartbeats 4000000
namespace K85
open PySem PySem.Spec PyProof.Rows L2
def DueT (H : Hp) (x : V) (n : Int) (a b : Str) : Prop := ∃ t d, x = .ref t ∧ H t = some (.tup [.int n, .ref d]) ∧ H d = some (.tup [.str a, .str b])
theorem DueT.same {H H' : Hp} {x : V} {n : Int} {a b : Str} (e : Same H H') (h : DueT H x n a b) : DueT H' x n a b := by
  obtain ⟨t, d, rfl, h1, h2⟩ := h
  exact ⟨t, d, rfl, e _ _ h1, e _ _ h2⟩
theorem DueT.but {H H' : Hp} {sa : Addr} (hs : Stk H sa) (e : But sa H H') {x : V} {n : Int} {a b : Str} (h : DueT H x n a b) : DueT H' x n a b := by
  obtain ⟨t, d, rfl, h1, h2⟩ := h
  exact ⟨t, d, rfl, e _ _ h1 (ne_stk hs h1 fun _ z => by cases z), e _ _ h2 (ne_stk hs h2 fun _ z => by cases z)⟩
theorem rsd_of {H : Hp} {l dd d : Addr} {a b : Str} (hd : H d = some (.tup [.str a, .str b])) (h1 : H l = none) (h2 : upd H l (.lst [V.ref d]) dd = none) : Same H (upd (upd H l (.lst [V.ref d])) dd (.tup [.str "raised", .ref l])) ∧ RsdX (upd (upd H l (.lst [V.ref d])) dd (.tup [.str "raised", .ref l])) dd [.str a, .str b] := by
  obtain ⟨s1, g1⟩ := new2 (.lst [V.ref d]) h1
  obtain ⟨s2, g2⟩ := new2 (.tup [.str "raised", .ref l]) h2
  exact ⟨s1.trans s2, l, d, g2, s2 _ _ g1, s2 _ _ (s1 _ _ hd)⟩
theorem strs_get {zs : List Str} {i : Nat} {y : V} (h : (zs.map V.str)[i]? = some y) : ∃ z ∈ zs, y = .str z := by
  rw [List.getElem?_map] at h
  obtain ⟨z, hz, rfl⟩ := Option.map_eq_some_iff.mp h
  exact ⟨z, List.mem_of_getElem? hz, rfl⟩
def strange2 : List Str := ["", "rows", "ALL", "any"]
theorem strange2_not : ∀ z ∈ strange2, z ∉ kindsT ∧ z ∉ barKinds ∧ limF z = 12 := by decide +kernel
theorem bar_kinds {z : Str} (h : z ∈ kindsT) : (z = "apart" ∧ z ∉ barKinds) ∨ (z ≠ "apart" ∧ z ∈ barKinds) := by
  have h1 : ("apart" : Str) ∉ barKinds := by decide +kernel
  have h2 : ("row" : Str) ∈ barKinds ∧ ("nested" : Str) ∈ barKinds ∧ ("all" : Str) ∈ barKinds := by decide +kernel
  obtain ⟨n1, n2, n3, n4, n5, n6, n7, n8, n9, n10, n11, n12⟩ := k_ne
  rcases kindsT_mem h with rfl | rfl | rfl | rfl
  · exact .inl ⟨rfl, h1⟩
  · exact .inr ⟨n4, h2.1⟩
  · exact .inr ⟨n5, h2.2.1⟩
  · exact .inr ⟨n7, h2.2.2⟩
theorem str_ok4 : PyData.strOk (Str.ofString "TooMany") = true ∧ PyData.strOk (Str.ofString "family") = true ∧ PyData.strOk (Str.ofString "BadSetting") = true ∧ PyData.strOk (Str.ofString "number") = true ∧ PyData.strOk (Str.ofString "kind") = true := by decide +kernel
section
variable {P : Program} {w : World} {K : PySem.W.Frag} {mg : Str → Option Value} {base : Heap}
def spErrR (K : PySem.W.Frag) : Sp := fun vs H Q _ => ∃ (sa : Addr), vs = [.ref sa] ∧ Stk H sa ∧ LamX.Tabs (Tl K) H ∧ ∀ H', Q (.bl true) H'
theorem ok__law_errors_right (T : Txt w K mg) (TB : TabsB K base mg) : Ok P w K mg base CX0 12 "_law_errors_right" ["stock"] (spErrR K) := by
  have ok__law_ask_family := fun (T : Txt w K mg) => ok__law_ask_family (P := P) T TB
  have ok__law_draw := fun (T : Txt w K mg) => ok_draw_wide (P := P) (base := base) T
  refine Ok.def0 (f__law_errors_right T) (fun _ _ _ _ _ _ us hl => match us, hl with | [_], _ => rfl) sc__law_errors_right (fun vs H Q E h => ?_) (fun f cdv A outer s H vs Q E hr h => ?_)
  · obtain ⟨sa, rfl, _⟩ := h
    rfl
  · obtain ⟨sa, rfl, hst, hTb, k⟩ := h
    refine ⟨_, (pss_cons (ps_set (i := 1) sc__law_errors_right.nd rfl (by first | exact Or.inl rfl | exact Or.inr rfl) (pe_ix (ix_listK (K := K) rfl) (pe_lst (pa_cons pe_str (pa_cons pe_str (pa_cons pe_str (pa_cons pe_str pa_nil))))) (pe_ok (ok__law_draw T) (hr.mono (by first | decide | omega)) rfl pass0 (pa_cons (pv 0) (pa_cons pe_int pa_nil))) (fun _ _ => rfl)))
      (pss_cons (ps_set (i := 2) sc__law_errors_right.nd rfl (by first | exact Or.inl rfl | exact Or.inr rfl) (pe_ifExp (pt_cmpR op_eq (pv 1) pe_str (nomark _)) pe_int pe_int))
      (pss_cons (ps_for PassesOwn.never rfl (pi_listK (K := K) rfl (pe_lst (pa_cons (pe_tup (pa_cons (pe_op op_add (pe_op op_add (pv 2) pe_int) (pe_ok (ok__law_draw T) (hr.mono (by first | decide | omega)) rfl pass0 (pa_cons (pv 0) (pa_cons (pe_op op_pow pe_int pe_int) pa_nil)))) (pa_cons (pe_tup (pa_cons pe_str (pa_cons pe_str pa_nil))) pa_nil))) (pa_cons (pe_tup (pa_cons (pe_op op_sub pe_int (pe_ok (ok__law_draw T) (hr.mono (by first | decide | omega)) rfl pass0 (pa_cons (pv 0) (pa_cons pe_int pa_nil)))) (pa_cons (pe_tup (pa_cons pe_str (pa_cons pe_str pa_nil))) pa_nil))) pa_nil)))) (pg_tupK (K := K) (n := 2) rfl rfl (pgs_cons (pg_name (i := 3) sc__law_errors_right.nd rfl (by first | exact Or.inl rfl | exact Or.inr rfl)) (pgs_cons (pg_name (i := 4) sc__law_errors_right.nd rfl (by first | exact Or.inl rfl | exact Or.inr rfl)) pgs_nil)))
        (pss_cons (ps_if (pt_cmpR (neDK (K := K) rfl hr.units) (pe_ok (ok__law_ask_family T) (hr.mono (by first | decide | omega)) rfl pass0 (pa_cons (pv 1) (pa_cons (pv 3) pa_nil))) (pe_tup (pa_cons pe_str (pa_cons (pe_lst (pa_cons (pv 4) pa_nil)) pa_nil))) (nomark _)) (pss_one (ps_ret pe_bl)) pss_nil)
      (pss_cons (ps_set (i := 5) sc__law_errors_right.nd rfl (by first | exact Or.inl rfl | exact Or.inr rfl) (pe_ifExp (PW.pt (pw_and (pt_cmpR op_eq (pv 1) pe_str (nomark _)) (pw_and1 (pt_cmpR op_lt (pv 3) pe_int (nomark _))))) (pe_tup (pa_cons pe_str (pa_cons pe_str pa_nil))) (pv 4)))
      (pss_one (ps_if (pt_cmpR (neDK (K := K) rfl hr.units) (pe_ok (ok__law_ask_barring T) (hr.mono (by first | decide | omega)) rfl pass0 (pa_cons (pv 1) (pa_cons (pv 3) pa_nil))) (pe_tup (pa_cons pe_str (pa_cons (pe_lst (pa_cons (pv 5) pa_nil)) pa_nil))) (nomark _)) (pss_one (ps_ret pe_bl)) pss_nil)))))
      (pss_cons (ps_set (i := 6) sc__law_errors_right.nd rfl (by first | exact Or.inl rfl | exact Or.inr rfl) (pe_ix (ix_listK (K := K) rfl) (pe_lst (pa_cons pe_str (pa_cons pe_str (pa_cons pe_str (pa_cons pe_str pa_nil))))) (pe_ok (ok__law_draw T) (hr.mono (by first | decide | omega)) rfl pass0 (pa_cons (pv 0) (pa_cons pe_int pa_nil))) (fun _ _ => rfl)))
      (pss_cons (ps_for PassesOwn.never rfl (pi_listK (K := K) rfl (pe_lst (pa_cons (pe_tup (pa_cons pe_int (pa_cons (pe_tup (pa_cons pe_str (pa_cons pe_str pa_nil))) pa_nil))) (pa_cons (pe_tup (pa_cons (pe_op op_sub pe_int (pe_ok (ok__law_draw T) (hr.mono (by first | decide | omega)) rfl pass0 (pa_cons (pv 0) (pa_cons pe_int pa_nil)))) (pa_cons (pe_tup (pa_cons pe_str (pa_cons pe_str pa_nil))) pa_nil))) pa_nil)))) (pg_tupK (K := K) (n := 2) rfl rfl (pgs_cons (pg_name (i := 3) sc__law_errors_right.nd rfl (by first | exact Or.inl rfl | exact Or.inr rfl)) (pgs_cons (pg_name (i := 4) sc__law_errors_right.nd rfl (by first | exact Or.inl rfl | exact Or.inr rfl)) pgs_nil)))
        (pss_one (ps_if (PW.pt (pw_or (pt_cmpR (neDK (K := K) rfl hr.units) (pe_ok (ok__law_ask_family T) (hr.mono (by first | decide | omega)) rfl pass0 (pa_cons (pv 6) (pa_cons (pv 3) pa_nil))) (pe_tup (pa_cons pe_str (pa_cons (pe_lst (pa_cons (pv 4) pa_nil)) pa_nil))) (nomark _)) (pw_or1 (pt_cmpR (neDK (K := K) rfl hr.units) (pe_ok (ok__law_ask_barring T) (hr.mono (by first | decide | omega)) rfl pass0 (pa_cons (pv 6) (pa_cons (pv 3) pa_nil))) (pe_tup (pa_cons pe_str (pa_cons (pe_lst (pa_cons (pv 4) pa_nil)) pa_nil))) (nomark _))))) (pss_one (ps_ret pe_bl)) pss_nil)))
      (pss_one (ps_ret (pe_cmpR (eqDK (K := K) rfl hr.units) (pe_ok (ok__law_ask_barring T) (hr.mono (by first | decide | omega)) rfl pass0 (pa_cons pe_str (pa_cons (pe_op op_add pe_int (pe_ok (ok__law_draw T) (hr.mono (by first | decide | omega)) rfl pass0 (pa_cons (pv 0) (pa_cons pe_int pa_nil)))) pa_nil))) (pe_tup (pa_cons pe_str (pa_cons (pe_lst (pa_cons (pe_tup (pa_cons pe_str (pa_cons pe_str pa_nil))) pa_nil)) pa_nil))) (nomark _))))))))), ?_⟩
    obtain ⟨o1, o2, o3, o4, o5⟩ := str_ok4
    -- kind
    refine ⟨(by show 4 ≤ sizeLine; decide), fun q hq => ?_⟩
    obtain ⟨s1, g1⟩ := new2 (.lst (kindsT.map V.str)) hq
    have qsa : q ≠ sa := fun z => hst.ne (by rw [← z]; exact hq)
    have ek : ([V.str "apart", V.str "row", V.str "nested", V.str "all"] : List V) = kindsT.map V.str := rfl
    rw [ek]
    generalize upd H q (.lst (kindsT.map V.str)) = H1 at s1 g1 ⊢
    refine ⟨_, rfl, sa, 4, rfl, by decide, by decide, hst.same s1, fun r x y w0 r0 r1 => ?_⟩
    obtain ⟨b2, st2⟩ := drew (H := H1) (sa := sa) x y w0
    generalize upd H1 sa (stk x y w0) = H2 at b2 st2 ⊢
    obtain ⟨rn, rfl⟩ : ∃ n : Nat, r = (n : Int) := ⟨r.toNat, by omega⟩
    obtain ⟨y', hy⟩ : ∃ y, (kindsT.map V.str)[rn]? = some y := ⟨(kindsT.map V.str)[rn]'(by show rn < 4; omega), List.getElem?_eq_getElem _⟩
    refine ⟨q, _, _, y', rfl, rfl, SqL.of (b2 _ _ g1 qsa), at_of rfl hy, ?_⟩
    obtain ⟨z, hz, rfl⟩ := strs_get hy
    have T2 := tabs_but (hTb.ext s1) (hst.same s1) b2
    -- most
    refine nxE (st_let (fun v H' => v = .int (limF z : Int) ∧ H' = H2) (fun R hR => ?_) ?_)
    · refine ⟨_, rfl, rfl, _, rfl, ite2 (fun c => ?_) (fun c => ?_)⟩
      · exact hR _ _ ⟨by rw [show limF z = 9 from if_pos (V.str.inj (of_decide_eq_true c))]; rfl, rfl⟩
      · exact hR _ _ ⟨by rw [show limF z = 12 from if_neg fun e => c (decide_eq_true (by rw [e]))]; rfl, rfl⟩
    rintro v H2 ⟨rfl, rfl⟩
    -- the two
    refine ⟨_, rfl, _, _, rfl, rfl, _, rfl, _, _, rfl, rfl, (by unfold CPow; decide), sa, 100000000000000000000, rfl, by decide, by decide, st2, fun r1 x y w0 r10 r11 => ⟨_, _, rfl, rfl, ?_⟩⟩
    obtain ⟨b3, st3⟩ := drew (H := H2) (sa := sa) x y w0
    generalize upd H2 sa (stk x y w0) = H3 at b3 st3 ⊢
    refine ⟨(by show 2 ≤ sizeLine; decide), fun d1 hd1 => ⟨(by show 2 ≤ sizeLine; decide), fun t1 ht1 => ?_⟩⟩
    obtain ⟨s4, g4⟩ := new2 (.tup [.str "TooMany", .str "family"]) hd1
    obtain ⟨s5, g5⟩ := new2 (.tup [.int ((limF z : Int) + 1 + r1), .ref d1]) ht1
    have hD1 : DueT (upd (upd H3 d1 (.tup [.str "TooMany", .str "family"])) t1 (.tup [.int ((limF z : Int) + 1 + r1), .ref d1])) (.ref t1) ((limF z : Int) + 1 + r1) "TooMany" "family" := ⟨t1, d1, rfl, g5, s5 _ _ g4⟩
    have s35 := s4.trans s5
    have T5 := (tabs_but T2 st2 b3).ext s35
    have st5 := st3.same s35
    generalize upd (upd H3 d1 (.tup [.str "TooMany", .str "family"])) t1 (.tup [.int ((limF z : Int) + 1 + r1), .ref d1]) = H5 at hD1 s35 T5 st5 ⊢
    refine ⟨_, rfl, sa, 9, rfl, by decide, by decide, st5, fun r2 x y w0 r20 r21 => ⟨_, _, rfl, rfl, ?_⟩⟩
    obtain ⟨b6, st6⟩ := drew (H := H5) (sa := sa) x y w0
    have hD1 := hD1.but st5 b6
    have T6 := tabs_but T5 st5 b6
    generalize upd H5 sa (stk x y w0) = H6 at b6 st6 hD1 T6 ⊢
    refine ⟨(by show 2 ≤ sizeLine; decide), fun d2 hd2 => ⟨(by show 2 ≤ sizeLine; decide), fun t2 ht2 => ⟨(by show 2 ≤ sizeLine; decide), fun L hL => ?_⟩⟩⟩
    obtain ⟨s7, g7⟩ := new2 (.tup [.str "BadSetting", .str "number"]) hd2
    obtain ⟨s8, g8⟩ := new2 (.tup [.int (0 - r2), .ref d2]) ht2
    obtain ⟨s9, g9⟩ := new2 (.lst [V.ref t1, V.ref t2]) hL
    have hD1 := ((hD1.same s7).same s8).same s9
    have hD2 : DueT _ (.ref t2) (0 - r2) "BadSetting" "number" := DueT.same s9 ⟨t2, d2, rfl, g8, s8 _ _ g7⟩
    have T9 := ((T6.ext s7).ext s8).ext s9
    have st9 := ((st6.same s7).same s8).same s9
    generalize upd _ L (.lst [V.ref t1, V.ref t2]) = H9 at g9 hD1 hD2 T9 st9 ⊢
    clear s7 s8 s9 g7 g8 hd2 ht2 hL b6 st6 T6 st5 T5 s35 b3 st3 st2 T2 b2 s4 s5 g4 g5 hd1 ht1
    refine ⟨L, rfl, ⟨_, SqL.of g9⟩, for_list (K := K) (a := L) (xs := [V.ref t1, V.ref t2]) (fun i σ H' => ∃ v3 v4 v5, σ = [some (.ref sa), some (.str z), some (.int (limF z : Int)), v3, v4, v5, none] ∧ Same H9 H') ⟨_, _, _, rfl, Same.refl _⟩ (fun _ _ _ _ ⟨_, _, _, _, e⟩ => SqL.of (e _ _ g9)) ?_ ?_⟩
    · rintro i x σ H10 hx ⟨v3, v4, v5, rfl, e10⟩
      have T10 := T9.ext e10
      obtain ⟨rfl, rfl⟩ | ⟨rfl, rfl⟩ : (i = 0 ∧ x = .ref t1) ∨ (i = 1 ∧ x = .ref t2) := by
        match i, hx with
        | 0, hx => cases hx; exact .inl ⟨rfl, rfl⟩
        | 1, hx => cases hx; exact .inr ⟨rfl, rfl⟩
      · obtain ⟨t, d, e, ht, hd⟩ := hD1.same e10
        cases e
        refine ⟨t1, _, rfl, SqT.of ht, rfl, _, _, rfl, _, _, rfl, rfl, ?_⟩
        have hn : (limF z : Int) < (limF z : Int) + 1 + r1 := by omega
        refine ⟨_, rfl, _, rfl, z, _, rfl, T10, .inl hn, fun _ r H11 s11 hR => ?_, fun h => absurd h (by omega), fun h => absurd h (by omega)⟩
        refine ⟨_, rfl, (by show 1 ≤ sizeLine; decide), fun l h1 => ⟨(by show 2 ≤ sizeLine; decide), fun dd h2 => ?_⟩⟩
        obtain ⟨s12, hdd⟩ := rsd_of (s11 _ _ hd) h1 h2
        refine ne_str o1 o2 (hR.same s12) hdd ⟨_, rfl, iteF ?_⟩
        have e12 := e10.trans (s11.trans s12)
        generalize upd (upd H11 l (.lst [V.ref d])) dd (.tup [.str "raised", .ref l]) = H12 at e12 s12 ⊢
        have hd12 := s12 _ _ (s11 _ _ hd)
        refine nxE (st_let (fun v H' => v = .ref d ∧ H' = H12) (fun R hR => ?_) ?_)
        · refine ⟨_, rfl, rfl, _, rfl, ?_⟩
          cases qa : decide (V.str z = V.str "apart") with
          | false => exact ⟨_, rfl, hR _ _ ⟨rfl, rfl⟩⟩
          | true => exact ⟨_, rfl, _, _, rfl, rfl, _, rfl, ite2 (fun c => absurd (of_decide_eq_true c) (by have h0 : (0 : Int) ≤ (limF z : Int) := Int.natCast_nonneg _; omega)) fun _ => ⟨_, rfl, hR _ _ ⟨rfl, rfl⟩⟩⟩
        rintro v H12 ⟨rfl, rfl⟩
        refine ⟨_, rfl, _, rfl, z, _, rfl, .inl hn, fun _ r H13 s13 hR => ?_, fun h => absurd h (by omega), fun h => absurd h (by omega)⟩
        refine ⟨_, rfl, (by show 1 ≤ sizeLine; decide), fun l h1 => ⟨(by show 2 ≤ sizeLine; decide), fun dd h2 => ?_⟩⟩
        obtain ⟨s14, hdd⟩ := rsd_of (s13 _ _ hd12) h1 h2
        exact ne_str o1 o2 (hR.same s14) hdd ⟨_, rfl, iteF ⟨_, _, _, rfl, e12.trans (s13.trans s14)⟩⟩
      · obtain ⟨t, d, e, ht, hd⟩ := hD2.same e10
        cases e
        refine ⟨t2, _, rfl, SqT.of ht, rfl, _, _, rfl, _, _, rfl, rfl, ?_⟩
        have hl0 : (0 : Int) ≤ (limF z : Int) := Int.natCast_nonneg _
        have hn1 : (0 : Int) - r2 < 1 := by omega
        have hn : (0 : Int) - r2 ≤ (limF z : Int) := by omega
        refine ⟨_, rfl, _, rfl, z, _, rfl, T10, .inr (.inr hn1), fun h => absurd h (by omega), fun _ h => absurd hz h, fun _ _ _ r H11 s11 hR => ?_⟩
        refine ⟨_, rfl, (by show 1 ≤ sizeLine; decide), fun l h1 => ⟨(by show 2 ≤ sizeLine; decide), fun dd h2 => ?_⟩⟩
        obtain ⟨s12, hdd⟩ := rsd_of (s11 _ _ hd) h1 h2
        refine ne_str o3 o4 (hR.same s12) hdd ⟨_, rfl, iteF ?_⟩
        have e12 := e10.trans (s11.trans s12)
        generalize upd (upd H11 l (.lst [V.ref d])) dd (.tup [.str "raised", .ref l]) = H12 at e12 s12 ⊢
        have hd12 := s12 _ _ (s11 _ _ hd)
        rcases bar_kinds hz with ⟨rfl, hb⟩ | ⟨ha, hb⟩
        · refine nxE (st_let (fun v H' => ∃ d5, v = .ref d5 ∧ Same H12 H' ∧ H' d5 = some (.tup [.str "BadSetting", .str "kind"])) (fun R hR => ?_) ?_)
          · refine ⟨_, rfl, rfl, _, rfl, ?_⟩
            have qa : decide (V.str "apart" = V.str "apart") = true := decide_eq_true rfl
            rw [qa]
            refine ⟨_, rfl, _, _, rfl, rfl, _, rfl, ite2 (fun _ => ⟨(by show 2 ≤ sizeLine; decide), fun d5 h5 => ?_⟩) fun c => absurd (decide_eq_true hn1) c⟩
            obtain ⟨s5', g5'⟩ := new2 (.tup [.str "BadSetting", .str "kind"]) h5
            exact hR _ _ ⟨d5, rfl, s5', g5'⟩
          rintro v H13 ⟨d5, rfl, s13, hd5⟩
          refine ⟨_, rfl, _, rfl, "apart", _, rfl, .inr (.inl hb), fun h => absurd h (by omega), fun _ _ r H14 s14 hR => ?_, fun _ h => absurd h hb⟩
          refine ⟨_, rfl, (by show 1 ≤ sizeLine; decide), fun l h1 => ⟨(by show 2 ≤ sizeLine; decide), fun dd h2 => ?_⟩⟩
          obtain ⟨s15, hdd⟩ := rsd_of (s14 _ _ hd5) h1 h2
          exact ne_str o3 o5 (hR.same s15) hdd ⟨_, rfl, iteF ⟨_, _, _, rfl, e12.trans (s13.trans (s14.trans s15))⟩⟩
        · refine nxE (st_let (fun v H' => v = .ref d ∧ H' = H12) (fun R hR => ?_) ?_)
          · refine ⟨_, rfl, rfl, _, rfl, ?_⟩
            have qa : decide (V.str z = V.str "apart") = false := decide_eq_false fun e => ha (V.str.inj e)
            rw [qa]
            exact ⟨_, rfl, hR _ _ ⟨rfl, rfl⟩⟩
          rintro v H12 ⟨rfl, rfl⟩
          refine ⟨_, rfl, _, rfl, z, _, rfl, .inr (.inr hn1), fun h => absurd h (by omega), fun _ h => absurd hb h, fun _ _ _ r H14 s14 hR => ?_⟩
          refine ⟨_, rfl, (by show 1 ≤ sizeLine; decide), fun l h1 => ⟨(by show 2 ≤ sizeLine; decide), fun dd h2 => ?_⟩⟩
          obtain ⟨s15, hdd⟩ := rsd_of (s14 _ _ hd12) h1 h2
          exact ne_str o3 o4 (hR.same s15) hdd ⟨_, rfl, iteF ⟨_, _, _, rfl, e12.trans (s14.trans s15)⟩⟩
    · rintro σ H10 ⟨v3, v4, v5, rfl, e10⟩
      have T10 := T9.ext e10
      have st10 := st9.same e10
      clear hD1 hD2 g9 T9 st9 e10
      -- strange
      refine ⟨(by show 4 ≤ sizeLine; decide), fun q hq => ?_⟩
      obtain ⟨s1, g1⟩ := new2 (.lst (strange2.map V.str)) hq
      have qsa : q ≠ sa := fun z => st10.ne (by rw [← z]; exact hq)
      have ek : ([V.str "", V.str "rows", V.str "ALL", V.str "any"] : List V) = strange2.map V.str := rfl
      rw [ek]
      have T1 := T10.ext s1
      have st1 := st10.same s1
      generalize upd H10 q (.lst (strange2.map V.str)) = H1 at s1 g1 T1 st1 ⊢
      refine ⟨_, rfl, sa, 4, rfl, by decide, by decide, st1, fun r x y w0 r0 r1 => ?_⟩
      obtain ⟨b2, st2⟩ := drew (H := H1) (sa := sa) x y w0
      have T2 := tabs_but T1 st1 b2
      generalize upd H1 sa (stk x y w0) = H2 at b2 st2 T2 ⊢
      obtain ⟨rn, rfl⟩ : ∃ n : Nat, r = (n : Int) := ⟨r.toNat, by omega⟩
      obtain ⟨y', hy⟩ : ∃ y, (strange2.map V.str)[rn]? = some y := ⟨(strange2.map V.str)[rn]'(by show rn < 4; omega), List.getElem?_eq_getElem _⟩
      refine ⟨q, _, _, y', rfl, rfl, SqL.of (b2 _ _ g1 qsa), at_of rfl hy, ?_⟩
      obtain ⟨sz, hsz, rfl⟩ := strs_get hy
      obtain ⟨nk, nb, l12⟩ := strange2_not sz hsz
      -- the two
      refine ⟨(by show 2 ≤ sizeLine; decide), fun d1 hd1 => ⟨(by show 2 ≤ sizeLine; decide), fun t1 ht1 => ?_⟩⟩
      obtain ⟨s4, g4⟩ := new2 (.tup [.str "TooMany", .str "family"]) hd1
      obtain ⟨s5, g5⟩ := new2 (.tup [.int 13, .ref d1]) ht1
      have hD1 : DueT (upd (upd H2 d1 (.tup [.str "TooMany", .str "family"])) t1 (.tup [.int 13, .ref d1])) (.ref t1) 13 "TooMany" "family" := ⟨t1, d1, rfl, g5, s5 _ _ g4⟩
      have s25 := s4.trans s5
      have T5 := T2.ext s25
      have st5 := st2.same s25
      generalize upd (upd H2 d1 (.tup [.str "TooMany", .str "family"])) t1 (.tup [.int 13, .ref d1]) = H5 at hD1 s25 T5 st5 ⊢
      refine ⟨_, rfl, sa, 15, rfl, by decide, by decide, st5, fun r2 x y w0 r20 r21 => ⟨_, _, rfl, rfl, ?_⟩⟩
      obtain ⟨b6, st6⟩ := drew (H := H5) (sa := sa) x y w0
      have hD1 := hD1.but st5 b6
      have T6 := tabs_but T5 st5 b6
      generalize upd H5 sa (stk x y w0) = H6 at b6 st6 hD1 T6 ⊢
      refine ⟨(by show 2 ≤ sizeLine; decide), fun d2 hd2 => ⟨(by show 2 ≤ sizeLine; decide), fun t2 ht2 => ⟨(by show 2 ≤ sizeLine; decide), fun L hL => ?_⟩⟩⟩
      obtain ⟨s7, g7⟩ := new2 (.tup [.str "BadSetting", .str "kind"]) hd2
      obtain ⟨s8, g8⟩ := new2 (.tup [.int (12 - r2), .ref d2]) ht2
      obtain ⟨s9, g9⟩ := new2 (.lst [V.ref t1, V.ref t2]) hL
      have hD1 := ((hD1.same s7).same s8).same s9
      have hD2 : DueT _ (.ref t2) (12 - r2) "BadSetting" "kind" := DueT.same s9 ⟨t2, d2, rfl, g8, s8 _ _ g7⟩
      have T9 := ((T6.ext s7).ext s8).ext s9
      have st9 := ((st6.same s7).same s8).same s9
      generalize upd _ L (.lst [V.ref t1, V.ref t2]) = H9 at g9 hD1 hD2 T9 st9 ⊢
      clear s7 s8 s9 g7 g8 hd2 ht2 hL b6 st6 T6 st5 T5 s25 st2 T2 b2 s4 s5 g4 g5 hd1 ht1
      refine ⟨L, rfl, ⟨_, SqL.of g9⟩, for_list (K := K) (a := L) (xs := [V.ref t1, V.ref t2]) (fun i σ H' => ∃ v3 v4, σ = [some (.ref sa), some (.str z), some (.int (limF z : Int)), v3, v4, v5, some (.str sz)] ∧ Same H9 H') ⟨_, _, rfl, Same.refl _⟩ (fun _ _ _ _ ⟨_, _, _, e⟩ => SqL.of (e _ _ g9)) ?_ ?_⟩
      · rintro i x σ H11 hx ⟨v3, v4, rfl, e11⟩
        have T11 := T9.ext e11
        obtain ⟨rfl, rfl⟩ | ⟨rfl, rfl⟩ : (i = 0 ∧ x = .ref t1) ∨ (i = 1 ∧ x = .ref t2) := by
          match i, hx with
          | 0, hx => cases hx; exact .inl ⟨rfl, rfl⟩
          | 1, hx => cases hx; exact .inr ⟨rfl, rfl⟩
        · obtain ⟨t, d, e, ht, hd⟩ := hD1.same e11
          cases e
          refine ⟨t1, _, rfl, SqT.of ht, rfl, _, _, rfl, _, _, rfl, rfl, ?_⟩
          refine ⟨_, rfl, _, rfl, sz, 13, rfl, T11, .inl (by omega), fun _ r H12 s12 hR => ?_, fun h => absurd h (by omega), fun h => absurd h (by omega)⟩
          refine ⟨_, rfl, (by show 1 ≤ sizeLine; decide), fun l h1 => ⟨(by show 2 ≤ sizeLine; decide), fun dd h2 => ?_⟩⟩
          obtain ⟨s13, hdd⟩ := rsd_of (s12 _ _ hd) h1 h2
          refine ne_str o1 o2 (hR.same s13) hdd ⟨_, rfl, ?_⟩
          have hd13 := s13 _ _ (s12 _ _ hd)
          refine ⟨_, rfl, _, rfl, sz, 13, rfl, .inl (by omega), fun _ r H14 s14 hR => ?_, fun h => absurd h (by omega), fun h => absurd h (by omega)⟩
          refine ⟨_, rfl, (by show 1 ≤ sizeLine; decide), fun l h1 => ⟨(by show 2 ≤ sizeLine; decide), fun dd h2 => ?_⟩⟩
          obtain ⟨s15, hdd⟩ := rsd_of (s14 _ _ hd13) h1 h2
          exact ne_str o1 o2 (hR.same s15) hdd ⟨_, rfl, iteF ⟨_, _, rfl, e11.trans (s12.trans (s13.trans (s14.trans s15)))⟩⟩
        · obtain ⟨t, d, e, ht, hd⟩ := hD2.same e11
          cases e
          refine ⟨t2, _, rfl, SqT.of ht, rfl, _, _, rfl, _, _, rfl, rfl, ?_⟩
          refine ⟨_, rfl, _, rfl, sz, _, rfl, T11, .inr (.inl nk), fun h => absurd h (by omega), fun _ _ r H12 s12 hR => ?_, fun _ h => absurd h nk⟩
          refine ⟨_, rfl, (by show 1 ≤ sizeLine; decide), fun l h1 => ⟨(by show 2 ≤ sizeLine; decide), fun dd h2 => ?_⟩⟩
          obtain ⟨s13, hdd⟩ := rsd_of (s12 _ _ hd) h1 h2
          refine ne_str o3 o5 (hR.same s13) hdd ⟨_, rfl, ?_⟩
          have hd13 := s13 _ _ (s12 _ _ hd)
          refine ⟨_, rfl, _, rfl, sz, _, rfl, .inr (.inl nb), fun h => absurd h (by omega), fun _ _ r H14 s14 hR => ?_, fun _ h => absurd h nb⟩
          refine ⟨_, rfl, (by show 1 ≤ sizeLine; decide), fun l h1 => ⟨(by show 2 ≤ sizeLine; decide), fun dd h2 => ?_⟩⟩
          obtain ⟨s15, hdd⟩ := rsd_of (s14 _ _ hd13) h1 h2
          exact ne_str o3 o5 (hR.same s15) hdd ⟨_, rfl, iteF ⟨_, _, rfl, e11.trans (s12.trans (s13.trans (s14.trans s15)))⟩⟩
      · rintro σ H11 ⟨v3, v4, rfl, e11⟩
        have st11 := st9.same e11
        have nb : ("apart" : Str) ∉ barKinds := by decide +kernel
        have la : limF "apart" = 12 := (spans_apart (n := 1)).2.2
        refine ⟨_, rfl, sa, 12, rfl, by decide, by decide, st11, fun r3 x y w0 r30 r31 => ⟨_, _, rfl, rfl, ?_⟩⟩
        refine ⟨"apart", _, rfl, .inr (.inl nb), fun h => absurd h (by rw [la]; omega), fun _ _ r H12 s12 hR => ?_, fun _ h => absurd h nb⟩
        refine ⟨(by show 2 ≤ sizeLine; decide), fun t h1 => ⟨(by show 1 ≤ sizeLine; decide), fun l3 h2 => ⟨(by show 2 ≤ sizeLine; decide), fun d h3 => ?_⟩⟩⟩
        obtain ⟨s13, hd⟩ := mk_rsd h1 h2 h3
        exact eq_str o3 o5 (hR.same s13) hd (k _)
end
end K85
end
section
set_option maxRecDepth 100000
set_option maxHeartbeats 4000000
namespace K85
open PySem PySem.Spec PyProof.Rows L2
theorem eqv_pair (c d : Int × Int) : PyData.eqv (dP c) (dP d) = decide (c = d) := by
  unfold dP
  have e : ∀ x y : Int, PyData.eqv (.int x) (.int y) = decide (x = y) := fun x y => by
    unfold PyData.eqv
    rw [Bool.eq_iff_iff, decide_eq_true_eq]
    exact beq_iff_eq
  unfold PyData.eqv PyData.eqvAll PyData.eqvAll PyData.eqvAll
  rw [e, e, Bool.eq_iff_iff, Bool.and_eq_true, Bool.and_eq_true, decide_eq_true_eq, decide_eq_true_eq, decide_eq_true_eq]
  exact ⟨fun h => Prod.ext h.1 h.2.1, fun h => by rw [h]; exact ⟨rfl, rfl, rfl⟩⟩
theorem shaped_dP (c : Int × Int) : SeqAt.shaped (dP c) = true := by
  unfold dP SeqAt.shaped
  simp [PyData.canLay0, PyData.canLayAll0, PyData.depth, PyData.depthAll]
theorem notin_pairs {K : PySem.W.Frag} {H : Hp} {x : V} {a : Addr} {xs : List V} {c : Int × Int} {ks : List (Int × Int)} {Q : VK} (hx : PairT H x c) (ha : H a = some (.lst xs)) (h : Paired (PairT H) xs ks) (q : Q (.bl (!decide (c ∈ ks))) H) : rNotInD K x (.ref a) H Q := by
  refine ⟨dP c, ks.map dP, dp_pair hx, dp_pairs ha h, shaped_dP c, shaped_pairs ks, ?_⟩
  have e : ((ks.map dP).any fun z => PyData.eqv z (dP c)) = decide (c ∈ ks) := by
    rw [List.any_map, Bool.eq_iff_iff, List.any_eq_true, decide_eq_true_eq]
    constructor
    · rintro ⟨s, hs, e⟩
      have e : decide (s = c) = true := by rw [← eqv_pair]; exact e
      rw [← of_decide_eq_true e]
      exact hs
    · intro hr
      refine ⟨c, hr, ?_⟩
      show PyData.eqv (dP c) (dP c) = true
      rw [eqv_pair]
      exact decide_eq_true rfl
  rw [e]
  exact q
theorem free_swap {T : Nat} {a b c : Int × Int} (h1 : 1 ≤ c.1) (h : freeD T [a, b] c = 0) : freeD T [b, a] c = 0 := by
  rw [freeD_zero h1] at h ⊢
  intro o ho
  have := h o ho
  cases q : okO [b, a] c o with
  | false => rfl
  | true =>
    have q := okO_lot.mp q
    have : okO [a, b] c o = true := okO_lot.mpr fun s hs => by
      rcases List.mem_cons.mp hs with rfl | hs
      · exact q s (List.mem_cons_of_mem _ List.mem_cons_self)
      · rw [List.mem_singleton.mp hs]
        exact q b List.mem_cons_self
    rw [h o ho] at this
    cases this
theorem bar_len {z : Str} {n : Nat} (hz : z ∈ barKinds) (hn : n ≤ 12) : (barF z n).length ≤ 20 := by
  rcases barKinds_mem hz with rfl | rfl | rfl
  · rw [bar_row, List.length_map, List.length_range]; omega
  · rw [bar_nested]; show 2 ≤ 20; decide
  · rw [bar_all, List.length_map, List.length_range]; omega
section
variable {P : Program} {w : World} {K : PySem.W.Frag} {mg : Str → Option Value} {base : Heap}
def spBarR (K : PySem.W.Frag) : Sp := fun vs H Q _ => ∃ (z : Str) (n T : Nat) (p sl kl : Addr) (xs ksv : List V) (ws : List (Int × Int)), vs = [.ref p, .int T, .ref sl, .ref kl, .str z, .int n] ∧ z ∈ barKinds ∧ 1 ≤ n ∧ n ≤ limF z ∧ AlmAt K H p T (ws.map canR) ∧ H sl = some (.lst xs) ∧ Paired (PairT H) xs ws ∧ H kl = some (.lst ksv) ∧ Paired (PairT H) ksv (keysL (tabS ws) T) ∧ BarOk T ws (barF z n) ∧ T ≤ 24 ∧ ws.length ≤ 36 ∧ (∀ c ∈ ws, 1 ≤ c.1 ∧ c.1 ≤ c.2 ∧ c.2 ≤ 1000) ∧ ∀ H', Same H H' → Q (.bl true) H'
theorem ok__law_barring_right (T : Txt w K mg) : Ok P w K mg base CX0 8 "_law_barring_right" ["almanac", "days", "spans", "keys", "kind", "n"] (spBarR K) := by
  have ok__law_matches := fun (T : Txt w K mg) => ok_mn2 (P := P) (base := base) T
  refine Ok.def0 (f__law_barring_right T) (fun _ _ _ _ _ _ us hl => match us, hl with | [_, _, _, _, _, _], _ => rfl) sc__law_barring_right (fun vs H Q E h => ?_) (fun f cdv A outer s H vs Q E hr h => ?_)
  · obtain ⟨z, n, TT, p, sl, kl, xs, ksv, ws, rfl, _⟩ := h
    rfl
  · obtain ⟨z, n, TT, p, sl, kl, xs, ksv, ws, rfl, hz, h1, hn, hA, hsl, hX, hkl, hK, ⟨hB1, hB2⟩, hT, hw, hcb, k⟩ := h
    refine ⟨_, (pss_cons (ps_set (i := 6) sc__law_barring_right.nd rfl (by first | exact Or.inl rfl | exact Or.inr rfl) (pe_ok (ok__law_barring T) (hr.mono (by first | decide | omega)) rfl pass0 (pa_cons (pv 4) (pa_cons (pv 5) pa_nil))))
      (pss_cons (ps_set (i := 7) sc__law_barring_right.nd rfl (by first | exact Or.inl rfl | exact Or.inr rfl) (pe_ok (ok_barring_stretches T) (hr.mono (by first | decide | omega)) rfl passL (pa_cons (pv 4) (pa_cons (pv 5) pa_nil))))
      (pss_cons (ps_if (pt_not (pt_val (pe_ok (ok__law_matches T) (hr.mono (by first | decide | omega)) rfl pass0 (pa_cons (pv 7) (pa_cons (pv 6) pa_nil))))) (pss_one (ps_ret pe_bl)) pss_nil)
      (pss_cons (ps_for PassesOwn.never rfl (pi_range1 rfl (n_range T) (pa_cons (pe_callB (len_seqK (K := K) rfl) rfl (n_len T) (by decide +kernel) (pa_cons (pv 6) pa_nil)) pa_nil)) (pg_name (i := 8) sc__law_barring_right.nd rfl (by first | exact Or.inl rfl | exact Or.inr rfl))
        (pss_cons (ps_if (pt_cmpR (notInDK (K := K) rfl (un65 hr)) (pe_ix (ix_listK (K := K) rfl) (pv 6) (pv 8) (fun _ _ => rfl)) (pv 3) (by with_unfolding_all rfl)) (pss_one (ps_ret pe_bl)) pss_nil)
      (pss_one (ps_for PassesOwn.never rfl (pi_range1 rfl (n_range T) (pa_cons (pv 8) pa_nil)) (pg_name (i := 9) sc__law_barring_right.nd rfl (by first | exact Or.inl rfl | exact Or.inr rfl))
        (pss_cons (ps_set (i := 10) sc__law_barring_right.nd rfl (by first | exact Or.inl rfl | exact Or.inr rfl) (pe_ok (ok__law_first_covered T) (hr.mono (by first | decide | omega)) rfl pass0 (pa_cons (pv 1) (pa_cons (pv 2) (pa_cons (pe_lst (pa_cons (pe_ix (ix_listK (K := K) rfl) (pv 6) (pv 9) (fun _ _ => rfl)) (pa_cons (pe_ix (ix_listK (K := K) rfl) (pv 6) (pv 8) (fun _ _ => rfl)) pa_nil))) pa_nil)))))
      (pss_one (ps_if (PW.pt (pw_or (pt_cmpR op_eq (pv 10) pe_int (nomark _)) (pw_or1 (pt_not (pt_val (pe_ok (ok__law_matches T) (hr.mono (by first | decide | omega)) rfl pass0 (pa_cons (pe_ok (ok_lot_together T) (hr.mono (by first | decide | omega)) rfl passL (pa_cons (pv 0) (pa_cons (pe_lst (pa_cons (pe_ix (ix_listK (K := K) rfl) (pv 6) (pv 8) (fun _ _ => rfl)) (pa_cons (pe_ix (ix_listK (K := K) rfl) (pv 6) (pv 9) (fun _ _ => rfl)) pa_nil))) pa_nil))) (pa_cons (pe_tup (pa_cons pe_str (pa_cons (pv 10) pa_nil))) pa_nil)))))))) (pss_one (ps_ret pe_bl)) pss_nil)))))))
      (pss_cons (ps_expr (pe_ok (ok__law_spoil T) (hr.mono (by first | decide | omega)) rfl pass0 (pa_cons (pv 7) pa_nil)))
      (pss_one (ps_ret (pe_ok (ok__law_matches T) (hr.mono (by first | decide | omega)) rfl pass0 (pa_cons (pe_ok (ok_barring_stretches T) (hr.mono (by first | decide | omega)) rfl passL (pa_cons (pv 4) (pa_cons (pv 5) pa_nil))) (pa_cons (pv 6) pa_nil)))))))))), ?_⟩
    have h12 : n ≤ 12 := by have := lim_le (z := z); omega
    have hbl := bar_len hz h12
    have hg : ∀ r ∈ ws.map canR, GoodR r ∧ r.2.1 ≤ 1000 := fun r hr => by
      obtain ⟨c, hc, rfl⟩ := List.mem_map.mp hr
      have := hcb c hc
      exact ⟨⟨this.1, this.2.1, by show (0 : Int) ≤ 1; decide, by show (1 : Int) ≤ 1; decide, by show (1 : Int) ≤ 10 ^ 12; decide⟩, this.2.2⟩
    refine ⟨_, rfl, _, rfl, z, n, rfl, hz, h1, h12, fun l ds H1 hl s1 g1 hD1 => ?_⟩
    refine ⟨_, rfl, _, rfl, z, (n : Int), rfl, fun h => absurd h (by omega), fun _ h => absurd hz h, fun _ _ h => absurd h (by omega), fun _ m e _ _ l2 ts H2 hl2 s2 g2 hT2 => ?_⟩
    obtain rfl : n = m := by omega
    have g12 := s2 _ _ g1
    have hD2 := Paired.mapP hD1 fun _ _ z => PairT.same s2 z
    refine ⟨_, rfl, _, rfl, _, _, rfl, mtN_list (k := 1) (by omega) g2 g12 hT2 hD2 (fun _ _ _ h h' => mtN_pair h h'), fun H3 s3 => ⟨_, rfl, iteF ?_⟩⟩
    have s03 := s1.trans (s2.trans s3)
    have g13 := s3 _ _ g12
    have g23 := s3 _ _ g2
    have hD3 := Paired.mapP hD2 fun _ _ z => PairT.same s3 z
    have hdl : ds.length = (barF z n).length := Paired.length hD3
    have htl : ts.length = (barF z n).length := Paired.length hT2
    have hH2 : H l2 = none := s1.free hl2
    have hll : l ≠ l2 := fun z => by rw [← z, g1] at hl2; cases hl2
    clear hl hD1 g1 g12 hD2 hT2 g2 hl2
    refine ⟨_, rfl, _, _, rfl, .inl (SqL.of g13), _, rfl, by omega, by omega, for_upto (lo := 0) (L := (barF z n).length) (by omega) (fun i σ H' => ∃ v8 v9 v10, σ = [some (.ref p), some (.int (TT : Int)), some (.ref sl), some (.ref kl), some (.str z), some (.int (n : Int)), some (.ref l), some (.ref l2), v8, v9, v10] ∧ Same H3 H') ⟨_, _, _, rfl, Same.refl _⟩ ?_ ?_⟩
    · rintro i σ H4 hi ⟨v8, v9, v10, rfl, e4⟩
      have z1 : (0 : Int) + (i : Int) = (i : Int) := by omega
      rw [z1]
      refine gnE ?_
      have e04 := s03.trans e4
      obtain ⟨x, hx⟩ : ∃ x, ds[i]? = some x := ⟨ds[i]'(by omega), List.getElem?_eq_getElem _⟩
      obtain ⟨s, hs, hr⟩ := paired_get hD3 hx
      obtain ⟨sa, sb, hab, hsb, es, hsk⟩ := hB1 s (List.mem_of_getElem? hs)
      refine ⟨_, rfl, _, rfl, l, ds, _, x, rfl, rfl, SqL.of (e4 _ _ g13), at_of rfl hx, _, rfl, notin_pairs (hr.same e4) (e04 _ _ hkl) (Paired.mapP hK fun _ _ z => PairT.same e04 z) ⟨_, rfl, ?_⟩⟩
      rw [decide_eq_true hsk]
      refine iteF ?_
      refine ⟨_, rfl, _, rfl, by omega, by omega, for_upto (lo := 0) (L := i) (by omega) (fun j σ H' => ∃ v9 v10, σ = [some (.ref p), some (.int (TT : Int)), some (.ref sl), some (.ref kl), some (.str z), some (.int (n : Int)), some (.ref l), some (.ref l2), some (.int (i : Int)), v9, v10] ∧ Same H4 H') ⟨_, _, rfl, Same.refl _⟩ ?_ ?_⟩
      · rintro j σ H5 hj ⟨v9, v10, rfl, e5⟩
        have z2 : (0 : Int) + (j : Int) = (j : Int) := by omega
        rw [z2]
        refine gnE ?_
        have e05 := e04.trans e5
        have e35 := e4.trans e5
        obtain ⟨y, hy⟩ : ∃ y, ds[j]? = some y := ⟨ds[j]'(by omega), List.getElem?_eq_getElem _⟩
        obtain ⟨s', hs', hr'⟩ := paired_get hD3 hy
        obtain ⟨sa', sb', hab', hsb', es', _⟩ := hB1 s' (List.mem_of_getElem? hs')
        obtain ⟨c0, hc0, hz0⟩ := hB2 i j s s' hj hs hs'
        have hz0' := free_swap (hcb c0 hc0).1 hz0
        refine ⟨_, rfl, _, rfl, _, rfl, _, rfl, l, ds, _, y, rfl, rfl, SqL.of (e35 _ _ g13), at_of rfl hy, _, rfl, _, rfl, l, ds, _, x, rfl, rfl, SqL.of (e35 _ _ g13), at_of rfl hx, (by show 2 ≤ sizeLine; decide), fun q hq => ?_⟩
        obtain ⟨s6, g6⟩ := new2 (.lst [y, x]) hq
        have e06 := e05.trans s6
        have hr6 := (hr.same e35).same s6
        have hr6' := (hr'.same e35).same s6
        refine ⟨TT, sl, q, xs, ws, [y, x], [s', s], rfl, e06 _ _ hsl, Paired.mapP hX fun _ _ z => PairT.same e06 z, g6, .cons hr6' (.cons hr6 .nil), by show 2 ≤ 1000; decide, hT, by omega, hcb, fun m c H7 hm hzc hno s7 => ?_, fun hall => absurd hz0' (hall c0 hc0)⟩
        refine ⟨_, rfl, rfl, _, rfl, ?_⟩
        have en : decide (V.int ((m : Int) + 1) = V.int 0) = false := decide_eq_false fun z => by
          have := V.int.inj z
          omega
        rw [en]
        have e07 := e06.trans s7
        have e37 := (e35.trans s6).trans s7
        refine ⟨_, rfl, _, rfl, _, rfl, l, ds, _, x, rfl, rfl, SqL.of (e37 _ _ g13), at_of rfl hx, _, rfl, _, rfl, l, ds, _, y, rfl, rfl, SqL.of (e37 _ _ g13), at_of rfl hy, (by show 2 ≤ sizeLine; decide), fun q2 hq2 => ?_⟩
        obtain ⟨s8, g8⟩ := new2 (.lst [x, y]) hq2
        have e08 := e07.trans s8
        have hr8 := (hr6.same s7).same s8
        have hr8' := (hr6'.same s7).same s8
        have hcz : freeD TT [s, s'] c = 0 := free_swap (hcb c (List.mem_of_getElem? hm)).1 hzc
        refine ⟨TT, p, q2, ws.map canR, [x, y], [s, s'], rfl, hA.same e08, g8, .cons hr8 (.cons hr8' .nil), by show 2 ≤ 1000; decide, hT, by rw [List.length_map]; omega, hg, fun h => absurd h (by show ¬ 14 < 2; decide), fun _ b hb => (no_bad hb).elim, fun _ _ b u hu hbad _ => ?_, fun _ hall ws' eq => ?_⟩
        · exfalso
          apply hbad
          have : u = s ∨ u = s' := by
            have := List.mem_of_getElem? hu
            rcases List.mem_cons.mp this with h | h
            · exact .inl h
            · exact .inr (List.mem_singleton.mp h)
          rcases this with rfl | rfl
          · rw [es]; unfold StrOk; show (0 : Int) ≤ sa ∧ (sb : Int) ≤ TT ∧ (sa : Int) < sb; omega
          · rw [es']; unfold StrOk; show (0 : Int) ≤ sa' ∧ (sb' : Int) ≤ TT ∧ (sa' : Int) < sb'; omega
        obtain rfl := canR_inj eq
        refine ⟨fun m2 c2 r H9 hm2 hz2 hno2 s9 g9 => ?_, fun hall2 => absurd hcz (hall2 c (List.mem_of_getElem? hm))⟩
        have em : m2 = m := by
          rcases Nat.lt_trichotomy m2 m with q | q | q
          · exact absurd (free_swap (hcb c2 (List.mem_of_getElem? hm2)).1 hz2) (hno m2 c2 q hm2)
          · exact q
          · exact absurd hcz (hno2 m c q hm)
        subst em
        refine ⟨_, rfl, (by show 2 ≤ sizeLine; decide), fun t ht => ?_⟩
        obtain ⟨s10, g10⟩ := new2 (.tup [.str "rain", .int ((m2 : Int) + 1)]) ht
        refine ⟨_, _, rfl, mtN_up (mtN_two (s10 _ _ g9) g10 (.inr (.inl ⟨_, rfl, rfl⟩))), fun H11 s11 => ⟨_, rfl, iteF ⟨_, _, rfl, e5.trans (s6.trans (s7.trans (s8.trans (s9.trans (s10.trans s11)))))⟩⟩⟩
      · rintro σ H5 ⟨v9, v10, rfl, e5⟩
        exact ⟨_, _, _, rfl, e4.trans e5⟩
    · rintro σ H4 ⟨v8, v9, v10, rfl, e4⟩
      have g14 := e4 _ _ g13
      have g24 := e4 _ _ g23
      refine ⟨_, rfl, l2, ts, rfl, g24, by omega, fun H5 b5 => ?_⟩
      have g15 := b5 _ _ g14 hll
      have hD5 : Paired (PairT H5) ds (barF z n) := Paired.mapP hD3 fun _ _ z => (PairT.same e4 z).but g24 b5
      have s05 : Same H H5 := fun b o hb => b5 _ _ ((s03.trans e4) _ _ hb) fun e => by rw [e, hH2] at hb; cases hb
      refine ⟨_, rfl, _, rfl, z, (n : Int), rfl, fun h => absurd h (by omega), fun _ h => absurd hz h, fun _ _ h => absurd h (by omega), fun _ m e _ _ l3 ts3 H6 hl3 s6 g6 hT6 => ?_⟩
      obtain rfl : n = m := by omega
      exact ⟨_, rfl, _, _, rfl, mtN_list (k := 1) (by omega) g6 (s6 _ _ g15) hT6 (Paired.mapP hD5 fun _ _ z => PairT.same s6 z) (fun _ _ _ h h' => mtN_pair h h'), fun H7 s7 => k H7 (s05.trans (s6.trans s7))⟩
end
end K85
end
section
set_option maxRecDepth 100000
set_option maxHeartbeats 40000000
namespace K85
open PySem PySem.Spec PyProof.Rows L2
theorem trn_uniq {z : Str} {m q r : Nat} (h : TrN z m q) (h' : TrN z m r) : q = r := by
  have n1 : ¬ (("row" : Str) = "nested") := by decide +kernel
  have n2 : ¬ (("row" : Str) = "all") := by decide +kernel
  have n3 : ¬ (("row" : Str) = "apart") := by decide +kernel
  have n4 : ¬ (("nested" : Str) = "all") := by decide +kernel
  have n5 : ¬ (("nested" : Str) = "apart") := by decide +kernel
  have n6 : ¬ (("all" : Str) = "apart") := by decide +kernel
  rcases h with ⟨e, h⟩ | ⟨e, h⟩ | ⟨e, h1, h⟩ | ⟨e, h1, h⟩ | ⟨e, h⟩ <;> rcases h' with ⟨e', h'⟩ | ⟨e', h'⟩ | ⟨e', h1', h'⟩ | ⟨e', h1', h'⟩ | ⟨e', h'⟩ <;> first
    | exact h.trans h'.symm
    | exact h.uniq h'
    | exact absurd (e.symm.trans e') n1
    | exact absurd (e'.symm.trans e) n1
    | exact absurd (e.symm.trans e') n2
    | exact absurd (e'.symm.trans e) n2
    | exact absurd (e.symm.trans e') n3
    | exact absurd (e'.symm.trans e) n3
    | exact absurd (e.symm.trans e') n4
    | exact absurd (e'.symm.trans e) n4
    | exact absurd (e.symm.trans e') n5
    | exact absurd (e'.symm.trans e) n5
    | exact absurd (e.symm.trans e') n6
    | exact absurd (e'.symm.trans e) n6
    | exact absurd h1 h1'
    | exact absurd h1' h1
theorem trn_bound {z : Str} {n r : Nat} (h : TrN z n r) (h1 : 1 ≤ n) (h2 : n ≤ 12) : 1 ≤ r ∧ r ≤ 20 := by
  rcases h with ⟨_, h⟩ | ⟨_, h⟩ | ⟨_, _, h⟩ | ⟨_, _, h⟩ | ⟨_, h⟩
  · omega
  · omega
  · omega
  · omega
  · have := lg_four h h1 h2
    have h0 : r ≠ 0 := fun z => by
      have := h.1
      rw [z] at this
      have : n + 2 ≤ 1 := this
      omega
    omega
theorem mtN_quad {H : Hp} {x y : V} {c : Q4} (h1 : QuadT H x c) (h2 : QuadT H y c) : MtN 1 H x y := by
  obtain ⟨t, rfl, ht⟩ := h1
  obtain ⟨u, rfl, hu⟩ := h2
  refine .inr ⟨t, u, _, _, rfl, rfl, .inr ⟨ht, hu⟩, rfl, by show 4 ≤ 1000; decide, fun i a b ha hb => ?_⟩
  rw [ha] at hb
  cases hb
  have := List.mem_of_getElem? ha
  unfold q4V at this
  simp only [List.mem_cons, List.not_mem_nil, or_false] at this
  rcases this with rfl | rfl | rfl | rfl <;> exact .inr (.inl ⟨_, rfl, rfl⟩)
theorem bar_of {z : Str} {n : Nat} (hz : z ∈ barKinds) (h1 : 1 ≤ n) (hn : n ≤ limF z) : BarOk (daysF z n) (spansF z n) (barF z n) := by
  rcases barKinds_mem hz with rfl | rfl | rfl
  · obtain ⟨e1, e2, e3⟩ := spans_row (n := n)
    rw [e3] at hn
    rw [e1, e2]
    exact (famB_iff (row_ok ⟨n, by omega⟩ h1)).2
  · obtain ⟨e1, e2, e3⟩ := spans_nested (n := n)
    rw [e3] at hn
    rw [e1, e2]
    exact (famB_iff (nested_ok ⟨n, by omega⟩ h1)).2
  · obtain ⟨e1, e2, e3⟩ := spans_all (n := n)
    rw [e3] at hn
    rw [e1, e2]
    exact (fam_all h1 hn).2.1
/-- the almanac's own list is not the list of weathers -/
theorem alm_spoil {K : PySem.W.Frag} {H H' : Hp} {p wl : Addr} {d : Int} {rs : List Q4} {ys : List V} {Ws : List (List (List (Int × Int)))} (hA : AlmAt K H p d rs) (hw : H wl = some (.lst ys)) (hY : Paired (WeaV H) ys Ws) (hne : ys ≠ []) (b : But wl H H') : AlmAt K H' p d rs := by
  obtain ⟨dx, l, xs, h1, h2, h3⟩ := hA
  refine ⟨dx, l, xs, b _ _ h1 fun e => (by rw [e, hw] at h1; cases h1), b _ _ h2 fun e => ?_, Paired.mapP h3 fun _ _ z => z.but hw b⟩
  rw [e, hw] at h2
  have h2 := HO.lst.inj (Option.some.inj h2)
  subst h2
  cases hY with
  | nil => exact hne rfl
  | cons a _ =>
    cases h3 with
    | cons q _ =>
      obtain ⟨pa, e1, us, g1, _⟩ := a
      obtain ⟨t, e2, g2⟩ := q
      rw [e1] at e2
      rw [V.ref.inj e2, g2] at g1
      cases g1
theorem erase_step {α : Type} {l : List α} {o j : Nat} {x : α} (h : l[j]? = some x) (hj : j ≠ o) : (l.eraseIdx o).take (if j + 1 ≤ o then j + 1 else j + 1 - 1) = (l.eraseIdx o).take (if j ≤ o then j else j - 1) ++ [x] := by
  by_cases c : j + 1 ≤ o
  · rw [if_pos c, if_pos (by omega)]
    refine take_get ?_
    rw [List.getElem?_eraseIdx, if_pos (by omega)]
    exact h
  · rw [if_neg c, if_neg (by omega)]
    have e : j + 1 - 1 = (j - 1) + 1 := by omega
    rw [e]
    refine take_get ?_
    rw [List.getElem?_eraseIdx, if_neg (by omega)]
    rw [show j - 1 + 1 = j by omega]
    exact h
theorem erase_skip {α : Type} {l : List α} {o : Nat} : (l.eraseIdx o).take (if o + 1 ≤ o then o + 1 else o + 1 - 1) = (l.eraseIdx o).take (if o ≤ o then o else o - 1) := by
  rw [if_neg (by omega), if_pos (Nat.le_refl _)]
  rfl
section
variable {P : Program} {w : World} {K : PySem.W.Frag} {mg : Str → Option Value} {base : Heap}
theorem apW : Apart (SeqS (SeqS fun (_ : Addr → Prop) => PairT)) := apart_pair.seq.seq
def spFamR (K : PySem.W.Frag) : Sp := fun vs H Q _ => ∃ (sa : Addr) (z : Str) (n : Nat), vs = [.ref sa, .str z, .int n] ∧ Stk H sa ∧ z ∈ kindsT ∧ 1 ≤ n ∧ n ≤ limF z ∧ LamX.Tabs (Tl K) H ∧ ∀ H', Bx sa H H' → Stk H' sa → LamX.Tabs (Tl K) H' → Q (.bl true) H'
theorem ok__law_family_right (T : Txt w K mg) (TB : TabsB K base mg) : Ok P w K mg base CX0 12 "_law_family_right" ["stock", "kind", "n"] (spFamR K) := by
  have ok_trial_family := fun (T : Txt w K mg) => ok_trial_family (P := P) T TB
  have ok__law_matches := fun (T : Txt w K mg) => ok_mn2 (P := P) (base := base) T
  have ok__law_undecided := fun (T : Txt w K mg) => ok_undV (P := P) (base := base) T
  have ok_first_undecided := fun (T : Txt w K mg) => ok_undF (P := P) (base := base) T
  have ok__law_deep := fun (T : Txt w K mg) => ok_dpS3 (P := P) (base := base) T
  refine Ok.def0 (f__law_family_right T) (fun _ _ _ _ _ _ us hl => match us, hl with | [_, _, _], _ => rfl) sc__law_family_right (fun vs H Q E h => ?_) (fun f cdv A outer s H vs Q E hr h => ?_)
  · obtain ⟨sa, z, n, rfl, _⟩ := h
    rfl
  · obtain ⟨sa, z, n, rfl, hst, hz, h1, hn, hTb, k⟩ := h
    refine ⟨_, (pss_cons (ps_asg (pe_ok (ok__law_spans_of T) (hr.mono (by first | decide | omega)) rfl pass0 (pa_cons (pv 1) (pa_cons (pv 2) pa_nil))) (pg_tupK (K := K) (n := 2) rfl rfl (pgs_cons (pg_name (i := 3) sc__law_family_right.nd rfl (by first | exact Or.inl rfl | exact Or.inr rfl)) (pgs_cons (pg_name (i := 4) sc__law_family_right.nd rfl (by first | exact Or.inl rfl | exact Or.inr rfl)) pgs_nil))))
      (pss_cons (ps_set (i := 5) sc__law_family_right.nd rfl (by first | exact Or.inl rfl | exact Or.inr rfl) (pe_ok (ok_trial_family T) (hr.mono (by first | decide | omega)) rfl passL (pa_cons (pv 1) (pa_cons (pv 2) pa_nil))))
      (pss_cons (ps_if (PW.pt (pw_or (pt_not (pt_val (pe_callB (isiK (K := K) rfl) rfl (n_isinstance T) (by decide +kernel) (pa_cons (pv 5) (pa_cons (pe_bltn (v := .ty "tuple") (u := .type "tuple") rfl (n_tuple T) (by decide +kernel) rfl) pa_nil))))) (pw_or1 (pt_cmpR op_ne (pe_callB (len_seqK (K := K) rfl) rfl (n_len T) (by decide +kernel) (pa_cons (pv 5) pa_nil)) pe_int (nomark _))))) (pss_one (ps_ret pe_bl)) pss_nil)
      (pss_cons (ps_asg (pv 5) (pg_tupK (K := K) (n := 2) rfl rfl (pgs_cons (pg_name (i := 6) sc__law_family_right.nd rfl (by first | exact Or.inl rfl | exact Or.inr rfl)) (pgs_cons (pg_name (i := 7) sc__law_family_right.nd rfl (by first | exact Or.inl rfl | exact Or.inr rfl)) pgs_nil))))
      (pss_cons (ps_set (i := 8) sc__law_family_right.nd rfl (by first | exact Or.inl rfl | exact Or.inr rfl) (pe_ok (ok__law_can_rains T) (hr.mono (by first | decide | omega)) rfl pass0 (pa_cons (pv 4) pa_nil)))
      (pss_cons (ps_if (PW.pt (pw_or (pt_not (pt_val (pe_ok (ok__law_matches T) (hr.mono (by first | decide | omega)) rfl pass0 (pa_cons (pe_okM0 (okm_Almanac_days T) (cl_Almanac T) (pv 6) (hr.mono (by first | decide | omega)) pass0) (pa_cons (pv 3) pa_nil))))) (pw_or1 (pt_not (pt_val (pe_ok (ok__law_matches T) (hr.mono (by first | decide | omega)) rfl pass0 (pa_cons (pe_okM0 (okm_Almanac_rains T) (cl_Almanac T) (pv 6) (hr.mono (by first | decide | omega)) pass0) (pa_cons (pv 8) pa_nil)))))))) (pss_one (ps_ret pe_bl)) pss_nil)
      (pss_cons (ps_set (i := 9) sc__law_family_right.nd rfl (by first | exact Or.inl rfl | exact Or.inr rfl) (pe_ok (ok__law_many_trials T) (hr.mono (by first | decide | omega)) rfl pass0 (pa_cons (pv 1) (pa_cons (pv 2) pa_nil))))
      (pss_cons (ps_if (PW.pt (pw_or (pt_not (pt_val (pe_ok (ok__law_matches T) (hr.mono (by first | decide | omega)) rfl pass0 (pa_cons (pe_ok (ok_trial_number T) (hr.mono (by first | decide | omega)) rfl passL (pa_cons (pv 1) (pa_cons (pv 2) pa_nil))) (pa_cons (pv 9) pa_nil))))) (pw_or (pt_not (pt_val (pe_ok (ok__law_are_weathers T) (hr.mono (by first | decide | omega)) rfl pass0 (pa_cons (pv 3) (pa_cons (pv 8) (pa_cons (pv 7) pa_nil)))))) (pw_or1 (pt_cmpR op_ne (pe_callB (len_seqK (K := K) rfl) rfl (n_len T) (by decide +kernel) (pa_cons (pv 7) pa_nil)) (pv 9) (nomark _)))))) (pss_one (ps_ret pe_bl)) pss_nil)
      (pss_cons (ps_set (i := 10) sc__law_family_right.nd rfl (by first | exact Or.inl rfl | exact Or.inr rfl) (pe_ok (ok__law_key_list T) (hr.mono (by first | decide | omega)) rfl pass0 (pa_cons (pv 3) (pa_cons (pe_ok (ok__law_span_table T) (hr.mono (by first | decide | omega)) rfl pass0 (pa_cons (pv 3) (pa_cons (pv 4) pa_nil))) pa_nil))))
      (pss_cons (ps_if (PW.pt (pw_or (pt_cmpR op_notN (pe_ok (ok__law_undecided T) (hr.mono (by first | decide | omega)) rfl pass0 (pa_cons (pv 4) (pa_cons (pv 10) (pa_cons (pv 7) pa_nil)))) pe_non (nomark _)) (pw_or1 (pt_not (pt_val (pe_ok (ok__law_matches T) (hr.mono (by first | decide | omega)) rfl pass0 (pa_cons (pe_ok (ok_first_undecided T) (hr.mono (by first | decide | omega)) rfl passL (pa_cons (pv 6) (pa_cons (pv 7) pa_nil))) (pa_cons pe_non pa_nil)))))))) (pss_one (ps_ret pe_bl)) pss_nil)
      (pss_cons (ps_set (i := 11) sc__law_family_right.nd rfl (by first | exact Or.inl rfl | exact Or.inr rfl) (pe_ok (ok__law_draw T) (hr.mono (by first | decide | omega)) rfl pass0 (pa_cons (pv 0) (pa_cons (pv 9) pa_nil))))
      (pss_cons (ps_setLc (i := 13) (own := [("at", 12)]) rfl sc__law_family_right.nd rfl rfl (sw_true rfl rfl rfl (by decide +kernel)) (pi_range1 rfl (n_range T) (pa_cons (pv 9) pa_nil)) (blkOk_by (N := ["stock", "kind", "n", "days", "spans", "told", "almanac", "weathers", "rains", "many", "keys", "out", "at", "left", "due", "again"]) (sc := defScope s__law_family_right) (by decide +kernel)) (fun _ _ _ _ _ => (pg_name (i := 12) sc__law_family_right.nd rfl (by first | exact Or.inl rfl | exact Or.inr rfl))) (fun _ _ _ _ _ => pts_one (pt_cmpR op_ne (pv 12) (pv 11) (nomark _))) (fun _ _ _ _ _ => (pe_ok (ok__law_deep T) (hr.mono (by first | decide | omega)) rfl pass0 (pa_cons (pe_ix (ix_listK (K := K) rfl) (pv 7) (pv 12) (fun _ _ => rfl)) pa_nil))))
      (pss_cons (ps_set (i := 14) sc__law_family_right.nd rfl (by first | exact Or.inl rfl | exact Or.inr rfl) (pe_ok (ok__law_undecided T) (hr.mono (by first | decide | omega)) rfl pass0 (pa_cons (pv 4) (pa_cons (pv 10) (pa_cons (pv 13) pa_nil)))))
      (pss_cons (ps_if (PW.pt (pw_or (pt_cmpR op_isN (pv 14) pe_non (nomark _)) (pw_or1 (pt_not (pt_val (pe_ok (ok__law_matches T) (hr.mono (by first | decide | omega)) rfl pass0 (pa_cons (pe_ok (ok_first_undecided T) (hr.mono (by first | decide | omega)) rfl passL (pa_cons (pv 6) (pa_cons (pv 13) pa_nil))) (pa_cons (pv 14) pa_nil)))))))) (pss_one (ps_ret pe_bl)) pss_nil)
      (pss_cons (ps_expr (pe_ok (ok__law_spoil T) (hr.mono (by first | decide | omega)) rfl pass0 (pa_cons (pv 7) pa_nil)))
      (pss_cons (ps_set (i := 15) sc__law_family_right.nd rfl (by first | exact Or.inl rfl | exact Or.inr rfl) (pe_ok (ok_trial_family T) (hr.mono (by first | decide | omega)) rfl passL (pa_cons (pv 1) (pa_cons (pv 2) pa_nil))))
      (pss_cons (ps_if (PW.pt (pw_or (pt_cmpR op_ne (pe_callB (len_seqK (K := K) rfl) rfl (n_len T) (by decide +kernel) (pa_cons (pe_ix (ix_seqK (K := K) rfl) (pv 15) pe_int (fun _ _ => rfl)) pa_nil)) (pv 9) (nomark _)) (pw_or1 (pt_not (pt_val (pe_ok (ok__law_are_weathers T) (hr.mono (by first | decide | omega)) rfl pass0 (pa_cons (pv 3) (pa_cons (pv 8) (pa_cons (pe_ix (ix_seqK (K := K) rfl) (pv 15) pe_int (fun _ _ => rfl)) pa_nil))))))))) (pss_one (ps_ret pe_bl)) pss_nil)
      (pss_one (ps_ret (pe_or (pe_cmpR op_eq (pv 1) pe_str (nomark _)) (pe_one (pe_ok (ok__law_barring_right T) (hr.mono (by first | decide | omega)) rfl pass0 (pa_cons (pv 6) (pa_cons (pv 3) (pa_cons (pv 4) (pa_cons (pv 10) (pa_cons (pv 1) (pa_cons (pv 2) pa_nil)))))))))))))))))))))))))))), ?_⟩
    have h12 : n ≤ 12 := by have := lim_le (z := z); omega
    have hT24 := daysF_le (z := z) hn
    obtain ⟨hsp, hwl⟩ := spans_good hz hn
    have hbarok : z ∈ barKinds → BarOk (daysF z n) (spansF z n) (barF z n) := fun h => bar_of h h1 hn
    refine ⟨_, rfl, _, rfl, z, n, rfl, hz, h12, fun t0 l xs H1 s1 ht0 gl hX => ⟨t0, _, rfl, SqT.of ht0, rfl, _, _, rfl, _, _, rfl, rfl, ?_⟩⟩
    -- told
    refine ⟨_, rfl, _, rfl, z, (n : Int), rfl, hTb.ext s1, fun h => absurd h (by omega), fun _ h => absurd hz h, fun _ _ h => absurd h (by omega), fun _ m em _ _ tt p wl ys OS H2 e2 T2 hfr htt hA gw hY hfam htr => ?_⟩
    obtain rfl : n = m := by omega
    obtain ⟨hO1, hO20⟩ := trn_bound htr h1 h12
    have hyl : ys.length = OS.length := by rw [Paired.length hY, List.length_map]
    have hcb : ∀ c ∈ spansF z n, 1 ≤ c.1 ∧ c.1 ≤ c.2 ∧ c.2 ≤ 1000 := fun c hc => by
      have := hsp c hc
      exact ⟨this.1, this.2.1, by omega⟩
    have hg : ∀ r ∈ (spansF z n).map canR, GoodR r := fun r hr => by
      obtain ⟨c, hc, rfl⟩ := List.mem_map.mp hr
      have := hsp c hc
      exact ⟨this.1, this.2.1, by show (0 : Int) ≤ 1; decide, by show (1 : Int) ≤ 1; decide, by show (1 : Int) ≤ 10 ^ 12; decide⟩
    have gl2 := ext_lst e2 gl
    have hX2 := Paired.mapP hX fun _ _ z => pair_ext e2 z
    have e02 : LamX.ExtN H H2 := fun b o hb nt => e2 _ _ (s1 _ _ hb) nt
    have st2 := Stk.ext e02 hst
    have lwl : l ≠ wl := fun e => hfr _ (by rw [← e]; exact gl)
    generalize hws : spansF z n = ws at hsp hwl hbarok hA hY hfam hcb hg hX2 hX
    generalize hTd : daysF z n = Td at hT24 hsp hbarok hA hY hfam ht0
    have hxl : xs.length = ws.length := Paired.length hX2
    have hwlR : (ws.map canR).length ≤ 40 := by rw [List.length_map]; omega
    clear gl hX ht0
    refine ⟨_, rfl, ⟨_, _, _, _, _, rfl, .ty _, tx_tup htt, k_tt, _, rfl, ?_⟩⟩
    refine ⟨_, rfl, _, _, rfl, .inr (SqT.of htt), rfl, _, rfl, iteF ?_⟩
    refine ⟨_, rfl, tt, _, rfl, SqT.of htt, rfl, _, _, rfl, _, _, rfl, rfl, ?_⟩
    -- rains
    refine ⟨_, rfl, l, xs, ws, rfl, gl2, hX2, by omega, fun rl qs H3 hrl s3 g3 hQ3 => ?_⟩
    have rlwl : rl ≠ wl := fun e => by rw [e, gw] at hrl; cases hrl
    have hA3 := hA.same s3
    obtain ⟨dx, lr, xr, i1, i2, i3⟩ := id hA3
    refine ⟨_, rfl, p, dx, _, rfl, i1, af_no (by decide +kernel) (by decide +kernel), p, Td, ws.map canR, rfl, hA3, ?_⟩
    refine ⟨_, rfl, _, _, rfl, .inl (.inr (.inl ⟨_, rfl, rfl⟩)), fun H4 s4 => ⟨_, rfl, ?_⟩⟩
    have hA4 := hA3.same s4
    refine ⟨_, rfl, p, dx, _, rfl, s4 _ _ i1, af_no (by decide +kernel) (by decide +kernel), p, Td, ws.map canR, rfl, hA4, fun l5 xs5 H5 hl5 s5 g5 hQ5 => ?_⟩
    have s35 := s4.trans s5
    refine ⟨_, rfl, _, _, rfl, mtN_list (k := 1) (by rw [List.length_map]; omega) g5 (s35 _ _ g3) hQ5 (Paired.mapP hQ3 fun _ _ z => QuadT.same s35 z) (fun _ _ _ h h' => mtN_quad h h'), fun H6 s6 => ⟨_, rfl, iteF ?_⟩⟩
    have s36 := s35.trans s6
    have s26 := s3.trans s36
    have g36 := s36 _ _ g3
    have hQ6 := Paired.mapP hQ3 fun _ _ z => QuadT.same s36 z
    have hA6 := hA3.same s36
    have gl6 := s26 _ _ gl2
    have hX6 := Paired.mapP hX2 fun _ _ z => PairT.same s26 z
    have gw6 := s26 _ _ gw
    have hY6 : Paired (WeaV H6) ys (OS.map fun os => wayR Td os ws.length) := Paired.mapP hY fun _ _ z => WeaV.same s26 z
    have T6 := T2.ext s26
    have st6 := st2.same s26
    have e06 : LamX.ExtN H H6 := fun b o hb nt => s26 _ _ (e02 _ _ hb nt)
    have ewl : ∀ us, H1 wl ≠ some (.lst us) := hfr
    clear i1 i2 i3 hA hA3 hA4 gl2 hX2 gw hY T2 st2 s3 s4 s5 s6 s35 s36 s26 g3 hQ3 g5 hQ5 hl5 hrl htt
    -- many
    refine ⟨_, rfl, _, rfl, z, n, rfl, hz, h1, h12, fun r H7 s7 htr7 => ?_⟩
    obtain rfl : OS.length = r := trn_uniq htr htr7
    refine ⟨_, rfl, _, rfl, z, (n : Int), rfl, fun h => absurd h (by omega), fun _ h => absurd hz h, fun _ _ h => absurd h (by omega), fun _ m em _ _ q hq => ?_⟩
    obtain rfl : n = m := by omega
    obtain rfl : OS.length = q := trn_uniq htr hq
    refine ⟨_, rfl, _, _, rfl, .inl (.inr (.inl ⟨_, rfl, rfl⟩)), fun H8 s8 => ⟨_, rfl, ?_⟩⟩
    have hWr : ∀ OS' : List (List (Option Int)), (∀ os ∈ OS', Way Td ws os) → ∀ W ∈ OS'.map (fun os => wayR Td os ws.length), wrongOf (ws.map canR) Td W = -1 ∧ W.length ≤ 100 ∧ total W ≤ 1000 := fun OS' hw W hW => by
      obtain ⟨os, ho, rfl⟩ := List.mem_map.mp hW
      have q1 := total_way (T := Td) (n := ws.length) (os := os)
      have q2 : Td * ws.length ≤ 24 * 36 := Nat.mul_le_mul hT24 hwl
      exact ⟨way_right (hw os ho) fun c hc => (hcb c hc).1, by rw [wayR_len]; omega, by omega⟩
    have hW1 := hWr OS hfam.1
    have s68 := s7.trans s8
    refine ⟨_, rfl, _, rfl, _, rfl, Td, rl, wl, qs, ys, ws.map canR, _, rfl, s68 _ _ g36, Paired.mapP hQ6 fun _ _ z => QuadT.same s68 z, s68 _ _ gw6, Paired.mapP hY6 fun _ _ z => WeaV.same s68 z, hT24, hwlR, hg, fun W hW => ⟨(hW1 W hW).2.1, by have := (hW1 W hW).2.2; omega, (hW1 W hW).1⟩, fun H9 s9 => ⟨_, rfl, ?_⟩⟩
    have s69 := s68.trans s9
    refine ⟨_, rfl, _, _, rfl, .inl (SqL.of (s69 _ _ gw6)), _, rfl, rfl, _, rfl, ?_⟩
    have ed : (!decide (V.int ((ys.length : Nat) : Int) = V.int ((OS.length : Nat) : Int))) = false := by rw [hyl, decide_eq_true rfl]; rfl
    rw [ed]
    refine iteF ?_
    have gl9 := s69 _ _ gl6
    have hX9 := Paired.mapP hX6 fun _ _ z => PairT.same s69 z
    -- keys
    refine ⟨_, rfl, _, rfl, _, rfl, Td, l, xs, ws, rfl, gl9, hX9, by omega, hT24, fun tb H10 htb s10 g10 => ?_⟩
    refine ⟨Td, tb, tabS ws, rfl, g10, hT24, fun kl ks H11 hkl s11 g11 hK11 => ?_⟩
    have s611 := s69.trans (s10.trans s11)
    have klwl : kl ≠ wl := fun e => by rw [e, (s69.trans s10) _ _ gw6] at hkl; cases hkl
    have gl11 := s611 _ _ gl6
    have hX11 := Paired.mapP hX6 fun _ _ z => PairT.same s611 z
    have gw11 := s611 _ _ gw6
    have hY11 : Paired (WeaV H11) ys (OS.map fun os => wayR Td os ws.length) := Paired.mapP hY6 fun _ _ z => WeaV.same s611 z
    have g311 := s611 _ _ g36
    have hQ11 := Paired.mapP hQ6 fun _ _ z => QuadT.same s611 z
    have hA11 := hA6.same s611
    have T11 := T6.ext s611
    have st11 := st6.same s611
    have e011 : LamX.ExtN H H11 := fun b o hb nt => s611 _ _ (e06 _ _ hb nt)
    clear gl9 hX9 g10 htb hkl gl6 hX6 gw6 hY6 g36 hQ6 hA6 T6 st6 e06 s69 s68 s7 s8 s9 s10 s11 s611 htr7 hq
    -- none is undecided
    have hnoU : undS ws (keysL (tabS ws) Td) (OS.map fun os => wayR Td os ws.length) = [] := und_of hfam.1 hfam.2.1 _ fun s hs => keysL_mem hs
    have hnoL : undL (ws.map canR) Td (OS.map fun os => wayR Td os ws.length) = [] := undL_none hg (fun c hc => (hcb c hc).1) hfam.1 hfam.2.1
    refine ⟨_, rfl, _, rfl, _, rfl, Td, l, kl, wl, xs, ks, ys, ws, keysL (tabS ws) Td, _, rfl, gl11, hX11, g11, hK11, gw11, hY11, by rw [List.length_map]; omega, hT24, fun s hs => keysL_mem hs, fun W hW => (hW1 W hW).1, fun v H12 s12 hv => ?_⟩
    rcases hv with ⟨_, rfl⟩ | ⟨c, r, e, _⟩
    rotate_left
    · rw [hnoU] at e
      cases e
    refine ⟨rfl, _, rfl, ?_⟩
    have e0 : (!decide (V.non = V.non)) = false := by rw [decide_eq_true rfl]; rfl
    refine ⟨_, rfl, _, rfl, Td, p, wl, ws.map canR, ys, _, rfl, hA11.same s12, s12 _ _ gw11, Paired.mapP hY11 fun _ _ z => WeaV.same s12 z, hT24, hwlR, hg, fun W hW => ⟨(hW1 W hW).2.1, by have := (hW1 W hW).2.2; omega⟩, fun h => absurd h (by rw [List.length_map]; omega), fun _ m hm => (no_bad hm).elim, fun _ _ m W hW hb => absurd (hW1 W (List.mem_of_getElem? hW)).1 hb, fun _ _ hall v H13 s13 hv => ?_⟩
    rcases hv with ⟨_, rfl⟩ | ⟨c, r, e, _⟩
    rotate_left
    · rw [hnoL] at e
      cases e
    refine ⟨_, _, rfl, .inl (.inl ⟨rfl, rfl⟩), fun H14 s14 => ⟨_, rfl, iteF ?_⟩⟩
    have s1114 := s12.trans (s13.trans s14)
    have gl14 := s1114 _ _ gl11
    have hX14 := Paired.mapP hX11 fun _ _ z => PairT.same s1114 z
    have gw14 := s1114 _ _ gw11
    have hY14 : Paired (WeaV H14) ys (OS.map fun os => wayR Td os ws.length) := Paired.mapP hY11 fun _ _ z => WeaV.same s1114 z
    have g314 := s1114 _ _ g311
    have hQ14 := Paired.mapP hQ11 fun _ _ z => QuadT.same s1114 z
    have hA14 := hA11.same s1114
    have T14 := T11.ext s1114
    have st14 := st11.same s1114
    have e014 : LamX.ExtN H H14 := fun b o hb nt => s1114 _ _ (e011 _ _ hb nt)
    have g1114 := s1114 _ _ g11
    have hK14 := Paired.mapP hK11 fun _ _ z => PairT.same s1114 z
    clear gl11 hX11 gw11 hY11 g311 hQ11 hA11 T11 st11 e011 g11 hK11 s12 s13 s14 s1114
    -- out
    refine ⟨_, rfl, _, rfl, sa, _, rfl, by omega, by omega, st14, fun ro x y w0 r0 r1 => ?_⟩
    obtain ⟨b15, st15⟩ := drew (H := H14) (sa := sa) x y w0
    generalize upd H14 sa (stk x y w0) = H15 at b15 st15 ⊢
    obtain ⟨o, rfl⟩ : ∃ n : Nat, ro = (n : Int) := ⟨ro.toNat, by omega⟩
    obtain ⟨x0, y0, z0, hst14⟩ := id st14
    have lsa : l ≠ sa := fun e => by
      obtain ⟨a', b', c', h⟩ := id st14
      rw [e, h] at gl14
      have := HO.lst.inj (Option.some.inj gl14)
      subst this
      cases hX14 with
      | cons q _ =>
        obtain ⟨t, e, _⟩ := q
        cases e
    have wlsa : wl ≠ sa := seqs_ne st14 gw14 hY14
    have rlsa : rl ≠ sa := quads_ne st14 g314 hQ14
    have klsa : kl ≠ sa := rep_ne st14 g1114 hK14
    have gl15 := b15 _ _ gl14 lsa
    have hX15 := Paired.mapP hX14 fun _ _ z => z.but hst14 b15
    have gw15 := b15 _ _ gw14 wlsa
    have hY15 : Paired (WeaV H15) ys (OS.map fun os => wayR Td os ws.length) := Paired.mapP hY14 fun _ _ z => WeaV.butS st14 b15 z
    have g315 := b15 _ _ g314 rlsa
    have hQ15 := Paired.mapP hQ14 fun _ _ z => z.but hst14 b15
    have hA15 := AlmAt.but st14 b15 hA14
    have T15 := tabs_but T14 st14 b15
    have g1115 := b15 _ _ g1114 klsa
    have hK15 := Paired.mapP hK14 fun _ _ z => z.but hst14 b15
    have e015 : Bx sa H H15 := (Bx.of_ext e014).trans (Bx.of_but b15)
    clear gl14 hX14 gw14 hY14 g314 hQ14 hA14 T14 st14 e014 g1114 hK14 hst14 b15
    -- left
    refine ⟨_, rfl, _, rfl, by omega, by omega, fun D hD => lc_upto (lo := 0) (L := OS.length) (by omega) hD (by omega) (fun j acc H' => Paired (SeqS (SeqS fun _ => PairT) (fun D' => D' = D) H') acc (((OS.eraseIdx o).take (if j ≤ o then j else j - 1)).map fun os => wayR Td os ws.length)) (fun _ _ => .nil) ?_ ?_⟩
    · rintro j acc H16 N N0 hj s16 hacc hI hN hN0
      have z1 : (0 : Int) + (j : Int) = (j : Int) := by omega
      rw [z1]
      refine gnE ⟨rfl, ?_⟩
      refine ⟨_, rfl, _, rfl, rfl, _, rfl, ?_⟩
      by_cases hjo : j = o
      · subst hjo
        have en : (!decide (V.int (j : Int) = V.int (j : Int))) = false := by rw [decide_eq_true rfl]; rfl
        rw [en]
        refine iteF (hN0 _ (Same.refl _) ?_)
        rw [erase_skip]
        exact hI
      · have en : (!decide (V.int (j : Int) = V.int (o : Int))) = true := by rw [decide_eq_false fun z => hjo (by have := V.int.inj z; omega)]; rfl
        rw [en]
        obtain ⟨x, hx⟩ : ∃ x, ys[j]? = some x := ⟨ys[j]'(by omega), List.getElem?_eq_getElem _⟩
        obtain ⟨W, hW, hr⟩ := paired_get hY15 hx
        obtain ⟨q1, q2, q3⟩ := hW1 W (List.mem_of_getElem? hW)
        obtain ⟨os, hos, rfl⟩ : ∃ os, OS[j]? = some os ∧ wayR Td os ws.length = W := by
          rw [List.getElem?_map] at hW
          cases hq : OS[j]? with
          | none => rw [hq] at hW; cases hW
          | some os => rw [hq] at hW; exact ⟨os, rfl, Option.some.inj hW⟩
        refine iteT ⟨_, rfl, _, rfl, wl, ys, _, x, rfl, rfl, SqL.of (s16 _ _ gw15), at_of rfl hx, x, _, rfl, WeaV.seqOf (WeaV.same s16 hr) (by omega) (by omega), fun v' H17 s17 h17 => ?_⟩
        have hacc17 := s17 _ _ hacc
        have h17 := apW.mono _ (fun D' => D' = D) _ _ _ (fun E z => by
          rw [z, hacc]
          exact fun z => by cases z) h17
        refine hN _ _ s17 fun H18 b18 _ => ?_
        rw [erase_step hos hjo, List.map_append]
        exact Paired.snoc (Paired.mapP hI fun _ _ z => apW.but _ _ _ D acc _ _ rfl hacc17 b18 (apW.same _ _ _ _ _ s17 z)) (apW.but _ _ _ D acc _ _ rfl hacc17 b18 h17)
    · rintro acc H16 s16 hacc _ hI
      rw [show (if OS.length ≤ o then OS.length else OS.length - 1) = (OS.eraseIdx o).length by rw [List.length_eraseIdx, if_neg (by omega), if_pos (by omega)], List.take_length] at hI
      have hL : Paired (WeaV H16) acc ((OS.eraseIdx o).map fun os => wayR Td os ws.length) := Paired.mapP hI fun _ _ ⟨a, ys, e1, _, g1, g2, _⟩ => ⟨a, e1, ys, g1, Paired.mapP g2 fun _ _ ⟨l, zs, e, _, q1, q2, _⟩ => ⟨l, zs, e, q1, q2⟩⟩
      have hWe : ∀ os ∈ OS.eraseIdx o, Way Td ws os := fun os h => hfam.1 os (List.mem_of_mem_eraseIdx h)
      have hWE := hWr _ hWe
      have hEl : (OS.eraseIdx o).length ≤ 20 := by rw [List.length_eraseIdx]; split <;> omega
      have hnd : ¬ Decide Td ws (OS.eraseIdx o) := hfam.2.2 o (by omega)
      generalize OS.eraseIdx o = OE at hL hWe hWE hEl hnd hI
      have Dne : D ≠ wl := fun e => by rw [e, gw15] at hD; cases hD
      have gl16 := s16 _ _ gl15
      have hX16 := Paired.mapP hX15 fun _ _ z => PairT.same s16 z
      have gw16 := s16 _ _ gw15
      have hY16 : Paired (WeaV H16) ys (OS.map fun os => wayR Td os ws.length) := Paired.mapP hY15 fun _ _ z => WeaV.same s16 z
      have g316 := s16 _ _ g315
      have hQ16 := Paired.mapP hQ15 fun _ _ z => QuadT.same s16 z
      have hA16 := hA15.same s16
      have T16 := T15.ext s16
      have st16 := st15.same s16
      have e016 : Bx sa H H16 := e015.trans (Bx.of_same s16)
      have g1116 := s16 _ _ g1115
      have hK16 := Paired.mapP hK15 fun _ _ z => PairT.same s16 z
      clear gl15 hX15 gw15 hY15 g315 hQ15 hA15 T15 st15 e015 g1115 hK15 s16
      -- due
      refine ⟨_, rfl, _, rfl, _, rfl, Td, l, kl, D, xs, ks, acc, ws, keysL (tabS ws) Td, _, rfl, gl16, hX16, g1116, hK16, hacc, hL, by rw [List.length_map]; omega, hT24, fun s hs => keysL_mem hs, fun W hW => (hWE W hW).1, fun v H17 s17 hv => ?_⟩
      rcases hv with ⟨e, _⟩ | ⟨c, r, ec, hc⟩
      · exact absurd (decide_of hWe e) hnd
      refine ⟨_, rfl, rfl, _, rfl, ?_⟩
      obtain ⟨td, rfl, htd⟩ := id hc
      have e0 : decide (V.ref td = V.non) = false := decide_eq_false fun z => by cases z
      rw [e0]
      refine ⟨_, rfl, _, rfl, Td, p, D, ws.map canR, acc, _, rfl, hA16.same s17, s17 _ _ hacc, Paired.mapP hL fun _ _ z => WeaV.same s17 z, hT24, hwlR, hg, fun W hW => ⟨(hWE W hW).2.1, by have := (hWE W hW).2.2; omega⟩, fun h => absurd h (by rw [List.length_map]; omega), fun _ m hm => (no_bad hm).elim, fun _ _ m W hW hb => absurd (hWE W (List.mem_of_getElem? hW)).1 hb, fun _ _ hall v H18 s18 hv => ?_⟩
      rw [und_same hg fun W hW => (hWE W hW).1, ← tabS_R, ec] at hv
      rcases hv with ⟨e, _⟩ | ⟨c', r', e, hc'⟩
      · cases e
      obtain ⟨rfl, rfl⟩ := List.cons.inj e
      refine ⟨_, rfl, _, _, rfl, mtN_up (mtN_pair hc' (hc.same s18)), fun H19 s19 => ⟨_, rfl, iteF ?_⟩⟩
      have s1619 := s17.trans (s18.trans s19)
      have gl19 := s1619 _ _ gl16
      have hX19 := Paired.mapP hX16 fun _ _ z => PairT.same s1619 z
      have gw19 := s1619 _ _ gw16
      have hY19 : Paired (WeaV H19) ys (OS.map fun os => wayR Td os ws.length) := Paired.mapP hY16 fun _ _ z => WeaV.same s1619 z
      have g319 := s1619 _ _ g316
      have hQ19 := Paired.mapP hQ16 fun _ _ z => QuadT.same s1619 z
      have hA19 := hA16.same s1619
      have T19 := T16.ext s1619
      have st19 := st16.same s1619
      have e019 : Bx sa H H19 := e016.trans (Bx.of_same s1619)
      have g1119 := s1619 _ _ g1116
      have hK19 := Paired.mapP hK16 fun _ _ z => PairT.same s1619 z
      clear gl16 hX16 gw16 hY16 g316 hQ16 hA16 T16 st16 e016 g1116 hK16 s17 s18 s19 s1619 hI hL hacc
      -- spoil
      refine ⟨_, rfl, wl, ys, rfl, gw19, by omega, fun H20 b20 => ?_⟩
      have hne : ys ≠ [] := fun e => by rw [e] at hyl; have : (0 : Nat) = OS.length := hyl; omega
      have ewl0 : ∀ us, H wl ≠ some (.lst us) := fun us h => ewl us (s1 _ _ h)
      have e020 : Bx sa H H20 := fun b o h nt ne => b20 _ _ (e019 b o h nt ne) fun e => by
        have h19 := e019 b o h nt ne
        rw [e, gw19] at h19
        rw [e, ← h19] at h
        exact ewl0 _ h
      have gl20 := b20 _ _ gl19 lwl
      have hX20 := Paired.mapP hX19 fun _ _ z => z.but gw19 b20
      have g320 := b20 _ _ g319 rlwl
      have hQ20 := Paired.mapP hQ19 fun _ _ z => z.but gw19 b20
      have hA20 := alm_spoil hA19 gw19 hY19 hne b20
      have T20 := tabs_but1 T19 gw19 b20
      have st20 : Stk H20 sa := by
        obtain ⟨a, b, c, h⟩ := st19
        exact ⟨a, b, c, b20 _ _ h fun e => wlsa e.symm⟩
      have g1120 := b20 _ _ g1119 klwl
      have hK20 := Paired.mapP hK19 fun _ _ z => z.but gw19 b20
      clear gl19 hX19 gw19 hY19 g319 hQ19 hA19 T19 st19 e019 g1119 hK19 b20
      -- again
      refine ⟨_, rfl, _, rfl, z, (n : Int), rfl, T20, fun h => absurd h (by omega), fun _ h => absurd hz h, fun _ _ h => absurd h (by omega), fun _ m em _ _ tt2 p2 wl2 ys2 OS2 H21 e21 T21 hfr2 htt2 hA2 gw2 hY2 hfam2 htr2 => ?_⟩
      obtain rfl : n = m := by omega
      have hO2 : OS2.length = OS.length := trn_uniq htr2 htr
      have hyl2 : ys2.length = OS.length := by rw [Paired.length hY2, List.length_map, hO2]
      rw [hTd, hws] at hY2 hfam2
      have hW2 := hWr OS2 hfam2.1
      have gl21 := ext_lst e21 gl20
      have hX21 := Paired.mapP hX20 fun _ _ z => pair_ext e21 z
      have g321 := ext_lst e21 g320
      have hQ21 := Paired.mapP hQ20 fun _ _ z => quad_ext e21 z
      have hA21 := AlmAt.ext e21 hA20
      have st21 := Stk.ext e21 st20
      have g1121 := ext_lst e21 g1120
      have hK21 := Paired.mapP hK20 fun _ _ z => pair_ext e21 z
      have e021 : Bx sa H H21 := e020.trans (Bx.of_ext e21)
      clear gl20 hX20 g320 hQ20 hA20 T20 st20 g1120 hK20 e020
      refine ⟨_, rfl, .inr (.inl ⟨tt2, _, 1, _, rfl, rfl, SqT.of htt2, rfl, _, _, rfl, .inl (SqL.of gw2), _, rfl, rfl, _, rfl, ?_⟩)⟩
      have ed : (!decide (V.int ((ys2.length : Nat) : Int) = V.int ((OS.length : Nat) : Int))) = false := by rw [hyl2, decide_eq_true rfl]; rfl
      rw [ed]
      refine ⟨_, rfl, _, rfl, _, rfl, .inr (.inl ⟨tt2, _, 1, _, rfl, rfl, SqT.of htt2, rfl, Td, rl, wl2, qs, ys2, ws.map canR, _, rfl, g321, hQ21, gw2, hY2, hT24, hwlR, hg, fun W hW => ⟨(hW2 W hW).2.1, by have := (hW2 W hW).2.2; omega, (hW2 W hW).1⟩, fun H22 s22 => ⟨_, rfl, iteF ?_⟩⟩)⟩
      have e022 := e021.trans (Bx.of_same s22)
      refine ⟨_, rfl, rfl, _, rfl, ?_⟩
      rcases bar_kinds hz with ⟨hza, _⟩ | ⟨hza, hzb⟩
      · have e0 : decide (V.str z = V.str "apart") = true := decide_eq_true (by rw [hza])
        rw [e0]
        exact iteT (k _ e022 (st21.same s22) (T21.ext s22))
      · have e0 : decide (V.str z = V.str "apart") = false := decide_eq_false fun e => hza (V.str.inj e)
        rw [e0]
        refine iteF ?_
        refine ⟨V.ref p, rfl, ?_⟩
        refine ⟨V.int (Td : Int), rfl, ?_⟩
        refine ⟨V.ref l, rfl, ?_⟩
        refine ⟨V.ref kl, rfl, ?_⟩
        refine ⟨V.str z, rfl, ?_⟩
        refine ⟨V.int (n : Int), rfl, ?_⟩
        exact ⟨z, n, Td, p, l, kl, xs, ks, ws, rfl, hzb, h1, hn, hA21.same s22, s22 _ _ gl21, Paired.mapP hX21 fun _ _ z => PairT.same s22 z, s22 _ _ g1121, Paired.mapP hK21 fun _ _ z => PairT.same s22 z, hbarok hzb, hT24, hwl, hcb, fun H23 s23 => k _ (e022.trans (Bx.of_same s23)) (st21.same (s22.trans s23)) (T21.ext (s22.trans s23))⟩
end
end K85
end
section
set_option maxRecDepth 100000
set_option maxHeartbeats 4000000
namespace K85
open PySem PySem.Spec PyProof.Rows L2
section
variable {P : Program} {w : World} {K : PySem.W.Frag} {mg : Str → Option Value} {base : Heap}
theorem fn_law (T : Txt w K mg) (TB : TabsB K base mg) {f : Addr} {fd : FuncData} (F : FnP K "law" s_law f fd) : FnG P w K mg base 14 f fd ["script"] (spLaw K) := by
  have ok__law_family_right := fun (T : Txt w K mg) => ok__law_family_right (P := P) T TB
  have ok__law_errors_right := fun (T : Txt w K mg) => ok__law_errors_right (P := P) T TB
  refine LamX.fnG_def0 F sc_law (fun vs H Q E h => ?_) (fun f cdv A outer s H vs Q hr hgd h => ?_)
  · obtain ⟨a, ns, rfl, _⟩ := h
    rfl
  · obtain ⟨a, ns, rfl, hS, hl, hTb, k⟩ := h
    let E : XK := E0
    refine ⟨_, (pss_cons (ps_set (i := 1) sc_law.nd rfl (by first | exact Or.inl rfl | exact Or.inr rfl) (pe_ok (ok__law_stock T) (hr.mono (by first | decide | omega)) rfl pass0 (pa_cons (pv 0) (pa_cons pe_int pa_nil))))
      (pss_cons (ps_for PassesOwn.never rfl (pi_listK (K := K) rfl (pe_lst (pa_cons pe_str (pa_cons pe_str (pa_cons pe_str (pa_cons pe_str pa_nil)))))) (pg_name (i := 2) sc_law.nd rfl (by first | exact Or.inl rfl | exact Or.inr rfl))
        (pss_cons (ps_set (i := 3) sc_law.nd rfl (by first | exact Or.inl rfl | exact Or.inr rfl) (pe_ifExp (pt_cmpR op_eq (pv 2) pe_str (nomark _)) pe_int pe_int))
      (pss_cons (ps_set (i := 4) sc_law.nd rfl (by first | exact Or.inl rfl | exact Or.inr rfl) (pe_op op_add pe_int (pe_ok (ok__law_draw T) (hr.mono (by first | decide | omega)) rfl pass0 (pa_cons (pv 1) (pa_cons pe_int pa_nil)))))
      (pss_cons (ps_if (pt_cmpR op_eq (pe_ok (ok__law_draw T) (hr.mono (by first | decide | omega)) rfl pass0 (pa_cons (pv 1) (pa_cons pe_int pa_nil))) pe_int (nomark _)) (pss_one (ps_set (i := 4) sc_law.nd rfl (by first | exact Or.inl rfl | exact Or.inr rfl) (pe_op op_add pe_int (pe_ok (ok__law_draw T) (hr.mono (by first | decide | omega)) rfl pass0 (pa_cons (pv 1) (pa_cons (pv 3) pa_nil)))))) pss_nil)
      (pss_one (ps_if (pt_not (pt_val (pe_ok (ok__law_family_right T) (hr.mono (by first | decide | omega)) rfl pass0 (pa_cons (pv 1) (pa_cons (pv 2) (pa_cons (pv 4) pa_nil)))))) (pss_one (ps_ret pe_bl)) pss_nil))))))
      (pss_one (ps_ret (pe_ok (ok__law_errors_right T) (hr.mono (by first | decide | omega)) rfl pass0 (pa_cons (pe_ok (ok__law_stock T) (hr.mono (by first | decide | omega)) rfl pass0 (pa_cons (pv 0) (pa_cons pe_int pa_nil))) pa_nil)))))), ?_⟩
    refine ⟨_, rfl, a, ns, _, rfl, hS, hl, by omega, by omega, fun sa H1 hsa s1 st1 => ?_⟩
    have T1 := hTb.ext s1
    have e1 : LamX.ExtN H H1 := ext_of s1
    refine ⟨(by show 4 ≤ sizeLine; decide), fun q hq => ?_⟩
    obtain ⟨s2, g2⟩ := new2 (.lst [.str "apart", .str "row", .str "nested", .str "all"]) hq
    have T2 := T1.ext s2
    have st2 := st1.same s2
    have e2 : LamX.ExtN H (upd H1 q (.lst [.str "apart", .str "row", .str "nested", .str "all"])) := fun b o hb nt => s2 _ _ (e1 b o hb nt)
    have qsa : q ≠ sa := fun e => st1.ne (e ▸ hq)
    generalize upd H1 q (.lst [.str "apart", .str "row", .str "nested", .str "all"]) = H2 at s2 g2 T2 st2 e2
    clear s1 s2 T1 st1 e1 hq
    refine ⟨q, rfl, ⟨_, SqL.of g2⟩, for_list (xs := [.str "apart", .str "row", .str "nested", .str "all"]) (fun i σ H' => (∃ v2 v3 v4, σ = [some (.ref a), some (.ref sa), v2, v3, v4]) ∧ LamX.ExtN H H' ∧ LamX.Tabs (Tl K) H' ∧ Stk H' sa ∧ H' q = some (.lst [.str "apart", .str "row", .str "nested", .str "all"])) ⟨⟨_, _, _, rfl⟩, e2, T2, st2, g2⟩ (fun i σ H' _ h => SqL.of h.2.2.2.2) ?_ ?_⟩
    · rintro i x σ H3 hx ⟨⟨v2, v3, v4, rfl⟩, e3, T3, st3, g3⟩
      obtain ⟨z, hz, rfl⟩ : ∃ z, z ∈ kindsT ∧ x = V.str z := by
        have := List.mem_of_getElem? hx
        simp only [List.mem_cons, List.not_mem_nil, or_false] at this
        have h1 : ("apart" : Str) ∈ kindsT ∧ ("row" : Str) ∈ kindsT ∧ ("nested" : Str) ∈ kindsT ∧ ("all" : Str) ∈ kindsT := by decide +kernel
        rcases this with rfl | rfl | rfl | rfl
        · exact ⟨_, h1.1, rfl⟩
        · exact ⟨_, h1.2.1, rfl⟩
        · exact ⟨_, h1.2.2.1, rfl⟩
        · exact ⟨_, h1.2.2.2, rfl⟩
      refine gnE ?_
      have hlz : limF z = 9 ∨ limF z = 12 := by
        unfold limF
        split
        · exact .inl rfl
        · exact .inr rfl
      refine st_let (fun v H4 => v = .int (limF z : Int) ∧ H3 = H4) (fun R hR => ?_) (fun v H4 hv => ?_)
      · refine ⟨_, rfl, rfl, _, rfl, ?_⟩
        by_cases c : z = "all"
        · rw [decide_eq_true (show V.str z = V.str "all" by rw [c])]
          exact iteT (hR _ _ ⟨by rw [show limF z = 9 from if_pos c]; rfl, rfl⟩)
        · rw [decide_eq_false (show ¬ V.str z = V.str "all" from fun e => c (V.str.inj e))]
          exact iteF (hR _ _ ⟨by rw [show limF z = 12 from if_neg c]; rfl, rfl⟩)
      obtain ⟨rfl, rfl⟩ := hv
      refine st_let (fun v H4 => ∃ m : Nat, v = .int (m : Int) ∧ 1 ≤ m ∧ m ≤ 4 ∧ But sa H3 H4 ∧ Stk H4 sa) (fun R hR => ?_) (fun v H4 hv => ?_)
      · exact ⟨_, rfl, sa, 4, rfl, by decide, by decide, st3, fun r x y z r0 r1 => ⟨_, _, rfl, rfl, hR _ _ ⟨(1 + r).toNat, by rw [Int.toNat_of_nonneg (by omega)], by omega, by omega, drew x y z⟩⟩⟩
      obtain ⟨m, rfl, m1, m4, b4, st4⟩ := hv
      have e4 := ext_bx e3 hsa (Bx.of_but b4)
      have T4 := tabs_but T3 st3 b4
      have g4 := b4 _ _ g3 qsa
      clear e3 T3 g3 st3 b4
      refine ⟨_, rfl, sa, 5, rfl, by decide, by decide, st4, fun r x y w r0 r1 => ?_⟩
      obtain ⟨b5, st5⟩ := drew (H := H4) (sa := sa) x y w
      generalize upd H4 sa (stk x y w) = H5 at b5 st5 ⊢
      have e5 := ext_bx e4 hsa (Bx.of_but b5)
      have T5 := tabs_but T4 st4 b5
      have g5 := b5 _ _ g4 qsa
      clear e4 T4 g4 st4 b5
      refine ⟨rfl, _, rfl, ite2 (fun _ => ?_) (fun _ => ?_)⟩
      · refine ⟨_, rfl, _, rfl, sa, _, rfl, by omega, by omega, st5, fun r x y w r0 r1 => ?_⟩
        obtain ⟨b6, st6⟩ := drew (H := H5) (sa := sa) x y w
        generalize upd H5 sa (stk x y w) = H6 at b6 st6 ⊢
        have e6 := ext_bx e5 hsa (Bx.of_but b6)
        have T6 := tabs_but T5 st5 b6
        have g6 := b6 _ _ g5 qsa
        obtain ⟨k6, e⟩ : ∃ n : Nat, 1 + r = (n : Int) := ⟨(1 + r).toNat, by omega⟩
        refine ⟨_, _, rfl, rfl, ?_⟩
        refine ⟨_, rfl, _, rfl, _, rfl, sa, z, k6, (by show [V.ref sa, V.str z, V.int (1 + r)] = [V.ref sa, V.str z, V.int (k6 : Int)]; rw [e]), st6, hz, by omega, by omega, T6, fun H7 b7 st7 T7 => ⟨_, rfl, iteF ⟨⟨_, _, _, rfl⟩, ext_bx e6 hsa b7, T7, st7, b7.lst qsa g6⟩⟩⟩
      · refine ⟨_, rfl, _, rfl, _, rfl, sa, z, m, rfl, st5, hz, by omega, by omega, T5, fun H7 b7 st7 T7 => ⟨_, rfl, iteF ⟨⟨_, _, _, rfl⟩, ext_bx e5 hsa b7, T7, st7, b7.lst qsa g5⟩⟩⟩
    · rintro σ H3 ⟨⟨v2, v3, v4, rfl⟩, e3, T3, st3, g3⟩
      refine ⟨_, rfl, a, ns, _, rfl, ext_seq e3 hS, hl, by omega, by omega, fun sb H4 hsb s4 st4 => ?_⟩
      exact ⟨sb, rfl, st4, T3.ext s4, fun H5 => k H5⟩
end
end K85
end
section
set_option maxRecDepth 100000
set_option maxHeartbeats 0
namespace K85
open PySem PySem.Spec PyProof.Rows L2
theorem law_at {w : World} {h : Heap} {mg : Str → Option Value} {fa : Addr} (Y : hk.says w h) (G : h.Ns mainGlobals mg) (hmg : mg ("law" : Str) = some (.ref fa)) :
    ∃ K : PySem.W.Frag, K.In h ∧ LamX.LawAtG PySem.Challenge.rw_seenenough_k85_whole_families_and_their w K 14 63 "script" mg fa h := by
  obtain ⟨K, KX, c⟩ := Y
  have T : Txt w K mg := ⟨h, KX, G, c⟩
  obtain ⟨f, fd, F, g⟩ := f_law T
  have e := hmg.symm.trans g
  cases e
  have B := F.bindsA (ps := ["script"]) (fun _ _ _ _ _ _ us hl => match us, hl with | [_], _ => rfl)
  refine ⟨K, KX, fd, tf.map (He.cT K), spLaw K, fun p hp => ?_, fun p hp => ?_, fun p hp => ?_, fun s u => B s [u] rfl, fun H a ns hl hH hS => ⟨a, ns, rfl, hS, hl, fun p hp => ?_, fun _ => rfl⟩, fun base _ _ TB => fn_law T (fun p hp => TB _ (List.mem_map.mpr ⟨p, hp, rfl⟩)) F⟩
  · obtain ⟨d, hd, rfl⟩ := List.mem_map.mp hp
    exact c.empty d hd
  · obtain ⟨d, hd, rfl⟩ := List.mem_map.mp hp
    exact c.out d hd
  · obtain ⟨d, hd, rfl⟩ := List.mem_map.mp hp
    exact PySem.W.codeHd_of_K KX (c.hd d hd)
  · obtain ⟨d, hd, rfl⟩ := List.mem_map.mp hp
    exact LamX.TabS.nil (hH _ (List.mem_map.mpr ⟨d, hd, rfl⟩))
end K85
open PySem PySem.W PySem.Calls PyProof.Rows
theorem PySem.Challenge.cw_seenenough_k85_whole_families_and_their_holds : PySem.Challenge.rw_seenenough_k85_whole_families_and_their.Holds := by
  w_on; o_law
  refine HandSHeadRun.head_any (r := OpenLaw.row PySem.Challenge.rw_seenenough_k85_whole_families_and_their) (q := view (OpenLaw.row PySem.Challenge.rw_seenenough_k85_whole_families_and_their).prog [84]) (H := K85.hk) (ob := K85.ob) (M := 20000) (loose := K85.loose1 ++ K85.loose2) (d := HandSHeadRun.topDef (OpenLaw.row PySem.Challenge.rw_seenenough_k85_whole_families_and_their).prog 84) (kwd := []) K85.ob_eq
    (by kernel_rfl) (fun s => by kernel_rfl) K85.run (by kernel_rfl) (by kernel_rfl) (by kernel_rfl) (by rfl) (by first | assumption | decide +kernel) (by decide +kernel) ⟨rfl, rfl, rfl, rfl, rfl, by decide +kernel⟩ ?hw ?hc
  case hw => w_witness2
  case hc =>
    refine LamX.walk_ofG (l := PySem.Challenge.rw_seenenough_k85_whole_families_and_their) (n := 63) (k := 14) (x := "script") rfl (by decide) (by kernel_rfl) ⟨by decide, by decide, by decide⟩ rfl ?F
    intro w mg fa h Y G hmg0
    have hmg : mg ("law" : PySem.Str) = some (.ref fa) := by
      have e : (HandSHeadRun.topDef (OpenLaw.row PySem.Challenge.rw_seenenough_k85_whole_families_and_their).prog 84).name = ("law" : PySem.Str) := by kernel_rfl
      rw [← e]
      exact hmg0
    exact K85.law_at Y G hmg
end
